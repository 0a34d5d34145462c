import PyProof.Rows.All
import Wide.All
import OpenK.AllK
import Wide.FinOn
import HandS.ForMost
import HandS.Wide
import HandS.Zip
import HandS.TupMul
import HandS.TupAny
import HandS.IsInst
import HandS.Style
import KE.GoesEnum
import KE.GoesMore
import KE.KTupSum
import HandS.Evl
import PySem.Challenge.RW_nonegrowsrich_k49_whole_off_at_most_sure
set_option Elab.async false
set_option linter.all false
set_option maxRecDepth 100000
set_option maxHeartbeats 400000
set_option exponentiation.threshold 400
/-! The plain law: no program in sight. -/
namespace Nr

theorem pow_nn {x : Int} (h : 0 ≤ x) (n : Nat) : 0 ≤ x ^ n := by
  induction n with
  | zero => simp
  | succ n ih => rw [Int.pow_succ]; exact Int.mul_nonneg ih h
theorem pow_mono {x y : Int} (h0 : 0 ≤ y) (h : y ≤ x) (n : Nat) : y ^ n ≤ x ^ n := by
  induction n with
  | zero => simp
  | succ n ih =>
    rw [Int.pow_succ, Int.pow_succ]
    exact Int.mul_le_mul ih h h0 (pow_nn (Int.le_trans h0 h) n)
/-- what is borne grows with u -/
theorem shift_mono {x y : Int} (h0 : 0 ≤ y) (h : y ≤ x) (a e n : Nat) : x ^ a * y ^ (e + n) ≤ x ^ (a + n) * y ^ e := by
  rw [Int.pow_add, Int.pow_add]
  have h1 := pow_mono h0 h n
  have h2 : 0 ≤ x ^ a * y ^ e := Int.mul_nonneg (pow_nn (Int.le_trans h0 h) a) (pow_nn h0 e)
  calc x ^ a * (y ^ e * y ^ n) = (x ^ a * y ^ e) * y ^ n := by grind
    _ ≤ (x ^ a * y ^ e) * x ^ n := Int.mul_le_mul_of_nonneg_left h1 h2
    _ = x ^ a * x ^ n * y ^ e := by grind

/-- the books: d counted days, g what came, h what is held -/
def Good (M G w h d g : Int) : Prop :=
  (d = 0 ∧ g = 0 ∧ w ≤ h) ∨ ∃ (k l : Nat) (T : Int), d = (k : Int) + (l : Int) + 1 ∧ g = ((k : Int) - (l : Int)) * G + T ∧ -G ≤ T ∧ T ≤ G ∧
    w * ((M + G) ^ k * (M - G) ^ l * (M + T)) ≤ M ^ (k + l + 1) * h

theorem smooth_up {M G T z : Int} (h1 : T ≤ G) (h2 : z ≤ G) : (M + G) * (M + (T + z - G)) ≤ (M + T) * (M + z) := by
  have h : 0 ≤ (G - T) * (G - z) := Int.mul_nonneg (by omega) (by omega)
  grind
theorem smooth_down {M G T z : Int} (h1 : -G ≤ T) (h2 : -G ≤ z) : (M - G) * (M + (T + z + G)) ≤ (M + T) * (M + z) := by
  have h : 0 ≤ (G + T) * (G + z) := Int.mul_nonneg (by omega) (by omega)
  grind

/-- a counted day -/
theorem Good.step {M G w h d g z h' : Int} (q : Good M G w h d g) (hw : 0 ≤ w) (hG : 0 ≤ G) (hGM : G ≤ M) (z1 : -G ≤ z) (z2 : z ≤ G) (hh : (M + z) * h ≤ M * h') : Good M G w h' (d + 1) (g + z) := by
  have hM : 0 ≤ M := by omega
  have hMz : 0 ≤ M + z := by omega
  rcases q with ⟨rfl, rfl, q⟩ | ⟨k, l, T, rfl, rfl, t1, t2, q⟩
  · refine .inr ⟨0, 0, z, by simp, by simp, z1, z2, ?_⟩
    have : w * (M + z) ≤ h * (M + z) := Int.mul_le_mul_of_nonneg_right q hMz
    simp only [Int.pow_zero, Int.one_mul, Nat.zero_add, Int.pow_one]
    grind
  · have hA : 0 ≤ (M + G) ^ k := pow_nn (by omega) k
    have hB : 0 ≤ (M - G) ^ l := pow_nn (by omega) l
    have hC : 0 ≤ w * ((M + G) ^ k * (M - G) ^ l) := Int.mul_nonneg hw (Int.mul_nonneg hA hB)
    have hP : 0 ≤ M ^ (k + l + 1) := pow_nn hM _
    have e1 : w * ((M + G) ^ k * (M - G) ^ l) * ((M + T) * (M + z)) ≤ M ^ (k + l + 1) * (M * h') := by
      have a1 := Int.mul_le_mul_of_nonneg_right q hMz
      have a2 := Int.mul_le_mul_of_nonneg_left hh hP
      calc w * ((M + G) ^ k * (M - G) ^ l) * ((M + T) * (M + z)) = w * ((M + G) ^ k * (M - G) ^ l * (M + T)) * (M + z) := by grind
        _ ≤ M ^ (k + l + 1) * h * (M + z) := a1
        _ = M ^ (k + l + 1) * ((M + z) * h) := by grind
        _ ≤ _ := a2
    by_cases c : 0 ≤ T + z
    · refine .inr ⟨k + 1, l, T + z - G, by push_cast; omega, by push_cast; grind, by omega, by omega, ?_⟩
      have s := Int.mul_le_mul_of_nonneg_left (smooth_up (M := M) t2 z2) hC
      have e2 : k + 1 + l + 1 = (k + l + 1) + 1 := by omega
      rw [e2, Int.pow_succ, Int.pow_succ]
      calc w * ((M + G) ^ k * (M + G) * (M - G) ^ l * (M + (T + z - G))) = w * ((M + G) ^ k * (M - G) ^ l) * ((M + G) * (M + (T + z - G))) := by grind
        _ ≤ _ := s
        _ ≤ _ := e1
        _ = _ := by grind
    · refine .inr ⟨k, l + 1, T + z + G, by push_cast; omega, by push_cast; grind, by omega, by omega, ?_⟩
      have s := Int.mul_le_mul_of_nonneg_left (smooth_down (M := M) t1 z1) hC
      have e2 : k + (l + 1) + 1 = (k + l + 1) + 1 := by omega
      rw [e2, Int.pow_succ, Int.pow_succ]
      calc w * ((M + G) ^ k * ((M - G) ^ l * (M - G)) * (M + (T + z + G))) = w * ((M + G) ^ k * (M - G) ^ l) * ((M - G) * (M + (T + z + G))) := by grind
        _ ≤ _ := s
        _ ≤ _ := e1
        _ = _ := by grind
/-- an idle day -/
theorem Good.idle {M G w h d g h' : Int} (q : Good M G w h d g) (hM : 0 ≤ M) (hh : h ≤ h') : Good M G w h' d g := by
  rcases q with ⟨rfl, rfl, q⟩ | ⟨k, l, T, rfl, rfl, t1, t2, q⟩
  · exact .inl ⟨rfl, rfl, by omega⟩
  · exact .inr ⟨k, l, T, rfl, rfl, t1, t2, Int.le_trans q (Int.mul_le_mul_of_nonneg_left hh (pow_nn hM _))⟩

/-- what the books say of u = g / G -/
theorem Good.ends {M G w h d g : Int} (q : Good M G w h d g) (hw : 0 ≤ w) (hh : 0 ≤ h) (hG : 0 < G) (hGM : G ≤ M) :
    -d ≤ g / G ∧ g / G ≤ d ∧ ∃ p r : Nat, (p : Int) = d + g / G ∧ (r : Int) = d - g / G ∧ (M + G) ^ p * (M - G) ^ r * w * w ≤ M ^ (p + r) * h * h := by
  have hM : 0 ≤ M := by omega
  rcases q with ⟨rfl, rfl, q⟩ | ⟨k, l, T, rfl, rfl, t1, t2, q⟩
  · have e : (0 : Int) / G = 0 := Int.zero_ediv G
    rw [e]
    refine ⟨by omega, by omega, 0, 0, by simp, by simp, ?_⟩
    have : w * w ≤ h * h := Int.mul_le_mul q q hw hh
    simp
    exact this
  · have e : (((k : Int) - (l : Int)) * G + T) / G = ((k : Int) - (l : Int)) + T / G := by
      rw [Int.add_comm, Int.add_mul_ediv_right _ _ (by omega), Int.add_comm]
    rw [e]
    have f1 : -1 ≤ T / G := (Int.le_ediv_iff_mul_le hG).mpr (by omega)
    have f2 : T / G ≤ 1 := by
      have := Int.ediv_le_ediv hG t2
      rw [Int.ediv_self (by omega)] at this
      exact this
    have f3 : T / G * G ≤ T := Int.ediv_mul_le T (by omega)
    have hA : 0 ≤ (M + G) ^ k := pow_nn (by omega) k
    have hB : 0 ≤ (M - G) ^ l := pow_nn (by omega) l
    have hT : 0 ≤ M + T := by omega
    have hL : 0 ≤ w * ((M + G) ^ k * (M - G) ^ l * (M + T)) := Int.mul_nonneg hw (Int.mul_nonneg (Int.mul_nonneg hA hB) hT)
    have sq : (w * ((M + G) ^ k * (M - G) ^ l * (M + T))) * (w * ((M + G) ^ k * (M - G) ^ l * (M + T))) ≤ (M ^ (k + l + 1) * h) * (M ^ (k + l + 1) * h) :=
      Int.mul_le_mul q q hL (Int.mul_nonneg (pow_nn hM _) hh)
    have hC : 0 ≤ (w * ((M + G) ^ k * (M - G) ^ l)) * (w * ((M + G) ^ k * (M - G) ^ l)) := by
      have z : 0 ≤ w * ((M + G) ^ k * (M - G) ^ l) := Int.mul_nonneg hw (Int.mul_nonneg hA hB)
      exact Int.mul_nonneg z z
    -- the two middle factors
    have fin : ∀ (p r : Nat) (c : Int), p + r = 2 * (k + l + 1) → (M + G) ^ p * (M - G) ^ r = (((M + G) ^ k * (M - G) ^ l) * ((M + G) ^ k * (M - G) ^ l)) * c → c ≤ (M + T) * (M + T) →
        (M + G) ^ p * (M - G) ^ r * w * w ≤ M ^ (p + r) * h * h := by
      intro p r c e0 e1 e2
      rw [e0, e1, Nat.two_mul, Int.pow_add]
      have s := Int.mul_le_mul_of_nonneg_left e2 hC
      calc _ = (w * ((M + G) ^ k * (M - G) ^ l)) * (w * ((M + G) ^ k * (M - G) ^ l)) * c := by grind
        _ ≤ _ := s
        _ = (w * ((M + G) ^ k * (M - G) ^ l * (M + T))) * (w * ((M + G) ^ k * (M - G) ^ l * (M + T))) := by grind
        _ ≤ _ := sq
        _ = _ := by grind
    by_cases c1 : T / G = 1
    · have hTG : T = G := by
        rw [c1] at f3
        omega
      refine ⟨by omega, by omega, 2 * k + 2, 2 * l, by push_cast; omega, by push_cast; omega, ?_⟩
      refine fin _ _ ((M + G) * (M + G)) (by omega) ?_ (by rw [hTG]; exact Int.le_refl _)
      rw [Int.pow_add, Nat.two_mul, Nat.two_mul, Int.pow_add, Int.pow_add]
      grind
    · by_cases c2 : T / G = 0
      · have hT0 : 0 ≤ T := by
          rw [c2] at f3
          omega
        refine ⟨by omega, by omega, 2 * k + 1, 2 * l + 1, by push_cast; omega, by push_cast; omega, ?_⟩
        refine fin _ _ ((M + G) * (M - G)) (by omega) ?_ ?_
        · rw [Int.pow_add, Nat.two_mul, Nat.two_mul, Int.pow_add, Int.pow_add, Int.pow_add]
          grind
        · have a : 0 ≤ G * G := Int.mul_nonneg (by omega) (by omega)
          have b : 0 ≤ T * (M + M + T) := Int.mul_nonneg hT0 (by omega)
          grind
      · have c3 : T / G = -1 := by omega
        refine ⟨by omega, by omega, 2 * k, 2 * l + 2, by push_cast; omega, by push_cast; omega, ?_⟩
        refine fin _ _ ((M - G) * (M - G)) (by omega) ?_ ?_
        · rw [Int.pow_add, Nat.two_mul, Nat.two_mul, Int.pow_add, Int.pow_add]
          grind
        · exact Int.mul_le_mul (by omega) (by omega) (by omega) hT

/-! ### the numbers of the program -/
abbrev MM : Int := 1000000000
abbrev GG (b : Int) : Int := 2000000 * b
/-- a one's books by its bound -/
def Books (b w h d g : Int) : Prop := Good MM (GG b) w h d g

/-- what a day does to what is held -/
theorem held_step {m o F f : Int} (hF : 0 < F) : (m + o) * (F + f) ≤ (m * (F + f) / F + (1 - (0 - o * (F + f)) / F)) * F := by
  have a1 : m * (F + f) < (m * (F + f) / F + 1) * F := by
    have := Int.lt_ediv_add_one_mul_self (m * (F + f)) hF
    exact this
  have a2 : (0 - o * (F + f)) / F * F ≤ 0 - o * (F + f) := Int.ediv_mul_le _ (by omega)
  generalize m * (F + f) / F = x at *
  generalize (0 - o * (F + f)) / F = y at *
  grind
theorem z_range {b F f : Int} (hF : 0 < F) (h1 : -(b * F) ≤ 500 * f) (h2 : 500 * f ≤ b * F) : -(GG b) ≤ 1000000000 * f / F ∧ 1000000000 * f / F ≤ GG b := by
  constructor
  · exact (Int.le_ediv_iff_mul_le hF).mpr (by grind)
  · have h : 1000000000 * f ≤ GG b * F := by grind
    have := Int.ediv_le_ediv hF h
    rw [Int.mul_ediv_cancel _ (by omega)] at this
    exact this
theorem Books.day {b w m o d g F f : Int} (q : Books b w (m + o) d g) (hw : 0 ≤ w) (hb : 1 ≤ b) (hb2 : b ≤ 500) (hF : 0 < F) (h1 : -(b * F) ≤ 500 * f) (h2 : 500 * f ≤ b * F) (hm : 0 ≤ m + o) :
    Books b w (m * (F + f) / F + (1 - (0 - o * (F + f)) / F)) (d + 1) (g + 1000000000 * f / F) := by
  obtain ⟨z1, z2⟩ := z_range hF h1 h2
  refine Good.step q hw (by show 0 ≤ 2000000 * b; omega) (by show 2000000 * b ≤ 1000000000; omega) z1 z2 ?_
  have a := held_step (m := m) (o := o) (f := f) hF
  have c : 1000000000 * f / F * F ≤ 1000000000 * f := Int.ediv_mul_le _ (by omega)
  have hz : 0 ≤ MM + 1000000000 * f / F := by
    have : -(2000000 * b) ≤ 1000000000 * f / F := z1
    show 0 ≤ 1000000000 + _
    omega
  generalize m * (F + f) / F + (1 - (0 - o * (F + f)) / F) = H' at *
  generalize 1000000000 * f / F = z at *
  refine Int.le_of_mul_le_mul_right (a := F) ?_ hF
  have c2 : (MM + z) * F ≤ MM * (F + f) := by
    show (1000000000 + z) * F ≤ 1000000000 * (F + f)
    grind
  calc (MM + z) * (m + o) * F = (MM + z) * F * (m + o) := by grind
    _ ≤ MM * (F + f) * (m + o) := Int.mul_le_mul_of_nonneg_right c2 hm
    _ = MM * ((m + o) * (F + f)) := by grind
    _ ≤ MM * (H' * F) := Int.mul_le_mul_of_nonneg_left a (by decide)
    _ = MM * H' * F := by grind
theorem Books.still {b w m o d g F : Int} (q : Books b w (m + o) d g) (hF : 0 < F) : Books b w (m * (F + 0) / F + (1 - (0 - o * (F + 0)) / F)) (d + 0) (g + 1000000000 * 0 / F) := by
  have e1 : m * (F + 0) / F = m := by rw [Int.add_zero]; exact Int.mul_ediv_cancel _ (by omega)
  have e2 : (0 - o * (F + 0)) / F = -o := by
    rw [show 0 - o * (F + 0) = -o * F by grind]
    exact Int.mul_ediv_cancel _ (by omega)
  rw [e1, e2, Int.mul_zero, Int.zero_ediv, Int.add_zero, Int.add_zero]
  exact Good.idle q (by decide) (by omega)
theorem Books.start {b w : Int} : Books b w (w + 0) 0 0 := .inl ⟨rfl, rfl, by omega⟩

/-- is u borne -/
def Borne (b d w h u : Int) : Prop := (500 + b) ^ (d + u).toNat * (500 - b) ^ (d - u).toNat * w * w ≤ 500 ^ (2 * d).toNat * h * h

theorem off_eq {b g : Int} : 500 * g / (1000000000 * b) = g / GG b := by
  show 500 * g / (1000000000 * b) = g / (2000000 * b)
  rw [show (1000000000 : Int) * b = 500 * (2000000 * b) by grind]
  exact Int.mul_ediv_mul_of_pos _ _ (by decide)

theorem Books.borne {b w h d g : Int} (q : Books b w h d g) (hw : 0 ≤ w) (hh : 0 ≤ h) (hb : 1 ≤ b) (hb2 : b ≤ 500) :
    -d ≤ 500 * g / (1000000000 * b) ∧ 500 * g / (1000000000 * b) ≤ d ∧ Borne b d w h (500 * g / (1000000000 * b)) := by
  rw [off_eq]
  obtain ⟨u1, u2, p, r, ep, er, q⟩ := Good.ends q hw hh (show 0 < 2000000 * b by omega) (show 2000000 * b ≤ 1000000000 by omega)
  refine ⟨u1, u2, ?_⟩
  unfold Borne
  rw [← ep, ← er, show (2 * d : Int) = ((p + r : Nat) : Int) by push_cast; omega]
  simp only [Int.toNat_natCast]
  have e1 : MM + GG b = 2000000 * (500 + b) := by show 1000000000 + 2000000 * b = _; omega
  have e2 : MM - GG b = 2000000 * (500 - b) := by show 1000000000 - 2000000 * b = _; omega
  have e3 : MM = 2000000 * 500 := by decide
  rw [e1, e2, e3, Int.mul_pow, Int.mul_pow, Int.mul_pow] at q
  have c : (0 : Int) < 2000000 ^ (p + r) := Int.pow_pos (by decide)
  refine Int.le_of_mul_le_mul_left (a := 2000000 ^ (p + r)) ?_ c
  have e4 : (2000000 : Int) ^ (p + r) = 2000000 ^ p * 2000000 ^ r := Int.pow_add ..
  generalize (500 + b) ^ p = x at *
  generalize (500 - b) ^ r = y at *
  calc _ = 2000000 ^ p * x * (2000000 ^ r * y) * w * w := by rw [e4]; grind
    _ ≤ _ := q
    _ = _ := by grind
/-- what is not borne lies above what is -/
theorem borne_below {b d w h u v : Int} (hb : 0 ≤ b) (hb2 : b ≤ 500) (hw : 0 ≤ w) (h1 : -d ≤ u) (h2 : v ≤ d) (huv : u ≤ v) (q : Borne b d w h v) : Borne b d w h u := by
  unfold Borne at *
  have s := shift_mono (x := 500 + b) (y := 500 - b) (by omega) (by omega) (d + u).toNat (d - v).toNat (v - u).toNat
  rw [show (d - v).toNat + (v - u).toNat = (d - u).toNat by omega, show (d + u).toNat + (v - u).toNat = (d + v).toNat by omega] at s
  refine Int.le_trans ?_ q
  exact Int.mul_le_mul_of_nonneg_right (Int.mul_le_mul_of_nonneg_right s hw) hw
end Nr

set_option maxHeartbeats 4000000
/-! Rules that the hand layer lacks: sum of a tuple, zip of a tuple and a list, len(set(..)) of any ints, a tuple once, a def by its name. -/
namespace Nr
open PySem PySem.Spec PyProof.Rows L2

/-! ### defs by their names -/
section
variable (P : Program) (w : World) (K : PySem.W.Frag) (mg : Str → Option Value) (base : Heap)
/-- a promise without a wish for errors -/
abbrev Pr := List V → Hp → VK → Prop
abbrev Pr.sp (p : Pr) : Sp := fun vs H Q _ => p vs H Q
structure Df (x : Str) (st : Stmt) (ps : List Str) : Prop where
  ex : ∃ (f : Addr) (fd : FuncData), mg x = some (.ref f) ∧ Fun K x x st f fd ∧ Binds K fd ps []
structure Cl (k : Nat) (x : Str) (p : Pr) : Prop where
  ex : ∃ (f : Addr) (fd : FuncData) (ps : List Str), FnOk P w K mg base CX0 k f fd ps p.sp ∧ mg x = some (.ref f) ∧ PySem.W.keepIn K (.ref f) = true ∧ Binds K fd ps []
end
section
variable {P : Program} {w : World} {K : PySem.W.Frag} {mg : Str → Option Value} {base : Heap}
theorem Cl.mono {j k : Nat} {x : Str} {p : Pr} (c : Cl P w K mg base j x p) (h : j ≤ k) : Cl P w K mg base k x p := by
  obtain ⟨f, fd, ps, F, q⟩ := c.ex
  exact ⟨f, fd, ps, F.mono h, q⟩
theorem Cl.imp {k : Nat} {x : Str} {p p' : Pr} (c : Cl P w K mg base k x p) (h : ∀ vs H Q, p' vs H Q → p vs H Q) : Cl P w K mg base k x p' := by
  obtain ⟨f, fd, ps, F, q⟩ := c.ex
  exact ⟨f, fd, ps, F.imp fun vs H Q _ => h vs H Q, q⟩
/-- a def keeps its promise, by its body -/
theorem Df.ok {x : Str} {st : Stmt} {N ps : List Str} {k : Nat} {p : Pr} (D : Df K mg x st ps) (S : FnScope N ps (defScope st)) (len : ∀ vs H Q, p vs H Q → vs.length = ps.length)
    (body : ∀ (f : Addr) (cdv : Value) (A : Around) (outer : List Env) (s : Shared) (H : Hp) (E : XK) (vs : List V) (Q : VK), Room k (A.deeper (envOfC x (defScope st) s.heap.objs.size f cdv)) → p vs H Q →
      ∃ t, PSs (cxOf CX0 P w K mg base N x (defScope st) f cdv A outer s H E).nox (defBody st) t ∧ t { nx := fun _ H' => Q .non H', rt := Q } (start N vs) H) : Cl P w K mg base (k + 1) x p := by
  obtain ⟨f, fd, hm, F, b⟩ := D.ex
  refine ⟨f, fd, ps, ?_, hm, F.kp, b⟩
  exact F.ok S (fun vs H Q _ h => len vs H Q h) fun cdv A outer s H vs Q E hr h => body f cdv A outer s H E vs Q hr h
/-- nothing can be asked: a contract for no calls at all -/
theorem Df.nothing {x : Str} {st : Stmt} {ps : List Str} {p : Pr} (D : Df K mg x st ps) (no : ∀ vs H Q, ¬ p vs H Q) : Cl P w K mg base 0 x p := by
  obtain ⟨f, fd, hm, F, b⟩ := D.ex
  exact ⟨f, fd, ps, ⟨fun vs H Q _ h => (no vs H Q h).elim, fun A outer s H args us vs Q _ _ _ _ _ h => (no vs H Q h).elim⟩, hm, F.kp, b⟩
end
section
variable {X : Cx}
def tCl (p : Pr) (t : TA) : TE := fun σ H Q => t σ H fun vs H1 => p vs H1 Q
theorem pe_c {k : Nat} {x : Str} {p : Pr} {e : Expr} {es : List Expr} {t : TA} {pos pos' : Pos} (c : Cl X.prog X.w X.K X.mg X.base k x p) (hr : Room k X.A) (ha : PA X (e :: es) t) (hg : Gl X x := by rfl) (hdb : (x == ("__debug__" : Str)) = false := by decide)
    (he : starEach (e :: es) X.env = (false, eval e X.env) :: starEach es X.env := by rfl) (hpl : (backTo pos (starEach es X.env)).any (·.1) = false := by rfl) : PE X (.Call (.Name x pos') (e :: es) [] pos) (tCl p t) := by
  obtain ⟨f, fd, ps, F, hm, kp, b⟩ := c.ex
  have h := pe_call (dvs := []) (p := pos') F hr hg hm kp b .nil pass0 ha hdb he hpl
  exact ⟨fun pins s σ H Q I q => h.run pins s σ H Q I (by
    show t σ H fun vs H1 => p (vs ++ []) H1 Q
    simp only [List.append_nil]
    exact q)⟩
/-- a constant of the module -/
theorem pe_k {x : Str} {v : V} {pos : Pos} (h : ∃ u, X.mg x = some u ∧ RelV v u) (hg : Gl X x := by rfl) (hd : (x == ("__debug__" : Str)) = false := by decide) : PE X (.Name x pos) (tC v) := by
  obtain ⟨u, h1, h2⟩ := h
  exact pe_glob hg h1 h2 hd

/-! ### sum of a tuple of ints -/
theorem cr_sumT (hc : X.calm = true) : CallR X (.builtin "sum") (fun vs H Q => ∃ (a : Addr) (ns : List Int), vs = [V.ref a] ∧ SqT X.K H a (ns.map V.int) ∧ Q (.int ns.sum) H) := by
  intro pins s σ H vs us Q I r h
  obtain ⟨a, ns, rfl, hs, q⟩ := h
  obtain ⟨its, rv, ht, hz⟩ := I.tuple hs
  rw [Vals.ref1 r]
  have ia := RZ.intsAre_vals rv
  obtain ⟨xs, hx⟩ := ia.allInts.items
  have hn : numsOf its.toArray.toList = ns := by rw [show its.toArray.toList = its from rfl, ia.numsOf]
  have hl : s.heap.IsTuple a its.toArray := ht
  rw [hx] at hl hn
  rw [nums_intItems] at hn
  refine PySem.W.ktm_sumG (I.ok.hd hc) hl fun h' tk t' hk => ?_
  rw [preSum_eq, List.take_of_length_le (by simp), hn]
  exact ⟨.int _, H, I.kept hk, ⟨_, rfl⟩, q⟩

/-! ### a tuple once -/
theorem tuple_mul1 (l : Addr) (items : Array Value) (n : Nat) (dd : Option Addr) (sl : Array (Option Value)) (u : Tok) :
    Meets (Builtin.«tuple.__mul__» ⟨[.ref l, .int 1 u], []⟩) (fun _ R s => s.heap.get? l = some { cls := .type "tuple", dict := dd, data := .seq items n, slots := sl } ∧ R (.ok (.ret (Value.ref l))) s) :=
  .of_wp fun prog w A R s h => by
    obtain ⟨hp, g, d, tk, os⟩ := s
    obtain ⟨hl, h⟩ := h
    have f1 := AutoSeq1.idx_int
    have c1 : (items.isEmpty || (1 : Int) == 1) = true := by simp
    wp_walk using wpAny_loadPart' hl
    all_goals try (refine wpAny_ite_true (decide_eq_true c1) ?_; wp_walk using wpAny_loadPart' hl)
    all_goals exact ⟨_, rfl, h⟩
theorem op_onceT : OpR X (binaryOp .Mult) (fun x y H Q => ∃ l xs, x = .ref l ∧ y = .int 1 ∧ SqT X.K H l xs ∧ Q (.ref l) H) := by
  intro pins s σ H x y v u Q I rx ry h
  obtain ⟨l, xs, rfl, rfl, hT, q⟩ := h
  cases rx
  obtain ⟨t, rfl⟩ := ry
  obtain ⟨its, r, ⟨⟨cls, dd, data, sl⟩, ho, hc, n, hd⟩, hs⟩ := I.tuple hT
  simp only at hc hd
  subst hc hd
  exact wpAny_binaryOp_repeat_ref (T := "tuple") (U := "int") (by decide) ⟨_, ho, rfl⟩ (fun s' => typeIs_int s' 1 t) noFill_tuple_mul F.fills_int_mul F.slot_int_rmul repeat_tuple F.slot_int_index.lookup
    (call_meets F.slot_int_rmul (typeIs_int s 1 t) F.entry_int_rmul (F.args_int_rmul_2 _ _) (int_rmul_tuple 1 t l its.toArray n dd sl)
      ⟨ho, rfl, ⟨_, ho, rfl⟩, call_meets F.slot_tuple_mul ⟨_, ho, rfl⟩ F.entry_tuple_mul (F.args_tuple_mul_2 _ _) (tuple_mul1 l its.toArray n dd sl t) ⟨ho, ⟨.ref l, H, I, rfl, q⟩⟩⟩)

/-! ### how many unlike ints -/
def tUnlike (K : PySem.W.Frag) (ta : TE) : TE := fun σ H Q => ta σ H fun x H1 => ∃ (l : Addr) (ns : List Int), x = .ref l ∧ SqL K H1 l (ns.map V.int) ∧ ns.length ≤ 100 ∧
  ∀ n : Nat, (n ≤ 1 → ∀ a ∈ ns, ∀ b ∈ ns, a = b) → Q (.int (n : Int)) H1
theorem firstMet_all {ns : List Int} : ∀ i, i ≤ ns.length → ∀ a ∈ ns.take i, a ∈ PyProof.Rows.firstMet (fun i => ns.getD i 0) i
  | 0, _, a, ha => by simp at ha
  | i + 1, hi, a, ha => by
    have hlt : i < ns.length := hi
    have e1 : ns.getD i 0 = ns[i] := by simp [List.getD_eq_getElem?_getD, List.getElem?_eq_getElem hlt]
    rw [PyProof.Rows.firstMet_succ]
    unfold step_dedup
    have ih := firstMet_all (ns := ns) i (Nat.le_of_lt hlt)
    rw [List.take_add_one, List.getElem?_eq_getElem hlt] at ha
    rcases List.mem_append.mp ha with h | h
    · have := ih a h
      split
      · exact this
      · exact List.mem_append_left _ this
    · have h2 : a = ns[i] := by simpa using h
      subst h2
      split
      · rename_i q
        obtain ⟨y, hy, ey⟩ := List.any_eq_true.mp q
        have ey2 : y = ns.getD i 0 := eq_of_beq ey
        rw [e1] at ey2
        rw [← ey2]
        exact hy
      · exact List.mem_append_right _ (by rw [e1]; simp)
theorem pe_unlike {a : Expr} {ta : TE} {p p2 q pos : Pos} (hm : X.mg "len" = none) (hm2 : X.mg "set" = none) (ha : PE X a ta) (hg : Gl X "len" := by rfl) (hg2 : Gl X "set" := by rfl) (hc : X.calm = true := by rfl)
    (na : starEach [a] X.env = (false, eval a X.env) :: starEach [] X.env := by rfl) : PE X (.Call (.Name "len" p) [.Call (.Name "set" p2) [a] [] q] [] pos) (tUnlike X.K ta) := by
  refine ⟨fun pins s σ H Q I h => Call_ (ld_blt I hg hm boot_len ?_)⟩
  refine callWith_builtin1 (args_cons (Call_ (ld_blt I hg2 hm2 boot_set ?_)) rfl) rfl rfl
  refine callWith_type1 (args_cons (thn (ha.run pins s σ H _ I h) fun v s1 ⟨x, H1, I1, r1, q1⟩ => args_nil ?_) na) na rfl
  obtain ⟨l, ns, rfl, hq, hl, q1⟩ := q1
  cases r1
  obtain ⟨its, r, pl, hz⟩ := I1.list hq
  have hlen : its.toArray.size = ns.length := by rw [List.size_toArray, ← r.length, List.length_map]
  refine call_set_list (I1.ok.hd hc) pl.isList (by simpa using RZ.intsAre_vals r) (by rw [hlen]; unfold scanBound; omega) fun h' tk hS hk => args_nil ?_
  rw [hlen] at hS
  obtain ⟨o, es, ep, t, ho, hex, hd, _, _, _, hf, hn⟩ := hS
  have I2 : Inv X pins σ H1 { s1 with heap := h', toks := tk } := I1.kept fun b o e => hk b o (Heap.lt_size e) e
  have few : (PyProof.Rows.firstMet (fun i => ns.getD i 0) ns.length).length ≤ 100 := by
    have g : ∀ i, (PyProof.Rows.firstMet (fun i => ns.getD i 0) i).length ≤ i := by
      intro i
      induction i with
      | zero => exact Nat.le_refl _
      | succ i ih =>
        rw [PyProof.Rows.firstMet_succ]
        unfold step_dedup
        split
        · omega
        · rw [List.length_append, List.length_singleton]
          omega
    exact Nat.le_trans (g _) hl
  refine call_len_set ho hex hd hf (by rw [hn] <;> omega) ⟨.int _, H1, I2.tok _, ⟨_, by rw [hn]⟩, q1 _ fun h1 a ha b hb => ?_⟩
  have a1 := firstMet_all (ns := ns) ns.length (Nat.le_refl _) a (by rw [List.take_length]; exact ha)
  have b1 := firstMet_all (ns := ns) ns.length (Nat.le_refl _) b (by rw [List.take_length]; exact hb)
  generalize PyProof.Rows.firstMet (fun i => ns.getD i 0) ns.length = L at a1 b1 h1
  match L, h1, a1, b1 with
  | [], _, a1, _ => simp at a1
  | [z], _, a1, b1 =>
    have e1 : a = z := by simpa using a1
    have e2 : b = z := by simpa using b1
    rw [e1, e2]
  | _ :: _ :: _, h1, _, _ =>
    simp at h1
end
end Nr

set_option maxHeartbeats 400000
/-! zip of a tuple and a list, over the library's draws of any two iterators. -/
namespace Nr
open PySem PySem.Spec PyProof.Rows L2

/-- turn i: a new pair of the i-th items -/
def ItM (K : PySem.W.Frag) (a b : Addr) : It where
  go := fun i H => ∃ (xs ys : List V) (x y : V), SqT K H a xs ∧ SqL K H b ys ∧ xs[i]? = some x ∧ ys[i]? = some y
  yld := fun i H v H' => ∃ T x y, v = .ref T ∧ H T = none ∧ H' = upd H T (.tup [x, y]) ∧ (∀ xs, SqT K H a xs → xs[i]? = some x) ∧ ∀ ys, SqL K H b ys → ys[i]? = some y
  stop := fun i H => ∃ xs ys : List V, SqT K H a xs ∧ SqL K H b ys ∧ i = xs.length ∧ i = ys.length

theorem sepM {z TI TO i1 i2 a b : Addr} (D : ZipApart z TI TO i1 i2 a b) : ZipSep2 z TI TO i1 i2 [i1, a] [i2, b] where
  TIz := D.TIz
  TOz := D.TOz
  TITO := D.TITO
  TIi1 := D.TIi1
  TIi2 := D.TIi2
  mem1 := by simp
  mem2 := by simp
  zf1 := by simp only [List.mem_cons, List.not_mem_nil, or_false, not_or]; exact ⟨D.i1z.symm, D.l1z.symm⟩
  Tf1 := by simp only [List.mem_cons, List.not_mem_nil, or_false, not_or]; exact ⟨D.TOi1, D.l1TO.symm⟩
  zf2 := by simp only [List.mem_cons, List.not_mem_nil, or_false, not_or]; exact ⟨D.i2z.symm, D.l2z.symm⟩
  Tf2 := by simp only [List.mem_cons, List.not_mem_nil, or_false, not_or]; exact ⟨D.TOi2, D.l2TO.symm⟩
  sep1_2 := by simp only [List.mem_cons, List.not_mem_nil, or_false, not_or]; exact ⟨D.i12, D.l2i1.symm⟩
  sep2_1 := by simp only [List.mem_cons, List.not_mem_nil, or_false, not_or]; exact ⟨D.i12.symm, D.l1i2.symm⟩

/-- the five records of such a zip at turn i -/
def TnM (a b z TI TO i1 i2 : Addr) (i : Nat) (h : Heap) : Prop := IsZip h z TI TO .none ∧ IsTupOf2 h TI (.ref i1) (.ref i2) ∧ (∃ x y, IsTupOf2 h TO x y) ∧ h.IsTupleIter i1 a i ∧ h.IsListIter i2 b i
theorem five {z TI TO i1 i2 c : Addr} : c ∈ [z, TI, TO, i1, i2] ↔ c = z ∨ c = TI ∨ c = TO ∨ c = i1 ∨ c = i2 := by simp
theorem turnM {P : Program} {w : World} {K : PySem.W.Frag} {elts : List Expr} {kk : Nat} {tpos : Pos} {a b z TI TO i1 i2 : Addr} (D : ZipApart z TI TO i1 i2 a b) :
    Turn P w K (.Tuple elts kk tpos) (ItM K a b) [z, TI, TO, i1, i2] z (TnM a b z TI TO i1 i2) where
  mem := five.mpr (.inl rfl)
  obj := by
    rintro i h ⟨hz, hTI, ⟨x, y, hTO⟩, ⟨o1, e1, _, d1⟩, ⟨o2, e2, _, d2⟩⟩ c hc
    rcases five.mp hc with rfl | rfl | rfl | rfl | rfl
    · exact ⟨_, hz, fun v q => nomatch q⟩
    · exact ⟨_, hTI, fun v q => nomatch q⟩
    · exact ⟨_, hTO, fun v q => nomatch q⟩
    · exact ⟨o1, e1, fun v q => by rw [d1] at q; cases q⟩
    · exact ⟨o2, e2, fun v q => by rw [d2] at q; cases q⟩
  keep := by
    rintro i h h' ⟨hz, hTI, ⟨x, y, hTO⟩, h1, h2⟩ k
    exact ⟨k z (five.mpr (by simp)) _ hz, k TI (five.mpr (by simp)) _ hTI, ⟨x, y, k TO (five.mpr (by simp)) _ hTO⟩, h1.at fun o q => k i1 (five.mpr (by simp)) o q, h2.at fun o q => k i2 (five.mpr (by simp)) o q⟩
  item := by
    intro X hP hw hK hc i pins s σ H E I hf st hg
    subst hP hw hK
    obtain ⟨hz, hTI, ⟨x0, y0, hTO⟩, h1, h2⟩ := st
    obtain ⟨xs, ys, x, y, hqx, hqy, hx, hy⟩ := hg
    obtain ⟨its, rv, p, _⟩ := I.tuple hqx
    obtain ⟨its2, rv2, p2, _⟩ := I.list hqy
    obtain ⟨u, hu, ru⟩ := rv.get hx
    obtain ⟨u2, hu2, ru2⟩ := rv2.get hy
    have b1 : i < its.toArray.size := by simpa using (List.getElem?_eq_some_iff.mp hu).1
    have b2 : i < its2.toArray.size := by simpa using (List.getElem?_eq_some_iff.mp hu2).1
    have hzl : z < s.heap.objs.size := Heap.lt_size hz
    have hh : X.A.in1.handled = none := I.ok.hd hc
    refine wpAny_pyNext_zipD2_item (sepM D) (Draws.tuple hh i1 a D.l1i1 its.toArray) (Draws.list hh i2 b D.l2i2 its2.toArray) hz hTI hTO ⟨h1, p⟩ ⟨h2, p2.isList⟩ b1 b2 fun x1 x2 h' tk e1 e2 z' TO' s1 s2 hT hsz hk => ?_
    have ex1 : x1 = u := by
      have q : its[i]? = some x1 := by simpa using e1
      rw [hu] at q
      exact (Option.some.inj q).symm
    have ex2 : x2 = u2 := by
      have q : its2[i]? = some x2 := by simpa using e2
      rw [hu2] at q
      exact (Option.some.inj q).symm
    subst ex1 ex2
    refine ⟨_, rfl, wpAny_letOwnedTupleGo_zip (s := { s with heap := h', toks := tk }) z' fun h'' z'' sb => ?_⟩
    have hT2 : h''.get? s.heap.objs.size = some { cls := .type "tuple", data := .seq #[x1, x2] } := (sb.2 _ (Nat.ne_of_gt hzl)).trans hT
    have new : ObjOk X.prog X.w (upd H s.heap.objs.size (.tup [x, y])) h'' s.heap.objs.size (.tup [x, y]) :=
      ⟨by show 2 ≤ sizeLine; decide, [x1, x2], .cons ru (.cons ru2 .nil), ⟨_, hT2, rfl, _, rfl⟩⟩
    have kept : ∀ c o, c ∉ [z, TI, TO, i1, i2] → s.heap.get? c = some o → h''.get? c = some o := fun c o hb q => by
      have n : ∀ d, d ∈ [z, TI, TO, i1, i2] → c ≠ d := fun d hd e => hb (e ▸ hd)
      exact (sb.2 c (n z (by simp))).trans (hk c o (n z (by simp)) (n TO (by simp)) (n i1 (by simp)) (n i2 (by simp)) q)
    have I1 : Inv X pins σ (upd H s.heap.objs.size (.tup [x, y])) { s with heap := h'', toks := tk } := I.turnedNew kept hf (Nat.le_refl _) new
    refine ⟨.ref s.heap.objs.size, _, I1, rfl, ⟨_, x, y, rfl, I.hok.fresh (Nat.le_refl _), rfl, fun l hl => by rw [I.tuple_inj hl hqx]; exact hx, fun l hl => by rw [I.list_inj hl hqy]; exact hy⟩, ⟨z'', ?_, ⟨x1, x2, ?_⟩, ?_, ?_⟩, fun c hcm => ?_⟩
    · exact (sb.2 _ D.TIz).trans (hk _ _ D.TIz D.TITO D.TIi1 D.TIi2 hTI)
    · exact (sb.2 _ D.TOz).trans TO'
    · exact s1.1.at fun o q => (sb.2 _ D.i1z).trans q
    · exact s2.1.at fun o q => (sb.2 _ D.i2z).trans q
    · have hlt : c < s.heap.objs.size := by
        rcases five.mp hcm with rfl | rfl | rfl | rfl | rfl
        · exact hzl
        · exact Heap.lt_size hTI
        · exact Heap.lt_size hTO
        · obtain ⟨_, e1, _⟩ := h1; exact Heap.lt_size e1
        · obtain ⟨_, e1, _⟩ := h2; exact Heap.lt_size e1
      rw [upd_ne (Nat.ne_of_lt hlt)]
      exact (hf c hcm).1
  done := by
    intro X hP hw hK hc i pins s σ H E I hf st hg
    subst hP hw hK
    obtain ⟨hz, hTI, ⟨x0, y0, hTO⟩, h1, h2⟩ := st
    obtain ⟨xs, ys, hqx, hqy, l1, l2⟩ := hg
    obtain ⟨its, rv, p, _⟩ := I.tuple hqx
    obtain ⟨its2, rv2, p2, _⟩ := I.list hqy
    have hh : X.A.in1.handled = none := I.ok.hd hc
    have e1 : i = its.toArray.size := by rw [List.size_toArray, ← rv.length]; exact l1
    have e2 : i = its2.toArray.size := by rw [List.size_toArray, ← rv2.length]; exact l2
    refine wpAny_pyNext_zipD2_end (sepM D) (Draws.tuple hh i1 a D.l1i1 its.toArray) (Draws.list hh i2 b D.l2i2 its2.toArray) hz hTI hTO ⟨h1, p⟩ ⟨h2, p2.isList⟩ (Nat.le_of_eq e1) (Nat.le_of_eq e2) (.inl e1) fun h' tk hk => ⟨rfl, I.turnedL (ch := [z, TI, TO, i1, i2]) (fun c o hb q => ?_) hf⟩
    have n : ∀ d, d ∈ [z, TI, TO, i1, i2] → c ≠ d := fun d hd e => hb (e ▸ hd)
    exact hk c o (n z (by simp)) (n TO (by simp)) (n i1 (by simp)) (n i2 (by simp)) q
  self := fun A i s Q E st h => wpAny_pyIter_zip st.1 h

def iZipM (K : PySem.W.Frag) (ta : TA) : TI := fun σ H R => ta σ H fun vs H1 => ∃ a b xs ys, vs = [.ref a, .ref b] ∧ SqT K H1 a xs ∧ SqL K H1 b ys ∧ R (ItM K a b) H1
theorem pi_zipM {X : Cx} {e e2 : Expr} {ta : TA} {p pos tpos : Pos} {elts : List Expr} {kk : Nat} (hm : X.mg "zip" = none) (ha : PA X [e, e2] ta) (hg : Gl X "zip" := by rfl)
    (hs : starEach [e, e2] X.env = (false, eval e X.env) :: starEach [e2] X.env := by rfl) (hpl : (backTo pos (starEach [e2] X.env)).any (·.1) = false := by rfl) :
    PI X (.Tuple elts kk tpos) (.Call (.Name "zip" p) [e, e2] [] pos) (iZipM X.K ta) := by
  refine ⟨fun pins s σ H R I h => Call_ (ld_blt I hg hm boot_zip (callWith_type1 (thn (ha.run pos pins s σ H _ I h) fun us s1 ⟨vs, H1, I1, r1, q1⟩ => ?_) hs hpl))⟩
  obtain ⟨a, b, xs, ys, ex, hqx, hqy, q⟩ := q1
  subst ex
  obtain ⟨its, rv, p1, _⟩ := I1.tuple hqx
  obtain ⟨its2, rv2, p2, _⟩ := I1.list hqy
  have hp1 : s1.heap.IsTuple a its.toArray := p1
  have la : a < s1.heap.objs.size := by obtain ⟨o, ho, _⟩ := id p1; exact Heap.lt_size ho
  cases r1 with
  | cons r rr =>
    cases rr with
    | cons r' rr =>
      cases rr
      cases r
      cases r'
      refine zip_begins2 (begins_tuple a its.toArray) (begins_list b its2.toArray) hp1 p2.isList fun h' hz hTI hTO h1 h2 hsz hk => wpAny_pyIter_zip hz ?_
      have I2 : Inv X pins σ H1 { s1 with heap := h' } := I1.kept (t' := s1.toks) hk
      have fresh : ∀ c ∈ [s1.heap.objs.size + 4, s1.heap.objs.size + 2, s1.heap.objs.size + 3, s1.heap.objs.size, s1.heap.objs.size + 1], FpOk X pins H1 c := fun c hcm => by
        have hle : s1.heap.objs.size ≤ c := by
          rcases five.mp hcm with q | q | q | q | q
          · rw [q]; exact Nat.le_add_right _ _
          · rw [q]; exact Nat.le_add_right _ _
          · rw [q]; exact Nat.le_add_right _ _
          · rw [q]; exact Nat.le_refl _
          · rw [q]; exact Nat.le_add_right _ _
        exact I1.fpOk hle (I1.hok.fresh hle)
      exact ⟨s1.heap.objs.size + 4, [s1.heap.objs.size + 4, s1.heap.objs.size + 2, s1.heap.objs.size + 3, s1.heap.objs.size, s1.heap.objs.size + 1], _, ItM X.K a b, H1, rfl, I2, turnM (PySem.W.ktu_apart s1.heap.objs.size a b la p2.lt), ⟨hz, hTI, ⟨_, _, hTO⟩, ⟨_, h1, rfl, rfl⟩, ⟨_, h2, rfl, rfl⟩⟩, fresh, q⟩
end Nr

/-! The text by places: printed by gen_text.py. -/
namespace Nr
open PySem PySem.Spec PyProof.Rows L2
def top (i : Nat) : Stmt := PySem.Challenge.pw_nonegrowsrich_k49_whole_off_at_most_sure.main.body.getD i (.Pass ⟨0, 0, 0, 0⟩)
abbrev s_span_of_pair : Stmt := top 3
abbrev N_span_of_pair : List Str := ["word", "one", "other"]
abbrev P_span_of_pair : List Str := ["word", "one", "other"]
theorem sc_span_of_pair : FnScope N_span_of_pair P_span_of_pair (defScope s_span_of_pair) := ⟨rfl, rfl, rfl, by decide +kernel, rfl, by decide +kernel, by decide +kernel⟩
abbrev s_span : Stmt := top 4
abbrev N_span : List Str := ["expression", "word", "ends", "far", "end"]
abbrev P_span : List Str := ["expression"]
theorem sc_span : FnScope N_span P_span (defScope s_span) := ⟨rfl, rfl, rfl, by decide +kernel, rfl, by decide +kernel, by decide +kernel⟩
abbrev s_bound : Stmt := top 8
abbrev N_bound : List Str := ["doubter", "far", "stake", "end"]
abbrev P_bound : List Str := ["doubter"]
theorem sc_bound : FnScope N_bound P_bound (defScope s_bound) := ⟨rfl, rfl, rfl, by decide +kernel, rfl, by decide +kernel, by decide +kernel⟩
abbrev s_off : Stmt := top 11
abbrev N_off : List Str := ["one"]
abbrev P_off : List Str := ["one"]
theorem sc_off : FnScope N_off P_off (defScope s_off) := ⟨rfl, rfl, rfl, by decide +kernel, rfl, by decide +kernel, by decide +kernel⟩
abbrev s_power : Stmt := top 12
abbrev N_power : List Str := ["base", "count", "found"]
abbrev P_power : List Str := ["base", "count"]
theorem sc_power : FnScope N_power P_power (defScope s_power) := ⟨rfl, rfl, rfl, by decide +kernel, rfl, by decide +kernel, by decide +kernel⟩
abbrev s_is_borne : Stmt := top 13
abbrev N_is_borne : List Str := ["by", "count", "weight", "held", "most", "made"]
abbrev P_is_borne : List Str := ["by", "count", "weight", "held", "most"]
theorem sc_is_borne : FnScope N_is_borne P_is_borne (defScope s_is_borne) := ⟨rfl, rfl, rfl, by decide +kernel, rfl, by decide +kernel, by decide +kernel⟩
abbrev s_most_off : Stmt := top 14
abbrev N_most_off : List Str := ["far", "days", "weight", "held", "low", "high", "amid"]
abbrev P_most_off : List Str := ["far", "days", "weight", "held"]
theorem sc_most_off : FnScope N_most_off P_most_off (defScope s_most_off) := ⟨rfl, rfl, rfl, by decide +kernel, rfl, by decide +kernel, by decide +kernel⟩
abbrev s_sure : Stmt := top 15
abbrev N_sure : List Str := ["one"]
abbrev P_sure : List Str := ["one"]
theorem sc_sure : FnScope N_sure P_sure (defScope s_sure) := ⟨rfl, rfl, rfl, by decide +kernel, rfl, by decide +kernel, by decide +kernel⟩
abbrev s_on_one : Stmt := top 19
abbrev N_on_one : List Str := ["many", "sign", "stake", "place"]
abbrev P_on_one : List Str := ["many", "sign", "stake"]
theorem sc_on_one : FnScope N_on_one P_on_one (defScope s_on_one) := ⟨rfl, rfl, rfl, by decide +kernel, rfl, by decide +kernel, by decide +kernel⟩
abbrev s_tent : Stmt := top 20
abbrev N_tent : List Str := ["many", "sign", "centre", "wide", "side", "far", "near", "stake", "share", "middle"]
abbrev P_tent : List Str := ["many", "sign", "centre", "wide", "side"]
theorem sc_tent : FnScope N_tent P_tent (defScope s_tent) := ⟨rfl, rfl, rfl, by decide +kernel, rfl, by decide +kernel, by decide +kernel⟩
abbrev s_by_registers : Stmt := top 21
abbrev N_by_registers : List Str := ["many", "sign"]
abbrev P_by_registers : List Str := ["many"]
theorem sc_by_registers : FnScope N_by_registers P_by_registers (defScope s_by_registers) := ⟨rfl, rfl, rfl, by decide +kernel, rfl, by decide +kernel, by decide +kernel⟩
abbrev s_rival : Stmt := top 22
abbrev N_rival : List Str := ["many", "told", "begins"]
abbrev P_rival : List Str := ["many", "told"]
theorem sc_rival : FnScope N_rival P_rival (defScope s_rival) := ⟨rfl, rfl, rfl, by decide +kernel, rfl, by decide +kernel, by decide +kernel⟩
abbrev s_after : Stmt := top 23
abbrev N_after : List Str := ["many", "sign", "then", "side", "stake", "behinds", "place"]
abbrev P_after : List Str := ["many", "sign", "then", "side"]
theorem sc_after : FnScope N_after P_after (defScope s_after) := ⟨rfl, rfl, rfl, by decide +kernel, rfl, by decide +kernel, by decide +kernel⟩
abbrev s_lagging : Stmt := top 24
abbrev N_lagging : List Str := ["many", "deeds", "sign"]
abbrev P_lagging : List Str := ["many"]
theorem sc_lagging : FnScope N_lagging P_lagging (defScope s_lagging) := ⟨rfl, rfl, rfl, by decide +kernel, rfl, by decide +kernel, by decide +kernel⟩
abbrev s_k_hand : Stmt := top 26
abbrev N_k_hand : List Str := ["_law_script", "_law_k", "_law_cell", "_law_great"]
abbrev P_k_hand : List Str := ["_law_script", "_law_k"]
theorem sc_k_hand : FnScope N_k_hand P_k_hand (defScope s_k_hand) := ⟨rfl, rfl, rfl, by decide +kernel, rfl, by decide +kernel, by decide +kernel⟩
abbrev s_k_take : Stmt := top 27
abbrev N_k_take : List Str := ["_law_hand_here", "_law_many", "_law_primes", "_law_prime", "_law_drawn", "_law_digit"]
abbrev P_k_take : List Str := ["_law_hand_here", "_law_many"]
theorem sc_k_take : FnScope N_k_take P_k_take (defScope s_k_take) := ⟨rfl, rfl, rfl, by decide +kernel, rfl, by decide +kernel, by decide +kernel⟩
abbrev s_k_of : Stmt := top 28
abbrev N_k_of : List Str := ["_law_hand_here", "_law_some"]
abbrev P_k_of : List Str := ["_law_hand_here", "_law_some"]
theorem sc_k_of : FnScope N_k_of P_k_of (defScope s_k_of) := ⟨rfl, rfl, rfl, by decide +kernel, rfl, by decide +kernel, by decide +kernel⟩
abbrev s_k_lowest : Stmt := top 29
abbrev N_k_lowest : List Str := ["_law_row", "_law_by", "_law_number"]
abbrev P_k_lowest : List Str := ["_law_row"]
theorem sc_k_lowest : FnScope N_k_lowest P_k_lowest (defScope s_k_lowest) := ⟨rfl, rfl, rfl, by decide +kernel, rfl, by decide +kernel, by decide +kernel⟩
abbrev s_k_shares : Stmt := top 30
abbrev N_k_shares : List Str := ["_law_hand_here", "_law_many", "_law_row", "_law_sign_here", "_law_some"]
abbrev P_k_shares : List Str := ["_law_hand_here", "_law_many"]
theorem sc_k_shares : FnScope N_k_shares P_k_shares (defScope s_k_shares) := ⟨rfl, rfl, rfl, by decide +kernel, rfl, by decide +kernel, by decide +kernel⟩
abbrev s_k_figure : Stmt := top 31
abbrev N_k_figure : List Str := ["_law_hand_here", "_law_some"]
abbrev P_k_figure : List Str := ["_law_hand_here"]
theorem sc_k_figure : FnScope N_k_figure P_k_figure (defScope s_k_figure) := ⟨rfl, rfl, rfl, by decide +kernel, rfl, by decide +kernel, by decide +kernel⟩
abbrev s_k_registers : Stmt := top 32
abbrev N_k_registers : List Str := ["_law_hand_here", "_law_turn"]
abbrev P_k_registers : List Str := ["_law_hand_here"]
theorem sc_k_registers : FnScope N_k_registers P_k_registers (defScope s_k_registers) := ⟨rfl, rfl, rfl, by decide +kernel, rfl, by decide +kernel, by decide +kernel⟩
abbrev s_k_leaf : Stmt := top 33
abbrev N_k_leaf : List Str := ["_law_hand_here", "_law_many", "_law_sort"]
abbrev P_k_leaf : List Str := ["_law_hand_here", "_law_many"]
theorem sc_k_leaf : FnScope N_k_leaf P_k_leaf (defScope s_k_leaf) := ⟨rfl, rfl, rfl, by decide +kernel, rfl, by decide +kernel, by decide +kernel⟩
abbrev s_k_expression : Stmt := top 34
abbrev N_k_expression : List Str := ["_law_hand_here", "_law_many", "_law_level", "_law_jumps", "_law_words", "_law_word", "_law_one", "_law_other", "_law_thousandth"]
abbrev P_k_expression : List Str := ["_law_hand_here", "_law_many", "_law_level", "_law_jumps"]
theorem sc_k_expression : FnScope N_k_expression P_k_expression (defScope s_k_expression) := ⟨rfl, rfl, rfl, by decide +kernel, rfl, by decide +kernel, by decide +kernel⟩
abbrev s_k_stake : Stmt := top 35
abbrev N_k_stake : List Str := ["_law_hand_here", "_law_many", "_law_level", "_law_jumps", "_law_far", "_law_inner"]
abbrev P_k_stake : List Str := ["_law_hand_here", "_law_many", "_law_level", "_law_jumps"]
theorem sc_k_stake : FnScope N_k_stake P_k_stake (defScope s_k_stake) := ⟨rfl, rfl, rfl, by decide +kernel, rfl, by decide +kernel, by decide +kernel⟩
abbrev s_k_deeds : Stmt := top 36
abbrev N_k_deeds : List Str := ["_law_hand_here", "_law_many", "_law_deep", "_law_found", "_law_turn", "_law_parts", "_law_i", "_law_word"]
abbrev P_k_deeds : List Str := ["_law_hand_here", "_law_many", "_law_deep"]
theorem sc_k_deeds : FnScope N_k_deeds P_k_deeds (defScope s_k_deeds) := ⟨rfl, rfl, rfl, by decide +kernel, rfl, by decide +kernel, by decide +kernel⟩
abbrev s_k_doubter : Stmt := top 37
abbrev N_k_doubter : List Str := ["_law_hand_here", "_law_many", "_law_level", "_law_jumps", "_law_stakes", "_law_behinds", "_law_name", "_law_scale", "_law_sign_here"]
abbrev P_k_doubter : List Str := ["_law_hand_here", "_law_many", "_law_level", "_law_jumps"]
theorem sc_k_doubter : FnScope N_k_doubter P_k_doubter (defScope s_k_doubter) := ⟨rfl, rfl, rfl, by decide +kernel, rfl, by decide +kernel, by decide +kernel⟩
abbrev s_k_worth : Stmt := top 38
abbrev N_k_worth : List Str := ["_law_expression_here", "_law_registers_here", "_law_shares_here", "_law_parts", "_law_word", "_law_total", "_law_part"]
abbrev P_k_worth : List Str := ["_law_expression_here", "_law_registers_here", "_law_shares_here"]
theorem sc_k_worth : FnScope N_k_worth P_k_worth (defScope s_k_worth) := ⟨rfl, rfl, rfl, by decide +kernel, rfl, by decide +kernel, by decide +kernel⟩
abbrev s_k_done : Stmt := top 39
abbrev N_k_done : List Str := ["_law_deeds_here", "_law_registers_here", "_law_shares_here", "_law_held", "_law_deed", "_law_word", "_law_at", "_law_by", "_law_number"]
abbrev P_k_done : List Str := ["_law_deeds_here", "_law_registers_here", "_law_shares_here"]
theorem sc_k_done : FnScope N_k_done P_k_done (defScope s_k_done) := ⟨rfl, rfl, rfl, by decide +kernel, rfl, by decide +kernel, by decide +kernel⟩
abbrev s_k_stepped : Stmt := top 40
abbrev N_k_stepped : List Str := ["_law_one", "_law_shares_here", "_law_sign_here", "_law_full", "_law_further", "_law_owed", "_law_day_count", "_law_got", "_law_held", "_law_word", "_law_doubter_here", "_law_registers_here", "_law_weight_here", "_law_purse", "_law_total", "_law_worths", "_law_stake_here", "_law_part", "_law_came_to"]
abbrev P_k_stepped : List Str := ["_law_one", "_law_shares_here", "_law_sign_here"]
theorem sc_k_stepped : FnScope N_k_stepped P_k_stepped (defScope s_k_stepped) := ⟨rfl, rfl, rfl, by decide +kernel, rfl, by decide +kernel, by decide +kernel⟩
abbrev s_k_made : Stmt := top 41
abbrev N_k_made : List Str := ["_law_doubter_here", "_law_weight_here"]
abbrev P_k_made : List Str := ["_law_doubter_here", "_law_weight_here"]
theorem sc_k_made : FnScope N_k_made P_k_made (defScope s_k_made) := ⟨rfl, rfl, rfl, by decide +kernel, rfl, by decide +kernel, by decide +kernel⟩
abbrev s_k_thousand : Stmt := top 42
abbrev N_k_thousand : List Str := ["_law_hand_here", "_law_many", "_law_first", "_law_second"]
abbrev P_k_thousand : List Str := ["_law_hand_here", "_law_many"]
theorem sc_k_thousand : FnScope N_k_thousand P_k_thousand (defScope s_k_thousand) := ⟨rfl, rfl, rfl, by decide +kernel, rfl, by decide +kernel, by decide +kernel⟩
abbrev s_k_weight : Stmt := top 43
abbrev N_k_weight : List Str := ["_law_hand_here"]
abbrev P_k_weight : List Str := ["_law_hand_here"]
theorem sc_k_weight : FnScope N_k_weight P_k_weight (defScope s_k_weight) := ⟨rfl, rfl, rfl, by decide +kernel, rfl, by decide +kernel, by decide +kernel⟩
abbrev s_k_any : Stmt := top 44
abbrev N_k_any : List Str := ["_law_hand_here", "_law_many", "_law_way", "_law_sign_here", "_law_side"]
abbrev P_k_any : List Str := ["_law_hand_here", "_law_many"]
theorem sc_k_any : FnScope N_k_any P_k_any (defScope s_k_any) := ⟨rfl, rfl, rfl, by decide +kernel, rfl, by decide +kernel, by decide +kernel⟩
abbrev s_k_paid : Stmt := top 45
abbrev N_k_paid : List Str := ["_law_one", "_law_shares_here", "_law_sign_here", "_law_worths", "_law_stake_here", "_law_part", "_law_came_to"]
abbrev P_k_paid : List Str := ["_law_one", "_law_shares_here", "_law_sign_here"]
theorem sc_k_paid : FnScope N_k_paid P_k_paid (defScope s_k_paid) := ⟨rfl, rfl, rfl, by decide +kernel, rfl, by decide +kernel, by decide +kernel⟩
abbrev s_k_sign : Stmt := top 46
abbrev N_k_sign : List Str := ["_law_hand_here", "_law_way", "_law_one", "_law_shares_here", "_law_nth", "_law_many", "_law_pays", "_law_sign_here"]
abbrev P_k_sign : List Str := ["_law_hand_here", "_law_way", "_law_one", "_law_shares_here", "_law_nth"]
theorem sc_k_sign : FnScope N_k_sign P_k_sign (defScope s_k_sign) := ⟨rfl, rfl, rfl, by decide +kernel, rfl, by decide +kernel, by decide +kernel⟩
abbrev s_k_right : Stmt := top 47
abbrev N_k_right : List Str := ["_law_hand_here", "_law_many", "_law_shares_here", "_law_nth", "_law_one", "_law_way", "_law_most"]
abbrev P_k_right : List Str := ["_law_hand_here"]
theorem sc_k_right : FnScope N_k_right P_k_right (defScope s_k_right) := ⟨rfl, rfl, rfl, by decide +kernel, rfl, by decide +kernel, by decide +kernel⟩
abbrev s_law : Stmt := top 48
abbrev N_law : List Str := ["_law_script", "_law_k", "_law_hand_here", "_law_turn"]
abbrev P_law : List Str := ["_law_script"]
theorem sc_law : FnScope N_law P_law (defScope s_law) := ⟨rfl, rfl, rfl, by decide +kernel, rfl, by decide +kernel, by decide +kernel⟩
end Nr

/-! What the top has left: printed by gen_end.py. -/
namespace Nr
open PySem PySem.Spec PyProof.Rows L2
structure Top (K : PySem.W.Frag) (mg : Str → Option Value) : Prop where
  d_span_of_pair : Df K mg "span_of_pair" s_span_of_pair P_span_of_pair
  d_span : Df K mg "span" s_span P_span
  d_bound : Df K mg "bound" s_bound P_bound
  d_off : Df K mg "off" s_off P_off
  d_power : Df K mg "power" s_power P_power
  d_is_borne : Df K mg "is_borne" s_is_borne P_is_borne
  d_most_off : Df K mg "most_off" s_most_off P_most_off
  d_sure : Df K mg "sure" s_sure P_sure
  d_on_one : Df K mg "on_one" s_on_one P_on_one
  d_tent : Df K mg "tent" s_tent P_tent
  d_by_registers : Df K mg "by_registers" s_by_registers P_by_registers
  d_rival : Df K mg "rival" s_rival P_rival
  d_after : Df K mg "after" s_after P_after
  d_lagging : Df K mg "lagging" s_lagging P_lagging
  d_k_hand : Df K mg "_law_hand" s_k_hand P_k_hand
  d_k_take : Df K mg "_law_take" s_k_take P_k_take
  d_k_of : Df K mg "_law_of" s_k_of P_k_of
  d_k_lowest : Df K mg "_law_lowest" s_k_lowest P_k_lowest
  d_k_shares : Df K mg "_law_shares" s_k_shares P_k_shares
  d_k_figure : Df K mg "_law_figure" s_k_figure P_k_figure
  d_k_registers : Df K mg "_law_registers" s_k_registers P_k_registers
  d_k_leaf : Df K mg "_law_leaf" s_k_leaf P_k_leaf
  d_k_expression : Df K mg "_law_expression" s_k_expression P_k_expression
  d_k_stake : Df K mg "_law_stake" s_k_stake P_k_stake
  d_k_deeds : Df K mg "_law_deeds" s_k_deeds P_k_deeds
  d_k_doubter : Df K mg "_law_doubter" s_k_doubter P_k_doubter
  d_k_worth : Df K mg "_law_worth" s_k_worth P_k_worth
  d_k_done : Df K mg "_law_done" s_k_done P_k_done
  d_k_stepped : Df K mg "_law_stepped" s_k_stepped P_k_stepped
  d_k_made : Df K mg "_law_made" s_k_made P_k_made
  d_k_thousand : Df K mg "_law_thousand" s_k_thousand P_k_thousand
  d_k_weight : Df K mg "_law_weight" s_k_weight P_k_weight
  d_k_any : Df K mg "_law_any" s_k_any P_k_any
  d_k_paid : Df K mg "_law_paid" s_k_paid P_k_paid
  d_k_sign : Df K mg "_law_sign" s_k_sign P_k_sign
  d_k_right : Df K mg "_law_right" s_k_right P_k_right
  d_law : Df K mg "law" s_law P_law
  b_abs : mg "abs" = none
  b_all : mg "all" = none
  b_int : mg "int" = none
  b_isinstance : mg "isinstance" = none
  b_len : mg "len" = none
  b_list : mg "list" = none
  b_max : mg "max" = none
  b_min : mg "min" = none
  b_range : mg "range" = none
  b_set : mg "set" = none
  b_sorted : mg "sorted" = none
  b_sum : mg "sum" = none
  b_tuple : mg "tuple" = none
  b_zip : mg "zip" = none
  c_MOST_FIGURE : ∃ u, mg "MOST_FIGURE" = some u ∧ RelV (.int 1000) u
  c_REGISTERS : ∃ u, mg "REGISTERS" = some u ∧ RelV (.int 4) u
  c_MOST_STAKE : ∃ u, mg "MOST_STAKE" = some u ∧ RelV (.int 500) u
  c_PARTS : ∃ u, mg "PARTS" = some u ∧ RelV (.int 1000000000) u
  c_AFTER : ∃ u, mg "AFTER" = some u ∧ RelV (.int 100) u
  c_SCALES : ∃ a : Addr, (∃ u, mg "SCALES" = some u ∧ RelV (.ref a) u) ∧ ∀ H, SqT K H a [.int 1, .int 2, .int 4, .int 8, .int 16]
  c_IDLE : ∃ a : Addr, (∃ u, mg "IDLE" = some u ∧ RelV (.ref a) u) ∧ ∀ H, SqT K H a [.str "fig", .int 0]
end Nr

/-! What the program's data are, in the abstract heap. -/
namespace Nr
open PySem PySem.Spec PyProof.Rows L2

/-! ### heaps -/
theorem sm_new {H H1 : Hp} {p : Addr} {o : HO} (e : Same H H1) (h : H1 p = none) : Same H (upd H1 p o) := fun b u q => by
  rw [upd_ne (ne_of_none (e _ _ q) h)]
  exact e _ _ q
theorem same_new {H : Hp} {p : Addr} {o : HO} (h : H p = none) : Same H (upd H p o) := sm_new (Same.refl H) h
/-- all stands but what lies at a -/
def Kp (a : Addr) (H H' : Hp) : Prop := ∀ b o, b ≠ a → H b = some o → H' b = some o
theorem kp_of {a : Addr} {H H' : Hp} (e : Same H H') : Kp a H H' := fun b o _ h => e b o h
theorem Kp.refl (a : Addr) (H : Hp) : Kp a H H := fun _ _ _ h => h
theorem Kp.trans {a : Addr} {H H1 H2 : Hp} (e : Kp a H H1) (e' : Kp a H1 H2) : Kp a H H2 := fun b o n h => e' b o n (e b o n h)
theorem Kp.new {a p : Addr} {H H1 : Hp} {o : HO} (e : Kp a H H1) (h : H1 p = none) : Kp a H (upd H1 p o) := e.trans (kp_of (same_new h))
/-- what is new ahead of a heap is new before -/
theorem Kp.free {a p : Addr} {H H1 : Hp} (e : Kp a H H1) (h : H1 p = none) (n : p ≠ a) : H p = none := by
  cases q : H p with
  | none => rfl
  | some o => rw [e p o n q] at h; cases h
theorem sm_kp {D : Addr} {H H1 H2 : Hp} (s : Same H H1) (hD : H D = none) (k : Kp D H1 H2) : Same H H2 := fun b o q => k b o (ne_of_none q hD) (s b o q)
theorem kp_put {D : Addr} {H1 H2 : Hp} {z : HO} (k : Kp D H1 H2) : Kp D H1 (upd H2 D z) := fun b o n q => by
  rw [upd_ne n]
  exact k b o n q
/-- tuples stand -/
def Tk (K : PySem.W.Frag) (H H' : Hp) : Prop := ∀ b xs, SqT K H b xs → SqT K H' b xs
theorem Tk.trans {K : PySem.W.Frag} {H H1 H2 : Hp} (e : Tk K H H1) (e' : Tk K H1 H2) : Tk K H H2 := fun b xs h => e' b xs (e b xs h)
theorem tk_same {K : PySem.W.Frag} {H H' : Hp} (e : Same H H') : Tk K H H' := fun b xs h => by
  rcases h with (h | ⟨o, h⟩) | h
  · exact .inl (.inl (e _ _ h))
  · exact .inl (.inr ⟨o, e _ _ h⟩)
  · exact .inr h
theorem tk_kp {K : PySem.W.Frag} {H H' : Hp} {a : Addr} {zs : List V} (e : Kp a H H') (ha : H a = some (.lst zs)) : Tk K H H' := fun b xs h => by
  rcases h with (h | ⟨o, h⟩) | h
  · exact .inl (.inl (e _ _ (ne_of h ha (by intro z; cases z)) h))
  · exact .inl (.inr ⟨o, e _ _ (ne_of h ha (by intro z; cases z)) h⟩)
  · exact .inr h

/-! ### the hand: three numbers -/
abbrev LL : Int := 10 ^ 120
def Hand (H : Hp) (a : Addr) (n : Nat) : Prop := ∃ g m c : Int, H a = some (.lst [.int g, .int m, .int c]) ∧ 0 ≤ g ∧ g < LL ∧ 0 ≤ m ∧ m < 2 ^ 63 ∧ 0 ≤ c ∧ c ≤ (n : Int)
theorem Hand.mono {H : Hp} {a : Addr} {n m : Nat} (h : Hand H a n) (e : n ≤ m) : Hand H a m := by
  obtain ⟨g, x, c, h0, h1, h2, h3, h4, h5, h6⟩ := h
  exact ⟨g, x, c, h0, h1, h2, h3, h4, h5, by omega⟩
theorem Hand.tk {K : PySem.W.Frag} {H H' : Hp} {a : Addr} {n : Nat} (h : Hand H a n) (e : Kp a H H') : Tk K H H' := by
  obtain ⟨g, x, c, h0, _⟩ := h
  exact tk_kp e h0
theorem Hand.ne {H : Hp} {a p : Addr} {n : Nat} (h : Hand H a n) (e : H p = none) : p ≠ a := by
  obtain ⟨g, x, c, h0, _⟩ := h
  exact (ne_of_none h0 e).symm
theorem Hand.new {H : Hp} {a p : Addr} {n : Nat} {o : HO} (h : Hand H a n) (e : H p = none) : Hand (upd H p o) a n := by
  have ne := h.ne e
  obtain ⟨g, x, c, h0, h1⟩ := h
  exact ⟨g, x, c, by rw [upd_ne ne.symm]; exact h0, h1⟩
/-- another thing is changed -/
theorem Hand.upd {H : Hp} {a p : Addr} {n : Nat} {o : HO} (h : Hand H a n) (e : p ≠ a) : Hand (upd H p o) a n := by
  obtain ⟨g, x, c, h0, h1⟩ := h
  exact ⟨g, x, c, by rw [upd_ne e.symm]; exact h0, h1⟩
theorem Hand.same {H H' : Hp} {a : Addr} {n : Nat} (h : Hand H a n) (e : Same H H') : Hand H' a n := by
  obtain ⟨g, x, c, h0, h1⟩ := h
  exact ⟨g, x, c, e _ _ h0, h1⟩
/-- what a def that draws from the hand promises: k draws at the most, R of what it tells -/
def Draw (a : Addr) (n k : Nat) (H : Hp) (R : V → Hp → Prop) (Q : VK) : Prop :=
  Hand H a n ∧ n + k ≤ 100000 ∧ ∀ v H', Kp a H H' → Hand H' a (n + k) → R v H' → Q v H'

/-! ### places -/
theorem at_in {xs : List V} {i : Int} (h0 : 0 ≤ i) (h1 : i < (xs.length : Int)) : ∃ v, atI xs i = some v ∧ xs[i.toNat]? = some v ∧ v ∈ xs := by
  have hk : i.toNat < xs.length := by omega
  have e : i = ((i.toNat : Nat) : Int) := by omega
  refine ⟨xs[i.toNat], ?_, List.getElem?_eq_getElem hk, List.getElem_mem hk⟩
  have q : atI xs ((i.toNat : Nat) : Int) = some xs[i.toNat] := atI_nat (List.getElem?_eq_getElem hk)
  rw [← e] at q
  exact q
theorem at_int {ns : List Int} {i : Int} (h0 : 0 ≤ i) (h1 : i < (ns.length : Int)) : ∃ r, atI (ns.map V.int) i = some (.int r) ∧ ns[i.toNat]? = some r ∧ r ∈ ns := by
  obtain ⟨v, e1, e2, e3⟩ := at_in (xs := ns.map V.int) h0 (by rw [List.length_map]; exact h1)
  have hk : i.toNat < ns.length := by omega
  rw [List.getElem?_map, List.getElem?_eq_getElem hk] at e2
  have e4 : v = .int ns[i.toNat] := (Option.some.inj e2).symm
  exact ⟨ns[i.toNat], by rw [e1, e4], List.getElem?_eq_getElem hk, List.getElem_mem hk⟩

/-! ### expressions: v is one, n deep, its span from lo to hi -/
abbrev iabs (i : Int) : Int := if i < 0 then -i else i
abbrev imin (i j : Int) : Int := if j < i then j else i
abbrev imax (i j : Int) : Int := if j > i then j else i
inductive IsE (K : PySem.W.Frag) (H : Hp) (many : Int) : Nat → V → Int → Int → Prop where
  | fig {n : Nat} {p : Addr} {c : Int} (h : SqT K H p [.str "fig", .int c]) : IsE K H many (n + 1) (.ref p) c c
  | reg {n : Nat} {p : Addr} {i : Int} (h : SqT K H p [.str "reg", .int i]) (h0 : 0 ≤ i) (h1 : i < 4) : IsE K H many (n + 1) (.ref p) (-1000) 1000
  | share {n : Nat} {p : Addr} {j : Int} (h : SqT K H p [.str "share", .int j]) (h0 : 0 ≤ j) (h1 : j < many) : IsE K H many (n + 1) (.ref p) 0 1000
  | times {n : Nat} {p : Addr} {f : Int} {x : V} {lo hi : Int} (h : SqT K H p [.str "times", .int f, x]) (h0 : -9 ≤ f) (h1 : f ≤ 9) (e : IsE K H many n x lo hi) : IsE K H many (n + 1) (.ref p) (imin (f * lo) (f * hi)) (imax (f * lo) (f * hi))
  | by_ {n : Nat} {p : Addr} {i : Int} {x : V} {lo hi : Int} (h : SqT K H p [.str "by", .int i, x]) (h0 : 0 ≤ i) (h1 : i < 4) (e : IsE K H many n x lo hi) : IsE K H many (n + 1) (.ref p) (-1000 * imax (iabs lo) (iabs hi)) (1000 * imax (iabs lo) (iabs hi))
  | sum {n : Nat} {p : Addr} {x y : V} {lo hi lo' hi' : Int} (h : SqT K H p [.str "sum", x, y]) (e : IsE K H many n x lo hi) (e' : IsE K H many n y lo' hi') : IsE K H many (n + 1) (.ref p) (lo + lo') (hi + hi')
  | less {n : Nat} {p : Addr} {x y : V} {lo hi lo' hi' : Int} (h : SqT K H p [.str "less", x, y]) (e : IsE K H many n x lo hi) (e' : IsE K H many n y lo' hi') : IsE K H many (n + 1) (.ref p) (lo - hi') (hi - lo')
  | least {n : Nat} {p : Addr} {x y : V} {lo hi lo' hi' : Int} (h : SqT K H p [.str "least", x, y]) (e : IsE K H many n x lo hi) (e' : IsE K H many n y lo' hi') : IsE K H many (n + 1) (.ref p) (imin lo lo') (imin hi hi')
  | most {n : Nat} {p : Addr} {x y : V} {lo hi lo' hi' : Int} (h : SqT K H p [.str "most", x, y]) (e : IsE K H many n x lo hi) (e' : IsE K H many n y lo' hi') : IsE K H many (n + 1) (.ref p) (imax lo lo') (imax hi hi')
  | when {n : Nat} {p : Addr} {i c : Int} {x y : V} {lo hi lo' hi' : Int} (h : SqT K H p [.str "when", .int i, .int c, x, y]) (h0 : 0 ≤ i) (h1 : i < 4) (e : IsE K H many n x lo hi) (e' : IsE K H many n y lo' hi') : IsE K H many (n + 1) (.ref p) (imin lo lo') (imax hi hi')
  | where_ {n : Nat} {p : Addr} {j c : Int} {x y : V} {lo hi lo' hi' : Int} (h : SqT K H p [.str "where", .int j, .int c, x, y]) (h0 : 0 ≤ j) (h1 : j < many) (h2 : 0 ≤ c) (h3 : c ≤ 1000) (e : IsE K H many n x lo hi) (e' : IsE K H many n y lo' hi') : IsE K H many (n + 1) (.ref p) (imin lo lo') (imax hi hi')
theorem IsE.tk {K : PySem.W.Frag} {H H' : Hp} {many : Int} {n : Nat} {v : V} {lo hi : Int} (e : IsE K H many n v lo hi) (t : Tk K H H') : IsE K H' many n v lo hi := by
  induction e with
  | fig h => exact .fig (t _ _ h)
  | reg h h0 h1 => exact .reg (t _ _ h) h0 h1
  | share h h0 h1 => exact .share (t _ _ h) h0 h1
  | times h h0 h1 _ ih => exact .times (t _ _ h) h0 h1 ih
  | by_ h h0 h1 _ ih => exact .by_ (t _ _ h) h0 h1 ih
  | sum h _ _ i1 i2 => exact .sum (t _ _ h) i1 i2
  | less h _ _ i1 i2 => exact .less (t _ _ h) i1 i2
  | least h _ _ i1 i2 => exact .least (t _ _ h) i1 i2
  | most h _ _ i1 i2 => exact .most (t _ _ h) i1 i2
  | when h h0 h1 _ _ i1 i2 => exact .when (t _ _ h) h0 h1 i1 i2
  | where_ h h0 h1 h2 h3 _ _ i1 i2 => exact .where_ (t _ _ h) h0 h1 h2 h3 i1 i2
theorem IsE.up {K : PySem.W.Frag} {H : Hp} {many : Int} {n : Nat} {v : V} {lo hi : Int} (e : IsE K H many n v lo hi) : ∀ {m : Nat}, n ≤ m → IsE K H many m v lo hi := by
  induction e with
  | fig h => intro m hm; obtain ⟨k, rfl⟩ : ∃ k, m = k + 1 := ⟨m - 1, by omega⟩; exact .fig h
  | reg h h0 h1 => intro m hm; obtain ⟨k, rfl⟩ : ∃ k, m = k + 1 := ⟨m - 1, by omega⟩; exact .reg h h0 h1
  | share h h0 h1 => intro m hm; obtain ⟨k, rfl⟩ : ∃ k, m = k + 1 := ⟨m - 1, by omega⟩; exact .share h h0 h1
  | times h h0 h1 _ ih => intro m hm; obtain ⟨k, rfl⟩ : ∃ k, m = k + 1 := ⟨m - 1, by omega⟩; exact .times h h0 h1 (ih (by omega))
  | by_ h h0 h1 _ ih => intro m hm; obtain ⟨k, rfl⟩ : ∃ k, m = k + 1 := ⟨m - 1, by omega⟩; exact .by_ h h0 h1 (ih (by omega))
  | sum h _ _ i1 i2 => intro m hm; obtain ⟨k, rfl⟩ : ∃ k, m = k + 1 := ⟨m - 1, by omega⟩; exact .sum h (i1 (by omega)) (i2 (by omega))
  | less h _ _ i1 i2 => intro m hm; obtain ⟨k, rfl⟩ : ∃ k, m = k + 1 := ⟨m - 1, by omega⟩; exact .less h (i1 (by omega)) (i2 (by omega))
  | least h _ _ i1 i2 => intro m hm; obtain ⟨k, rfl⟩ : ∃ k, m = k + 1 := ⟨m - 1, by omega⟩; exact .least h (i1 (by omega)) (i2 (by omega))
  | most h _ _ i1 i2 => intro m hm; obtain ⟨k, rfl⟩ : ∃ k, m = k + 1 := ⟨m - 1, by omega⟩; exact .most h (i1 (by omega)) (i2 (by omega))
  | when h h0 h1 _ _ i1 i2 => intro m hm; obtain ⟨k, rfl⟩ : ∃ k, m = k + 1 := ⟨m - 1, by omega⟩; exact .when h h0 h1 (i1 (by omega)) (i2 (by omega))
  | where_ h h0 h1 h2 h3 _ _ i1 i2 => intro m hm; obtain ⟨k, rfl⟩ : ∃ k, m = k + 1 := ⟨m - 1, by omega⟩; exact .where_ h h0 h1 h2 h3 (i1 (by omega)) (i2 (by omega))
/-- a span is no emptier than a point, and not great -/
theorem IsE.le {K : PySem.W.Frag} {H : Hp} {many : Int} {n : Nat} {v : V} {lo hi : Int} (e : IsE K H many n v lo hi) : lo ≤ hi := by
  induction e with
  | fig h => exact Int.le_refl _
  | reg h h0 h1 => omega
  | share h h0 h1 => omega
  | times h h0 h1 _ ih => unfold imin imax; split <;> split <;> omega
  | by_ h h0 h1 _ ih => unfold imax iabs; split <;> split <;> split <;> omega
  | sum h _ _ i1 i2 => omega
  | less h _ _ i1 i2 => omega
  | least h _ _ i1 i2 => unfold imin; split <;> split <;> omega
  | most h _ _ i1 i2 => unfold imax; split <;> split <;> omega
  | when h h0 h1 _ _ i1 i2 => unfold imin imax; split <;> split <;> omega
  | where_ h h0 h1 h2 h3 _ _ i1 i2 => unfold imin imax; split <;> split <;> omega

/-! ### registers, shares -/
def RegOk (rs : List Int) : Prop := rs.length = 4 ∧ ∀ r ∈ rs, -1000 ≤ r ∧ r ≤ 1000
def IsReg (K : PySem.W.Frag) (H : Hp) (v : V) : Prop := ∃ (p : Addr) (rs : List Int), v = .ref p ∧ SqT K H p (rs.map V.int) ∧ RegOk rs
theorem IsReg.tk {K : PySem.W.Frag} {H H' : Hp} {v : V} (h : IsReg K H v) (t : Tk K H H') : IsReg K H' v := by
  obtain ⟨p, rs, e, h, r⟩ := h
  exact ⟨p, rs, e, t _ _ h, r⟩
/-- shares of many signs -/
structure ShOk (many : Int) (ps : List Int) : Prop where
  len : (ps.length : Int) = many
  nn : ∀ x ∈ ps, 0 ≤ x
  pos : 0 < ps.sum
  most : ps.sum < 2 ^ 45
theorem sum_nn : ∀ {ps : List Int}, (∀ x ∈ ps, 0 ≤ x) → 0 ≤ ps.sum
  | [], _ => Int.le_refl _
  | a :: r, h => by
    rw [List.sum_cons]
    have := sum_nn (ps := r) fun x hx => h x (List.mem_cons_of_mem _ hx)
    have := h a List.mem_cons_self
    omega
theorem le_sum : ∀ {ps : List Int}, (∀ x ∈ ps, 0 ≤ x) → ∀ x ∈ ps, x ≤ ps.sum
  | [], _, x, hx => by simp at hx
  | a :: r, h, x, hx => by
    rw [List.sum_cons]
    have h1 : ∀ x ∈ r, 0 ≤ x := fun x hx => h x (List.mem_cons_of_mem _ hx)
    have ha := h a List.mem_cons_self
    rcases List.mem_cons.mp hx with rfl | hx
    · have := sum_nn h1
      omega
    · have := le_sum h1 x hx
      omega
def IsSh (K : PySem.W.Frag) (H : Hp) (many : Int) (v : V) : Prop := ∃ (p : Addr) (ps : List Int), v = .ref p ∧ SqT K H p (ps.map V.int) ∧ ShOk many ps
theorem IsSh.tk {K : PySem.W.Frag} {H H' : Hp} {many : Int} {v : V} (h : IsSh K H many v) (t : Tk K H H') : IsSh K H' many v := by
  obtain ⟨p, rs, e, h, r⟩ := h
  exact ⟨p, rs, e, t _ _ h, r⟩

/-! ### deeds: at most d deep -/
def PlainDeed (many : Int) (w : Str) (i n : Int) : Prop := 0 ≤ i ∧ i < 4 ∧ ((w = "put" ∨ w = "add") ∨ ((w = "copy" ∨ w = "plus") ∧ 0 ≤ n ∧ n < 4) ∨ (w = "told" ∧ 0 ≤ n ∧ n < many))
def IsDeeds (K : PySem.W.Frag) (H : Hp) (many : Int) : Nat → V → Prop
  | 0, v => ∃ (p : Addr) (xs : List V), v = .ref p ∧ SqT K H p xs ∧ ∀ x ∈ xs, ∃ (q : Addr) (w : Str) (i n : Int), x = .ref q ∧ SqT K H q [.str w, .int i, .int n] ∧ PlainDeed many w i n
  | d + 1, v => ∃ (p : Addr) (xs : List V), v = .ref p ∧ SqT K H p xs ∧ ∀ x ∈ xs,
      (∃ (q : Addr) (w : Str) (i n : Int), x = .ref q ∧ SqT K H q [.str w, .int i, .int n] ∧ PlainDeed many w i n) ∨
      (∃ (q : Addr) (i c : Int) (y z : V), x = .ref q ∧ SqT K H q [.str "when", .int i, .int c, y, z] ∧ 0 ≤ i ∧ i < 4 ∧ IsDeeds K H many d y ∧ IsDeeds K H many d z)
theorem IsDeeds.tk {K : PySem.W.Frag} {H H' : Hp} {many : Int} (t : Tk K H H') : ∀ {d : Nat} {v : V}, IsDeeds K H many d v → IsDeeds K H' many d v
  | 0, v, h => by
    obtain ⟨p, xs, e, h, r⟩ := h
    refine ⟨p, xs, e, t _ _ h, fun x hx => ?_⟩
    obtain ⟨q, w, i, n, e, h, r⟩ := r x hx
    exact ⟨q, w, i, n, e, t _ _ h, r⟩
  | d + 1, v, h => by
    obtain ⟨p, xs, e, h, r⟩ := h
    refine ⟨p, xs, e, t _ _ h, fun x hx => ?_⟩
    rcases r x hx with ⟨q, w, i, n, e, h, r⟩ | ⟨q, i, c, y, z, e, h, h0, h1, ry, rz⟩
    · exact .inl ⟨q, w, i, n, e, t _ _ h, r⟩
    · exact .inr ⟨q, i, c, y, z, e, t _ _ h, h0, h1, ry.tk t, rz.tk t⟩
/-- no deeds -/
theorem no_deeds {K : PySem.W.Frag} {H : Hp} {many : Int} {p : Addr} (h : SqT K H p []) : ∀ d, IsDeeds K H many d (.ref p)
  | 0 => ⟨p, [], rfl, h, fun x hx => by simp at hx⟩
  | d + 1 => ⟨p, [], rfl, h, fun x hx => by simp at hx⟩

/-! ### doubters -/
/-- the scale's number, 2 ** scale -/
def ScaleOf (sc S : Int) : Prop := 0 ≤ sc ∧ sc ≤ 4 ∧ [1, 2, 4, 8, 16][sc.toNat]? = some S
theorem ScaleOf.range {sc S : Int} (h : ScaleOf sc S) : 1 ≤ S ∧ S ≤ 16 := by
  obtain ⟨h0, h1, h2⟩ := h
  have : sc = 0 ∨ sc = 1 ∨ sc = 2 ∨ sc = 3 ∨ sc = 4 := by omega
  rcases this with rfl | rfl | rfl | rfl | rfl <;> (simp at h2; omega)
def bOf (far S : Int) : Int := imax 1 (-(-far / S))
structure FarOf (far : Int) (sps : List (Int × Int)) : Prop where
  all : ∀ s ∈ sps, iabs s.1 ≤ far ∧ iabs s.2 ≤ far
  one : ∃ s ∈ sps, far = iabs s.1 ∨ far = iabs s.2
/-- the stakes of a doubter: a tuple of expressions with these spans -/
def IsSt (K : PySem.W.Frag) (H : Hp) (many : Int) (v : V) (sps : List (Int × Int)) : Prop :=
  ∃ (p : Addr) (xs : List V), v = .ref p ∧ SqT K H p xs ∧ ((xs.length : Int) = many ∧ many ≤ 3) ∧ xs.length = sps.length ∧ ∀ (i : Nat) (x : V) (s : Int × Int), xs[i]? = some x → sps[i]? = some s → IsE K H many 8 x s.1 s.2
theorem IsSt.tk {K : PySem.W.Frag} {H H' : Hp} {many : Int} {v : V} {sps : List (Int × Int)} (h : IsSt K H many v sps) (t : Tk K H H') : IsSt K H' many v sps := by
  obtain ⟨p, xs, e, h, l, l2, r⟩ := h
  exact ⟨p, xs, e, t _ _ h, l, l2, fun i x s h1 h2 => (r i x s h1 h2).tk t⟩
def IsBeh (K : PySem.W.Frag) (H : Hp) (many : Int) (v : V) : Prop := ∃ (p : Addr) (xs : List V), v = .ref p ∧ SqT K H p xs ∧ (xs.length : Int) = many ∧ ∀ x ∈ xs, IsDeeds K H many 1 x
theorem IsBeh.tk {K : PySem.W.Frag} {H H' : Hp} {many : Int} {v : V} (h : IsBeh K H many v) (t : Tk K H H') : IsBeh K H' many v := by
  obtain ⟨p, xs, e, h, l, r⟩ := h
  exact ⟨p, xs, e, t _ _ h, l, fun x hx => (r x hx).tk t⟩
def IsDb (K : PySem.W.Frag) (H : Hp) (many S b : Int) (v : V) : Prop :=
  ∃ (p : Addr) (nm : Str) (sc : Int) (bg sk bh : V) (sps : List (Int × Int)) (far : Int), v = .ref p ∧ SqT K H p [.str nm, .int sc, bg, sk, bh] ∧ ScaleOf sc S ∧ IsReg K H bg ∧ IsSt K H many sk sps ∧ FarOf far sps ∧ far ≤ 500 * S ∧ b = bOf far S ∧ IsBeh K H many bh
theorem IsDb.tk {K : PySem.W.Frag} {H H' : Hp} {many S b : Int} {v : V} (h : IsDb K H many S b v) (t : Tk K H H') : IsDb K H' many S b v := by
  obtain ⟨p, nm, sc, bg, sk, bh, sps, far, e, h, h1, h2, h3, h4, h5, h6, h7⟩ := h
  exact ⟨p, nm, sc, bg, sk, bh, sps, far, e, t _ _ h, h1, h2.tk t, h3.tk t, h4, h5, h6, h7.tk t⟩
theorem FarOf.nn {far : Int} {sps : List (Int × Int)} (h : FarOf far sps) : 0 ≤ far := by
  obtain ⟨s, _, e⟩ := h.one
  unfold iabs at e
  rcases e with e | e <;> split at e <;> omega
theorem bOf_ok {far S : Int} (h0 : 0 ≤ far) (hS : 1 ≤ S) (h : far ≤ 500 * S) : 1 ≤ bOf far S ∧ bOf far S ≤ 500 ∧ far ≤ bOf far S * S := by
  have a1 : -far / S * S ≤ -far := Int.ediv_mul_le _ (by omega)
  have a2 : -500 ≤ -far / S := (Int.le_ediv_iff_mul_le (by omega)).mpr (by omega)
  unfold bOf imax
  generalize -far / S = q at *
  split
  · refine ⟨by omega, by omega, ?_⟩
    have : -q * S = -(q * S) := Int.neg_mul ..
    omega
  · refine ⟨by omega, by omega, ?_⟩
    have h1 : -q ≤ 1 := by omega
    have h2 : (-q) * S ≤ 1 * S := Int.mul_le_mul_of_nonneg_right h1 (by omega)
    have : -q * S = -(q * S) := Int.neg_mul ..
    omega
theorem IsDb.b {K : PySem.W.Frag} {H : Hp} {many S b : Int} {v : V} (h : IsDb K H many S b v) : 1 ≤ b ∧ b ≤ 500 ∧ 1 ≤ S ∧ S ≤ 16 := by
  obtain ⟨p, nm, sc, bg, sk, bh, sps, far, e, h, h1, h2, h3, h4, h5, rfl, h7⟩ := h
  obtain ⟨s1, s2⟩ := h1.range
  obtain ⟨b1, b2, _⟩ := bOf_ok h4.nn s1 h5
  exact ⟨b1, b2, s1, s2⟩

/-! ### ones -/
def IsOne (K : PySem.W.Frag) (H : Hp) (many S b w m o d g : Int) (v : V) : Prop :=
  ∃ (p : Addr) (db rg : V), v = .ref p ∧ SqT K H p [.str "one", db, rg, .int w, .int m, .int o, .int d, .int g] ∧ IsDb K H many S b db ∧ IsReg K H rg
theorem IsOne.tk {K : PySem.W.Frag} {H H' : Hp} {many S b w m o d g : Int} {v : V} (h : IsOne K H many S b w m o d g v) (t : Tk K H H') : IsOne K H' many S b w m o d g v := by
  obtain ⟨p, db, rg, e, h, h1, h2⟩ := h
  exact ⟨p, db, rg, e, t _ _ h, h1.tk t, h2.tk t⟩
end Nr

/-! Short words of our own. -/
namespace Nr
open PySem PySem.Spec PyProof.Rows L2

theorem iteY {c A B : Prop} [Decidable c] (h : c) (q : A) : if c then A else B := by rw [if_pos h]; exact q
theorem iteN {c A B : Prop} [Decidable c] (h : ¬ c) (q : B) : if c then A else B := by rw [if_neg h]; exact q
theorem sz {n : Nat} (h : n ≤ 1000) : n ≤ sizeLine := Nat.le_of_lt (small1000 h)
theorem szb {n : Nat} (h : Nat.ble n 1000 = true := by rfl) : n ≤ sizeLine := sz (Nat.le_of_ble_eq_true h)
theorem szl {n : Nat} (h : n < 1000) : n < sizeLine := small1000 (Nat.le_of_lt h)

/-! ### the rules that name the written part, with its letter -/
section
variable (K : PySem.W.Frag) {X : Cx}
theorem ixT (h : X.K = K := by rfl) : IxR X (rIxT K) := h ▸ ix_tup
theorem ixL (h : X.K = K := by rfl) : IxR X (rIxL K) := h ▸ ix_list
theorem slT (h : X.K = K := by rfl) : SlR X (rSlA K) := h ▸ sl_tupA
theorem piT {l tg : Expr} {tl : TE} (hl : PE X l tl) (h : X.K = K := by rfl) : PI X tg l (iTup K tl) := h ▸ pi_tup hl
theorem piL {l tg : Expr} {tl : TE} (hl : PE X l tl) (h : X.K = K := by rfl) : PI X tg l (iList K tl) := h ▸ pi_list hl
theorem piZ {e e2 : Expr} {ta : TA} {p pos tpos : Pos} {elts : List Expr} {kk : Nat} (hm : X.mg "zip" = none) (ha : PA X [e, e2] ta) (hg : Gl X "zip" := by rfl)
    (hs : starEach [e, e2] X.env = (false, eval e X.env) :: starEach [e2] X.env := by rfl) (hpl : (backTo pos (starEach [e2] X.env)).any (·.1) = false := by rfl) (h : X.K = K := by rfl) :
    PI X (.Tuple elts kk tpos) (.Call (.Name "zip" p) [e, e2] [] pos) (iZipM K ta) := h ▸ pi_zipM hm ha hg hs hpl
theorem crSum (hc : X.calm = true) (h : X.K = K := by rfl) : CallR X (.builtin "sum") (rSum K) := h ▸ cr_sum hc
def rSumT : List V → Hp → VK → Prop := fun vs H Q => ∃ (a : Addr) (ns : List Int), vs = [V.ref a] ∧ SqT K H a (ns.map V.int) ∧ Q (.int ns.sum) H
theorem crSumT (hc : X.calm = true) (h : X.K = K := by rfl) : CallR X (.builtin "sum") (rSumT K) := h ▸ cr_sumT hc
theorem crMax (hc : X.calm = true) (h : X.K = K := by rfl) : CallR X (.builtin "max") (rMax K) := h ▸ cr_max hc
theorem crMin (hc : X.calm = true) (h : X.K = K := by rfl) : CallR X (.builtin "min") (rMin K) := h ▸ cr_min hc
theorem crAll (hc : X.calm = true) (h : X.K = K := by rfl) : CallR X (.builtin "all") (rAll K) := h ▸ cr_all hc
theorem crSorted (h : X.K = K := by rfl) : CallR X (.builtin "sorted") (rSorted K) := h ▸ cr_sorted
theorem clIsi (h : X.K = K := by rfl) : CallR X (.builtin "isinstance") (rIsi K) := h ▸ call_isi
def rLen : List V → Hp → VK → Prop := fun xs H Q => ∃ p ys, xs = [.ref p] ∧ (SqL K H p ys ∨ SqT K H p ys) ∧ Q (.int ys.length) H
theorem clLen (h : X.K = K := by rfl) : CallR X (.builtin "len") (rLen K) := h ▸ call_len_seq
def rListOf : List V → Hp → VK → Prop := fun xs H Q => ∃ p ys, xs = [.ref p] ∧ (SqL K H p ys ∨ SqT K H p ys) ∧ ∀ l, H l = none → Q (.ref l) (upd H l (.lst ys))
theorem clList (h : X.K = K := by rfl) : CallR X (.type "list") (rListOf K) := h ▸ call_list_of
def rTupleOf : List V → Hp → VK → Prop := fun xs H Q => ∃ p ys, xs = [.ref p] ∧ ((SqL K H p ys ∧ ∀ l, H l = none → Q (.ref l) (upd H l (.tup ys))) ∨ (SqT K H p ys ∧ Q (.ref p) H))
theorem clTuple (h : X.K = K := by rfl) : CallR X (.type "tuple") (rTupleOf K) := h ▸ call_tuple_of
theorem opIn (h : X.K = K := by rfl) : OpR X (compareOp .In) (rIn K false) := h ▸ op_in_seq
theorem opRepT (h : X.K = K := by rfl) : OpR X (binaryOp .Mult) (rRepT K) := h ▸ op_repT
theorem opCatA (h : X.K = K := by rfl) : OpR X (binaryOp .Add) (rCatA K) := h ▸ op_catA
theorem pgT {es : List Expr} {k n : Nat} {pos : Pos} {t : TGs} (hc : X.calm = true) (hs : PGs X es t) (hn : (assignEach es X.env).length = n := by rfl) (hst : (assignEach es X.env).findIdx? (·.1) = none := by rfl) (h : X.K = K := by rfl) :
    PG X (.Tuple es k pos) (gTup K n t) := h ▸ pg_tup hc hs hn hst
end
/-! ### new tuples and lists, the heap behind them a letter -/
def tTupA (K : PySem.W.Frag) (t : TA) : TE := fun σ H Q => t σ H fun xs H1 => xs.length ≤ sizeLine ∧ ∀ p H2, Same H1 H2 → H1 p = none → SqT K H2 p xs → Q (.ref p) H2
def tLstA (t : TA) : TE := fun σ H Q => t σ H fun xs H1 => xs.length ≤ sizeLine ∧ ∀ p H2, Same H1 H2 → H1 p = none → H2 p = some (.lst xs) → Q (.ref p) H2
section
variable (K : PySem.W.Frag) {X : Cx} {es : List Expr} {t : TA} {pos : Pos}
theorem pe_tupA {k : Nat} (h : PA X es t) (hK : X.K = K := by rfl) : PE X (.Tuple es k pos) (tTupA K t) := by
  have sub : PA X es fun σ H Q => ∃ R : List V → Hp → Prop, t σ H R ∧ ∀ xs H1, R xs H1 → Q xs H1 := ⟨fun pos pins s σ H Q I ⟨R, hR, q⟩ => thn (h.run pos pins s σ H R I hR) fun us s1 ⟨xs, H1, I1, r, z⟩ => ⟨xs, H1, I1, r, q _ _ z⟩⟩
  exact ⟨fun pins s σ H Q I hq => (pe_tup sub).run pins s σ H Q I ⟨_, hq, fun xs H1 ⟨z, q⟩ => ⟨z, fun p hp => q p _ (same_new hp) hp (SqT.of upd_same)⟩⟩⟩
theorem pe_lstA (h : PA X es t) : PE X (.List es pos) (tLstA t) := by
  have sub : PA X es fun σ H Q => ∃ R : List V → Hp → Prop, t σ H R ∧ ∀ xs H1, R xs H1 → Q xs H1 := ⟨fun pos pins s σ H Q I ⟨R, hR, q⟩ => thn (h.run pos pins s σ H R I hR) fun us s1 ⟨xs, H1, I1, r, z⟩ => ⟨xs, H1, I1, r, q _ _ z⟩⟩
  exact ⟨fun pins s σ H Q I hq => (pe_lst sub).run pins s σ H Q I ⟨_, hq, fun xs H1 ⟨z, q⟩ => ⟨z, fun p hp => q p _ (same_new hp) hp upd_same⟩⟩⟩
def rTupleOfA : List V → Hp → VK → Prop := fun xs H Q => ∃ p ys, xs = [.ref p] ∧ SqL K H p ys ∧ ∀ l H2, Same H H2 → H l = none → SqT K H2 l ys → Q (.ref l) H2
theorem clTupleA (h : X.K = K := by rfl) : CallR X (.type "tuple") (rTupleOfA K) := fun pins s σ H xs us Q I r ⟨p, ys, e, hl, q⟩ =>
  clTuple K h pins s σ H xs us Q I r ⟨p, ys, e, .inl ⟨hl, fun l hn => q l _ (same_new hn) hn (SqT.of upd_same)⟩⟩
def rRepTA : R2 := fun x y H Q => ∃ l k xs, x = .ref l ∧ y = .int k ∧ SqT K H l xs ∧ xs ≠ [] ∧ 1 ≤ k ∧ k ≤ 1000 ∧ xs.length ≤ 1000 ∧ ∀ p H2, Same H H2 → SqT K H2 p (List.replicate k.toNat xs).flatten → Q (.ref p) H2
theorem opRepTA (h : X.K = K := by rfl) : OpR X (binaryOp .Mult) (rRepTA K) := by
  subst h
  rintro pins s σ H x y v u Q I rx ry ⟨l, k, xs, rfl, rfl, h1, h2, h3, h4, h5, q⟩
  by_cases c : k = 1
  · subst c
    refine op_onceT pins s σ H _ _ v u Q I rx ry ⟨l, xs, rfl, rfl, h1, q l H (Same.refl H) ?_⟩
    show SqT X.K H l (xs ++ [])
    rw [List.append_nil]
    exact h1
  · exact op_repT pins s σ H _ _ v u Q I rx ry ⟨l, k, xs, rfl, rfl, h1, h2, by omega, h4, h5, fun p hp => q p _ (same_new hp) (SqT.of upd_same)⟩
def rCatTA : R2 := fun x y H Q => ∃ a b xs ys, x = .ref a ∧ y = .ref b ∧ SqT K H a xs ∧ SqT K H b ys ∧ xs.length + ys.length ≤ sizeLine ∧ ∀ p H2, Same H H2 → SqT K H2 p (xs ++ ys) → Q (.ref p) H2
theorem opCatTA (h : X.K = K := by rfl) : OpR X (binaryOp .Add) (rCatTA K) := by
  subst h
  rintro pins s σ H x y v u Q I rx ry ⟨a, b, xs, ys, rfl, rfl, h1, h2, h3, q⟩
  refine op_catA pins s σ H _ _ v u Q I rx ry ⟨a, b, xs, ys, rfl, rfl, h1, h2, h3, fun e => q b H (Same.refl H) ?_, fun _ e => q a H (Same.refl H) ?_, fun _ _ p hp => q p _ (same_new hp) (SqT.of upd_same)⟩
  · rw [e]
    exact h2
  · rw [e, List.append_nil]
    exact h1
end
def rSlTA (K : PySem.W.Frag) : V → Option Int → Option Int → Hp → VK → Prop := fun x lo hi H Q => ∃ a xs, x = .ref a ∧ SqT K H a xs ∧ ∀ q H2, Same H H2 → SqT K H2 q (cutV xs lo hi) → Q (.ref q) H2
theorem slTA (K : PySem.W.Frag) {X : Cx} (h : X.K = K := by rfl) : SlR X (rSlTA K) := by
  subst h
  rintro pins s σ H x v vl vu lo hi sl Q I rx hsl pl pu ⟨a, xs, rfl, h1, q⟩
  refine sl_tupA pins s σ H _ v vl vu lo hi sl Q I rx hsl pl pu ⟨a, xs, rfl, h1, fun ⟨e1, e2⟩ => q a H (Same.refl H) ?_, fun _ p hp => q p _ (same_new hp) (SqT.of upd_same)⟩
  unfold cutV
  rw [e1, e2, List.drop_zero, Nat.sub_zero, List.take_length]
  exact h1
def rListOfA (K : PySem.W.Frag) : List V → Hp → VK → Prop := fun xs H Q => ∃ p ys, xs = [.ref p] ∧ (SqL K H p ys ∨ SqT K H p ys) ∧ ∀ l H2, Same H H2 → H l = none → H2 l = some (.lst ys) → Q (.ref l) H2
theorem clListA (K : PySem.W.Frag) {X : Cx} (h : X.K = K := by rfl) : CallR X (.type "list") (rListOfA K) := fun pins s σ H xs us Q I r ⟨p, ys, e, hl, q⟩ =>
  clList K h pins s σ H xs us Q I r ⟨p, ys, e, hl, fun l hn => q l _ (same_new hn) hn upd_same⟩
theorem tyx_tup {K : PySem.W.Frag} {H : Hp} {p : Addr} {xs : List V} (h : SqT K H p xs) : TyX K H (.ref p) (.type "tuple") := by
  rcases h with (h | ⟨o, h⟩) | ⟨o, its, n, h1, h2, _⟩
  · exact .base (.tup h)
  · exact .fTuple h
  · exact .kTuple h1 h2
def rCatLA : R2 := fun x y H Q => ∃ l b xs zs, x = .ref l ∧ y = .ref b ∧ H l = some (.lst xs) ∧ H b = some (.lst zs) ∧ xs.length + zs.length ≤ sizeLine ∧ ∀ p H2, Same H H2 → H p = none → H2 p = some (.lst (xs ++ zs)) → Q (.ref p) H2
theorem opCatLA {X : Cx} : OpR X (binaryOp .Add) rCatLA := fun pins s σ H x y v u Q I rx ry ⟨l, b, xs, zs, e1, e2, h1, h2, h3, q⟩ => op_cat pins s σ H x y v u Q I rx ry ⟨l, b, xs, zs, e1, e2, h1, h2, h3, fun p hp => q p _ (same_new hp) hp upd_same⟩
def rRepLA : R2 := fun x y H Q => ∃ l k xs, x = .ref l ∧ y = .int k ∧ H l = some (.lst xs) ∧ 0 ≤ k ∧ k ≤ 1000 ∧ xs.length ≤ 1000 ∧ ∀ p H2, Same H H2 → H p = none → H2 p = some (.lst (List.replicate k.toNat xs).flatten) → Q (.ref p) H2
theorem opRepLA {X : Cx} : OpR X (binaryOp .Mult) rRepLA := fun pins s σ H x y v u Q I rx ry ⟨l, k, xs, e1, e2, h1, h2, h3, h4, q⟩ => op_rep pins s σ H x y v u Q I rx ry ⟨l, k, xs, e1, e2, h1, by omega, by omega, by
    rw [sizeLine_eq]
    have : xs.length * k.toNat ≤ 1000 * 1000 := Nat.mul_le_mul h4 (by omega)
    omega, fun p hp => q p _ (same_new hp) hp upd_same⟩
theorem ixn {n : Nat} {k : Int} (h0 : 0 ≤ k) (h1 : k < (n : Int)) : ixN n k = some k.toNat := by
  unfold ixN
  rw [if_pos h0, if_pos h1]
theorem wipe2 {σ : L2.St} {i j : Nat} (h : i ≠ j) (a b : Option V) : wipe (((wipe σ [i, j]).set i a).set j b) [i, j] = wipe σ [i, j] := by
  show ((((((σ.set j none).set i none).set i a).set j b).set j none).set i none) = (σ.set j none).set i none
  rw [List.set_set, List.set_set, List.set_comm _ _ (Ne.symm h), List.set_set, List.set_comm none none h, List.set_set]
/-! ### walks, whatever the turn is -/
theorem it_range {lo : Int} {n : Nat} {H0 : Hp} {Qd : Hp → Prop} {B : V → Hp → (Hp → Prop) → Prop} (Pv : Nat → Hp → Prop) (h0 : Pv 0 H0)
    (hs : ∀ (i : Nat) H, i < n → Pv i H → B (.int (lo + (i : Int))) H (Pv (i + 1))) (hd : ∀ H, Pv n H → Qd H) :
    ∃ W : Nat → Nat → Hp → Prop, (∃ m, W 0 m H0) ∧ ∀ i m H, W i m H →
      ((Itr lo n).stop i H ∧ Qd H) ∨ ((Itr lo n).go i H ∧ ∃ Nx : Hp → Prop, (∀ H', Nx H' → ∃ m', m' < m ∧ W (i + 1) m' H') ∧ ∀ x H', (Itr lo n).yld i H x H' → B x H' Nx) := by
  refine ⟨fun i m H => m = n - i ∧ i ≤ n ∧ Pv i H, ⟨n, rfl, Nat.zero_le _, h0⟩, ?_⟩
  rintro i m H ⟨rfl, hi, p⟩
  by_cases c : i < n
  · refine .inr ⟨c, Pv (i + 1), fun H' p' => ⟨n - (i + 1), by omega, rfl, c, p'⟩, ?_⟩
    rintro x H' ⟨rfl, rfl⟩
    exact hs i _ c p
  · have e : i = n := by omega
    subst e
    exact .inl ⟨Nat.le_refl _, hd H p⟩
theorem it_zip {K : PySem.W.Frag} {a b : Addr} {xs ys : List V} {H0 : Hp} {Qd : Hp → Prop} {B : V → Hp → (Hp → Prop) → Prop} (hl : xs.length = ys.length) (Pv : Nat → Hp → Prop) (h0 : Pv 0 H0) (hq : ∀ i H, Pv i H → SqT K H a xs ∧ SqL K H b ys)
    (hs : ∀ (i : Nat) x y p H H2, xs[i]? = some x → ys[i]? = some y → Pv i H → H p = none → H2 = upd H p (.tup [x, y]) → B (.ref p) H2 (Pv (i + 1))) (hd : ∀ H, Pv xs.length H → Qd H) :
    ∃ W : Nat → Nat → Hp → Prop, (∃ m, W 0 m H0) ∧ ∀ i m H, W i m H →
      ((ItM K a b).stop i H ∧ Qd H) ∨ ((ItM K a b).go i H ∧ ∃ Nx : Hp → Prop, (∀ H', Nx H' → ∃ m', m' < m ∧ W (i + 1) m' H') ∧ ∀ x H', (ItM K a b).yld i H x H' → B x H' Nx) := by
  refine ⟨fun i m H => m = xs.length - i ∧ i ≤ xs.length ∧ Pv i H, ⟨xs.length, rfl, Nat.zero_le _, h0⟩, ?_⟩
  rintro i m H ⟨rfl, hi, p⟩
  obtain ⟨q1, q2⟩ := hq i H p
  by_cases c : i < xs.length
  · refine .inr ⟨⟨xs, ys, xs[i], ys[i], q1, q2, List.getElem?_eq_getElem c, List.getElem?_eq_getElem (by omega)⟩, Pv (i + 1), fun H' p' => ⟨xs.length - (i + 1), by omega, rfl, c, p'⟩, ?_⟩
    rintro x H' ⟨T, x1, y1, rfl, hT, rfl, f1, f2⟩
    exact hs i x1 y1 T H _ (f1 xs q1) (f2 ys q2) p hT rfl
  · have e : i = xs.length := by omega
    subst e
    exact .inl ⟨⟨xs, ys, q1, q2, rfl, hl⟩, hd H p⟩

theorem it_tup {K : PySem.W.Frag} {a : Addr} {xs : List V} {H0 : Hp} {Qd : Hp → Prop} {B : V → Hp → (Hp → Prop) → Prop} (Pv : Nat → Hp → Prop) (h0 : Pv 0 H0) (hl : ∀ i H, i ≤ xs.length → Pv i H → SqT K H a xs)
    (hs : ∀ i x H, xs[i]? = some x → Pv i H → B x H (Pv (i + 1))) (hd : ∀ H, Pv xs.length H → Qd H) :
    ∃ W : Nat → Nat → Hp → Prop, (∃ m, W 0 m H0) ∧ ∀ i m H, W i m H →
      ((Itt K a).stop i H ∧ Qd H) ∨ ((Itt K a).go i H ∧ ∃ Nx : Hp → Prop, (∀ H', Nx H' → ∃ m', m' < m ∧ W (i + 1) m' H') ∧ ∀ x H', (Itt K a).yld i H x H' → B x H' Nx) := by
  refine ⟨fun i m H => m = xs.length - i ∧ i ≤ xs.length ∧ Pv i H, ⟨xs.length, rfl, Nat.zero_le _, h0⟩, ?_⟩
  rintro i m H ⟨rfl, hi, p⟩
  have q := hl i H hi p
  by_cases c : i < xs.length
  · refine .inr ⟨⟨xs, xs[i], q, List.getElem?_eq_getElem c⟩, Pv (i + 1), fun H' p' => ⟨xs.length - (i + 1), by omega, rfl, c, p'⟩, ?_⟩
    rintro x H' ⟨rfl, f⟩
    exact hs i x H' (f xs q) p
  · have e : i = xs.length := by omega
    subst e
    exact .inl ⟨⟨xs, q, Nat.le_refl _⟩, hd H p⟩
end Nr

/-! span_of_pair, span. -/
namespace Nr
open PySem PySem.Spec PyProof.Rows L2

/-- the span of a word of two parts -/
inductive PairW : Str → Int → Int → Int → Int → Int → Int → Prop where
  | sum {a b c d : Int} : PairW "sum" a b c d (a + c) (b + d)
  | less {a b c d : Int} : PairW "less" a b c d (a - d) (b - c)
  | least {a b c d : Int} : PairW "least" a b c d (imin a c) (imin b d)
  | most {a b c d : Int} : PairW "most" a b c d (imax a c) (imax b d)
  | when {a b c d : Int} : PairW "when" a b c d (imin a c) (imax b d)
  | where_ {a b c d : Int} : PairW "where" a b c d (imin a c) (imax b d)
def spPair (K : PySem.W.Frag) : Pr := fun vs H Q => ∃ (w : Str) (p q : Addr) (a b c d lo hi : Int), vs = [.str w, .ref p, .ref q] ∧ SqT K H p [.int a, .int b] ∧ SqT K H q [.int c, .int d] ∧ PairW w a b c d lo hi ∧
  ∀ r H', Same H H' → SqT K H' r [.int lo, .int hi] → Q (.ref r) H'
def spSpan (K : PySem.W.Frag) (n : Nat) : Pr := fun vs H Q => ∃ (v : V) (many lo hi : Int), vs = [v] ∧ IsE K H many n v lo hi ∧ ∀ r H', Same H H' → SqT K H' r [.int lo, .int hi] → Q (.ref r) H'
section
variable {P : Program} {w : World} {K : PySem.W.Frag} {mg : Str → Option Value} {base : Heap}
theorem c_span_of_pair (T : Top K mg) : Cl P w K mg base 1 "span_of_pair" (spPair K) := by
  refine T.d_span_of_pair.ok sc_span_of_pair (fun vs H Q h => ?_) (fun f cdv A outer s H E vs Q hr h => ?_)
  · obtain ⟨w, p, q, a, b, c, d, lo, hi, rfl, _⟩ := h
    rfl
  obtain ⟨w, p, q, a, b, c, d, lo, hi, rfl, h1, h2, h3, k⟩ := h
  refine ⟨_, (pss_cons (ps_if (pt_cmpR op_eq (pv 0) pe_str (nomark _)) (pss_one (ps_ret (pe_tup (pa_cons (pe_op op_add (pe_ix (ixT K) (pv 1) pe_int (fun _ _ => rfl)) (pe_ix (ixT K) (pv 2) pe_int (fun _ _ => rfl))) (pa_cons (pe_op op_add (pe_ix (ixT K) (pv 1) pe_int (fun _ _ => rfl)) (pe_ix (ixT K) (pv 2) pe_int (fun _ _ => rfl))) pa_nil))))) pss_nil)
      (pss_cons (ps_if (pt_cmpR op_eq (pv 0) pe_str (nomark _)) (pss_one (ps_ret (pe_tup (pa_cons (pe_op op_sub (pe_ix (ixT K) (pv 1) pe_int (fun _ _ => rfl)) (pe_ix (ixT K) (pv 2) pe_int (fun _ _ => rfl))) (pa_cons (pe_op op_sub (pe_ix (ixT K) (pv 1) pe_int (fun _ _ => rfl)) (pe_ix (ixT K) (pv 2) pe_int (fun _ _ => rfl))) pa_nil))))) pss_nil)
      (pss_cons (ps_if (pt_cmpR op_eq (pv 0) pe_str (nomark _)) (pss_one (ps_ret (pe_tup (pa_cons (pe_callB (call_min2 rfl) (by rfl) T.b_min (by decide +kernel) (pa_cons (pe_ix (ixT K) (pv 1) pe_int (fun _ _ => rfl)) (pa_cons (pe_ix (ixT K) (pv 2) pe_int (fun _ _ => rfl)) pa_nil))) (pa_cons (pe_callB (call_min2 rfl) (by rfl) T.b_min (by decide +kernel) (pa_cons (pe_ix (ixT K) (pv 1) pe_int (fun _ _ => rfl)) (pa_cons (pe_ix (ixT K) (pv 2) pe_int (fun _ _ => rfl)) pa_nil))) pa_nil))))) pss_nil)
      (pss_cons (ps_if (pt_cmpR op_eq (pv 0) pe_str (nomark _)) (pss_one (ps_ret (pe_tup (pa_cons (pe_callB (call_max2 rfl) (by rfl) T.b_max (by decide +kernel) (pa_cons (pe_ix (ixT K) (pv 1) pe_int (fun _ _ => rfl)) (pa_cons (pe_ix (ixT K) (pv 2) pe_int (fun _ _ => rfl)) pa_nil))) (pa_cons (pe_callB (call_max2 rfl) (by rfl) T.b_max (by decide +kernel) (pa_cons (pe_ix (ixT K) (pv 1) pe_int (fun _ _ => rfl)) (pa_cons (pe_ix (ixT K) (pv 2) pe_int (fun _ _ => rfl)) pa_nil))) pa_nil))))) pss_nil)
      (pss_one (ps_ret (pe_tup (pa_cons (pe_callB (call_min2 rfl) (by rfl) T.b_min (by decide +kernel) (pa_cons (pe_ix (ixT K) (pv 1) pe_int (fun _ _ => rfl)) (pa_cons (pe_ix (ixT K) (pv 2) pe_int (fun _ _ => rfl)) pa_nil))) (pa_cons (pe_callB (call_max2 rfl) (by rfl) T.b_max (by decide +kernel) (pa_cons (pe_ix (ixT K) (pv 1) pe_int (fun _ _ => rfl)) (pa_cons (pe_ix (ixT K) (pv 2) pe_int (fun _ _ => rfl)) pa_nil))) pa_nil))))))))), ?_⟩
  cases h3 with
  | sum =>
    refine ⟨_, rfl, rfl, _, rfl, iteY (by decide +kernel) ?_⟩
    exact ⟨_, rfl, _, _, _, _, rfl, rfl, h1, rfl, _, rfl, _, _, _, _, rfl, rfl, h2, rfl, _, _, rfl, rfl, _, rfl, _, _, _, _, rfl, rfl, h1, rfl, _, rfl, _, _, _, _, rfl, rfl, h2, rfl, _, _, rfl, rfl, szb, fun r hr => k r _ (same_new hr) (SqT.of upd_same)⟩
  | less =>
    refine ⟨_, rfl, rfl, _, rfl, iteN (by decide +kernel) ⟨_, rfl, rfl, _, rfl, iteY (by decide +kernel) ?_⟩⟩
    exact ⟨_, rfl, _, _, _, _, rfl, rfl, h1, rfl, _, rfl, _, _, _, _, rfl, rfl, h2, rfl, _, _, rfl, rfl, _, rfl, _, _, _, _, rfl, rfl, h1, rfl, _, rfl, _, _, _, _, rfl, rfl, h2, rfl, _, _, rfl, rfl, szb, fun r hr => k r _ (same_new hr) (SqT.of upd_same)⟩
  | least =>
    refine ⟨_, rfl, rfl, _, rfl, iteN (by decide +kernel) ⟨_, rfl, rfl, _, rfl, iteN (by decide +kernel) ⟨_, rfl, rfl, _, rfl, iteY (by decide +kernel) ?_⟩⟩⟩
    exact ⟨_, rfl, _, _, _, _, rfl, rfl, h1, rfl, _, rfl, _, _, _, _, rfl, rfl, h2, rfl, _, _, rfl, _, rfl, _, _, _, _, rfl, rfl, h1, rfl, _, rfl, _, _, _, _, rfl, rfl, h2, rfl, _, _, rfl, szb, fun r hr => k r _ (same_new hr) (SqT.of upd_same)⟩
  | most =>
    refine ⟨_, rfl, rfl, _, rfl, iteN (by decide +kernel) ⟨_, rfl, rfl, _, rfl, iteN (by decide +kernel) ⟨_, rfl, rfl, _, rfl, iteN (by decide +kernel) ⟨_, rfl, rfl, _, rfl, iteY (by decide +kernel) ?_⟩⟩⟩⟩
    exact ⟨_, rfl, _, _, _, _, rfl, rfl, h1, rfl, _, rfl, _, _, _, _, rfl, rfl, h2, rfl, _, _, rfl, _, rfl, _, _, _, _, rfl, rfl, h1, rfl, _, rfl, _, _, _, _, rfl, rfl, h2, rfl, _, _, rfl, szb, fun r hr => k r _ (same_new hr) (SqT.of upd_same)⟩
  | when =>
    refine ⟨_, rfl, rfl, _, rfl, iteN (by decide +kernel) ⟨_, rfl, rfl, _, rfl, iteN (by decide +kernel) ⟨_, rfl, rfl, _, rfl, iteN (by decide +kernel) ⟨_, rfl, rfl, _, rfl, iteN (by decide +kernel) ?_⟩⟩⟩⟩
    exact ⟨_, rfl, _, _, _, _, rfl, rfl, h1, rfl, _, rfl, _, _, _, _, rfl, rfl, h2, rfl, _, _, rfl, _, rfl, _, _, _, _, rfl, rfl, h1, rfl, _, rfl, _, _, _, _, rfl, rfl, h2, rfl, _, _, rfl, szb, fun r hr => k r _ (same_new hr) (SqT.of upd_same)⟩
  | where_ =>
    refine ⟨_, rfl, rfl, _, rfl, iteN (by decide +kernel) ⟨_, rfl, rfl, _, rfl, iteN (by decide +kernel) ⟨_, rfl, rfl, _, rfl, iteN (by decide +kernel) ⟨_, rfl, rfl, _, rfl, iteN (by decide +kernel) ?_⟩⟩⟩⟩
    exact ⟨_, rfl, _, _, _, _, rfl, rfl, h1, rfl, _, rfl, _, _, _, _, rfl, rfl, h2, rfl, _, _, rfl, _, rfl, _, _, _, _, rfl, rfl, h1, rfl, _, rfl, _, _, _, _, rfl, rfl, h2, rfl, _, _, rfl, szb, fun r hr => k r _ (same_new hr) (SqT.of upd_same)⟩
theorem min2 {m a b : Int} (h : m ∈ [a, b]) (l : ∀ y ∈ [a, b], m ≤ y) : m = imin a b := by
  have h1 := l a (by simp)
  have h2 := l b (by simp)
  unfold imin
  rcases List.mem_cons.mp h with rfl | h
  · split <;> omega
  · have : m = b := by simpa using h
    split <;> omega
theorem max2 {m a b : Int} (h : m ∈ [a, b]) (l : ∀ y ∈ [a, b], y ≤ m) : m = imax a b := by
  have h1 := l a (by simp)
  have h2 := l b (by simp)
  unfold imax
  rcases List.mem_cons.mp h with rfl | h
  · split <;> omega
  · have : m = b := by simpa using h
    split <;> omega
theorem c_span (T : Top K mg) : ∀ n : Nat, Cl P w K mg base (n + 1) "span" (spSpan K n)
  | 0 => (T.d_span.nothing fun vs H Q h => by
      obtain ⟨v, many, lo, hi, _, e, _⟩ := h
      cases e).mono (Nat.zero_le _)
  | n + 1 => by
    have c_span := c_span T n
    have c_span_of_pair := c_span_of_pair (P := P) (w := w) (base := base) T
    refine T.d_span.ok sc_span (fun vs H Q h => ?_) (fun f cdv A outer s H E vs Q hr h => ?_)
    · obtain ⟨v, many, lo, hi, rfl, _⟩ := h
      rfl
    obtain ⟨v, many, lo, hi, rfl, e, k⟩ := h
    refine ⟨_, (pss_cons (ps_set (i := 1) sc_span.nd rfl (by first | exact Or.inl rfl | exact Or.inr rfl) (pe_ix (ixT K) (pv 0) pe_int (fun _ _ => rfl)))
      (pss_cons (ps_if (pt_cmpR op_eq (pv 1) pe_str (nomark _)) (pss_one (ps_ret (pe_tup (pa_cons (pe_ix (ixT K) (pv 0) pe_int (fun _ _ => rfl)) (pa_cons (pe_ix (ixT K) (pv 0) pe_int (fun _ _ => rfl)) pa_nil))))) pss_nil)
      (pss_cons (ps_if (pt_cmpR (opIn K) (pv 1) (pe_tup (pa_cons pe_str (pa_cons pe_str pa_nil))) rfl) (pss_one (ps_ret (pe_ifExp (pt_cmpR op_eq (pv 1) pe_str (nomark _)) (pe_tup (pa_cons (pe_un un_neg (pe_k T.c_MOST_FIGURE)) (pa_cons (pe_k T.c_MOST_FIGURE) pa_nil))) (pe_tup (pa_cons pe_int (pa_cons pe_int pa_nil)))))) pss_nil)
      (pss_cons (ps_if (pt_cmpR op_eq (pv 1) pe_str (nomark _)) (pss_cons (ps_setLc (i := 2) (own := [("end", 4)]) rfl sc_span.nd rfl rfl (sw_true rfl rfl rfl (by decide +kernel)) (piT K (pe_c c_span (hr.mono (by omega)) (pa_cons (pe_ix (ixT K) (pv 0) pe_int (fun _ _ => rfl)) pa_nil))) (blkOk_by (own := [("end", 4)]) (N := N_span) (sc := defScope s_span) (by decide +kernel)) (fun _ _ _ _ _ => (pg_name (i := 4) sc_span.nd rfl (by first | exact Or.inl rfl | exact Or.inr rfl))) (fun _ _ _ _ _ => pts_nil) (fun _ _ _ _ _ => (pe_op op_mul (pe_ix (ixT K) (pv 0) pe_int (fun _ _ => rfl)) (pv 4))))
      (pss_one (ps_ret (pe_tup (pa_cons (pe_callB (crMin K rfl) (by rfl) T.b_min (by decide +kernel) (pa_cons (pv 2) pa_nil)) (pa_cons (pe_callB (crMax K rfl) (by rfl) T.b_max (by decide +kernel) (pa_cons (pv 2) pa_nil)) pa_nil)))))) pss_nil)
      (pss_cons (ps_if (pt_cmpR op_eq (pv 1) pe_str (nomark _)) (pss_cons (ps_set (i := 3) sc_span.nd rfl (by first | exact Or.inl rfl | exact Or.inr rfl) (pe_callB (crMax K rfl) (by rfl) T.b_max (by decide +kernel) (pa_cons (pe_lc (own := [("end", 4)]) rfl sc_span.nd (piT K (pe_c c_span (hr.mono (by omega)) (pa_cons (pe_ix (ixT K) (pv 0) pe_int (fun _ _ => rfl)) pa_nil))) (blkOk_by (own := [("end", 4)]) (N := N_span) (sc := defScope s_span) (by decide +kernel)) (fun _ _ _ _ _ => (pg_name (i := 4) sc_span.nd rfl (by first | exact Or.inl rfl | exact Or.inr rfl))) (fun _ _ _ _ _ => pts_nil) (fun _ _ _ _ _ => (pe_callB call_abs (by rfl) T.b_abs (by decide +kernel) (pa_cons (pv 4) pa_nil)))) pa_nil)))
      (pss_one (ps_ret (pe_tup (pa_cons (pe_op op_mul (pe_un un_neg (pe_k T.c_MOST_FIGURE)) (pv 3)) (pa_cons (pe_op op_mul (pe_k T.c_MOST_FIGURE) (pv 3)) pa_nil)))))) pss_nil)
      (pss_one (ps_ret (pe_c c_span_of_pair (hr.mono (by omega)) (pa_cons (pv 1) (pa_cons (pe_c c_span (hr.mono (by omega)) (pa_cons (pe_ix (ixT K) (pv 0) (pe_un un_neg pe_int) (fun _ _ => rfl)) pa_nil)) (pa_cons (pe_c c_span (hr.mono (by omega)) (pa_cons (pe_ix (ixT K) (pv 0) (pe_un un_neg pe_int) (fun _ _ => rfl)) pa_nil)) pa_nil))))))))))), ?_⟩
    cases e with
    | fig h =>
      refine ⟨_, rfl, _, _, _, _, rfl, rfl, h, rfl, _, rfl, rfl, _, rfl, iteY (by decide +kernel) ?_⟩
      exact ⟨_, rfl, _, _, _, _, rfl, rfl, h, rfl, _, rfl, _, _, _, _, rfl, rfl, h, rfl, szb, fun r hr => k r _ (same_new hr) (SqT.of upd_same)⟩
    | reg h h0 h1 =>
      refine ⟨_, rfl, _, _, _, _, rfl, rfl, h, rfl, _, rfl, rfl, _, rfl, iteN (by decide +kernel) ⟨_, rfl, szb, fun p hp => ⟨_, _, rfl, .inr (SqT.of upd_same), rfl, rfl, _, rfl, iteY (by decide +kernel) ?_⟩⟩⟩
      exact ⟨_, rfl, rfl, _, rfl, iteY (by decide +kernel) ⟨_, rfl, szb, fun r hr => k r _ (sm_new (same_new hp) hr) (SqT.of upd_same)⟩⟩
    | share h h0 h1 =>
      refine ⟨_, rfl, _, _, _, _, rfl, rfl, h, rfl, _, rfl, rfl, _, rfl, iteN (by decide +kernel) ⟨_, rfl, szb, fun p hp => ⟨_, _, rfl, .inr (SqT.of upd_same), rfl, rfl, _, rfl, iteY (by decide +kernel) ?_⟩⟩⟩
      exact ⟨_, rfl, rfl, _, rfl, iteN (by decide +kernel) ⟨szb, fun r hr => k r _ (sm_new (same_new hp) hr) (SqT.of upd_same)⟩⟩
    | @times _ _ fc x lo hi h h0 h1 e =>
      refine ⟨_, rfl, _, _, _, _, rfl, rfl, h, rfl, _, rfl, rfl, _, rfl, iteN (by decide +kernel) ⟨_, rfl, szb, fun p hp => ⟨_, _, rfl, .inr (SqT.of upd_same), rfl, rfl, _, rfl, iteN (by decide +kernel) ?_⟩⟩⟩
      have s0 := same_new (o := .tup [.str "reg", .str "share"]) hp
      have h' := tk_same s0 _ _ h
      refine ⟨_, rfl, rfl, _, rfl, iteY (by decide +kernel) ?_⟩
      refine ⟨_, rfl, _, _, _, _, rfl, rfl, h', rfl, x, many, lo, hi, rfl, e.tk (tk_same s0), fun r H1 s1 hr => ⟨r, rfl, ⟨_, hr⟩, fun D hD => ?_⟩⟩
      refine lc_tup (xs := [.int lo, .int hi]) (fun i H' => Same H1 H' ∧ H' D = some (.lst ([V.int (fc * lo), .int (fc * hi)].take i))) ⟨same_new hD, upd_same⟩ (fun i H' _ q => tk_same q.1 _ _ hr) ?_ ?_
      · rintro i y H' hy ⟨s2, hl⟩
        have hh := tk_same (s1.trans s2) _ _ h'
        have st : ∀ z, Same H1 (upd H' D z) := fun z b o q => by
          rw [upd_ne (ne_of_none q hD)]
          exact s2 _ _ q
        refine ⟨rfl, _, rfl, _, _, _, _, rfl, rfl, hh, rfl, _, rfl, ?_⟩
        match i, hy with
        | 0, hy =>
          cases hy
          exact ⟨fc, lo, rfl, rfl, .inl ⟨by omega, by omega⟩, _, hl, szl (by show 0 < 1000; decide), st _, upd_same⟩
        | 1, hy =>
          cases hy
          exact ⟨fc, hi, rfl, rfl, .inl ⟨by omega, by omega⟩, _, hl, szl (by show 1 < 1000; decide), st _, upd_same⟩
        | i + 2, hy => simp at hy
      · rintro H' ⟨s2, hl⟩
        have hD' : SqL K H' D ([fc * lo, fc * hi].map V.int) := SqL.of hl
        refine ⟨_, rfl, D, _, rfl, hD', by show 0 < 2; decide, fun m hm hle => ⟨_, rfl, D, _, rfl, hD', by show 0 < 2; decide, fun m2 hm2 hle2 => ⟨szb, fun r2 hr2 => ?_⟩⟩⟩
        rw [min2 hm hle, max2 hm2 hle2]
        exact k r2 _ (sm_new ((s0.trans s1).trans s2) hr2) (SqT.of upd_same)
    | @by_ _ _ ic x lo hi h h0 h1 e =>
      refine ⟨_, rfl, _, _, _, _, rfl, rfl, h, rfl, _, rfl, rfl, _, rfl, iteN (by decide +kernel) ⟨_, rfl, szb, fun p hp => ⟨_, _, rfl, .inr (SqT.of upd_same), rfl, rfl, _, rfl, iteN (by decide +kernel) ?_⟩⟩⟩
      have s0 := same_new (o := .tup [.str "reg", .str "share"]) hp
      have h' := tk_same s0 _ _ h
      refine ⟨_, rfl, rfl, _, rfl, iteN (by decide +kernel) ⟨_, rfl, rfl, _, rfl, iteY (by decide +kernel) ?_⟩⟩
      refine ⟨_, rfl, _, _, _, _, rfl, rfl, h', rfl, x, many, lo, hi, rfl, e.tk (tk_same s0), fun r H1 s1 hr => ⟨r, rfl, ⟨_, hr⟩, fun D hD => ?_⟩⟩
      refine lc_tup (xs := [.int lo, .int hi]) (fun i H' => Same H1 H' ∧ H' D = some (.lst ([V.int (iabs lo), .int (iabs hi)].take i))) ⟨same_new hD, upd_same⟩ (fun i H' _ q => tk_same q.1 _ _ hr) ?_ ?_
      · rintro i y H' hy ⟨s2, hl⟩
        have st : ∀ z, Same H1 (upd H' D z) := fun z b o q => by
          rw [upd_ne (ne_of_none q hD)]
          exact s2 _ _ q
        refine ⟨rfl, _, rfl, ?_⟩
        match i, hy with
        | 0, hy =>
          cases hy
          exact ⟨lo, rfl, _, hl, szl (by show 0 < 1000; decide), st _, upd_same⟩
        | 1, hy =>
          cases hy
          exact ⟨hi, rfl, _, hl, szl (by show 1 < 1000; decide), st _, upd_same⟩
        | i + 2, hy => simp at hy
      · rintro H' ⟨s2, hl⟩
        have hD' : SqL K H' D ([iabs lo, iabs hi].map V.int) := SqL.of hl
        refine ⟨D, _, rfl, hD', by show 0 < 2; decide, fun m hm hle => ?_⟩
        have em := max2 hm hle
        subst em
        refine ⟨_, rfl, _, rfl, _, _, rfl, rfl, .inl ⟨by omega, by omega⟩, _, rfl, _, _, rfl, rfl, .inl ⟨by omega, by omega⟩, szb, fun r2 hr2 => ?_⟩
        exact k r2 _ (sm_new ((s0.trans s1).trans s2) hr2) (SqT.of upd_same)
    | sum h e e' =>
      refine ⟨_, rfl, _, _, _, _, rfl, rfl, h, rfl, _, rfl, rfl, _, rfl, iteN (by decide +kernel) ⟨_, rfl, szb, fun p hp => ⟨_, _, rfl, .inr (SqT.of upd_same), rfl, rfl, _, rfl, iteN (by decide +kernel) ?_⟩⟩⟩
      have s0 := same_new (o := .tup [.str "reg", .str "share"]) hp
      have h' := tk_same s0 _ _ h
      refine ⟨_, rfl, rfl, _, rfl, iteN (by decide +kernel) ⟨_, rfl, rfl, _, rfl, iteN (by decide +kernel) ?_⟩⟩
      refine ⟨_, rfl, _, rfl, _, rfl, _, _, _, _, rfl, rfl, h', rfl, _, _, _, _, rfl, e.tk (tk_same s0), fun r1 H1 s1 hr1 => ?_⟩
      refine ⟨_, rfl, _, rfl, _, _, _, _, rfl, rfl, tk_same s1 _ _ h', rfl, _, _, _, _, rfl, e'.tk (tk_same (s0.trans s1)), fun r2 H2 s2 hr2 => ?_⟩
      exact ⟨_, _, _, _, _, _, _, _, _, rfl, tk_same s2 _ _ hr1, hr2, .sum, fun r3 H3 s3 hr3 => k r3 H3 (((s0.trans s1).trans s2).trans s3) hr3⟩
    | less h e e' =>
      refine ⟨_, rfl, _, _, _, _, rfl, rfl, h, rfl, _, rfl, rfl, _, rfl, iteN (by decide +kernel) ⟨_, rfl, szb, fun p hp => ⟨_, _, rfl, .inr (SqT.of upd_same), rfl, rfl, _, rfl, iteN (by decide +kernel) ?_⟩⟩⟩
      have s0 := same_new (o := .tup [.str "reg", .str "share"]) hp
      have h' := tk_same s0 _ _ h
      refine ⟨_, rfl, rfl, _, rfl, iteN (by decide +kernel) ⟨_, rfl, rfl, _, rfl, iteN (by decide +kernel) ?_⟩⟩
      refine ⟨_, rfl, _, rfl, _, rfl, _, _, _, _, rfl, rfl, h', rfl, _, _, _, _, rfl, e.tk (tk_same s0), fun r1 H1 s1 hr1 => ?_⟩
      refine ⟨_, rfl, _, rfl, _, _, _, _, rfl, rfl, tk_same s1 _ _ h', rfl, _, _, _, _, rfl, e'.tk (tk_same (s0.trans s1)), fun r2 H2 s2 hr2 => ?_⟩
      exact ⟨_, _, _, _, _, _, _, _, _, rfl, tk_same s2 _ _ hr1, hr2, .less, fun r3 H3 s3 hr3 => k r3 H3 (((s0.trans s1).trans s2).trans s3) hr3⟩
    | least h e e' =>
      refine ⟨_, rfl, _, _, _, _, rfl, rfl, h, rfl, _, rfl, rfl, _, rfl, iteN (by decide +kernel) ⟨_, rfl, szb, fun p hp => ⟨_, _, rfl, .inr (SqT.of upd_same), rfl, rfl, _, rfl, iteN (by decide +kernel) ?_⟩⟩⟩
      have s0 := same_new (o := .tup [.str "reg", .str "share"]) hp
      have h' := tk_same s0 _ _ h
      refine ⟨_, rfl, rfl, _, rfl, iteN (by decide +kernel) ⟨_, rfl, rfl, _, rfl, iteN (by decide +kernel) ?_⟩⟩
      refine ⟨_, rfl, _, rfl, _, rfl, _, _, _, _, rfl, rfl, h', rfl, _, _, _, _, rfl, e.tk (tk_same s0), fun r1 H1 s1 hr1 => ?_⟩
      refine ⟨_, rfl, _, rfl, _, _, _, _, rfl, rfl, tk_same s1 _ _ h', rfl, _, _, _, _, rfl, e'.tk (tk_same (s0.trans s1)), fun r2 H2 s2 hr2 => ?_⟩
      exact ⟨_, _, _, _, _, _, _, _, _, rfl, tk_same s2 _ _ hr1, hr2, .least, fun r3 H3 s3 hr3 => k r3 H3 (((s0.trans s1).trans s2).trans s3) hr3⟩
    | most h e e' =>
      refine ⟨_, rfl, _, _, _, _, rfl, rfl, h, rfl, _, rfl, rfl, _, rfl, iteN (by decide +kernel) ⟨_, rfl, szb, fun p hp => ⟨_, _, rfl, .inr (SqT.of upd_same), rfl, rfl, _, rfl, iteN (by decide +kernel) ?_⟩⟩⟩
      have s0 := same_new (o := .tup [.str "reg", .str "share"]) hp
      have h' := tk_same s0 _ _ h
      refine ⟨_, rfl, rfl, _, rfl, iteN (by decide +kernel) ⟨_, rfl, rfl, _, rfl, iteN (by decide +kernel) ?_⟩⟩
      refine ⟨_, rfl, _, rfl, _, rfl, _, _, _, _, rfl, rfl, h', rfl, _, _, _, _, rfl, e.tk (tk_same s0), fun r1 H1 s1 hr1 => ?_⟩
      refine ⟨_, rfl, _, rfl, _, _, _, _, rfl, rfl, tk_same s1 _ _ h', rfl, _, _, _, _, rfl, e'.tk (tk_same (s0.trans s1)), fun r2 H2 s2 hr2 => ?_⟩
      exact ⟨_, _, _, _, _, _, _, _, _, rfl, tk_same s2 _ _ hr1, hr2, .most, fun r3 H3 s3 hr3 => k r3 H3 (((s0.trans s1).trans s2).trans s3) hr3⟩
    | when h h0 h1 e e' =>
      refine ⟨_, rfl, _, _, _, _, rfl, rfl, h, rfl, _, rfl, rfl, _, rfl, iteN (by decide +kernel) ⟨_, rfl, szb, fun p hp => ⟨_, _, rfl, .inr (SqT.of upd_same), rfl, rfl, _, rfl, iteN (by decide +kernel) ?_⟩⟩⟩
      have s0 := same_new (o := .tup [.str "reg", .str "share"]) hp
      have h' := tk_same s0 _ _ h
      refine ⟨_, rfl, rfl, _, rfl, iteN (by decide +kernel) ⟨_, rfl, rfl, _, rfl, iteN (by decide +kernel) ?_⟩⟩
      refine ⟨_, rfl, _, rfl, _, rfl, _, _, _, _, rfl, rfl, h', rfl, _, _, _, _, rfl, e.tk (tk_same s0), fun r1 H1 s1 hr1 => ?_⟩
      refine ⟨_, rfl, _, rfl, _, _, _, _, rfl, rfl, tk_same s1 _ _ h', rfl, _, _, _, _, rfl, e'.tk (tk_same (s0.trans s1)), fun r2 H2 s2 hr2 => ?_⟩
      exact ⟨_, _, _, _, _, _, _, _, _, rfl, tk_same s2 _ _ hr1, hr2, .when, fun r3 H3 s3 hr3 => k r3 H3 (((s0.trans s1).trans s2).trans s3) hr3⟩
    | where_ h h0 h1 h2 h3 e e' =>
      refine ⟨_, rfl, _, _, _, _, rfl, rfl, h, rfl, _, rfl, rfl, _, rfl, iteN (by decide +kernel) ⟨_, rfl, szb, fun p hp => ⟨_, _, rfl, .inr (SqT.of upd_same), rfl, rfl, _, rfl, iteN (by decide +kernel) ?_⟩⟩⟩
      have s0 := same_new (o := .tup [.str "reg", .str "share"]) hp
      have h' := tk_same s0 _ _ h
      refine ⟨_, rfl, rfl, _, rfl, iteN (by decide +kernel) ⟨_, rfl, rfl, _, rfl, iteN (by decide +kernel) ?_⟩⟩
      refine ⟨_, rfl, _, rfl, _, rfl, _, _, _, _, rfl, rfl, h', rfl, _, _, _, _, rfl, e.tk (tk_same s0), fun r1 H1 s1 hr1 => ?_⟩
      refine ⟨_, rfl, _, rfl, _, _, _, _, rfl, rfl, tk_same s1 _ _ h', rfl, _, _, _, _, rfl, e'.tk (tk_same (s0.trans s1)), fun r2 H2 s2 hr2 => ?_⟩
      exact ⟨_, _, _, _, _, _, _, _, _, rfl, tk_same s2 _ _ hr1, hr2, .where_, fun r3 H3 s3 hr3 => k r3 H3 (((s0.trans s1).trans s2).trans s3) hr3⟩
end
end Nr

/-! bound, off, power, is_borne, most_off, sure. -/
namespace Nr
open PySem PySem.Spec PyProof.Rows L2

theorem pow_small {b : Int} (h0 : 0 ≤ b) (h1 : b ≤ 1000) : ∀ e : Nat, (b ^ e).natAbs < 2 ^ (10 * e + 1)
  | 0 => by simp
  | e + 1 => by
    have ih := pow_small h0 h1 e
    have hb : b.natAbs < 2 ^ 10 := by omega
    have := wide_lt ih hb
    rw [Int.pow_succ]
    exact this
theorem mulW_pow {b : Int} (h0 : 0 ≤ b) (h1 : b ≤ 1000) {e f : Nat} (he : e ≤ 2000) (hf : f ≤ 2000) : CMulW (b ^ e) (b ^ f) :=
  wide_mul (pow_small h0 h1 e) (pow_small h0 h1 f) (by omega) (by omega) (by omega)
theorem abs_lt {x : Int} {n : Nat} (h0 : 0 ≤ x) (h : x < ((2 ^ n : Nat) : Int)) : x.natAbs < 2 ^ n := by omega

def spPower : Pr := fun vs H Q => ∃ b c : Int, vs = [.int b, .int c] ∧ 0 ≤ b ∧ b ≤ 1000 ∧ 0 ≤ c ∧ c ≤ 200 ∧ Q (.int (b ^ c.toNat)) H
def spBorne : Pr := fun vs H Q => ∃ b d w h u : Int, vs = [.int b, .int d, .int w, .int h, .int u] ∧ 1 ≤ b ∧ b ≤ 500 ∧ -d ≤ u ∧ u ≤ d ∧ d ≤ 50 ∧ 0 ≤ w ∧ w < 2 ^ 60 ∧ 0 ≤ h ∧ h < 2 ^ 200 ∧ ∀ k : Bool, (k = true ↔ Borne b d w h u) → Q (.bl k) H
def spMost : Pr := fun vs H Q => ∃ b d w h u : Int, vs = [.int b, .int d, .int w, .int h] ∧ 1 ≤ b ∧ b ≤ 500 ∧ -d ≤ u ∧ u ≤ d ∧ d ≤ 50 ∧ 0 ≤ w ∧ w < 2 ^ 60 ∧ 0 ≤ h ∧ h < 2 ^ 200 ∧ Borne b d w h u ∧ ∀ r : Int, u ≤ r → r ≤ d → Q (.int r) H
def spBound (K : PySem.W.Frag) : Pr := fun vs H Q => ∃ (v : V) (many S b : Int), vs = [v] ∧ IsDb K H many S b v ∧ ∀ H', Same H H' → Q (.int b) H'
def spOff (K : PySem.W.Frag) : Pr := fun vs H Q => ∃ (v : V) (many S b w m o d g : Int), vs = [v] ∧ IsOne K H many S b w m o d g v ∧ -(2 ^ 60) < g ∧ g < 2 ^ 60 ∧ ∀ H', Same H H' → Q (.int (500 * g / (1000000000 * b))) H'
def spSure (K : PySem.W.Frag) : Pr := fun vs H Q => ∃ (v : V) (many S b w m o d g u : Int), vs = [v] ∧ IsOne K H many S b w m o d g v ∧ -d ≤ u ∧ u ≤ d ∧ d ≤ 50 ∧ 0 ≤ w ∧ w < 2 ^ 60 ∧ 0 ≤ m + o ∧ m + o < 2 ^ 200 ∧ Borne b d w (m + o) u ∧ ∀ (r : Int) (H' : Hp), Same H H' → u ≤ r → r ≤ d → Q (.int r) H'
section
variable {P : Program} {w : World} {K : PySem.W.Frag} {mg : Str → Option Value} {base : Heap}
theorem c_power (T : Top K mg) : Cl P w K mg base 1 "power" spPower := by
  refine T.d_power.ok sc_power (fun vs H Q h => ?_) (fun f cdv A outer s H E vs Q hr h => ?_)
  · obtain ⟨b, c, rfl, _⟩ := h
    rfl
  obtain ⟨b, c, rfl, b0, b1, c0, c1, k⟩ := h
  refine ⟨_, (pss_cons (ps_set (i := 2) sc_power.nd rfl (by first | exact Or.inl rfl | exact Or.inr rfl) pe_int)
      (pss_cons (ps_while PassesOwn.never (pt_cmpR op_gt (pv 1) pe_int (nomark _)) (pss_cons (ps_if (pt_cmpR op_eq (pe_op op_mod (pv 1) pe_int) pe_int (nomark _)) (pss_one (ps_set (i := 2) sc_power.nd rfl (by first | exact Or.inl rfl | exact Or.inr rfl) (pe_op op_mulW (pv 2) (pv 0)))) pss_nil)
      (pss_one (ps_par (i := 0) (j := 1) (by rfl) sc_power.nd rfl rfl (by decide) rfl rfl (pa_cons (pe_op op_mulW (pv 0) (pv 0)) (pa_cons (pe_op op_fdivW (pv 1) pe_int) pa_nil)) (by rfl)))))
      (pss_one (ps_ret (pv 2))))), ?_⟩
  refine ⟨fun m σ H' => ∃ e f : Nat, H' = H ∧ σ = [some (.int (b ^ e)), some (.int (m : Int)), some (.int (b ^ f))] ∧ f + e * m = c.toNat ∧ 1 ≤ e, ⟨c.toNat, 1, 0, rfl, ?_, by omega, Nat.le_refl _⟩, ?_⟩
  · rw [Int.pow_succ, Int.pow_zero, Int.one_mul, show ((c.toNat : Nat) : Int) = c by omega]
    rfl
  rintro m σ H' ⟨e, f, rfl, rfl, hm, he⟩
  refine ⟨_, rfl, _, _, rfl, rfl, _, rfl, ite2 (fun q => ?_) (fun q => ?_)⟩
  · have hm0 : (0 : Int) < (m : Int) := of_decide_eq_true q
    have hm1 : 1 ≤ m := by omega
    have hem : e ≤ e * m := Nat.le_mul_of_pos_right e hm1
    have e200 : e ≤ 200 := by omega
    have f200 : f ≤ 200 := by omega
    have e2 : (m : Int) / 2 = ((m / 2 : Nat) : Int) := by omega
    refine ⟨fun σ' H'' => ∃ e f : Nat, H'' = H' ∧ σ' = [some (.int (b ^ e)), some (.int ((m / 2 : Nat) : Int)), some (.int (b ^ f))] ∧ f + e * (m / 2) = c.toNat ∧ 1 ≤ e, fun σ' H'' q => ⟨m / 2, by omega, q⟩, ?_⟩
    refine ⟨_, rfl, _, _, rfl, rfl, (by show (0 : Int) < 2; decide), rfl, _, rfl, ite2 (fun q2 => ?_) (fun q2 => ?_)⟩
    · have odd : (m : Int) % 2 = 1 := V.int.inj (of_decide_eq_true q2)
      refine ⟨_, rfl, _, rfl, _, _, rfl, rfl, mulW_pow b0 b1 (by omega) (by omega), _, rfl, _, rfl, _, _, rfl, rfl, mulW_pow b0 b1 (by omega) (by omega), _, rfl, _, _, rfl, rfl, ⟨by decide, by decide⟩, _, _, rfl, e + e, f + e, rfl, ?_, ?_, by omega⟩
      · show [some (V.int (b ^ e * b ^ e)), some (V.int ((m : Int) / 2)), some (V.int (b ^ f * b ^ e))] = _
        rw [e2, Int.pow_add b e e, Int.pow_add b f e]
      · have h3 : m = 2 * (m / 2) + 1 := by omega
        have h4 : e * m = e * (2 * (m / 2) + 1) := congrArg (e * ·) h3
        rw [Nat.mul_add, Nat.mul_one, ← Nat.mul_assoc, Nat.mul_comm e 2, Nat.two_mul] at h4
        omega
    · have ev : ¬ (m : Int) % 2 = 1 := fun z => q2 (decide_eq_true (congrArg V.int z))
      refine ⟨_, rfl, _, rfl, _, _, rfl, rfl, mulW_pow b0 b1 (by omega) (by omega), _, rfl, _, _, rfl, rfl, ⟨by decide, by decide⟩, _, _, rfl, e + e, f, rfl, ?_, ?_, by omega⟩
      · show [some (V.int (b ^ e * b ^ e)), some (V.int ((m : Int) / 2)), some (V.int (b ^ f))] = _
        rw [e2, Int.pow_add b e e]
      · have h3 : m = 2 * (m / 2) := by omega
        have h4 : e * m = e * (2 * (m / 2)) := congrArg (e * ·) h3
        rw [← Nat.mul_assoc, Nat.mul_comm e 2, Nat.two_mul] at h4
        omega
  · have hm0 : ¬ (0 : Int) < (m : Int) := fun z => q (decide_eq_true z)
    have hm1 : m = 0 := by omega
    subst hm1
    have : f = c.toNat := by omega
    subst this
    exact ⟨_, rfl, k⟩
theorem mulW_lt {i j : Int} {a b : Nat} (ha : i.natAbs < 2 ^ a) (hb : j.natAbs < 2 ^ b) (h0 : 0 < a) (h1 : 0 < b) (h : a + b ≤ 1000000) : CMulW i j ∧ (i * j).natAbs < 2 ^ (a + b) := ⟨wide_mul ha hb h0 h1 h, wide_lt ha hb⟩
theorem c_is_borne (T : Top K mg) : Cl P w K mg base 2 "is_borne" spBorne := by
  have c_power := c_power (P := P) (w := w) (base := base) T
  refine T.d_is_borne.ok sc_is_borne (fun vs H Q h => ?_) (fun f cdv A outer s H E vs Q hr h => ?_)
  · obtain ⟨b, d, w, h, u, rfl, _⟩ := h
    rfl
  obtain ⟨b, d, wt, hd, u, rfl, b1, b2, u1, u2, d5, w0, w6, h0, h2, k⟩ := h
  refine ⟨_, (pss_cons (ps_set (i := 5) sc_is_borne.nd rfl (by first | exact Or.inl rfl | exact Or.inr rfl) (pe_op op_mulW (pe_op op_mulW (pe_op op_mulW (pe_c c_power (hr.mono (by omega)) (pa_cons (pe_op op_add (pe_k T.c_MOST_STAKE) (pv 0)) (pa_cons (pe_op op_add (pv 1) (pv 4)) pa_nil))) (pe_c c_power (hr.mono (by omega)) (pa_cons (pe_op op_sub (pe_k T.c_MOST_STAKE) (pv 0)) (pa_cons (pe_op op_sub (pv 1) (pv 4)) pa_nil)))) (pv 2)) (pv 2)))
      (pss_one (ps_ret (pe_cmpR op_le (pv 5) (pe_op op_mulW (pe_op op_mulW (pe_c c_power (hr.mono (by omega)) (pa_cons (pe_k T.c_MOST_STAKE) (pa_cons (pe_op op_mulW pe_int (pv 1)) pa_nil))) (pv 3)) (pv 3)) (nomark _))))), ?_⟩
  have pa := pow_small (b := 500 + b) (by omega) (by omega) (d + u).toNat
  have pb := pow_small (b := 500 - b) (by omega) (by omega) (d - u).toNat
  have pc := pow_small (b := 500) (by omega) (by omega) (2 * d).toNat
  have ww : wt.natAbs < 2 ^ 60 := abs_lt w0 w6
  have hh : hd.natAbs < 2 ^ 200 := abs_lt h0 h2
  have m1 := mulW_lt pa pb (by omega) (by omega) (by omega)
  have m2 := mulW_lt m1.2 ww (by omega) (by omega) (by omega)
  have m3 := mulW_lt m2.2 ww (by omega) (by omega) (by omega)
  have m4 := mulW_lt pc hh (by omega) (by omega) (by omega)
  have m5 := mulW_lt m4.2 hh (by omega) (by omega) (by omega)
  refine ⟨_, rfl, _, _, rfl, rfl, _, rfl, _, rfl, _, _, rfl, rfl, 500 + b, d + u, rfl, by omega, by omega, by omega, by omega, ?_⟩
  refine ⟨_, rfl, _, _, rfl, rfl, _, rfl, _, rfl, _, _, rfl, rfl, 500 - b, d - u, rfl, by omega, by omega, by omega, by omega, ?_⟩
  refine ⟨_, _, rfl, rfl, m1.1, _, rfl, _, _, rfl, rfl, m2.1, _, rfl, _, _, rfl, rfl, m3.1, ?_⟩
  refine ⟨_, rfl, _, rfl, _, _, rfl, rfl, wide_mul (a := 2) (b := 6) (by decide) (by omega) (by decide) (by decide) (by decide), 500, 2 * d, rfl, by omega, by omega, by omega, by omega, ?_⟩
  refine ⟨_, rfl, _, _, rfl, rfl, m4.1, _, rfl, _, _, rfl, rfl, m5.1, _, _, rfl, rfl, k _ ?_⟩
  exact decide_eq_true_iff
theorem c_most_off (T : Top K mg) : Cl P w K mg base 3 "most_off" spMost := by
  have c_is_borne := c_is_borne (P := P) (w := w) (base := base) T
  refine T.d_most_off.ok sc_most_off (fun vs H Q h => ?_) (fun f cdv A outer s H E vs Q hr h => ?_)
  · obtain ⟨b, d, w, h, u, rfl, _⟩ := h
    rfl
  obtain ⟨b, d, wt, hd, u, rfl, b1, b2, u1, u2, d5, w0, w6, h0, h2, hb, k⟩ := h
  refine ⟨_, (pss_cons (ps_par (i := 4) (j := 5) (by rfl) sc_most_off.nd rfl rfl (by decide) rfl rfl (pa_cons (pe_op op_sub (pe_un un_neg (pv 1)) pe_int) (pa_cons (pv 1) pa_nil)) (by rfl))
      (pss_cons (ps_while PassesOwn.never (pt_cmpR op_lt (pv 4) (pv 5) (nomark _)) (pss_cons (ps_set (i := 6) sc_most_off.nd rfl (by first | exact Or.inl rfl | exact Or.inr rfl) (pe_op op_fdivW (pe_op op_add (pe_op op_add (pv 4) (pv 5)) pe_int) pe_int))
      (pss_one (ps_if (pt_val (pe_c c_is_borne (hr.mono (by omega)) (pa_cons (pv 0) (pa_cons (pv 1) (pa_cons (pv 2) (pa_cons (pv 3) (pa_cons (pv 6) pa_nil))))))) (pss_one (ps_set (i := 4) sc_most_off.nd rfl (by first | exact Or.inl rfl | exact Or.inr rfl) (pv 6))) (pss_one (ps_set (i := 5) sc_most_off.nd rfl (by first | exact Or.inl rfl | exact Or.inr rfl) (pe_op op_sub (pv 6) pe_int)))))))
      (pss_one (ps_ret (pe_ifExp (pt_cmpR op_ge (pv 4) (pe_un un_neg (pv 1)) (nomark _)) (pv 4) pe_non))))), ?_⟩
  refine ⟨_, rfl, _, rfl, _, _, rfl, rfl, _, rfl, _, _, rfl, ?_⟩
  refine ⟨fun m σ H' => ∃ (lo hi : Int) (v : Option V), H' = H ∧ σ = [some (.int b), some (.int d), some (.int wt), some (.int hd), some (.int lo), some (.int hi), v] ∧ (m : Int) = hi - lo ∧ lo ≤ hi ∧ -d - 1 ≤ lo ∧ hi ≤ d ∧ u ≤ hi, ⟨(d - (-d - 1)).toNat, -d - 1, d, none, rfl, rfl, by omega, by omega, by omega, by omega, by omega⟩, ?_⟩
  rintro m σ H' ⟨lo, hi, v, rfl, rfl, hm, l1, l2, l3, l4⟩
  refine ⟨_, rfl, _, rfl, _, _, rfl, rfl, _, rfl, ite2 (fun q => ?_) (fun q => ?_)⟩
  · have hlt : lo < hi := of_decide_eq_true q
    have a1 : lo < (lo + hi + 1) / 2 := by omega
    have a2 : (lo + hi + 1) / 2 ≤ hi := by omega
    generalize hA : (lo + hi + 1) / 2 = am at a1 a2
    refine ⟨fun σ' H'' => ∃ (lo' hi' : Int) (v : Option V), H'' = H' ∧ σ' = [some (.int b), some (.int d), some (.int wt), some (.int hd), some (.int lo'), some (.int hi'), v] ∧ hi' - lo' < hi - lo ∧ lo' ≤ hi' ∧ -d - 1 ≤ lo' ∧ hi' ≤ d ∧ u ≤ hi', ?_, ?_⟩
    · rintro σ' H'' ⟨lo', hi', v', rfl, rfl, r1, r2, r3, r4, r5⟩
      exact ⟨(hi' - lo').toNat, by omega, lo', hi', v', rfl, rfl, by omega, r2, r3, r4, r5⟩
    refine ⟨_, rfl, _, rfl, _, _, rfl, rfl, _, _, rfl, rfl, _, _, rfl, rfl, ⟨by decide, by decide⟩, ?_⟩
    refine ⟨_, rfl, _, rfl, _, rfl, _, rfl, _, rfl, b, d, wt, hd, am, ?_, b1, b2, by omega, by omega, d5, w0, w6, h0, h2, fun kk hk => ⟨kk, rfl, ite2 (fun q2 => ?_) (fun q2 => ?_)⟩⟩
    · show [V.int b, V.int d, V.int wt, V.int hd, V.int ((lo + hi + 1) / 2)] = _
      rw [hA]
    · refine ⟨_, rfl, am, hi, some (.int am), rfl, ?_, by omega, by omega, by omega, by omega, by omega⟩
      show [some (V.int b), some (V.int d), some (V.int wt), some (V.int hd), some (V.int ((lo + hi + 1) / 2)), some (V.int hi), some (V.int ((lo + hi + 1) / 2))] = _
      rw [hA]
    · refine ⟨_, rfl, _, _, rfl, rfl, lo, am - 1, some (.int am), rfl, ?_, by omega, by omega, by omega, by omega, ?_⟩
      · show [some (V.int b), some (V.int d), some (V.int wt), some (V.int hd), some (V.int lo), some (V.int ((lo + hi + 1) / 2 - 1)), some (V.int ((lo + hi + 1) / 2))] = _
        rw [hA]
      · by_cases c : u ≤ am - 1
        · exact c
        · exact absurd (hk.mpr (borne_below (by omega) b2 w0 (by omega) (by omega) (by omega) hb)) q2
  · have hlt : ¬ lo < hi := fun z => q (decide_eq_true z)
    have e : lo = hi := by omega
    subst e
    refine ⟨_, rfl, _, rfl, _, rfl, _, _, rfl, rfl, _, rfl, iteY (decide_eq_true (by omega)) ⟨_, rfl, k _ (by omega) l3⟩⟩
def ab (l : List (Int × Int)) : List Int := l.flatMap fun s => [iabs s.1, iabs s.2]
theorem ab_len (l : List (Int × Int)) : (ab l).length = 2 * l.length := by
  induction l with
  | nil => rfl
  | cons a r ih =>
    show ([iabs a.1, iabs a.2] ++ ab r).length = _
    rw [List.length_append, ih, List.length_cons]
    show 2 + 2 * r.length = 2 * (r.length + 1)
    omega
theorem c_bound (T : Top K mg) : Cl P w K mg base 10 "bound" (spBound K) := by
  have c_span := c_span (P := P) (w := w) (base := base) T 8
  obtain ⟨aS, hSC, tSC⟩ := T.c_SCALES
  refine T.d_bound.ok sc_bound (fun vs H Q h => ?_) (fun f cdv A outer s H E vs Q hr h => ?_)
  · obtain ⟨v, many, S, b, rfl, _⟩ := h
    rfl
  obtain ⟨v, many, S, b, rfl, hD, k⟩ := h
  obtain ⟨p, nm, sc, bg, sk, bh, sps, far, rfl, h1, hs, hg, ⟨ps, xs, rfl, hx, ⟨lx, l3⟩, ln, hst⟩, hf, h5, rfl, hb⟩ := hD
  refine ⟨_, (pss_cons (ps_set (i := 1) sc_bound.nd rfl (by first | exact Or.inl rfl | exact Or.inr rfl) (pe_callB (crMax K rfl) (by rfl) T.b_max (by decide +kernel) (pa_cons (pe_lc2 (own := [("stake", 2), ("end", 3)]) (vs1 := [3]) rfl sc_bound.nd (piT K (pe_ix (ixT K) (pv 0) pe_int (fun _ _ => rfl))) (blkOk_by (own := [("stake", 2), ("end", 3)]) (N := N_bound) (sc := defScope s_bound) (by decide +kernel)) (by decide) (fun _ _ _ _ _ => (pg_name (i := 2) sc_bound.nd rfl (by first | exact Or.inl rfl | exact Or.inr rfl))) (fun _ _ _ _ _ => pts_nil) (fun _ _ _ _ _ => (piT K (pe_c c_span (hr.mono (by omega)) (pa_cons (pv 2) pa_nil)))) (fun _ _ _ _ _ => (pg_name (i := 3) sc_bound.nd rfl (by first | exact Or.inl rfl | exact Or.inr rfl))) (fun _ _ _ _ _ => pts_nil) (fun _ _ _ _ _ => (pe_callB call_abs (by rfl) T.b_abs (by decide +kernel) (pa_cons (pv 3) pa_nil)))) pa_nil)))
      (pss_one (ps_ret (pe_callB (call_max2 rfl) (by rfl) T.b_max (by decide +kernel) (pa_cons pe_int (pa_cons (pe_un un_neg (pe_op op_fdivW (pe_un un_neg (pv 1)) (pe_ix (ixT K) (pe_k hSC) (pe_ix (ixT K) (pv 0) pe_int (fun _ _ => rfl)) (fun _ _ => rfl)))) pa_nil)))))), ?_⟩
  refine ⟨_, rfl, _, _, _, _, rfl, rfl, h1, rfl, ps, rfl, ⟨_, hx⟩, fun D hD => ?_⟩
  refine it_tup (xs := xs) (fun i H' => Same H H' ∧ H' D = some (.lst ((ab (sps.take i)).map V.int))) ⟨same_new hD, upd_same⟩ (fun i H' _ q => tk_same q.1 _ _ hx) ?_ ?_
  · rintro i x H' hi ⟨s2, hl⟩
    have li : i < xs.length := (List.getElem?_eq_some_iff.mp hi).1
    have lj : i < sps.length := by omega
    have hs2 : sps[i]? = some sps[i] := List.getElem?_eq_getElem lj
    have hE := (hst i x _ hi hs2).tk (tk_same s2)
    refine ⟨rfl, _, rfl, _, many, _, _, rfl, hE, fun r H1 s1 hr => ⟨r, rfl, ⟨_, hr⟩, ?_⟩⟩
    have lenab : (ab (sps.take i)).length + 2 < 1000 := by
      rw [ab_len, List.length_take]
      omega
    have hD1 : H1 D = some (.lst ((ab (sps.take i)).map V.int)) := s1 _ _ hl
    refine it_tup (xs := [.int sps[i].1, .int sps[i].2]) (fun j H'' => Kp D H1 H'' ∧ H'' D = some (.lst ((ab (sps.take i) ++ [iabs sps[i].1, iabs sps[i].2].take j).map V.int))) ⟨Kp.refl _ _, ?_⟩ (fun j H'' _ q => tk_kp q.1 hD1 _ _ hr) ?_ ?_
    · rw [List.take_zero, List.append_nil]
      exact hD1
    · rintro j y H'' hy ⟨k2, hl2⟩
      refine ⟨rfl, _, rfl, ?_⟩
      match j, hy with
      | 0, hy =>
        cases hy
        refine ⟨sps[i].1, rfl, _, hl2, szl ?_, kp_put k2, ?_⟩
        · rw [List.length_map, List.length_append]
          show (ab (sps.take i)).length + 0 < 1000
          omega
        · rw [upd_same]
          show some (HO.lst ((ab (sps.take i) ++ []).map V.int ++ [V.int (iabs sps[i].1)])) = some (HO.lst ((ab (sps.take i) ++ [iabs sps[i].1]).map V.int))
          rw [List.append_nil, List.map_append]
          rfl
      | 1, hy =>
        cases hy
        refine ⟨sps[i].2, rfl, _, hl2, szl ?_, kp_put k2, ?_⟩
        · rw [List.length_map, List.length_append]
          show (ab (sps.take i)).length + 1 < 1000
          omega
        · rw [upd_same]
          show some (HO.lst ((ab (sps.take i) ++ [iabs sps[i].1]).map V.int ++ [V.int (iabs sps[i].2)])) = some (HO.lst ((ab (sps.take i) ++ [iabs sps[i].1, iabs sps[i].2]).map V.int))
          rw [List.map_append, List.map_append, List.append_assoc]
          rfl
      | j + 2, hy => simp at hy
    · rintro H'' ⟨k2, hl2⟩
      refine ⟨sm_kp (s2.trans s1) hD k2, ?_⟩
      rw [hl2, List.take_add_one, hs2]
      unfold ab
      rw [List.flatMap_append]
      rfl
  · rintro H' ⟨s2, hl⟩
    rw [ln, List.take_length] at hl
    have hD' : SqL K H' D ((ab sps).map V.int) := SqL.of hl
    obtain ⟨s1, s1m, e1⟩ := hf.one
    have inab : ∀ s ∈ sps, iabs s.1 ∈ ab sps ∧ iabs s.2 ∈ ab sps := fun s hs => ⟨List.mem_flatMap.mpr ⟨s, hs, by simp⟩, List.mem_flatMap.mpr ⟨s, hs, by simp⟩⟩
    have farin : far ∈ ab sps := by
      rcases e1 with e1 | e1
      · rw [e1]; exact (inab s1 s1m).1
      · rw [e1]; exact (inab s1 s1m).2
    refine ⟨D, ab sps, rfl, hD', List.length_pos_of_mem farin, fun m hm hle => ?_⟩
    have em : m = far := by
      have a1 := hle far farin
      obtain ⟨s, hs, hz⟩ := List.mem_flatMap.mp hm
      have a2 := hf.all s hs
      have : m = iabs s.1 ∨ m = iabs s.2 := by simpa using hz
      omega
    subst em
    obtain ⟨sc0, sc4, scS⟩ := hs
    have hat : atI [V.int 1, .int 2, .int 4, .int 8, .int 16] sc = some (.int S) := by
      have := scS
      obtain ⟨r, q1, q2, q3⟩ := at_int (ns := [1, 2, 4, 8, 16]) sc0 (show sc < 5 by omega)
      rw [scS] at q2
      cases q2
      exact q1
    have hS := ScaleOf.range ⟨sc0, sc4, scS⟩
    refine ⟨_, rfl, _, rfl, _, rfl, _, _, _, _, rfl, rfl, tk_same s2 _ _ h1, rfl, _, _, _, _, rfl, rfl, tSC _, hat, _, _, rfl, rfl, wide_div (b := 5) (by omega) (by omega) (by decide) (by decide), _, rfl, _, _, rfl, ?_⟩
    exact k H' s2
theorem c_off (T : Top K mg) : Cl P w K mg base 11 "off" (spOff K) := by
  have c_bound := c_bound (P := P) (w := w) (base := base) T
  refine T.d_off.ok sc_off (fun vs H Q h => ?_) (fun f cdv A outer s H E vs Q hr h => ?_)
  · obtain ⟨v, many, S, b, wt, m, o, d, g, rfl, _⟩ := h
    rfl
  obtain ⟨v, many, S, b, wt, m, o, d, g, rfl, ⟨p, db, rg, rfl, h1, hD, hR⟩, g0, g1, k⟩ := h
  refine ⟨_, (pss_one (ps_ret (pe_op op_fdivW (pe_op op_mul (pe_k T.c_MOST_STAKE) (pe_ix (ixT K) (pv 0) pe_int (fun _ _ => rfl))) (pe_op op_mul (pe_k T.c_PARTS) (pe_c c_bound (hr.mono (by omega)) (pa_cons (pe_ix (ixT K) (pv 0) pe_int (fun _ _ => rfl)) pa_nil)))))), ?_⟩
  obtain ⟨b1, b2, _, _⟩ := hD.b
  refine ⟨_, rfl, _, _, _, _, rfl, rfl, h1, rfl, _, _, rfl, rfl, .inl ⟨by omega, by omega⟩, ?_⟩
  refine ⟨_, rfl, _, _, _, _, rfl, rfl, h1, rfl, db, many, S, b, rfl, hD, fun H' s1 => ?_⟩
  refine ⟨_, _, rfl, rfl, .inl ⟨by omega, by omega⟩, _, _, rfl, rfl, wide_div (b := 60) (by omega) (by omega) (by decide) (by decide), ?_⟩
  exact k H' s1
theorem c_sure (T : Top K mg) : Cl P w K mg base 11 "sure" (spSure K) := by
  have c_bound := c_bound (P := P) (w := w) (base := base) T
  have c_most_off := c_most_off (P := P) (w := w) (base := base) T
  refine T.d_sure.ok sc_sure (fun vs H Q h => ?_) (fun f cdv A outer s H E vs Q hr h => ?_)
  · obtain ⟨v, many, S, b, wt, m, o, d, g, u, rfl, _⟩ := h
    rfl
  obtain ⟨v, many, S, b, wt, m, o, d, g, u, rfl, ⟨p, db, rg, rfl, h1, hD, hR⟩, u1, u2, d5, w0, w6, m0, m2, hb, k⟩ := h
  refine ⟨_, (pss_one (ps_ret (pe_c c_most_off (hr.mono (by omega)) (pa_cons (pe_c c_bound (hr.mono (by omega)) (pa_cons (pe_ix (ixT K) (pv 0) pe_int (fun _ _ => rfl)) pa_nil)) (pa_cons (pe_ix (ixT K) (pv 0) pe_int (fun _ _ => rfl)) (pa_cons (pe_ix (ixT K) (pv 0) pe_int (fun _ _ => rfl)) (pa_cons (pe_op op_add (pe_ix (ixT K) (pv 0) pe_int (fun _ _ => rfl)) (pe_ix (ixT K) (pv 0) pe_int (fun _ _ => rfl))) pa_nil))))))), ?_⟩
  obtain ⟨b1, b2, _, _⟩ := hD.b
  refine ⟨_, rfl, _, _, _, _, rfl, rfl, h1, rfl, db, many, S, b, rfl, hD, fun H' s1 => ?_⟩
  have h2 := tk_same s1 _ _ h1
  refine ⟨_, rfl, _, _, _, _, rfl, rfl, h2, rfl, _, rfl, _, _, _, _, rfl, rfl, h2, rfl, _, rfl, _, _, _, _, rfl, rfl, h2, rfl, _, rfl, _, _, _, _, rfl, rfl, h2, rfl, _, _, rfl, rfl, ?_⟩
  exact ⟨b, d, wt, m + o, u, rfl, b1, b2, u1, u2, d5, w0, w6, m0, m2, hb, fun r r1 r2 => k r H' s1 r1 r2⟩
end
end Nr

/-! The shelf: on_one, tent, by_registers, rival, after, lagging. -/
namespace Nr
open PySem PySem.Spec PyProof.Rows L2

theorem tk_put {K : PySem.W.Frag} {H : Hp} {D : Addr} {ys : List V} {z : HO} (h : H D = some (.lst ys)) : Tk K H (upd H D z) := tk_kp (a := D) (kp_put (Kp.refl D H)) h
theorem sm_put {H H1 : Hp} {D : Addr} {z : HO} (s : Same H H1) (hD : H D = none) : Same H (upd H1 D z) := sm_kp s hD (kp_put (Kp.refl D H1))
theorem snoc_get {α : Type} {ys : List α} {y : α} {j : Nat} {x : α} (h : (ys ++ [y])[j]? = some x) : ys[j]? = some x ∨ (j = ys.length ∧ x = y) := by
  by_cases c : j < ys.length
  · rw [List.getElem?_append_left c] at h
    exact .inl h
  · rw [List.getElem?_append_right (by omega)] at h
    have : j - ys.length = 0 := by
      cases e : j - ys.length with
      | zero => rfl
      | succ n => rw [e] at h; simp at h
    rw [this] at h
    exact .inr ⟨by omega, (Option.some.inj h).symm⟩
/-- expressions and their spans, side by side -/
def Al (K : PySem.W.Frag) (H : Hp) (many : Int) (ys : List V) (sps : List (Int × Int)) : Prop := ys.length = sps.length ∧ ∀ (j : Nat) (x : V) (s : Int × Int), ys[j]? = some x → sps[j]? = some s → IsE K H many 8 x s.1 s.2
theorem Al.nil {K : PySem.W.Frag} {H : Hp} {many : Int} : Al K H many [] [] := ⟨rfl, fun j x s h => by simp at h⟩
theorem Al.tk {K : PySem.W.Frag} {H H' : Hp} {many : Int} {ys : List V} {sps : List (Int × Int)} (a : Al K H many ys sps) (t : Tk K H H') : Al K H' many ys sps := ⟨a.1, fun j x s h1 h2 => (a.2 j x s h1 h2).tk t⟩
theorem Al.snoc {K : PySem.W.Frag} {H : Hp} {many : Int} {ys : List V} {sps : List (Int × Int)} {y : V} {lo hi : Int} (a : Al K H many ys sps) (e : IsE K H many 8 y lo hi) : Al K H many (ys ++ [y]) (sps ++ [(lo, hi)]) := by
  refine ⟨by rw [List.length_append, List.length_append, a.1, List.length_singleton, List.length_singleton], fun j x s h1 h2 => ?_⟩
  have hl := a.1
  rcases snoc_get h1 with h1 | ⟨j1, rfl⟩
  · have jl : j < ys.length := (List.getElem?_eq_some_iff.mp h1).1
    rcases snoc_get h2 with h2 | ⟨j2, rfl⟩
    · exact a.2 j x s h1 h2
    · omega
  · rcases snoc_get h2 with h2 | ⟨j2, rfl⟩
    · have := (List.getElem?_eq_some_iff.mp h2).1
      omega
    · exact e
theorem Al.st {K : PySem.W.Frag} {H : Hp} {many : Int} {ys : List V} {sps : List (Int × Int)} {p : Addr} (a : Al K H many ys sps) (h : SqT K H p ys) (l : (ys.length : Int) = many) (m : many ≤ 3) : IsSt K H many (.ref p) sps := ⟨p, ys, rfl, h, ⟨l, m⟩, a.1, a.2⟩

def spOnOne (K : PySem.W.Frag) : Pr := fun vs H Q => ∃ (many sign : Int) (v : V) (lo hi : Int), vs = [.int many, .int sign, v] ∧ 2 ≤ many ∧ many ≤ 3 ∧ 0 ≤ sign ∧ sign < many ∧ IsE K H many 8 v lo hi ∧
  ∀ r H' sps, Same H H' → IsSt K H' many r sps → FarOf (imax (iabs lo) (iabs hi)) sps → Q r H'
def spByReg (K : PySem.W.Frag) : Pr := fun vs H Q => ∃ many : Int, vs = [.int many] ∧ 2 ≤ many ∧ many ≤ 3 ∧ ∀ r H' sps, Same H H' → IsSt K H' many r sps → FarOf 2000 sps → Q r H'
/-- a doubter is told -/
def TellsDb (K : PySem.W.Frag) (many : Int) (H : Hp) (Q : VK) : Prop := ∀ r H' S b, Same H H' → IsDb K H' many S b r → Q r H'
def spTent (K : PySem.W.Frag) : Pr := fun vs H Q => ∃ many sign centre wide side : Int, vs = [.int many, .int sign, .int centre, .int wide, .int side] ∧ 2 ≤ many ∧ many ≤ 3 ∧ 0 ≤ sign ∧ sign < many ∧ 0 ≤ centre ∧ centre ≤ 1000 ∧ 1 ≤ wide ∧ wide ≤ 500 ∧ TellsDb K many H Q
def spRival (K : PySem.W.Frag) : Pr := fun vs H Q => ∃ (many : Int) (p : Addr) (ts : List Int), vs = [.int many, .ref p] ∧ 2 ≤ many ∧ many ≤ 3 ∧ SqT K H p (ts.map V.int) ∧ (ts.length : Int) = many ∧ (∀ t ∈ ts, 0 ≤ t ∧ t ≤ 1000) ∧ TellsDb K many H Q
def spAfter (K : PySem.W.Frag) : Pr := fun vs H Q => ∃ many sign then_ side : Int, vs = [.int many, .int sign, .int then_, .int side] ∧ 2 ≤ many ∧ many ≤ 3 ∧ 0 ≤ then_ ∧ then_ < many ∧ (side = 1 ∨ side = -1) ∧ TellsDb K many H Q
def spLagging (K : PySem.W.Frag) : Pr := fun vs H Q => ∃ many : Int, vs = [.int many] ∧ 2 ≤ many ∧ many ≤ 3 ∧ TellsDb K many H Q

theorem flat_one {α : Type} (x : α) : ∀ n : Nat, (List.replicate n [x]).flatten = List.replicate n x
  | 0 => rfl
  | n + 1 => by
    show [x] ++ (List.replicate n [x]).flatten = _
    rw [flat_one x n]
    rfl
theorem zeros_reg {K : PySem.W.Frag} {H : Hp} {p : Addr} (h : SqT K H p (List.replicate (4 : Int).toNat [V.int 0]).flatten) : IsReg K H (.ref p) :=
  ⟨p, [0, 0, 0, 0], rfl, h, rfl, fun r hr => by
    have : r = 0 := by simpa using hr
    omega⟩
/-- as many times the same deeds -/
theorem same_beh {K : PySem.W.Frag} {H : Hp} {many : Int} {p : Addr} {d : V} (m : 2 ≤ many) (h : SqT K H p (List.replicate many.toNat [d]).flatten) (hd : IsDeeds K H many 1 d) : IsBeh K H many (.ref p) := by
  rw [flat_one] at h
  refine ⟨p, _, rfl, h, by rw [List.length_replicate]; omega, fun x hx => ?_⟩
  rw [(List.mem_replicate.mp hx).2]
  exact hd
section
variable {P : Program} {w : World} {K : PySem.W.Frag} {mg : Str → Option Value} {base : Heap}
theorem c_on_one (T : Top K mg) : Cl P w K mg base 1 "on_one" (spOnOne K) := by
  obtain ⟨aI, hID, tID⟩ := T.c_IDLE
  refine T.d_on_one.ok sc_on_one (fun vs H Q h => ?_) (fun f cdv A outer s H E vs Q hr h => ?_)
  · obtain ⟨many, sign, v, lo, hi, rfl, _⟩ := h
    rfl
  obtain ⟨many, sign, v, lo, hi, rfl, m2, m3, s0, s1, hE, k⟩ := h
  refine ⟨_, (pss_one (ps_ret (pe_callTy (clTupleA K) (by rfl) T.b_tuple (by decide +kernel) (pa_cons (pe_lc (own := [("place", 3)]) rfl sc_on_one.nd (pi_range1 (by rfl) T.b_range (pa_cons (pv 0) pa_nil)) (blkOk_by (own := [("place", 3)]) (N := N_on_one) (sc := defScope s_on_one) (by decide +kernel)) (fun _ _ _ _ _ => (pg_name (i := 3) sc_on_one.nd rfl (by first | exact Or.inl rfl | exact Or.inr rfl))) (fun _ _ _ _ _ => pts_nil) (fun _ _ _ _ _ => (pe_ifExp (pt_cmpR op_eq (pv 3) (pv 1) (nomark _)) (pv 2) (pe_k hID)))) pa_nil)))), ?_⟩
  generalize hfar : imax (iabs lo) (iabs hi) = far at k
  have hf1 : iabs lo ≤ far ∧ iabs hi ≤ far ∧ 0 ≤ far ∧ (far = iabs lo ∨ far = iabs hi) := by
    rw [← hfar]
    unfold imax iabs
    split <;> split <;> split <;> omega
  refine ⟨_, rfl, many, rfl, by omega, by omega, fun D hD => ?_⟩
  refine it_range (fun i H' => Same H H' ∧ ∃ ys sps, H' D = some (.lst ys) ∧ ys.length = i ∧ Al K H many ys sps ∧ (∀ z ∈ sps, iabs z.1 ≤ far ∧ iabs z.2 ≤ far) ∧ (sign < (i : Int) → ∃ z ∈ sps, far = iabs z.1 ∨ far = iabs z.2))
    ⟨same_new hD, [], [], upd_same, rfl, Al.nil, by simp, fun z => by omega⟩ ?_ ?_
  · rintro i H' il ⟨e1, ys, sps, hl, ly, al, a1, a2⟩
    refine ⟨rfl, _, rfl, _, rfl, rfl, _, rfl, ite2 (fun c => ⟨_, rfl, ?_⟩) (fun c => ?_)⟩
    · refine ⟨ys, hl, szl (by omega), sm_put e1 hD, ys ++ [v], sps ++ [(lo, hi)], upd_same, by simp [ly], al.snoc hE, fun z hz => ?_, fun _ => ⟨(lo, hi), by simp, hf1.2.2.2⟩⟩
      rcases List.mem_append.mp hz with hz | hz
      · exact a1 z hz
      · have : z = (lo, hi) := by simpa using hz
        subst this
        exact ⟨hf1.1, hf1.2.1⟩
    · have ne : ¬ (0 + (i : Int)) = sign := fun z => c (decide_eq_true (congrArg V.int z))
      refine ⟨ys, hl, szl (by omega), sm_put e1 hD, ys ++ [.ref aI], sps ++ [(0, 0)], upd_same, by simp [ly], al.snoc (.fig (tID H)), fun z hz => ?_, fun hz => ?_⟩
      · rcases List.mem_append.mp hz with hz | hz
        · exact a1 z hz
        · have : z = (0, 0) := by simpa using hz
          subst this
          exact ⟨hf1.2.2.1, hf1.2.2.1⟩
      · obtain ⟨z, hz, q⟩ := a2 (by push_cast at hz; omega)
        exact ⟨z, List.mem_append_left _ hz, q⟩
  · rintro H' ⟨e1, ys, sps, hl, ly, al, a1, a2⟩
    refine ⟨D, ys, rfl, SqL.of hl, fun r H2 e2 nr hr => ?_⟩
    have hz : sign < ((many.toNat : Nat) : Int) := by clear a1 a2; omega
    have lm : (ys.length : Int) = many := by clear a1 a2; omega
    exact k (.ref r) H2 sps (e1.trans e2) ((al.tk (tk_same (e1.trans e2))).st hr lm m3) ⟨a1, a2 hz⟩
theorem c_by_registers (T : Top K mg) : Cl P w K mg base 1 "by_registers" (spByReg K) := by
  refine T.d_by_registers.ok sc_by_registers (fun vs H Q h => ?_) (fun f cdv A outer s H E vs Q hr h => ?_)
  · obtain ⟨many, rfl, _⟩ := h
    rfl
  obtain ⟨many, rfl, m2, m3, k⟩ := h
  refine ⟨_, (pss_one (ps_ret (pe_callTy (clTupleA K) (by rfl) T.b_tuple (by decide +kernel) (pa_cons (pe_lc (own := [("sign", 1)]) rfl sc_by_registers.nd (pi_range1 (by rfl) T.b_range (pa_cons (pv 0) pa_nil)) (blkOk_by (own := [("sign", 1)]) (N := N_by_registers) (sc := defScope s_by_registers) (by decide +kernel)) (fun _ _ _ _ _ => (pg_name (i := 1) sc_by_registers.nd rfl (by first | exact Or.inl rfl | exact Or.inr rfl))) (fun _ _ _ _ _ => pts_nil) (fun _ _ _ _ _ => (pe_tupA K (pa_cons pe_str (pa_cons (pe_tupA K (pa_cons pe_str (pa_cons (pv 1) pa_nil))) (pa_cons (pe_tupA K (pa_cons pe_str (pa_cons (pv 1) pa_nil))) pa_nil)))))) pa_nil)))), ?_⟩
  refine ⟨_, rfl, many, rfl, by omega, by omega, fun D hD => ?_⟩
  refine it_range (fun i H' => Same H H' ∧ ∃ ys, H' D = some (.lst ys) ∧ ys.length = i ∧ Al K H' many ys (List.replicate i ((-2000 : Int), (1000 : Int)))) ⟨same_new hD, [], upd_same, rfl, Al.nil⟩ ?_ ?_
  · rintro i H' hi ⟨e1, ys, hl, ly, al⟩
    refine ⟨rfl, _, rfl, szb, fun p1 H1 s1 n1 t1 => ⟨_, rfl, szb, fun p2 H2 s2 n2 t2 => ⟨szb, fun p3 H3 s3 n3 t3 => ?_⟩⟩⟩
    have hl3 := (s1.trans (s2.trans s3)) _ _ hl
    refine ⟨ys, hl3, szl (by omega), sm_put (e1.trans (s1.trans (s2.trans s3))) hD, ys ++ [.ref p3], upd_same, by simp [ly], ?_⟩
    rw [List.replicate_succ']
    have e : IsE K H3 many 8 (.ref p3) (-1000 - 1000) (1000 - 0) := .less t3 (.reg (tk_same (s2.trans s3) _ _ t1) (by omega) (by omega)) (.share (tk_same s3 _ _ t2) (by omega) (by omega))
    exact ((al.tk (tk_same (s1.trans (s2.trans s3)))).snoc e).tk (tk_put hl3)
  · rintro H' ⟨e1, ys, hl, ly, al⟩
    refine ⟨D, ys, rfl, SqL.of hl, fun r H2 e2 nr hr => ?_⟩
    refine k (.ref r) H2 _ (e1.trans e2) ((al.tk (tk_same e2)).st hr (by omega) m3) ⟨fun z hz => ?_, ⟨(-2000, 1000), ?_, .inl (by decide)⟩⟩
    · rw [(List.mem_replicate.mp hz).2]
      exact ⟨by decide, by decide⟩
    · exact List.mem_replicate.mpr ⟨by omega, rfl⟩
theorem c_rival (T : Top K mg) : Cl P w K mg base 2 "rival" (spRival K) := by
  have c_by_registers := c_by_registers (P := P) (w := w) (base := base) T
  refine T.d_rival.ok sc_rival (fun vs H Q h => ?_) (fun f cdv A outer s H E vs Q hr h => ?_)
  · obtain ⟨many, p, ts, rfl, _⟩ := h
    rfl
  obtain ⟨many, p, ts, rfl, m2, m3, h1, lt, ht, k⟩ := h
  refine ⟨_, (pss_cons (ps_set (i := 2) sc_rival.nd rfl (by first | exact Or.inl rfl | exact Or.inr rfl) (pe_op (opCatTA K) (pv 1) (pe_op (opRepTA K) (pe_tupA K (pa_cons pe_int pa_nil)) (pe_op op_sub (pe_k T.c_REGISTERS) (pv 0)))))
      (pss_one (ps_ret (pe_tupA K (pa_cons pe_str (pa_cons pe_int (pa_cons (pv 2) (pa_cons (pe_c c_by_registers (hr.mono (by omega)) (pa_cons (pv 0) pa_nil)) (pa_cons (pe_op (opRepTA K) (pe_tupA K (pa_cons (pe_tupA K pa_nil) pa_nil)) (pv 0)) pa_nil))))))))), ?_⟩
  refine ⟨_, rfl, szb, fun p1 H1 s1 n1 t1 => ⟨_, rfl, _, _, rfl, rfl, p1, _, _, rfl, rfl, t1, by simp, by omega, by omega, by decide, fun p2 H2 s2 t2 => ?_⟩⟩
  rw [flat_one] at t2
  refine ⟨p, p2, _, _, rfl, rfl, tk_same (s1.trans s2) _ _ h1, t2, sz (by rw [List.length_map, List.length_replicate]; omega), fun p3 H3 s3 t3 => ?_⟩
  refine ⟨_, rfl, _, rfl, many, rfl, m2, m3, fun r4 H4 sps s4 st far => ⟨szb, fun p5 H5 s5 n5 t5 => ⟨szb, fun p6 H6 s6 n6 t6 => ⟨_, rfl, p6, _, _, rfl, rfl, t6, by simp, by omega, by omega, by show 1 ≤ 1000; decide, fun p7 H7 s7 t7 => ⟨szb, fun p8 H8 s8 n8 t8 => ?_⟩⟩⟩⟩⟩
  have g58 := s6.trans (s7.trans s8)
  refine k (.ref p8) H8 16 125 ((s1.trans (s2.trans (s3.trans (s4.trans s5)))).trans g58) ⟨p8, _, 4, _, _, _, sps, 2000, rfl, t8, ⟨by decide, by decide, rfl⟩, ?_, st.tk (tk_same (s5.trans g58)), far, by decide, by decide, same_beh m2 (tk_same s8 _ _ t7) (no_deeds (tk_same g58 _ _ t5) 1)⟩
  refine ⟨p3, ts ++ List.replicate (4 - many).toNat 0, rfl, ?_, ?_, fun r hr => ?_⟩
  · have := tk_same (s4.trans (s5.trans g58)) _ _ t3
    rw [List.map_append, List.map_replicate]
    exact this
  · rw [List.length_append, List.length_replicate]
    omega
  · rcases List.mem_append.mp hr with hr | hr
    · have := ht r hr
      omega
    · rw [(List.mem_replicate.mp hr).2]
      omega
theorem c_lagging (T : Top K mg) : Cl P w K mg base 2 "lagging" (spLagging K) := by
  have c_by_registers := c_by_registers (P := P) (w := w) (base := base) T
  refine T.d_lagging.ok sc_lagging (fun vs H Q h => ?_) (fun f cdv A outer s H E vs Q hr h => ?_)
  · obtain ⟨many, rfl, _⟩ := h
    rfl
  obtain ⟨many, rfl, m2, m3, k⟩ := h
  refine ⟨_, (pss_cons (ps_set (i := 1) sc_lagging.nd rfl (by first | exact Or.inl rfl | exact Or.inr rfl) (pe_callTy (clTupleA K) (by rfl) T.b_tuple (by decide +kernel) (pa_cons (pe_lc (own := [("sign", 2)]) rfl sc_lagging.nd (pi_range1 (by rfl) T.b_range (pa_cons (pv 0) pa_nil)) (blkOk_by (own := [("sign", 2)]) (N := N_lagging) (sc := defScope s_lagging) (by decide +kernel)) (fun _ _ _ _ _ => (pg_name (i := 2) sc_lagging.nd rfl (by first | exact Or.inl rfl | exact Or.inr rfl))) (fun _ _ _ _ _ => pts_nil) (fun _ _ _ _ _ => (pe_tupA K (pa_cons pe_str (pa_cons (pv 2) (pa_cons (pv 2) pa_nil)))))) pa_nil)))
      (pss_one (ps_ret (pe_tupA K (pa_cons pe_str (pa_cons pe_int (pa_cons (pe_op (opRepTA K) (pe_tupA K (pa_cons pe_int pa_nil)) (pe_k T.c_REGISTERS)) (pa_cons (pe_c c_by_registers (hr.mono (by omega)) (pa_cons (pv 0) pa_nil)) (pa_cons (pe_op (opRepTA K) (pe_tupA K (pa_cons (pv 1) pa_nil)) (pv 0)) pa_nil))))))))), ?_⟩
  refine ⟨_, rfl, many, rfl, by omega, by omega, fun D hD => ?_⟩
  refine it_range (fun i H' => Same H H' ∧ ∃ ys, H' D = some (.lst ys) ∧ ys.length = i ∧ ∀ x ∈ ys, ∃ (q : Addr) (w : Str) (i n : Int), x = .ref q ∧ SqT K H' q [.str w, .int i, .int n] ∧ PlainDeed many w i n) ⟨same_new hD, [], upd_same, rfl, by simp⟩ ?_ ?_
  · rintro i H' hi ⟨e1, ys, hl, ly, al⟩
    refine ⟨rfl, _, rfl, _, rfl, szb, fun p1 H1 s1 n1 t1 => ?_⟩
    have hl1 := s1 _ _ hl
    refine ⟨ys, hl1, szl (by omega), sm_put (e1.trans s1) hD, ys ++ [.ref p1], upd_same, by simp [ly], fun x hx => ?_⟩
    rcases List.mem_append.mp hx with hx | hx
    · obtain ⟨q, w, a, n, e, h1, h2⟩ := al x hx
      exact ⟨q, w, a, n, e, (tk_same s1).trans (tk_put hl1) _ _ h1, h2⟩
    · have : x = .ref p1 := by simpa using hx
      subst this
      exact ⟨p1, "told", _, _, rfl, tk_put hl1 _ _ t1, by omega, by omega, .inr (.inr ⟨rfl, by omega, by omega⟩)⟩
  · rintro H' ⟨e1, ys, hl, ly, al⟩
    refine ⟨D, ys, rfl, SqL.of hl, fun r H2 e2 nr hr => ?_⟩
    have dd : IsDeeds K H2 many 0 (.ref r) := ⟨r, ys, rfl, hr, fun x hx => by
      obtain ⟨q, w, a, n, e, h1, h2⟩ := al x hx
      exact ⟨q, w, a, n, e, tk_same e2 _ _ h1, h2⟩⟩
    have dd1 : IsDeeds K H2 many 1 (.ref r) := ⟨r, ys, rfl, hr, fun x hx => by
      obtain ⟨q, w, a, n, e, h1, h2⟩ := al x hx
      exact .inl ⟨q, w, a, n, e, tk_same e2 _ _ h1, h2⟩⟩
    refine ⟨szb, fun p3 H3 s3 n3 t3 => ⟨p3, 4, _, rfl, rfl, t3, by simp, by omega, by omega, by decide, fun p4 H4 s4 t4 => ?_⟩⟩
    refine ⟨_, rfl, many, rfl, m2, m3, fun r5 H5 sps s5 st far => ⟨_, rfl, szb, fun p6 H6 s6 n6 t6 => ⟨_, rfl, p6, many, _, rfl, rfl, t6, by simp, by omega, by omega, by show 1 ≤ 1000; decide, fun p7 H7 s7 t7 => ⟨szb, fun p8 H8 s8 n8 t8 => ?_⟩⟩⟩⟩
    have g := s6.trans (s7.trans s8)
    exact k (.ref p8) H8 16 125 ((e1.trans (e2.trans (s3.trans (s4.trans s5)))).trans g) ⟨p8, _, 4, _, _, _, sps, 2000, rfl, t8, ⟨by decide, by decide, rfl⟩, zeros_reg (tk_same (s5.trans g) _ _ t4), st.tk (tk_same g), far, by decide, by decide, same_beh m2 (tk_same s8 _ _ t7) (dd1.tk (tk_same (s3.trans (s4.trans (s5.trans g)))))⟩
theorem c_after (T : Top K mg) : Cl P w K mg base 2 "after" (spAfter K) := by
  have c_on_one := c_on_one (P := P) (w := w) (base := base) T
  obtain ⟨aI, hID, tID⟩ := T.c_IDLE
  refine T.d_after.ok sc_after (fun vs H Q h => ?_) (fun f cdv A outer s H E vs Q hr h => ?_)
  · obtain ⟨many, sign, then_, side, rfl, _⟩ := h
    rfl
  obtain ⟨many, sign, then_, side, rfl, m2, m3, t0, t1, hside, k⟩ := h
  refine ⟨_, (pss_cons (ps_set (i := 4) sc_after.nd rfl (by first | exact Or.inl rfl | exact Or.inr rfl) (pe_tupA K (pa_cons pe_str (pa_cons pe_int (pa_cons pe_int (pa_cons (pe_k hID) (pa_cons (pe_tupA K (pa_cons pe_str (pa_cons (pe_op op_mul (pv 3) (pe_k T.c_AFTER)) pa_nil))) pa_nil)))))))
      (pss_cons (ps_set (i := 5) sc_after.nd rfl (by first | exact Or.inl rfl | exact Or.inr rfl) (pe_callTy (clTupleA K) (by rfl) T.b_tuple (by decide +kernel) (pa_cons (pe_lc (own := [("place", 6)]) rfl sc_after.nd (pi_range1 (by rfl) T.b_range (pa_cons (pv 0) pa_nil)) (blkOk_by (own := [("place", 6)]) (N := N_after) (sc := defScope s_after) (by decide +kernel)) (fun _ _ _ _ _ => (pg_name (i := 6) sc_after.nd rfl (by first | exact Or.inl rfl | exact Or.inr rfl))) (fun _ _ _ _ _ => pts_nil) (fun _ _ _ _ _ => (pe_tupA K (pa_cons (pe_tupA K (pa_cons pe_str (pa_cons pe_int (pa_cons (pe_callTy call_int1 (by rfl) T.b_int (by decide +kernel) (pa_cons (pe_cmpR op_eq (pv 6) (pv 1) (nomark _)) pa_nil)) pa_nil)))) pa_nil)))) pa_nil)))
      (pss_one (ps_ret (pe_tupA K (pa_cons pe_str (pa_cons pe_int (pa_cons (pe_op (opRepTA K) (pe_tupA K (pa_cons pe_int pa_nil)) (pe_k T.c_REGISTERS)) (pa_cons (pe_c c_on_one (hr.mono (by omega)) (pa_cons (pv 0) (pa_cons (pv 2) (pa_cons (pv 4) pa_nil)))) (pa_cons (pv 5) pa_nil)))))))))), ?_⟩
  refine ⟨_, rfl, _, _, rfl, rfl, .inr ⟨by omega, by omega⟩, szb, fun p1 H1 s1 n1 t1' => ⟨szb, fun p2 H2 s2 n2 t2 => ?_⟩⟩
  have hE : IsE K H2 many 8 (.ref p2) (imin 0 (side * 100)) (imax 0 (side * 100)) := .when t2 (by omega) (by omega) (.fig (n := 6) (tID _)) (.fig (tk_same s2 _ _ t1'))
  refine ⟨_, rfl, many, rfl, by omega, by omega, fun D hD => ?_⟩
  refine it_range (fun i H' => Same H2 H' ∧ ∃ ys, H' D = some (.lst ys) ∧ ys.length = i ∧ ∀ x ∈ ys, IsDeeds K H' many 1 x) ⟨same_new hD, [], upd_same, rfl, by simp⟩ ?_ ?_
  · rintro i H' hi ⟨e1, ys, hl, ly, al⟩
    refine ⟨rfl, _, rfl, _, rfl, rfl, .inr ⟨_, rfl, szb, fun p3 H3 s3 n3 t3 => ⟨szb, fun p4 H4 s4 n4 t4 => ?_⟩⟩⟩
    have hl4 := (s3.trans s4) _ _ hl
    refine ⟨ys, hl4, szl (by omega), sm_put (e1.trans (s3.trans s4)) hD, ys ++ [.ref p4], upd_same, by simp [ly], fun x hx => ?_⟩
    rcases List.mem_append.mp hx with hx | hx
    · exact (al x hx).tk ((tk_same (s3.trans s4)).trans (tk_put hl4))
    · have : x = .ref p4 := by simpa using hx
      subst this
      refine ⟨p4, _, rfl, tk_put hl4 _ _ t4, fun y hy => .inl ⟨p3, "put", _, _, ?_, (tk_same s4).trans (tk_put hl4) _ _ t3, by omega, by omega, .inl (.inl rfl)⟩⟩
      simpa using hy
  · rintro H' ⟨e1, ys, hl, ly, al⟩
    refine ⟨D, ys, rfl, SqL.of hl, fun r H3 e2 nr hr => ?_⟩
    refine ⟨szb, fun p4 H4 s4 n4 t4 => ⟨p4, 4, _, rfl, rfl, t4, by simp, by omega, by omega, by show 1 ≤ 1000; decide, fun p5 H5 s5 t5 => ?_⟩⟩
    have g := e1.trans (e2.trans (s4.trans s5))
    refine ⟨_, rfl, _, rfl, _, rfl, many, then_, .ref p2, _, _, rfl, m2, m3, t0, t1, hE.tk (tk_same g), fun r6 H6 sps s6 st far => ⟨_, rfl, szb, fun p7 H7 s7 n7 t7 => ?_⟩⟩
    have e100 : imax (iabs (imin 0 (side * 100))) (iabs (imax 0 (side * 100))) = 100 := by
      rcases hside with rfl | rfl <;> decide
    refine k (.ref p7) H7 1 100 ((s1.trans s2).trans (g.trans (s6.trans s7))) ⟨p7, _, 0, _, _, _, sps, _, rfl, t7, ⟨by decide, by decide, rfl⟩, zeros_reg (tk_same (s6.trans s7) _ _ t5), st.tk (tk_same s7), far, ?_, ?_, ⟨r, ys, rfl, tk_same (s4.trans (s5.trans (s6.trans s7))) _ _ hr, by omega, fun x hx => (al x hx).tk (tk_same (e2.trans (s4.trans (s5.trans (s6.trans s7)))))⟩⟩
    · rw [e100]
      decide
    · rw [e100]
      decide
theorem c_tent (T : Top K mg) : Cl P w K mg base 2 "tent" (spTent K) := by
  have c_on_one := c_on_one (P := P) (w := w) (base := base) T
  obtain ⟨aI, hID, tID⟩ := T.c_IDLE
  refine T.d_tent.ok sc_tent (fun vs H Q h => ?_) (fun f cdv A outer s H E vs Q hr h => ?_)
  · obtain ⟨many, sign, centre, wide, side, rfl, _⟩ := h
    rfl
  obtain ⟨many, sign, ce, wi, side, rfl, m2, m3, s0, s1, c0, c1, w0, w1, k⟩ := h
  refine ⟨_, (pss_cons (ps_par (i := 8) (j := 9) (by rfl) sc_tent.nd rfl rfl (by decide) rfl rfl (pa_cons (pe_tupA K (pa_cons pe_str (pa_cons (pv 1) pa_nil))) (pa_cons (pe_tupA K (pa_cons pe_str (pa_cons (pv 2) pa_nil))) pa_nil)) (by rfl))
      (pss_cons (ps_set (i := 5) sc_tent.nd rfl (by first | exact Or.inl rfl | exact Or.inr rfl) (pe_tupA K (pa_cons pe_str (pa_cons (pe_tupA K (pa_cons pe_str (pa_cons (pv 8) (pa_cons (pv 9) pa_nil)))) (pa_cons (pe_tupA K (pa_cons pe_str (pa_cons (pv 9) (pa_cons (pv 8) pa_nil)))) pa_nil)))))
      (pss_cons (ps_set (i := 6) sc_tent.nd rfl (by first | exact Or.inl rfl | exact Or.inr rfl) (pe_tupA K (pa_cons pe_str (pa_cons (pe_k hID) (pa_cons (pe_tupA K (pa_cons pe_str (pa_cons (pe_tupA K (pa_cons pe_str (pa_cons (pv 3) pa_nil))) (pa_cons (pe_tupA K (pa_cons pe_str (pa_cons (pe_tupA K (pa_cons pe_str (pa_cons (pv 3) pa_nil))) (pa_cons (pv 5) pa_nil)))) pa_nil)))) pa_nil)))))
      (pss_cons (ps_set (i := 7) sc_tent.nd rfl (by first | exact Or.inl rfl | exact Or.inr rfl) (pe_ifExp (pt_cmpR op_eq (pv 4) pe_int (nomark _)) (pv 6) (pe_tupA K (pa_cons pe_str (pa_cons (pe_un un_neg pe_int) (pa_cons (pv 6) pa_nil))))))
      (pss_one (ps_ret (pe_tupA K (pa_cons pe_str (pa_cons pe_int (pa_cons (pe_op (opRepTA K) (pe_tupA K (pa_cons pe_int pa_nil)) (pe_k T.c_REGISTERS)) (pa_cons (pe_c c_on_one (hr.mono (by omega)) (pa_cons (pv 0) (pa_cons (pv 1) (pa_cons (pv 7) pa_nil)))) (pa_cons (pe_op (opRepTA K) (pe_tupA K (pa_cons (pe_tupA K pa_nil) pa_nil)) (pv 0)) pa_nil)))))))))))), ?_⟩
  refine ⟨_, rfl, szb, fun p1 H1 e1 n1 t1 => ⟨_, rfl, szb, fun p2 H2 e2 n2 t2 => ⟨_, _, rfl, ?_⟩⟩⟩
  refine ⟨_, rfl, _, rfl, szb, fun p3 H3 e3 n3 t3 => ⟨_, rfl, _, rfl, szb, fun p4 H4 e4 n4 t4 => ⟨szb, fun p5 H5 e5 n5 t5 => ?_⟩⟩⟩
  refine ⟨_, rfl, szb, fun p6 H6 e6 n6 t6 => ⟨_, rfl, szb, fun p7 H7 e7 n7 t7 => ⟨_, rfl, szb, fun p8 H8 e8 n8 t8 => ⟨szb, fun p9 H9 e9 n9 t9 => ⟨szb, fun pa Ha ea na ta => ?_⟩⟩⟩⟩⟩
  have f9 := e9.trans ea
  have f8 := e8.trans f9
  have f7 := e7.trans f8
  have f6 := e6.trans f7
  have f5 := e5.trans f6
  have f4 := e4.trans f5
  have f3 := e3.trans f4
  have f2 := e2.trans f3
  have i1 : IsE K Ha many 1 (.ref p1) 0 1000 := .share (tk_same f2 _ _ t1) s0 s1
  have i2 : IsE K Ha many 1 (.ref p2) ce ce := .fig (tk_same f3 _ _ t2)
  have i3 : IsE K Ha many 2 (.ref p3) (0 - ce) (1000 - ce) := .less (tk_same f4 _ _ t3) i1 i2
  have i4 : IsE K Ha many 2 (.ref p4) (ce - 1000) (ce - 0) := .less (tk_same f5 _ _ t4) i2 i1
  have i5 : IsE K Ha many 3 (.ref p5) (imax (0 - ce) (ce - 1000)) (imax (1000 - ce) (ce - 0)) := .most (tk_same f6 _ _ t5) i3 i4
  have i6 : IsE K Ha many 1 (.ref p6) wi wi := .fig (tk_same f7 _ _ t6)
  have i7 : IsE K Ha many 1 (.ref p7) wi wi := .fig (tk_same f8 _ _ t7)
  have i8 : IsE K Ha many 4 (.ref p8) (wi - imax (1000 - ce) (ce - 0)) (wi - imax (0 - ce) (ce - 1000)) := .less (tk_same f9 _ _ t8) (i7.up (by decide)) i5
  have i9 : IsE K Ha many 5 (.ref p9) (imin wi (wi - imax (1000 - ce) (ce - 0))) (imin wi (wi - imax (0 - ce) (ce - 1000))) := .least (tk_same ea _ _ t9) (i6.up (by decide)) i8
  have ia : IsE K Ha many 6 (.ref pa) (imax 0 (imin wi (wi - imax (1000 - ce) (ce - 0)))) (imax 0 (imin wi (wi - imax (0 - ce) (ce - 1000)))) := .most ta (.fig (n := 4) (tID _)) i9
  generalize hlo : imax 0 (imin wi (wi - imax (1000 - ce) (ce - 0))) = lo at ia
  generalize hhi : imax 0 (imin wi (wi - imax (0 - ce) (ce - 1000))) = hi at ia
  have blo : 0 ≤ lo ∧ lo ≤ 500 := by
    rw [← hlo]
    unfold imax imin
    split <;> split <;> split <;> omega
  have bhi : 0 ≤ hi ∧ hi ≤ 500 := by
    rw [← hhi]
    unfold imax imin
    split <;> split <;> split <;> omega
  have fin : ∀ (lo hi : Int) (v : V) (Hb : Hp), Same Ha Hb → IsE K Hb many 8 v lo hi → -500 ≤ lo → lo ≤ 500 → -500 ≤ hi → hi ≤ 500 →
      ∀ r6 H6 sps, Same Hb H6 → IsSt K H6 many r6 sps → FarOf (imax (iabs lo) (iabs hi)) sps → ∀ (p7 : Addr) (bg bh : V) (H7 : Hp), Same H6 H7 → SqT K H7 p7 [.str "tent", .int 0, bg, r6, bh] → IsReg K H7 bg → IsBeh K H7 many bh → Q (.ref p7) H7 := by
    intro lo hi v Hb eb hE l0 l1 h0 h1 r6 H6 sps e6 st far p7 bg bh H7 e7 t7 rg beh
    refine k (.ref p7) H7 1 _ ((e1.trans f2).trans (eb.trans (e6.trans e7))) ⟨p7, _, 0, _, _, _, sps, _, rfl, t7, ⟨by decide, by decide, rfl⟩, rg, st.tk (tk_same e7), far, ?_, rfl, beh⟩
    unfold imax iabs
    split <;> split <;> split <;> omega
  refine ⟨_, rfl, rfl, _, rfl, ite2 (fun c => ⟨_, rfl, ?_⟩) (fun c => ⟨_, rfl, _, rfl, szb, fun pb Hb eb nb tb => ?_⟩)⟩
  · refine ⟨szb, fun q1 G1 g1 _ u1 => ⟨q1, 4, _, rfl, rfl, u1, by simp, by omega, by omega, by show 1 ≤ 1000; decide, fun q2 G2 g2 u2 => ?_⟩⟩
    refine ⟨_, rfl, _, rfl, _, rfl, many, sign, .ref pa, lo, hi, rfl, m2, m3, s0, s1, (ia.tk (tk_same (g1.trans g2))).up (by decide), fun r6 H6 sps g6 st far => ⟨szb, fun q7 G7 g7 _ u7 => ⟨szb, fun q8 G8 g8 _ u8 => ⟨_, rfl, q8, many, _, rfl, rfl, u8, by simp, by omega, by omega, by show 1 ≤ 1000; decide, fun q9 G9 g9 u9 => ⟨szb, fun r Hr gr _ ur => ?_⟩⟩⟩⟩⟩
    have z := g7.trans (g8.trans (g9.trans gr))
    exact fin lo hi _ G2 (g1.trans g2) ((ia.tk (tk_same (g1.trans g2))).up (by decide)) (by omega) (by omega) (by omega) (by omega) r6 H6 sps g6 st far r _ _ Hr z ur (zeros_reg (tk_same (g6.trans z) _ _ u2)) (same_beh m2 (tk_same gr _ _ u9) (no_deeds (tk_same (g8.trans (g9.trans gr)) _ _ u7) 1))
  · have ib : IsE K Hb many 7 (.ref pb) (imin (-1 * lo) (-1 * hi)) (imax (-1 * lo) (-1 * hi)) := .times tb (by omega) (by omega) (ia.tk (tk_same eb))
    have bb : -500 ≤ imin (-1 * lo) (-1 * hi) ∧ imin (-1 * lo) (-1 * hi) ≤ 500 ∧ -500 ≤ imax (-1 * lo) (-1 * hi) ∧ imax (-1 * lo) (-1 * hi) ≤ 500 := by
      unfold imin imax
      split <;> split <;> omega
    refine ⟨szb, fun q1 G1 g1 _ u1 => ⟨q1, 4, _, rfl, rfl, u1, by simp, by omega, by omega, by show 1 ≤ 1000; decide, fun q2 G2 g2 u2 => ?_⟩⟩
    refine ⟨_, rfl, _, rfl, _, rfl, many, sign, .ref pb, _, _, rfl, m2, m3, s0, s1, (ib.tk (tk_same (g1.trans g2))).up (by decide), fun r6 H6 sps g6 st far => ⟨szb, fun q7 G7 g7 _ u7 => ⟨szb, fun q8 G8 g8 _ u8 => ⟨_, rfl, q8, many, _, rfl, rfl, u8, by simp, by omega, by omega, by show 1 ≤ 1000; decide, fun q9 G9 g9 u9 => ⟨szb, fun r Hr gr _ ur => ?_⟩⟩⟩⟩⟩
    have z := g7.trans (g8.trans (g9.trans gr))
    exact fin _ _ _ G2 (eb.trans (g1.trans g2)) ((ib.tk (tk_same (g1.trans g2))).up (by decide)) bb.1 bb.2.1 bb.2.2.1 bb.2.2.2 r6 H6 sps g6 st far r _ _ Hr z ur (zeros_reg (tk_same (g6.trans z) _ _ u2)) (same_beh m2 (tk_same gr _ _ u9) (no_deeds (tk_same (g8.trans (g9.trans gr)) _ _ u7) 1))
end
end Nr

/-! Drawing: hand, take, of, lowest, shares, figure, registers, leaf. -/
namespace Nr
open PySem PySem.Spec PyProof.Rows L2

def spHand (K : PySem.W.Frag) : Pr := fun vs H Q => ∃ (a : Addr) (ns : List Int) (k : Int), vs = [.ref a, .int k] ∧ SqL K H a (ns.map V.int) ∧ 0 ≤ k ∧ k ≤ 10 ∧ ∀ p H', Same H H' → H p = none → Hand H' p 0 → Q (.ref p) H'
def spTake : Pr := fun vs H Q => ∃ (a : Addr) (m : Int) (n : Nat), vs = [.ref a, .int m] ∧ 1 ≤ m ∧ m ≤ 5000 ∧ Draw a n 1 H (fun v _ => ∃ i : Int, v = .int i ∧ 0 ≤ i ∧ i < m) Q
def spOf : Pr := fun vs H Q => ∃ (a l : Addr) (xs : List V) (n : Nat), vs = [.ref a, .ref l] ∧ l ≠ a ∧ H l = some (.lst xs) ∧ 0 < xs.length ∧ xs.length ≤ 1000 ∧ Draw a n 1 H (fun v _ => v ∈ xs) Q
def spLowest (K : PySem.W.Frag) : Pr := fun vs H Q => ∃ (l : Addr) (ns : List Int) (many : Int), vs = [.ref l] ∧ SqL K H l (ns.map V.int) ∧ (ns.length : Int) = many ∧ many ≤ 3 ∧ (∀ x ∈ ns, 0 ≤ x ∧ x ≤ 2000000000000) ∧ (∃ x ∈ ns, 0 < x) ∧ ∀ r H', Same H H' → IsSh K H' many r → Q r H'
def spShares (K : PySem.W.Frag) : Pr := fun vs H Q => ∃ (a : Addr) (many : Int) (n : Nat), vs = [.ref a, .int many] ∧ 2 ≤ many ∧ many ≤ 3 ∧ Draw a n 13 H (fun v H' => IsSh K H' many v) Q
def spFigure : Pr := fun vs H Q => ∃ (a : Addr) (n : Nat), vs = [.ref a] ∧ Draw a n 3 H (fun v _ => ∃ i : Int, v = .int i ∧ -1000 ≤ i ∧ i ≤ 1000) Q
def spRegs (K : PySem.W.Frag) : Pr := fun vs H Q => ∃ (a : Addr) (n : Nat), vs = [.ref a] ∧ Draw a n 12 H (fun v H' => IsReg K H' v) Q
def spLeaf (K : PySem.W.Frag) : Pr := fun vs H Q => ∃ (a : Addr) (many : Int) (n : Nat), vs = [.ref a, .int many] ∧ 2 ≤ many ∧ many ≤ 3 ∧ Draw a n 4 H (fun v H' => ∃ lo hi, IsE K H' many 1 v lo hi) Q
section
variable {P : Program} {w : World} {K : PySem.W.Frag} {mg : Str → Option Value} {base : Heap}
theorem emod_range {x y : Int} (h : 0 < y) : 0 ≤ x % y ∧ x % y < y := ⟨Int.emod_nonneg _ (by omega), Int.emod_lt_of_pos _ h⟩
theorem c_take (T : Top K mg) : Cl P w K mg base 1 "_law_take" spTake := by
  refine T.d_k_take.ok sc_k_take (fun vs H Q h => ?_) (fun f cdv A outer s H E vs Q hr h => ?_)
  · obtain ⟨a, m, n, rfl, _⟩ := h
    rfl
  obtain ⟨a, m, n, rfl, m1, m5, ⟨g, x, c, h0, g0, g1, x0, x1, c0, c1⟩, hn, k⟩ := h
  refine ⟨_, (pss_cons (ps_if (pt_cmpR op_gt (pe_ix (ixL K) (pv 0) pe_int (fun _ _ => rfl)) pe_int (nomark _)) (pss_cons (ps_set (i := 5) sc_k_take.nd rfl (by first | exact Or.inl rfl | exact Or.inr rfl) (pe_op op_mod (pe_ix (ixL K) (pv 0) pe_int (fun _ _ => rfl)) (pv 1)))
      (pss_cons (ps_asg (pe_op op_fdivW (pe_ix (ixL K) (pv 0) pe_int (fun _ _ => rfl)) (pv 1)) (pg_sub (pv 0) pe_int set_list))
      (pss_one (ps_ret (pv 5))))) pss_nil)
      (pss_cons (ps_asg (pe_op op_add (pe_ix (ixL K) (pv 0) pe_int (fun _ _ => rfl)) pe_int) (pg_sub (pv 0) pe_int set_list))
      (pss_cons (ps_set (i := 2) sc_k_take.nd rfl (by first | exact Or.inl rfl | exact Or.inr rfl) (pe_lstA (pa_cons pe_int (pa_cons pe_int (pa_cons pe_int (pa_cons pe_int (pa_cons pe_int (pa_cons pe_int (pa_cons pe_int (pa_cons pe_int pa_nil))))))))))
      (pss_cons (ps_set (i := 3) sc_k_take.nd rfl (by first | exact Or.inl rfl | exact Or.inr rfl) (pe_ix (ixL K) (pv 2) (pe_op op_mod (pe_ix (ixL K) (pv 0) pe_int (fun _ _ => rfl)) pe_int) (fun _ _ => rfl)))
      (pss_cons (ps_set (i := 4) sc_k_take.nd rfl (by first | exact Or.inl rfl | exact Or.inr rfl) (pe_op op_add (pe_op op_mod (pe_op op_mod (pe_op op_add (pe_ix (ixL K) (pv 0) pe_int (fun _ _ => rfl)) (pe_op op_mul (pe_op op_mul pe_int (pe_ix (ixL K) (pv 0) pe_int (fun _ _ => rfl))) (pe_ix (ixL K) (pv 0) pe_int (fun _ _ => rfl)))) (pe_op op_pow (pv 3) pe_int)) (pv 3)) pe_int))
      (pss_one (ps_ret (pe_op op_mod (pe_op op_fdivW (pe_op op_mod (pe_op op_mul (pv 4) (pe_op op_add (pe_op op_mod (pv 4) pe_int) (pe_ix (ixL K) (pv 0) pe_int (fun _ _ => rfl)))) (pv 3)) pe_int) (pv 1))))))))), ?_⟩
  refine ⟨_, rfl, _, _, _, _, rfl, rfl, SqL.of h0, rfl, _, _, rfl, rfl, _, rfl, ite2 (fun q => ?_) (fun q => ?_)⟩
  · have gp : 0 < g := of_decide_eq_true q
    refine ⟨_, rfl, _, _, _, _, rfl, rfl, SqL.of h0, rfl, _, rfl, _, _, rfl, rfl, (by show 0 < m; omega), ?_⟩
    refine ⟨_, rfl, _, _, _, _, rfl, rfl, SqL.of h0, rfl, _, rfl, _, _, rfl, rfl, wide_div (b := 20) (by omega) (by omega) (by decide) (by decide), _, rfl, _, _, _, _, rfl, rfl, h0, rfl, ?_⟩
    have r := emod_range (x := g) (y := m) (by omega)
    have d0 : 0 ≤ g / m := Int.ediv_nonneg (by omega) (by omega)
    have d1 : g / m ≤ g := Int.ediv_le_self _ (by omega)
    exact ⟨_, rfl, k _ _ (kp_put (Kp.refl _ _)) ⟨g / m, x, c, upd_same, d0, by omega, x0, x1, c0, by omega⟩ ⟨_, rfl, r.1, r.2⟩⟩
  · refine ⟨_, rfl, _, _, _, _, rfl, rfl, SqL.of h0, rfl, _, _, rfl, rfl, _, rfl, _, _, _, _, rfl, rfl, h0, rfl, ?_⟩
    have k1 : Kp a H (upd H a (.lst [.int g, .int x, .int (c + 1)])) := kp_put (Kp.refl _ _)
    have h1 : (upd H a (.lst [.int g, .int x, .int (c + 1)])) a = some (.lst [.int g, .int x, .int (c + 1)]) := upd_same
    show tSeq _ _ _ _ (upd H a (.lst [.int g, .int x, .int (c + 1)]))
    generalize upd H a (.lst [.int g, .int x, .int (c + 1)]) = H1 at k1 h1
    refine ⟨szb, fun p H2 s2 n2 t2 => ?_⟩
    have h2 := s2 _ _ h1
    have e8 : (c + 1) % 8 < ((8 : Nat) : Int) := by omega
    obtain ⟨pr, q1, q2, q3⟩ := at_int (ns := [2147483647, 2147483629, 2147483587, 2147483579, 2147483563, 2147483549, 2147483543, 2147483497]) (i := (c + 1) % 8) (by omega) e8
    have pr1 : 2147483497 ≤ pr ∧ pr ≤ 2147483647 := by
      simp only [List.mem_cons, List.not_mem_nil, or_false] at q3
      omega
    refine ⟨_, rfl, _, rfl, _, _, _, _, rfl, rfl, SqL.of h2, rfl, _, _, rfl, rfl, (by show (0 : Int) < 8; decide), _, _, _, _, rfl, rfl, SqL.of t2, q1, ?_⟩
    have pp : (0 : Int) < pr ^ (2 : Int).toNat := by
      show (0 : Int) < pr ^ 2
      exact Int.pow_pos (by omega)
    refine ⟨_, rfl, _, _, _, _, rfl, rfl, SqL.of h2, rfl, _, rfl, _, _, _, _, rfl, rfl, SqL.of h2, rfl, _, _, rfl, rfl, .inl ⟨by omega, by omega⟩, _, rfl, _, _, _, _, rfl, rfl, SqL.of h2, rfl, _, _, rfl, rfl, .inr ⟨by omega, by omega⟩, _, _, rfl, rfl, ?_⟩
    refine ⟨_, rfl, _, _, rfl, rfl, ⟨by omega, by omega, by omega⟩, _, _, rfl, rfl, pp, _, rfl, _, _, rfl, rfl, (by show 0 < pr; omega), _, _, rfl, rfl, ?_⟩
    generalize hz : (x + 69621 * (c + 1) * (c + 1)) % pr ^ (2 : Int).toNat % pr = z
    have zr : 0 ≤ z ∧ z < pr := by
      rw [← hz]
      exact emod_range (by omega)
    have r := emod_range (x := (z + 1) * ((z + 1) % 1009 + (c + 1)) % pr / 7) (y := m) (by omega)
    refine ⟨_, rfl, _, rfl, _, _, rfl, rfl, (by show (0 : Int) < 1009; decide), _, rfl, _, _, _, _, rfl, rfl, SqL.of h2, rfl, _, _, rfl, rfl, _, _, rfl, rfl, .inl ⟨by omega, by omega⟩, _, rfl, _, _, rfl, rfl, (by show 0 < pr; omega), _, _, rfl, rfl, ⟨by decide, by decide⟩, _, rfl, _, _, rfl, rfl, (by show 0 < m; omega), ?_⟩
    exact k _ _ (k1.trans (kp_of s2)) ⟨g, x, c + 1, h2, g0, g1, x0, x1, by omega, by push_cast; omega⟩ ⟨_, rfl, r.1, r.2⟩
theorem c_of (T : Top K mg) : Cl P w K mg base 2 "_law_of" spOf := by
  have c_k_take := c_take (P := P) (w := w) (base := base) T
  refine T.d_k_of.ok sc_k_of (fun vs H Q h => ?_) (fun f cdv A outer s H E vs Q hr h => ?_)
  · obtain ⟨a, l, xs, n, rfl, _⟩ := h
    rfl
  obtain ⟨a, l, xs, n, rfl, la, hl, x0, x1, hh, hn, k⟩ := h
  refine ⟨_, (pss_one (ps_ret (pe_ix (ixL K) (pv 1) (pe_c c_k_take (hr.mono (by omega)) (pa_cons (pv 0) (pa_cons (pe_callB (clLen K) (by rfl) T.b_len (by decide +kernel) (pa_cons (pv 1) pa_nil)) pa_nil))) (fun _ _ => rfl)))), ?_⟩
  refine ⟨_, rfl, _, rfl, _, rfl, l, xs, rfl, .inl (SqL.of hl), a, _, n, rfl, by omega, by omega, hh, hn, ?_⟩
  rintro v H' k1 h1 ⟨i, rfl, i0, i1⟩
  obtain ⟨v, q1, q2, q3⟩ := at_in (xs := xs) i0 i1
  exact ⟨_, _, _, _, rfl, rfl, SqL.of (k1 _ _ la hl), q1, k v H' k1 h1 q3⟩
theorem c_figure (T : Top K mg) : Cl P w K mg base 3 "_law_figure" spFigure := by
  have c_k_take := c_take (P := P) (w := w) (base := base) T
  have c_k_of := c_of (P := P) (w := w) (base := base) T
  refine T.d_k_figure.ok sc_k_figure (fun vs H Q h => ?_) (fun f cdv A outer s H E vs Q hr h => ?_)
  · obtain ⟨a, n, rfl, _⟩ := h
    rfl
  obtain ⟨a, n, rfl, hh, hn, k⟩ := h
  refine ⟨_, (pss_cons (ps_set (i := 1) sc_k_figure.nd rfl (by first | exact Or.inl rfl | exact Or.inr rfl) (pe_lstA (pa_cons pe_int (pa_cons pe_int (pa_cons (pe_un un_neg pe_int) (pa_cons pe_int (pa_cons pe_int (pa_cons pe_int (pa_cons pe_int (pa_cons (pe_un un_neg pe_int) (pa_cons pe_int (pa_cons (pe_un un_neg pe_int) pa_nil))))))))))))
      (pss_one (ps_ret (pe_c c_k_of (hr.mono (by omega)) (pa_cons (pv 0) (pa_cons (pe_op opCatLA (pv 1) (pe_lstA (pa_cons (pe_op op_sub (pe_c c_k_take (hr.mono (by omega)) (pa_cons (pv 0) (pa_cons pe_int pa_nil))) pe_int) (pa_cons (pe_op op_sub (pe_c c_k_take (hr.mono (by omega)) (pa_cons (pv 0) (pa_cons pe_int pa_nil))) pe_int) pa_nil)))) pa_nil)))))), ?_⟩
  refine ⟨_, rfl, _, rfl, _, rfl, szb, fun p H1 s1 n1 t1 => ?_⟩
  have a1 : Hand H1 a n := hh.same s1
  have pa := hh.ne n1
  refine ⟨_, rfl, _, rfl, _, rfl, a, _, n, rfl, by omega, by omega, a1, by omega, ?_⟩
  rintro v H2 k2 a2 ⟨i, rfl, i0, i1⟩
  refine ⟨_, _, rfl, rfl, _, rfl, a, _, n + 1, rfl, by omega, by omega, a2, by omega, ?_⟩
  rintro v H3 k3 a3 ⟨j, rfl, j0, j1⟩
  refine ⟨_, _, rfl, rfl, szb, fun q H4 s4 n4 t4 => ?_⟩
  have t1' := s4 _ _ (k3 _ _ pa (k2 _ _ pa t1))
  refine ⟨p, q, _, _, rfl, rfl, t1', t4, szb, fun r H5 s5 n5 t5 => ?_⟩
  have a5 : Hand H5 a (n + 1 + 1) := a3.same (s4.trans s5)
  have a4 : Hand H4 a (n + 1 + 1) := a3.same s4
  refine ⟨a, r, _, n + 1 + 1, rfl, a4.ne n5, t5, Nat.le_of_ble_eq_true rfl, Nat.le_of_ble_eq_true rfl, a5, by omega, ?_⟩
  intro v H6 k6 a6 hv
  refine k v H6 ((kp_of s1).trans (k2.trans (k3.trans ((kp_of (s4.trans s5)).trans k6)))) (a6.mono (by omega)) ?_
  simp only [List.cons_append, List.nil_append, List.mem_cons, List.not_mem_nil, or_false] at hv
  rcases hv with rfl | rfl | rfl | rfl | rfl | rfl | rfl | rfl | rfl | rfl | rfl | rfl
  all_goals exact ⟨_, rfl, by omega, by omega⟩
theorem c_regs (T : Top K mg) : Cl P w K mg base 4 "_law_registers" (spRegs K) := by
  have c_k_figure := c_figure (P := P) (w := w) (base := base) T
  refine T.d_k_registers.ok sc_k_registers (fun vs H Q h => ?_) (fun f cdv A outer s H E vs Q hr h => ?_)
  · obtain ⟨a, n, rfl, _⟩ := h
    rfl
  obtain ⟨a, n, rfl, hh, hn, k⟩ := h
  refine ⟨_, (pss_one (ps_ret (pe_callTy (clTupleA K) (by rfl) T.b_tuple (by decide +kernel) (pa_cons (pe_lc (own := [("_law_turn", 1)]) rfl sc_k_registers.nd (pi_range1 (by rfl) T.b_range (pa_cons pe_int pa_nil)) (blkOk_by (own := [("_law_turn", 1)]) (N := N_k_registers) (sc := defScope s_k_registers) (by decide +kernel)) (fun _ _ _ _ _ => (pg_name (i := 1) sc_k_registers.nd rfl (by first | exact Or.inl rfl | exact Or.inr rfl))) (fun _ _ _ _ _ => pts_nil) (fun _ _ _ _ _ => (pe_c c_k_figure (hr.mono (by omega)) (pa_cons (pv 0) pa_nil)))) pa_nil)))), ?_⟩
  refine ⟨4, rfl, by omega, by omega, fun D hD => ?_⟩
  have Da := hh.ne hD
  refine it_range (fun i H' => Kp a H H' ∧ Hand H' a (n + 3 * i) ∧ ∃ ns : List Int, H' D = some (.lst (ns.map V.int)) ∧ ns.length = i ∧ ∀ r ∈ ns, -1000 ≤ r ∧ r ≤ 1000) ⟨kp_of (same_new hD), hh.new hD, [], upd_same, rfl, by simp⟩ ?_ ?_
  · rintro i H' hi ⟨k1, h1, ns, hl, ln, b1⟩
    have hi4 : i < 4 := hi
    refine ⟨rfl, _, rfl, a, _, rfl, h1, by omega, ?_⟩
    rintro v H2 k2 h2 ⟨j, rfl, j0, j1⟩
    have hl2 := k2 _ _ Da hl
    refine ⟨_, hl2, szl (by rw [List.length_map]; omega), fun b o ne q => ?_, (h2.mono (by omega)).upd Da, ns ++ [j], ?_, by simp [ln], fun r hr => ?_⟩
    · have bD : b ≠ D := ne_of_none q hD
      rw [upd_ne bD]
      exact k2 _ _ ne (k1 _ _ ne q)
    · rw [upd_same, List.map_append]
      rfl
    · rcases List.mem_append.mp hr with hr | hr
      · exact b1 r hr
      · have : r = j := by simpa using hr
        omega
  · rintro H' ⟨k1, h1, ns, hl, ln, b1⟩
    refine ⟨D, _, rfl, SqL.of hl, fun r H2 s2 nr hr => ?_⟩
    exact k _ _ (k1.trans (kp_of s2)) ((h1.same s2).mono (by show n + 3 * 4 ≤ n + 12; omega)) ⟨r, ns, rfl, hr, ln, b1⟩
theorem c_leaf (T : Top K mg) : Cl P w K mg base 4 "_law_leaf" (spLeaf K) := by
  have c_k_take := c_take (P := P) (w := w) (base := base) T
  have c_k_figure := c_figure (P := P) (w := w) (base := base) T
  refine T.d_k_leaf.ok sc_k_leaf (fun vs H Q h => ?_) (fun f cdv A outer s H E vs Q hr h => ?_)
  · obtain ⟨a, many, n, rfl, _⟩ := h
    rfl
  obtain ⟨a, many, n, rfl, m2, m3, hh, hn, k⟩ := h
  refine ⟨_, (pss_cons (ps_set (i := 2) sc_k_leaf.nd rfl (by first | exact Or.inl rfl | exact Or.inr rfl) (pe_c c_k_take (hr.mono (by omega)) (pa_cons (pv 0) (pa_cons pe_int pa_nil))))
      (pss_cons (ps_if (pt_cmpR op_eq (pv 2) pe_int (nomark _)) (pss_one (ps_ret (pe_tupA K (pa_cons pe_str (pa_cons (pe_c c_k_take (hr.mono (by omega)) (pa_cons (pv 0) (pa_cons pe_int pa_nil))) pa_nil))))) pss_nil)
      (pss_one (ps_ret (pe_ifExp (pt_cmpR op_eq (pv 2) pe_int (nomark _)) (pe_tupA K (pa_cons pe_str (pa_cons (pe_c c_k_figure (hr.mono (by omega)) (pa_cons (pv 0) pa_nil)) pa_nil))) (pe_tupA K (pa_cons pe_str (pa_cons (pe_c c_k_take (hr.mono (by omega)) (pa_cons (pv 0) (pa_cons (pv 1) pa_nil))) pa_nil)))))))), ?_⟩
  refine ⟨_, rfl, a, 4, n, rfl, by omega, by omega, hh, by omega, ?_⟩
  rintro v H1 k1 h1 ⟨j, rfl, j0, j1⟩
  refine ⟨_, rfl, rfl, _, rfl, ite2 (fun q => ?_) (fun q => ?_)⟩
  · refine ⟨_, rfl, a, 4, n + 1, rfl, by omega, by omega, h1, by omega, ?_⟩
    rintro v H2 k2 h2 ⟨i, rfl, i0, i1⟩
    exact ⟨szb, fun p H3 s3 n3 t3 => k _ _ (k1.trans (k2.trans (kp_of s3))) ((h2.same s3).mono (by omega)) ⟨_, _, .reg t3 i0 i1⟩⟩
  · refine ⟨_, rfl, rfl, _, rfl, ite2 (fun q => ?_) (fun q => ?_)⟩
    · refine ⟨_, rfl, a, n + 1, rfl, h1, by omega, ?_⟩
      rintro v H2 k2 h2 ⟨i, rfl, i0, i1⟩
      exact ⟨szb, fun p H3 s3 n3 t3 => k _ _ (k1.trans (k2.trans (kp_of s3))) ((h2.same s3).mono (by omega)) ⟨_, _, .fig t3⟩⟩
    · refine ⟨_, rfl, _, rfl, a, many, n + 1, rfl, by omega, by omega, h1, by omega, ?_⟩
      rintro v H2 k2 h2 ⟨i, rfl, i0, i1⟩
      exact ⟨szb, fun p H3 s3 n3 t3 => k _ _ (k1.trans (k2.trans (kp_of s3))) ((h2.same s3).mono (by omega)) ⟨_, _, .share t3 i0 i1⟩⟩
theorem c_lowest (T : Top K mg) : Cl P w K mg base 1 "_law_lowest" (spLowest K) := by
  refine T.d_k_lowest.ok sc_k_lowest (fun vs H Q h => ?_) (fun f cdv A outer s H E vs Q hr h => ?_)
  · obtain ⟨l, ns, many, rfl, _⟩ := h
    rfl
  obtain ⟨l, ns, many, rfl, hS, ln, m3, b1, ⟨z, zm, zp⟩, k⟩ := h
  refine ⟨_, (pss_cons (ps_set (i := 1) sc_k_lowest.nd rfl (by first | exact Or.inl rfl | exact Or.inr rfl) pe_int)
      (pss_cons (ps_for PassesOwn.never rfl (piL K (pv 0)) (pg_name (i := 2) sc_k_lowest.nd rfl (by first | exact Or.inl rfl | exact Or.inr rfl)) (pss_one (ps_while PassesOwn.never (pt_cmpR op_ne (pv 2) pe_int (nomark _)) (pss_one (ps_asg (pe_tupA K (pa_cons (pv 2) (pa_cons (pe_op op_mod (pv 1) (pv 2)) pa_nil))) (pgT K (n := 2) rfl (pgs_cons (pg_name (i := 1) sc_k_lowest.nd rfl (by first | exact Or.inl rfl | exact Or.inr rfl)) (pgs_cons (pg_name (i := 2) sc_k_lowest.nd rfl (by first | exact Or.inl rfl | exact Or.inr rfl)) pgs_nil))))))))
      (pss_one (ps_ret (pe_callTy (clTupleA K) (by rfl) T.b_tuple (by decide +kernel) (pa_cons (pe_lc (own := [("_law_number", 2)]) rfl sc_k_lowest.nd (piL K (pv 0)) (blkOk_by (own := [("_law_number", 2)]) (N := N_k_lowest) (sc := defScope s_k_lowest) (by decide +kernel)) (fun _ _ _ _ _ => (pg_name (i := 2) sc_k_lowest.nd rfl (by first | exact Or.inl rfl | exact Or.inr rfl))) (fun _ _ _ _ _ => pts_nil) (fun _ _ _ _ _ => (pe_op op_fdivW (pv 2) (pv 1)))) pa_nil)))))), ?_⟩
  refine ⟨_, rfl, l, rfl, ⟨_, hS⟩, for_list (K := K) (a := l) (xs := ns.map V.int) (fun i σ H' => ∃ (b : Int) (v : Option V), σ = [some (.ref l), some (.int b), v] ∧ Same H H' ∧ 0 ≤ b ∧ (0 < b → ∃ x ∈ ns, b ≤ x) ∧ ∀ j x, j < i → ns[j]? = some x → 0 < x → 0 < b)
    ⟨0, none, rfl, Same.refl H, by omega, fun q => by omega, fun j x hj => by omega⟩ (fun i σ H' _ ⟨_, _, _, q, _⟩ => q.seq hS) ?_ ?_⟩
  · rintro i y σ H' hy ⟨b, v, rfl, s1, b0, bx, bp⟩
    rw [List.getElem?_map] at hy
    obtain ⟨x, hx, rfl⟩ : ∃ x, ns[i]? = some x ∧ y = .int x := by
      cases e : ns[i]? with
      | none => rw [e] at hy; cases hy
      | some x => rw [e] at hy; exact ⟨x, rfl, (Option.some.inj hy).symm⟩
    have xm : x ∈ ns := List.mem_of_getElem? hx
    have xb := b1 x xm
    refine ⟨fun m σ' H'' => ∃ b' x' : Int, σ' = [some (.ref l), some (.int b'), some (.int x')] ∧ Same H H'' ∧ (m : Int) = x' ∧ 0 ≤ b' ∧ ((b' = b ∧ x' = x) ∨ (0 < b' ∧ b' ≤ x ∧ x' < b')), ⟨x.toNat, b, x, rfl, s1, by omega, b0, .inl ⟨rfl, rfl⟩⟩, ?_⟩
    rintro m σ' H'' ⟨b', x', rfl, s2, hm, b0', hc⟩
    refine ⟨_, rfl, rfl, _, rfl, ite2 (fun q => ?_) (fun q => ?_)⟩
    · have hx0 : x' ≠ 0 := fun e => by
        subst e
        revert q
        decide
      have r := emod_range (x := b') (y := x') (by omega)
      refine ⟨fun σ3 H3 => ∃ b3 x3 : Int, σ3 = [some (.ref l), some (.int b3), some (.int x3)] ∧ Same H H3 ∧ 0 ≤ x3 ∧ x3 < x' ∧ 0 ≤ b3 ∧ ((b3 = b ∧ x3 = x) ∨ (0 < b3 ∧ b3 ≤ x ∧ x3 < b3)), ?_, ?_⟩
      · rintro σ3 H3 ⟨b3, x3, rfl, s3, y0, y1, y2, y3⟩
        exact ⟨x3.toNat, by omega, b3, x3, rfl, s3, by omega, y2, y3⟩
      refine ⟨_, rfl, _, rfl, _, rfl, _, _, rfl, rfl, (by show 0 < x'; omega), szb, fun p H3 s3 n3 t3 => ⟨_, _, rfl, t3, rfl, _, _, rfl, _, _, rfl, rfl, x', b' % x', rfl, s2.trans s3, r.1, r.2, by omega, .inr ⟨by omega, by omega, r.2⟩⟩⟩
    · have hx0 : x' = 0 := by
        by_cases e : x' = 0
        · exact e
        · have ne : ¬ (V.int x' = V.int 0) := fun z => e (V.int.inj z)
          rw [decide_eq_false ne] at q
          exact absurd rfl q
      subst hx0
      refine ⟨b', _, rfl, s2, b0', fun hb => ?_, fun j z hj hz hp => ?_⟩
      · rcases hc with ⟨rfl, _⟩ | ⟨_, h2, _⟩
        · exact bx hb
        · exact ⟨x, xm, h2⟩
      · rcases hc with ⟨rfl, e⟩ | ⟨h1, _, _⟩
        · by_cases c : j < i
          · exact bp j z c hz hp
          · have : j = i := by omega
            subst this
            rw [hx] at hz
            cases hz
            omega
        · exact h1
  · rintro σ H' ⟨b, v, rfl, s1, b0, bx, bp⟩
    obtain ⟨j, hj⟩ := List.mem_iff_getElem?.mp zm
    have bpos : 0 < b := bp j z (by rw [List.length_map]; exact (List.getElem?_eq_some_iff.mp hj).1) hj zp
    obtain ⟨x, xm, bx'⟩ := bx bpos
    have bsm : b ≤ 2000000000000 := by
      have := b1 x xm
      omega
    refine ⟨_, rfl, l, rfl, ⟨_, s1.seq hS⟩, fun D hD => ?_⟩
    refine lc_list (xs := ns.map V.int) (fun i H2 => Same H' H2 ∧ H2 D = some (.lst (((ns.take i).map (· / b)).map V.int))) ⟨same_new hD, upd_same⟩ (fun i H2 _ q => (s1.trans q.1).seq hS) ?_ ?_
    · rintro i y H2 hy ⟨s2, hl⟩
      rw [List.getElem?_map] at hy
      obtain ⟨u, hu, rfl⟩ : ∃ u, ns[i]? = some u ∧ y = .int u := by
        cases e : ns[i]? with
        | none => rw [e] at hy; cases hy
        | some u => rw [e] at hy; exact ⟨u, rfl, (Option.some.inj hy).symm⟩
      refine ⟨rfl, _, rfl, _, rfl, _, _, rfl, rfl, wide_div (b := 60) bpos (by omega) (by decide) (by decide), _, hl, szl ?_, sm_put s2 hD, ?_⟩
      · rw [List.length_map, List.length_map, List.length_take]
        omega
      · rw [upd_same, List.take_add_one, hu, List.map_append, List.map_append]
        rfl
    · rintro H2 ⟨s2, hl⟩
      rw [List.length_map, List.take_length] at hl
      refine ⟨D, _, rfl, SqL.of hl, fun r H3 s3 nr hr => ?_⟩
      have nn : ∀ y ∈ ns.map (· / b), 0 ≤ y := fun y hy => by
        obtain ⟨u, hu, rfl⟩ := List.mem_map.mp hy
        exact Int.ediv_nonneg (b1 u hu).1 b0
      refine k _ _ (s1.trans (s2.trans s3)) ⟨r, ns.map (· / b), rfl, hr, ⟨by rw [List.length_map]; exact ln, nn, ?_, ?_⟩⟩
      · have h1 : x / b ≤ (ns.map (· / b)).sum := le_sum nn _ (List.mem_map.mpr ⟨x, xm, rfl⟩)
        have h2 : 1 ≤ x / b := (Int.le_ediv_iff_mul_le bpos).mpr (by omega)
        omega
      · have up : ∀ us : List Int, (∀ u ∈ us, 0 ≤ u ∧ u ≤ 2000000000000) → (us.map (· / b)).sum ≤ 2000000000000 * (us.length : Int) := by
          intro us
          induction us with
          | nil => intro _; simp
          | cons u us ih =>
            intro hu
            have := ih fun z hz => hu z (List.mem_cons_of_mem _ hz)
            have hu0 := hu u List.mem_cons_self
            have : u / b ≤ u := Int.ediv_le_self _ hu0.1
            rw [List.map_cons, List.sum_cons, List.length_cons]
            push_cast
            omega
        have := up ns b1
        omega
theorem c_shares (T : Top K mg) : Cl P w K mg base 3 "_law_shares" (spShares K) := by
  have c_k_take := c_take (P := P) (w := w) (base := base) T
  have c_k_of := c_of (P := P) (w := w) (base := base) T
  have c_k_lowest := c_lowest (P := P) (w := w) (base := base) T
  refine T.d_k_shares.ok sc_k_shares (fun vs H Q h => ?_) (fun f cdv A outer s H E vs Q hr h => ?_)
  · obtain ⟨a, many, n, rfl, _⟩ := h
    rfl
  obtain ⟨a, many, n, rfl, m2, m3, hh, hn, k⟩ := h
  refine ⟨_, (pss_cons (ps_set (i := 2) sc_k_shares.nd rfl (by first | exact Or.inl rfl | exact Or.inr rfl) (pe_lstA pa_nil))
      (pss_cons (ps_for PassesOwn.never rfl (pi_range1 (by rfl) T.b_range (pa_cons (pv 1) pa_nil)) (pg_name (i := 3) sc_k_shares.nd rfl (by first | exact Or.inl rfl | exact Or.inr rfl)) (pss_cons (ps_set (i := 4) sc_k_shares.nd rfl (by first | exact Or.inl rfl | exact Or.inr rfl) (pe_lstA (pa_cons pe_int (pa_cons pe_int (pa_cons pe_int (pa_cons pe_int (pa_cons (pe_c c_k_take (hr.mono (by omega)) (pa_cons (pv 0) (pa_cons pe_int pa_nil))) (pa_cons (pe_c c_k_take (hr.mono (by omega)) (pa_cons (pv 0) (pa_cons pe_int pa_nil))) (pa_cons (pe_op op_add (pe_op op_pow pe_int pe_int) (pe_c c_k_take (hr.mono (by omega)) (pa_cons (pv 0) (pa_cons pe_int pa_nil)))) pa_nil)))))))))
      (pss_one (ps_expr (pe_bm PySem.F.plainAttrs_list PySem.F.slot_list_append PySem.F.type_list_append mt_append (pv 2) (pa_cons (pe_c c_k_of (hr.mono (by omega)) (pa_cons (pv 0) (pa_cons (pv 4) pa_nil))) pa_nil))))))
      (pss_cons (ps_if (pt_cmpR op_eq (pe_callB (crMax K rfl) (by rfl) T.b_max (by decide +kernel) (pa_cons (pv 2) pa_nil)) pe_int (nomark _)) (pss_one (ps_asg pe_int (pg_sub (pv 2) (pe_c c_k_take (hr.mono (by omega)) (pa_cons (pv 0) (pa_cons (pv 1) pa_nil))) set_list))) pss_nil)
      (pss_one (ps_ret (pe_c c_k_lowest (hr.mono (by omega)) (pa_cons (pv 2) pa_nil))))))), ?_⟩
  refine ⟨szb, fun l H1 s1 n1 t1 => ⟨_, rfl, many, rfl, by omega, by omega, ?_⟩⟩
  have la := hh.ne n1
  refine for_range (fun i σ H' => ∃ (v3 v4 : Option V) (ns : List Int), σ = [some (.ref a), some (.int many), some (.ref l), v3, v4] ∧ Kp a H H' ∧ Hand H' a (n + 4 * i) ∧ H' l = some (.lst (ns.map V.int)) ∧ ns.length = i ∧ ∀ x ∈ ns, 0 ≤ x ∧ x ≤ 2000000000000)
    ⟨none, none, [], rfl, kp_of s1, hh.same s1, t1, rfl, by simp⟩ ?_ ?_
  · rintro i σ H' hi ⟨v3, v4, ns, rfl, k1, h1, hl, lns, b1⟩
    refine ⟨_, rfl, a, 12, _, rfl, by omega, by omega, h1, by omega, ?_⟩
    rintro v H2 k2 h2 ⟨x1, rfl, x10, x11⟩
    refine ⟨_, rfl, a, 1001, _, rfl, by omega, by omega, h2, by omega, ?_⟩
    rintro v H3 k3 h3 ⟨x2, rfl, x20, x21⟩
    refine ⟨_, _, rfl, rfl, ⟨by omega, by omega, by omega⟩, _, rfl, a, 9, _, rfl, by omega, by omega, h3, by omega, ?_⟩
    rintro v H4 k4 h4 ⟨x3, rfl, x30, x31⟩
    refine ⟨_, _, rfl, rfl, szb, fun q H5 s5 n5 t5 => ?_⟩
    have h5 := h4.same s5
    have hl5 := s5 _ _ (k4 _ _ la (k3 _ _ la (k2 _ _ la hl)))
    refine ⟨_, rfl, .inl ⟨rfl, _, SqL.of hl5⟩, _, rfl, _, rfl, a, q, _, _, rfl, h4.ne n5, t5, Nat.le_of_ble_eq_true rfl, Nat.le_of_ble_eq_true rfl, h5, by omega, ?_⟩
    intro v H6 k6 h6 hv
    have hl6 := k6 _ _ la hl5
    obtain ⟨x, rfl, xb⟩ : ∃ x : Int, v = .int x ∧ 0 ≤ x ∧ x ≤ 2000000000000 := by
      simp only [List.mem_cons, List.not_mem_nil, or_false] at hv
      rcases hv with rfl | rfl | rfl | rfl | rfl | rfl | rfl
      · exact ⟨_, rfl, by omega, by omega⟩
      · exact ⟨_, rfl, by omega, by omega⟩
      · exact ⟨_, rfl, by omega, by omega⟩
      · exact ⟨_, rfl, by omega, by omega⟩
      · exact ⟨_, rfl, by omega, by omega⟩
      · exact ⟨_, rfl, by omega, by omega⟩
      · refine ⟨_, rfl, ?_, ?_⟩
        · show 0 ≤ 10 ^ (12 : Int).toNat + x3
          have : (10 : Int) ^ (12 : Int).toNat = 1000000000000 := by decide
          omega
        · show 10 ^ (12 : Int).toNat + x3 ≤ 2000000000000
          have : (10 : Int) ^ (12 : Int).toNat = 1000000000000 := by decide
          omega
    refine ⟨l, _, _, rfl, rfl, hl6, szl (by rw [List.length_map]; omega), ?_⟩
    refine ⟨_, _, ns ++ [x], rfl, ?_, (h6.mono (by omega)).upd la, ?_, by simp [lns], fun y hy => ?_⟩
    · intro b o ne q
      have bl : b ≠ l := ne_of_none q n1
      rw [upd_ne bl]
      exact k6 _ _ ne (s5 _ _ (k4 _ _ ne (k3 _ _ ne (k2 _ _ ne (k1 _ _ ne q)))))
    · rw [upd_same, List.map_append]
      rfl
    · rcases List.mem_append.mp hy with hy | hy
      · exact b1 y hy
      · have : y = x := by simpa using hy
        subst this
        exact xb
  · rintro σ H' ⟨v3, v4, ns, rfl, k1, h1, hl, lns, b1⟩
    have hm : n + 4 * many.toNat ≤ n + 12 := by omega
    refine ⟨_, rfl, l, ns, rfl, SqL.of hl, by omega, fun m hm1 hm2 => ⟨rfl, _, rfl, ite2 (fun q => ?_) (fun q => ?_)⟩⟩
    · refine ⟨_, rfl, _, rfl, _, rfl, a, many, _, rfl, by omega, by omega, h1, by omega, ?_⟩
      rintro v H2 k2 h2 ⟨j, rfl, j0, j1⟩
      have hl2 := k2 _ _ la hl
      refine ⟨l, _, _, _, rfl, rfl, hl2, ixn j0 (by rw [List.length_map]; omega), ?_⟩
      have hl3 : (upd H2 l (.lst ((ns.map V.int).set j.toNat (.int 1)))) l = some (.lst ((ns.set j.toNat 1).map V.int)) := by
        rw [upd_same, List.map_set]
      have k3 : Kp a H (upd H2 l (.lst ((ns.map V.int).set j.toNat (.int 1)))) := fun b o ne q => by
        rw [upd_ne (ne_of_none q n1)]
        exact k2 _ _ ne (k1 _ _ ne q)
      have h3 : Hand (upd H2 l (.lst ((ns.map V.int).set j.toNat (.int 1)))) a (n + 4 * many.toNat + 1) := h2.upd la
      generalize upd H2 l (.lst ((ns.map V.int).set j.toNat (.int 1))) = H3 at hl3 k3 h3
      refine ⟨_, rfl, l, _, many, rfl, SqL.of hl3, by rw [List.length_set]; omega, m3, fun x hx => ?_, ⟨1, ?_, by decide⟩, fun r H4 s4 hr => ?_⟩
      · rcases List.mem_or_eq_of_mem_set hx with hx | rfl
        · exact b1 x hx
        · omega
      · exact List.mem_iff_getElem?.mpr ⟨j.toNat, by rw [List.getElem?_set_self (by omega)]⟩
      · exact k r H4 (k3.trans (kp_of s4)) ((h3.same s4).mono (by omega)) hr
    · have mne : m ≠ 0 := fun e => q (by rw [e]; rfl)
      have mb := b1 m hm1
      refine ⟨_, rfl, l, _, many, rfl, SqL.of hl, by omega, m3, b1, ⟨m, hm1, by omega⟩, fun r H4 s4 hr => ?_⟩
      exact k r H4 (k1.trans (kp_of s4)) ((h1.same s4).mono (by omega)) hr
end
end Nr

/-! Drawing: expressions, stakes, deeds, doubters, weights, any doubter, a one as it joins. -/
namespace Nr
open PySem PySem.Spec PyProof.Rows L2

def useE : Nat → Nat
  | 0 => 4
  | n + 1 => 2 * useE n + 5
def spExpr (K : PySem.W.Frag) (lv : Nat) : Pr := fun vs H Q => ∃ (a : Addr) (many : Int) (n : Nat), vs = [.ref a, .int many, .int (lv : Int), .int 1] ∧ 2 ≤ many ∧ many ≤ 3 ∧ Draw a n (useE lv) H (fun v H' => ∃ lo hi, IsE K H' many (lv + 1) v lo hi) Q
def spStake (K : PySem.W.Frag) : Pr := fun vs H Q => ∃ (a : Addr) (many : Int) (n : Nat), vs = [.ref a, .int many, .int 2, .int 1] ∧ 2 ≤ many ∧ many ≤ 3 ∧ Draw a n 34 H (fun v H' => ∃ lo hi, IsE K H' many 8 v lo hi ∧ -500 ≤ lo ∧ lo ≤ 500 ∧ -500 ≤ hi ∧ hi ≤ 500) Q
def useD : Nat → Nat
  | 0 => 16
  | n + 1 => 21 + 2 * useD n
def DeedAt (K : PySem.W.Frag) (H : Hp) (many : Int) (d : Nat) (x : V) : Prop :=
  (∃ (q : Addr) (w : Str) (i n : Int), x = .ref q ∧ SqT K H q [.str w, .int i, .int n] ∧ PlainDeed many w i n) ∨
  (∃ (d' : Nat) (q : Addr) (i c : Int) (y z : V), d = d' + 1 ∧ x = .ref q ∧ SqT K H q [.str "when", .int i, .int c, y, z] ∧ 0 ≤ i ∧ i < 4 ∧ IsDeeds K H many d' y ∧ IsDeeds K H many d' z)
theorem DeedAt.tk {K : PySem.W.Frag} {H H' : Hp} {many : Int} {d : Nat} {x : V} (h : DeedAt K H many d x) (t : Tk K H H') : DeedAt K H' many d x := by
  rcases h with ⟨q, w, i, n, e, h, r⟩ | ⟨d', q, i, c, y, z, e0, e, h, h0, h1, ry, rz⟩
  · exact .inl ⟨q, w, i, n, e, t _ _ h, r⟩
  · exact .inr ⟨d', q, i, c, y, z, e0, e, t _ _ h, h0, h1, ry.tk t, rz.tk t⟩
theorem deeds_mk {K : PySem.W.Frag} {H : Hp} {many : Int} {p : Addr} {xs : List V} (h : SqT K H p xs) : ∀ {d : Nat}, (∀ x ∈ xs, DeedAt K H many d x) → IsDeeds K H many d (.ref p)
  | 0, r => ⟨p, xs, rfl, h, fun x hx => by
      rcases r x hx with q | ⟨d', _, _, _, _, _, e, _⟩
      · exact q
      · omega⟩
  | d + 1, r => ⟨p, xs, rfl, h, fun x hx => by
      rcases r x hx with q | ⟨d', q, i, c, y, z, e0, e, h, h0, h1, ry, rz⟩
      · exact .inl q
      · have : d' = d := by omega
        subst this
        exact .inr ⟨q, i, c, y, z, e, h, h0, h1, ry, rz⟩⟩
def spDeeds (K : PySem.W.Frag) (d : Nat) : Pr := fun vs H Q => ∃ (a : Addr) (many : Int) (n : Nat), vs = [.ref a, .int many, .int (d : Int)] ∧ 2 ≤ many ∧ many ≤ 3 ∧ Draw a n (useD d) H (fun v H' => IsDeeds K H' many d v) Q
section
variable {P : Program} {w : World} {K : PySem.W.Frag} {mg : Str → Option Value} {base : Heap}
theorem expr_gen (T : Top K mg) {lv k0 : Nat} (hk : 5 ≤ k0) (c_k_expression : Cl P w K mg base k0 "_law_expression" fun vs H Q => ∃ l' : Nat, lv = l' + 1 ∧ spExpr K l' vs H Q) : Cl P w K mg base (k0 + 1) "_law_expression" (spExpr K lv) := by
  have c_k_take := c_take (P := P) (w := w) (base := base) T
  have c_k_of := c_of (P := P) (w := w) (base := base) T
  have c_k_leaf := c_leaf (P := P) (w := w) (base := base) T
  have c_k_figure := c_figure (P := P) (w := w) (base := base) T
  refine T.d_k_expression.ok sc_k_expression (fun vs H Q h => ?_) (fun f cdv A outer s H E vs Q hr h => ?_)
  · obtain ⟨a, many, n, rfl, _⟩ := h
    rfl
  obtain ⟨a, many, n, rfl, m2, m3, hh, hn, k⟩ := h
  refine ⟨_, (pss_cons (ps_set (i := 4) sc_k_expression.nd rfl (by first | exact Or.inl rfl | exact Or.inr rfl) (pe_lstA (pa_cons pe_str (pa_cons pe_str (pa_cons pe_str (pa_cons pe_str (pa_cons pe_str (pa_cons pe_str (pa_cons pe_str (pa_cons pe_str (pa_cons pe_str (pa_cons pe_str pa_nil))))))))))))
      (pss_cons (ps_set (i := 4) sc_k_expression.nd rfl (by first | exact Or.inl rfl | exact Or.inr rfl) (pe_op opCatLA (pv 4) (pe_op opRepLA (pe_lstA (pa_cons pe_str (pa_cons pe_str pa_nil))) (pv 3))))
      (pss_cons (ps_set (i := 5) sc_k_expression.nd rfl (by first | exact Or.inl rfl | exact Or.inr rfl) (pe_ifExp (pt_cmpR op_eq (pv 2) pe_int (nomark _)) pe_str (pe_c c_k_of (hr.mono (by omega)) (pa_cons (pv 0) (pa_cons (pv 4) pa_nil)))))
      (pss_cons (ps_if (pt_cmpR op_eq (pv 5) pe_str (nomark _)) (pss_one (ps_ret (pe_c c_k_leaf (hr.mono (by omega)) (pa_cons (pv 0) (pa_cons (pv 1) pa_nil))))) pss_nil)
      (pss_cons (ps_set (i := 6) sc_k_expression.nd rfl (by first | exact Or.inl rfl | exact Or.inr rfl) (pe_c c_k_expression (hr.mono (by omega)) (pa_cons (pv 0) (pa_cons (pv 1) (pa_cons (pe_op op_sub (pv 2) pe_int) (pa_cons (pv 3) pa_nil))))))
      (pss_cons (ps_if (pt_cmpR op_eq (pv 5) pe_str (nomark _)) (pss_one (ps_ret (pe_tupA K (pa_cons (pv 5) (pa_cons (pe_op op_sub (pe_c c_k_take (hr.mono (by omega)) (pa_cons (pv 0) (pa_cons pe_int pa_nil))) pe_int) (pa_cons (pv 6) pa_nil)))))) pss_nil)
      (pss_cons (ps_if (pt_cmpR op_eq (pv 5) pe_str (nomark _)) (pss_one (ps_ret (pe_tupA K (pa_cons (pv 5) (pa_cons (pe_c c_k_take (hr.mono (by omega)) (pa_cons (pv 0) (pa_cons pe_int pa_nil))) (pa_cons (pv 6) pa_nil)))))) pss_nil)
      (pss_cons (ps_set (i := 7) sc_k_expression.nd rfl (by first | exact Or.inl rfl | exact Or.inr rfl) (pe_c c_k_expression (hr.mono (by omega)) (pa_cons (pv 0) (pa_cons (pv 1) (pa_cons (pe_op op_sub (pv 2) pe_int) (pa_cons (pv 3) pa_nil))))))
      (pss_cons (ps_if (pt_cmpR op_eq (pv 5) pe_str (nomark _)) (pss_one (ps_ret (pe_tupA K (pa_cons (pv 5) (pa_cons (pe_c c_k_take (hr.mono (by omega)) (pa_cons (pv 0) (pa_cons pe_int pa_nil))) (pa_cons (pe_c c_k_figure (hr.mono (by omega)) (pa_cons (pv 0) pa_nil)) (pa_cons (pv 6) (pa_cons (pv 7) pa_nil)))))))) pss_nil)
      (pss_cons (ps_if (pt_cmpR op_eq (pv 5) pe_str (nomark _)) (pss_cons (ps_set (i := 8) sc_k_expression.nd rfl (by first | exact Or.inl rfl | exact Or.inr rfl) (pe_c c_k_of (hr.mono (by omega)) (pa_cons (pv 0) (pa_cons (pe_lstA (pa_cons pe_int (pa_cons pe_int (pa_cons pe_int (pa_cons pe_int (pa_cons pe_int (pa_cons (pe_op op_add pe_int (pe_c c_k_take (hr.mono (by omega)) (pa_cons (pv 0) (pa_cons pe_int pa_nil)))) pa_nil))))))) pa_nil))))
      (pss_one (ps_ret (pe_tupA K (pa_cons (pv 5) (pa_cons (pe_c c_k_take (hr.mono (by omega)) (pa_cons (pv 0) (pa_cons (pv 1) pa_nil))) (pa_cons (pv 8) (pa_cons (pv 6) (pa_cons (pv 7) pa_nil))))))))) pss_nil)
      (pss_one (ps_ret (pe_tupA K (pa_cons (pv 5) (pa_cons (pv 6) (pa_cons (pv 7) pa_nil)))))))))))))))), ?_⟩
  refine ⟨szb, fun p1 H1 s1 n1 t1 => ⟨_, rfl, szb, fun p2 H2 s2 n2 t2 => ⟨_, rfl, p2, 1, _, rfl, rfl, t2, by omega, by omega, Nat.le_of_ble_eq_true rfl, fun p3 H3 s3 n3 t3 => ⟨p1, p3, _, _, rfl, rfl, (s2.trans s3) _ _ t1, t3, szb, fun p4 H4 s4 n4 t4 => ?_⟩⟩⟩⟩
  have s14 := s1.trans (s2.trans (s3.trans s4))
  have h4 : Hand H4 a n := hh.same s14
  have pa : p4 ≠ a := (hh.same (s1.trans (s2.trans s3))).ne n4
  cases lv with
  | zero =>
    refine ⟨_, rfl, rfl, _, rfl, iteY (by decide) ?_⟩
    refine ⟨_, rfl, rfl, _, rfl, iteY (by decide +kernel) ?_⟩
    exact ⟨_, rfl, _, rfl, a, many, n, rfl, m2, m3, h4, hn, fun v H' k' h' r => k v H' ((kp_of s14).trans k') h' r⟩
  | succ lv =>
    have u4 : 4 ≤ useE lv := by
      cases lv with
      | zero => decide
      | succ l => show 4 ≤ 2 * useE l + 5; omega
    have hu : useE (lv + 1) = 2 * useE lv + 5 := rfl
    rw [hu] at hn k
    have elv : ∀ x : Int, x = ((lv + 1 : Nat) : Int) - 1 → x = (lv : Int) := fun x e => by omega
    refine ⟨_, rfl, rfl, _, rfl, iteN (fun z => absurd (V.int.inj (of_decide_eq_true z)) (by omega)) ?_⟩
    refine ⟨_, rfl, _, rfl, a, p4, _, n, rfl, pa, t4, Nat.le_of_ble_eq_true rfl, Nat.le_of_ble_eq_true rfl, h4, by omega, ?_⟩
    intro v H5 k5 h5 hv
    replace hv : v ∈ [V.str "sum", .str "less", .str "least", .str "most", .str "least", .str "most", .str "times", .str "by", .str "when", .str "leaf", .str "where", .str "where"] := hv
    have k15 := (kp_of s14).trans k5
    -- one part, then what comes
    have one : ∀ (H6 : Hp) (n6 : Nat) (R : VK), Kp a H H6 → Hand H6 a n6 → n6 + useE lv ≤ 100000 → (∀ v H7 lo hi, Kp a H6 H7 → Kp a H H7 → Hand H7 a (n6 + useE lv) → IsE K H7 many (lv + 1) v lo hi → R v H7) →
        ∃ l' : Nat, lv + 1 = l' + 1 ∧ spExpr K l' [.ref a, .int many, .int (((lv + 1 : Nat) : Int) - 1), .int 1] H6 R := fun H6 n6 R k6 h6 hn6 q =>
      ⟨lv, rfl, a, many, n6, by rw [elv _ rfl], m2, m3, h6, hn6, fun v H7 k7 h7 ⟨lo, hi, e⟩ => q v H7 lo hi k7 (k6.trans k7) h7 e⟩
    simp only [List.mem_cons, List.not_mem_nil, or_false] at hv
    rcases hv with rfl | rfl | rfl | rfl | rfl | rfl | rfl | rfl | rfl | rfl | rfl | rfl
    · refine ⟨_, rfl, rfl, _, rfl, iteN (by decide +kernel) ⟨_, rfl, _, rfl, _, rfl, _, _, rfl, rfl, _, rfl, one H5 (n + 1) _ k15 h5 (by omega) fun v1 H6 lo1 hi1 k6 k16 h6 e6 => ?_⟩⟩
      refine ⟨_, rfl, rfl, _, rfl, iteN (by decide +kernel) ⟨_, rfl, rfl, _, rfl, iteN (by decide +kernel) ⟨_, rfl, _, rfl, _, rfl, _, _, rfl, rfl, _, rfl, one H6 (n + 1 + useE lv) _ k16 h6 (by omega) fun v2 H7 lo2 hi2 k7 k17 h7 e7 => ?_⟩⟩⟩
      refine ⟨_, rfl, rfl, _, rfl, iteN (by decide +kernel) ⟨_, rfl, rfl, _, rfl, iteN (by decide +kernel) ⟨_, rfl, _, rfl, _, rfl, szb, fun p H8 s8 n8 t8 => ?_⟩⟩⟩
      exact k _ _ (k17.trans (kp_of s8)) ((h7.same s8).mono (by omega)) ⟨_, _, .sum t8 (e6.tk ((h6.tk k7).trans (tk_same s8))) (e7.tk (tk_same s8))⟩
    · refine ⟨_, rfl, rfl, _, rfl, iteN (by decide +kernel) ⟨_, rfl, _, rfl, _, rfl, _, _, rfl, rfl, _, rfl, one H5 (n + 1) _ k15 h5 (by omega) fun v1 H6 lo1 hi1 k6 k16 h6 e6 => ?_⟩⟩
      refine ⟨_, rfl, rfl, _, rfl, iteN (by decide +kernel) ⟨_, rfl, rfl, _, rfl, iteN (by decide +kernel) ⟨_, rfl, _, rfl, _, rfl, _, _, rfl, rfl, _, rfl, one H6 (n + 1 + useE lv) _ k16 h6 (by omega) fun v2 H7 lo2 hi2 k7 k17 h7 e7 => ?_⟩⟩⟩
      refine ⟨_, rfl, rfl, _, rfl, iteN (by decide +kernel) ⟨_, rfl, rfl, _, rfl, iteN (by decide +kernel) ⟨_, rfl, _, rfl, _, rfl, szb, fun p H8 s8 n8 t8 => ?_⟩⟩⟩
      exact k _ _ (k17.trans (kp_of s8)) ((h7.same s8).mono (by omega)) ⟨_, _, .less t8 (e6.tk ((h6.tk k7).trans (tk_same s8))) (e7.tk (tk_same s8))⟩
    · refine ⟨_, rfl, rfl, _, rfl, iteN (by decide +kernel) ⟨_, rfl, _, rfl, _, rfl, _, _, rfl, rfl, _, rfl, one H5 (n + 1) _ k15 h5 (by omega) fun v1 H6 lo1 hi1 k6 k16 h6 e6 => ?_⟩⟩
      refine ⟨_, rfl, rfl, _, rfl, iteN (by decide +kernel) ⟨_, rfl, rfl, _, rfl, iteN (by decide +kernel) ⟨_, rfl, _, rfl, _, rfl, _, _, rfl, rfl, _, rfl, one H6 (n + 1 + useE lv) _ k16 h6 (by omega) fun v2 H7 lo2 hi2 k7 k17 h7 e7 => ?_⟩⟩⟩
      refine ⟨_, rfl, rfl, _, rfl, iteN (by decide +kernel) ⟨_, rfl, rfl, _, rfl, iteN (by decide +kernel) ⟨_, rfl, _, rfl, _, rfl, szb, fun p H8 s8 n8 t8 => ?_⟩⟩⟩
      exact k _ _ (k17.trans (kp_of s8)) ((h7.same s8).mono (by omega)) ⟨_, _, .least t8 (e6.tk ((h6.tk k7).trans (tk_same s8))) (e7.tk (tk_same s8))⟩
    · refine ⟨_, rfl, rfl, _, rfl, iteN (by decide +kernel) ⟨_, rfl, _, rfl, _, rfl, _, _, rfl, rfl, _, rfl, one H5 (n + 1) _ k15 h5 (by omega) fun v1 H6 lo1 hi1 k6 k16 h6 e6 => ?_⟩⟩
      refine ⟨_, rfl, rfl, _, rfl, iteN (by decide +kernel) ⟨_, rfl, rfl, _, rfl, iteN (by decide +kernel) ⟨_, rfl, _, rfl, _, rfl, _, _, rfl, rfl, _, rfl, one H6 (n + 1 + useE lv) _ k16 h6 (by omega) fun v2 H7 lo2 hi2 k7 k17 h7 e7 => ?_⟩⟩⟩
      refine ⟨_, rfl, rfl, _, rfl, iteN (by decide +kernel) ⟨_, rfl, rfl, _, rfl, iteN (by decide +kernel) ⟨_, rfl, _, rfl, _, rfl, szb, fun p H8 s8 n8 t8 => ?_⟩⟩⟩
      exact k _ _ (k17.trans (kp_of s8)) ((h7.same s8).mono (by omega)) ⟨_, _, .most t8 (e6.tk ((h6.tk k7).trans (tk_same s8))) (e7.tk (tk_same s8))⟩
    · refine ⟨_, rfl, rfl, _, rfl, iteN (by decide +kernel) ⟨_, rfl, _, rfl, _, rfl, _, _, rfl, rfl, _, rfl, one H5 (n + 1) _ k15 h5 (by omega) fun v1 H6 lo1 hi1 k6 k16 h6 e6 => ?_⟩⟩
      refine ⟨_, rfl, rfl, _, rfl, iteN (by decide +kernel) ⟨_, rfl, rfl, _, rfl, iteN (by decide +kernel) ⟨_, rfl, _, rfl, _, rfl, _, _, rfl, rfl, _, rfl, one H6 (n + 1 + useE lv) _ k16 h6 (by omega) fun v2 H7 lo2 hi2 k7 k17 h7 e7 => ?_⟩⟩⟩
      refine ⟨_, rfl, rfl, _, rfl, iteN (by decide +kernel) ⟨_, rfl, rfl, _, rfl, iteN (by decide +kernel) ⟨_, rfl, _, rfl, _, rfl, szb, fun p H8 s8 n8 t8 => ?_⟩⟩⟩
      exact k _ _ (k17.trans (kp_of s8)) ((h7.same s8).mono (by omega)) ⟨_, _, .least t8 (e6.tk ((h6.tk k7).trans (tk_same s8))) (e7.tk (tk_same s8))⟩
    · refine ⟨_, rfl, rfl, _, rfl, iteN (by decide +kernel) ⟨_, rfl, _, rfl, _, rfl, _, _, rfl, rfl, _, rfl, one H5 (n + 1) _ k15 h5 (by omega) fun v1 H6 lo1 hi1 k6 k16 h6 e6 => ?_⟩⟩
      refine ⟨_, rfl, rfl, _, rfl, iteN (by decide +kernel) ⟨_, rfl, rfl, _, rfl, iteN (by decide +kernel) ⟨_, rfl, _, rfl, _, rfl, _, _, rfl, rfl, _, rfl, one H6 (n + 1 + useE lv) _ k16 h6 (by omega) fun v2 H7 lo2 hi2 k7 k17 h7 e7 => ?_⟩⟩⟩
      refine ⟨_, rfl, rfl, _, rfl, iteN (by decide +kernel) ⟨_, rfl, rfl, _, rfl, iteN (by decide +kernel) ⟨_, rfl, _, rfl, _, rfl, szb, fun p H8 s8 n8 t8 => ?_⟩⟩⟩
      exact k _ _ (k17.trans (kp_of s8)) ((h7.same s8).mono (by omega)) ⟨_, _, .most t8 (e6.tk ((h6.tk k7).trans (tk_same s8))) (e7.tk (tk_same s8))⟩
    · refine ⟨_, rfl, rfl, _, rfl, iteN (by decide +kernel) ⟨_, rfl, _, rfl, _, rfl, _, _, rfl, rfl, _, rfl, one H5 (n + 1) _ k15 h5 (by omega) fun v1 H6 lo1 hi1 k6 k16 h6 e6 => ?_⟩⟩
      refine ⟨_, rfl, rfl, _, rfl, iteY (by decide +kernel) ⟨_, rfl, _, rfl, a, 19, _, rfl, by omega, by omega, h6, by omega, ?_⟩⟩
      rintro v H7 k7 h7 ⟨i, rfl, i0, i1⟩
      exact ⟨_, _, rfl, rfl, _, rfl, szb, fun p H8 s8 n8 t8 => k _ _ (k16.trans (k7.trans (kp_of s8))) ((h7.same s8).mono (by omega)) ⟨_, _, .times t8 (by omega) (by omega) (e6.tk ((h6.tk k7).trans (tk_same s8)))⟩⟩
    · refine ⟨_, rfl, rfl, _, rfl, iteN (by decide +kernel) ⟨_, rfl, _, rfl, _, rfl, _, _, rfl, rfl, _, rfl, one H5 (n + 1) _ k15 h5 (by omega) fun v1 H6 lo1 hi1 k6 k16 h6 e6 => ?_⟩⟩
      refine ⟨_, rfl, rfl, _, rfl, iteN (by decide +kernel) ⟨_, rfl, rfl, _, rfl, iteY (by decide +kernel) ⟨_, rfl, _, rfl, a, 4, _, rfl, by omega, by omega, h6, by omega, ?_⟩⟩⟩
      rintro v H7 k7 h7 ⟨i, rfl, i0, i1⟩
      exact ⟨_, rfl, szb, fun p H8 s8 n8 t8 => k _ _ (k16.trans (k7.trans (kp_of s8))) ((h7.same s8).mono (by omega)) ⟨_, _, .by_ t8 i0 i1 (e6.tk ((h6.tk k7).trans (tk_same s8)))⟩⟩
    · refine ⟨_, rfl, rfl, _, rfl, iteN (by decide +kernel) ⟨_, rfl, _, rfl, _, rfl, _, _, rfl, rfl, _, rfl, one H5 (n + 1) _ k15 h5 (by omega) fun v1 H6 lo1 hi1 k6 k16 h6 e6 => ?_⟩⟩
      refine ⟨_, rfl, rfl, _, rfl, iteN (by decide +kernel) ⟨_, rfl, rfl, _, rfl, iteN (by decide +kernel) ⟨_, rfl, _, rfl, _, rfl, _, _, rfl, rfl, _, rfl, one H6 (n + 1 + useE lv) _ k16 h6 (by omega) fun v2 H7 lo2 hi2 k7 k17 h7 e7 => ?_⟩⟩⟩
      refine ⟨_, rfl, rfl, _, rfl, iteY (by decide +kernel) ⟨_, rfl, _, rfl, a, 4, _, rfl, by omega, by omega, h7, by omega, ?_⟩⟩
      rintro v H8 k8 h8 ⟨i, rfl, i0, i1⟩
      refine ⟨_, rfl, a, _, rfl, h8, by omega, ?_⟩
      rintro v H9 k9 h9 ⟨c, rfl, c0, c1⟩
      have tt : Tk K H7 H9 := (h7.tk k8).trans (h8.tk k9)
      exact ⟨_, rfl, _, rfl, szb, fun p Ha sa na ta => k _ _ (k17.trans (k8.trans (k9.trans (kp_of sa)))) ((h9.same sa).mono (by omega)) ⟨_, _, .when ta i0 i1 (e6.tk ((h6.tk k7).trans (tt.trans (tk_same sa)))) (e7.tk (tt.trans (tk_same sa)))⟩⟩
    · refine ⟨_, rfl, rfl, _, rfl, iteY (by decide +kernel) ?_⟩
      exact ⟨_, rfl, _, rfl, a, many, n + 1, rfl, m2, m3, h5, by omega, fun v H' k' h' ⟨lo, hi, e⟩ => k v H' (k15.trans k') (h'.mono (by omega)) ⟨lo, hi, e.up (by omega)⟩⟩
    · refine ⟨_, rfl, rfl, _, rfl, iteN (by decide +kernel) ⟨_, rfl, _, rfl, _, rfl, _, _, rfl, rfl, _, rfl, one H5 (n + 1) _ k15 h5 (by omega) fun v1 H6 lo1 hi1 k6 k16 h6 e6 => ?_⟩⟩
      refine ⟨_, rfl, rfl, _, rfl, iteN (by decide +kernel) ⟨_, rfl, rfl, _, rfl, iteN (by decide +kernel) ⟨_, rfl, _, rfl, _, rfl, _, _, rfl, rfl, _, rfl, one H6 (n + 1 + useE lv) _ k16 h6 (by omega) fun v2 H7 lo2 hi2 k7 k17 h7 e7 => ?_⟩⟩⟩
      refine ⟨_, rfl, rfl, _, rfl, iteN (by decide +kernel) ⟨_, rfl, rfl, _, rfl, iteY (by decide +kernel) ⟨_, rfl, _, rfl, a, 1000, _, rfl, by omega, by omega, h7, by omega, ?_⟩⟩⟩
      rintro v H8 k8 h8 ⟨i, rfl, i0, i1⟩
      refine ⟨_, _, rfl, rfl, szb, fun p9 H9 s9 n9 t9 => ⟨a, p9, _, _, rfl, h8.ne n9, t9, Nat.le_of_ble_eq_true rfl, Nat.le_of_ble_eq_true rfl, h8.same s9, by omega, ?_⟩⟩
      intro v Ha ka ha hv
      obtain ⟨c, rfl, c0, c1⟩ : ∃ c : Int, v = .int c ∧ 0 ≤ c ∧ c ≤ 1000 := by
        simp only [List.mem_cons, List.not_mem_nil, or_false] at hv
        rcases hv with rfl | rfl | rfl | rfl | rfl | rfl
        all_goals exact ⟨_, rfl, by omega, by omega⟩
      refine ⟨_, rfl, _, rfl, _, rfl, a, many, _, rfl, by omega, by omega, ha, by omega, ?_⟩
      rintro v Hb kb hb ⟨j, rfl, j0, j1⟩
      have tt : Tk K H7 Hb := (h7.tk k8).trans ((tk_same s9).trans (((h8.same s9).tk ka).trans (ha.tk kb)))
      exact ⟨_, rfl, _, rfl, _, rfl, szb, fun p Hc sc nc tc => k _ _ (k17.trans (k8.trans ((kp_of s9).trans (ka.trans (kb.trans (kp_of sc)))))) ((hb.same sc).mono (by omega)) ⟨_, _, .where_ tc j0 j1 c0 c1 (e6.tk ((h6.tk k7).trans (tt.trans (tk_same sc)))) (e7.tk (tt.trans (tk_same sc)))⟩⟩
    · refine ⟨_, rfl, rfl, _, rfl, iteN (by decide +kernel) ⟨_, rfl, _, rfl, _, rfl, _, _, rfl, rfl, _, rfl, one H5 (n + 1) _ k15 h5 (by omega) fun v1 H6 lo1 hi1 k6 k16 h6 e6 => ?_⟩⟩
      refine ⟨_, rfl, rfl, _, rfl, iteN (by decide +kernel) ⟨_, rfl, rfl, _, rfl, iteN (by decide +kernel) ⟨_, rfl, _, rfl, _, rfl, _, _, rfl, rfl, _, rfl, one H6 (n + 1 + useE lv) _ k16 h6 (by omega) fun v2 H7 lo2 hi2 k7 k17 h7 e7 => ?_⟩⟩⟩
      refine ⟨_, rfl, rfl, _, rfl, iteN (by decide +kernel) ⟨_, rfl, rfl, _, rfl, iteY (by decide +kernel) ⟨_, rfl, _, rfl, a, 1000, _, rfl, by omega, by omega, h7, by omega, ?_⟩⟩⟩
      rintro v H8 k8 h8 ⟨i, rfl, i0, i1⟩
      refine ⟨_, _, rfl, rfl, szb, fun p9 H9 s9 n9 t9 => ⟨a, p9, _, _, rfl, h8.ne n9, t9, Nat.le_of_ble_eq_true rfl, Nat.le_of_ble_eq_true rfl, h8.same s9, by omega, ?_⟩⟩
      intro v Ha ka ha hv
      obtain ⟨c, rfl, c0, c1⟩ : ∃ c : Int, v = .int c ∧ 0 ≤ c ∧ c ≤ 1000 := by
        simp only [List.mem_cons, List.not_mem_nil, or_false] at hv
        rcases hv with rfl | rfl | rfl | rfl | rfl | rfl
        all_goals exact ⟨_, rfl, by omega, by omega⟩
      refine ⟨_, rfl, _, rfl, _, rfl, a, many, _, rfl, by omega, by omega, ha, by omega, ?_⟩
      rintro v Hb kb hb ⟨j, rfl, j0, j1⟩
      have tt : Tk K H7 Hb := (h7.tk k8).trans ((tk_same s9).trans (((h8.same s9).tk ka).trans (ha.tk kb)))
      exact ⟨_, rfl, _, rfl, _, rfl, szb, fun p Hc sc nc tc => k _ _ (k17.trans (k8.trans ((kp_of s9).trans (ka.trans (kb.trans (kp_of sc)))))) ((hb.same sc).mono (by omega)) ⟨_, _, .where_ tc j0 j1 c0 c1 (e6.tk ((h6.tk k7).trans (tt.trans (tk_same sc)))) (e7.tk (tt.trans (tk_same sc)))⟩⟩
theorem c_expr (T : Top K mg) : ∀ lv : Nat, Cl P w K mg base (6 + lv) "_law_expression" (spExpr K lv)
  | 0 => expr_gen T (Nat.le_refl 5) ((T.d_k_expression.nothing fun vs H Q ⟨l', e, _⟩ => by omega).mono (Nat.zero_le 5))
  | lv + 1 => expr_gen T (by show 5 ≤ 6 + lv; omega) ((c_expr T lv).imp fun vs H Q ⟨l', e, h⟩ => by
      have : l' = lv := by omega
      subst this
      exact h)
theorem c_stake (T : Top K mg) : Cl P w K mg base 9 "_law_stake" (spStake K) := by
  have c_k_take := c_take (P := P) (w := w) (base := base) T
  have c_k_of := c_of (P := P) (w := w) (base := base) T
  have c_k_expression := c_expr (P := P) (w := w) (base := base) T 2
  refine T.d_k_stake.ok sc_k_stake (fun vs H Q h => ?_) (fun f cdv A outer s H E vs Q hr h => ?_)
  · obtain ⟨a, many, n, rfl, _⟩ := h
    rfl
  obtain ⟨a, many, n, rfl, m2, m3, hh, hn, k⟩ := h
  refine ⟨_, (pss_cons (ps_set (i := 4) sc_k_stake.nd rfl (by first | exact Or.inl rfl | exact Or.inr rfl) (pe_c c_k_of (hr.mono (by omega)) (pa_cons (pv 0) (pa_cons (pe_lstA (pa_cons pe_int (pa_cons pe_int (pa_cons pe_int (pa_cons pe_int (pa_cons (pe_op op_add pe_int (pe_c c_k_take (hr.mono (by omega)) (pa_cons (pv 0) (pa_cons pe_int pa_nil)))) pa_nil)))))) pa_nil))))
      (pss_cons (ps_if (pt_cmpR op_eq (pe_c c_k_take (hr.mono (by omega)) (pa_cons (pv 0) (pa_cons pe_int pa_nil))) pe_int (nomark _)) (pss_one (ps_ret (pe_tupA K (pa_cons pe_str (pa_cons (pe_c c_k_of (hr.mono (by omega)) (pa_cons (pv 0) (pa_cons (pe_lstA (pa_cons pe_int (pa_cons pe_int (pa_cons (pv 4) (pa_cons (pe_un un_neg (pv 4)) pa_nil))))) pa_nil))) pa_nil))))) pss_nil)
      (pss_cons (ps_set (i := 5) sc_k_stake.nd rfl (by first | exact Or.inl rfl | exact Or.inr rfl) (pe_tupA K (pa_cons pe_str (pa_cons (pe_tupA K (pa_cons pe_str (pa_cons (pe_un un_neg (pv 4)) pa_nil))) (pa_cons (pe_c c_k_expression (hr.mono (by omega)) (pa_cons (pv 0) (pa_cons (pv 1) (pa_cons (pv 2) (pa_cons (pv 3) pa_nil))))) pa_nil)))))
      (pss_one (ps_ret (pe_tupA K (pa_cons pe_str (pa_cons (pe_tupA K (pa_cons pe_str (pa_cons (pv 4) pa_nil))) (pa_cons (pv 5) pa_nil))))))))), ?_⟩
  refine ⟨_, rfl, _, rfl, a, 500, _, rfl, by omega, by omega, hh, by omega, ?_⟩
  rintro v H1 k1 h1 ⟨i, rfl, i0, i1⟩
  refine ⟨_, _, rfl, rfl, szb, fun p2 H2 s2 n2 t2 => ⟨a, p2, _, _, rfl, h1.ne n2, t2, Nat.le_of_ble_eq_true rfl, Nat.le_of_ble_eq_true rfl, h1.same s2, by omega, ?_⟩⟩
  intro v H3 k3 h3 hv
  obtain ⟨fr, rfl, f0, f1⟩ : ∃ c : Int, v = .int c ∧ 1 ≤ c ∧ c ≤ 500 := by
    simp only [List.mem_cons, List.not_mem_nil, or_false] at hv
    rcases hv with rfl | rfl | rfl | rfl | rfl
    all_goals exact ⟨_, rfl, by omega, by omega⟩
  have k13 := k1.trans ((kp_of s2).trans k3)
  refine ⟨_, rfl, a, 4, _, rfl, by omega, by omega, h3, by omega, ?_⟩
  rintro v H4 k4 h4 ⟨j, rfl, j0, j1⟩
  refine ⟨rfl, _, rfl, ite2 (fun q => ?_) (fun q => ?_)⟩
  · refine ⟨_, rfl, _, rfl, _, rfl, _, rfl, szb, fun p5 H5 s5 n5 t5 => ⟨a, p5, _, _, rfl, h4.ne n5, t5, Nat.le_of_ble_eq_true rfl, Nat.le_of_ble_eq_true rfl, h4.same s5, by omega, ?_⟩⟩
    intro v H6 k6 h6 hv
    obtain ⟨c, rfl, c0, c1⟩ : ∃ c : Int, v = .int c ∧ -500 ≤ c ∧ c ≤ 500 := by
      simp only [List.mem_cons, List.not_mem_nil, or_false] at hv
      rcases hv with rfl | rfl | rfl | rfl
      all_goals exact ⟨_, rfl, by omega, by omega⟩
    exact ⟨szb, fun p H7 s7 n7 t7 => k _ _ (k13.trans (k4.trans ((kp_of s5).trans (k6.trans (kp_of s7))))) ((h6.same s7).mono (by omega)) ⟨c, c, .fig t7, c0, c1, c0, c1⟩⟩
  · refine ⟨_, rfl, _, rfl, szb, fun p5 H5 s5 n5 t5 => ⟨_, rfl, _, rfl, _, rfl, _, rfl, a, many, _, rfl, m2, m3, h4.same s5, ?_, ?_⟩⟩
    · show n + 1 + 1 + 1 + 31 ≤ 100000
      omega
    rintro v H6 k6 h6 ⟨lo, hi, e6⟩
    refine ⟨szb, fun p7 H7 s7 n7 t7 => ?_⟩
    refine ⟨_, rfl, szb, fun p8 H8 s8 n8 t8 => ⟨_, rfl, szb, fun p9 H9 s9 n9 t9 => ?_⟩⟩
    have t56 := (h4.same s5).tk (K := K) k6
    have i5 : IsE K H9 many 1 (.ref p5) (-fr) (-fr) := .fig (t56.trans (tk_same (s7.trans (s8.trans s9))) _ _ t5)
    have i7 : IsE K H9 many 4 (.ref p7) (imax (-fr) lo) (imax (-fr) hi) := .most (tk_same (s8.trans s9) _ _ t7) (i5.up (by decide)) (e6.tk (tk_same (s7.trans (s8.trans s9))))
    have i8 : IsE K H9 many 1 (.ref p8) fr fr := .fig (tk_same s9 _ _ t8)
    have i9 : IsE K H9 many 5 (.ref p9) (imin fr (imax (-fr) lo)) (imin fr (imax (-fr) hi)) := .least t9 (i8.up (by decide)) i7
    refine k _ _ (k13.trans (k4.trans ((kp_of s5).trans (k6.trans (kp_of (s7.trans (s8.trans s9))))))) ((h6.same (s7.trans (s8.trans s9))).mono ?_) ⟨_, _, i9.up (by decide), ?_⟩
    · show n + 1 + 1 + 1 + 31 ≤ n + 34
      omega
    · unfold imin imax
      refine ⟨?_, ?_, ?_, ?_⟩ <;> (repeat' split) <;> omega
end
end Nr

/-! Drawing: deeds, doubters, thousands, weights, any doubter, a one as it joins. -/
namespace Nr
open PySem PySem.Spec PyProof.Rows L2

def spDoubter (K : PySem.W.Frag) : Pr := fun vs H Q => ∃ (a : Addr) (many : Int) (n : Nat), vs = [.ref a, .int many, .int 2, .int 1] ∧ 2 ≤ many ∧ many ≤ 3 ∧ Draw a n 280 H (fun v H' => ∃ S b, IsDb K H' many S b v) Q
def spThousand (K : PySem.W.Frag) : Pr := fun vs H Q => ∃ (a : Addr) (many : Int) (n : Nat), vs = [.ref a, .int many] ∧ 2 ≤ many ∧ many ≤ 3 ∧ Draw a n 4 H (fun v H' => ∃ (p : Addr) (ts : List Int), v = .ref p ∧ SqT K H' p (ts.map V.int) ∧ (ts.length : Int) = many ∧ ∀ t ∈ ts, 0 ≤ t ∧ t ≤ 1000) Q
def spWeight : Pr := fun vs H Q => ∃ (a : Addr) (n : Nat), vs = [.ref a] ∧ Draw a n 2 H (fun v _ => ∃ i : Int, v = .int i ∧ 1 ≤ i ∧ i ≤ 1000000000000) Q
def spAny (K : PySem.W.Frag) : Pr := fun vs H Q => ∃ (a : Addr) (many : Int) (n : Nat), vs = [.ref a, .int many] ∧ 2 ≤ many ∧ many ≤ 3 ∧ Draw a n 290 H (fun v H' => ∃ S b, IsDb K H' many S b v) Q
def spMade (K : PySem.W.Frag) : Pr := fun vs H Q => ∃ (v : V) (many S b wt : Int), vs = [v, .int wt] ∧ IsDb K H many S b v ∧ ∀ r H', Same H H' → IsOne K H' many S b wt wt 0 0 0 r → Q r H'
section
variable {P : Program} {w : World} {K : PySem.W.Frag} {mg : Str → Option Value} {base : Heap}
theorem deeds_gen (T : Top K mg) {d k0 : Nat} (hk : 5 ≤ k0) (c_k_deeds : Cl P w K mg base k0 "_law_deeds" fun vs H Q => ∃ d' : Nat, d = d' + 1 ∧ spDeeds K d' vs H Q) : Cl P w K mg base (k0 + 1) "_law_deeds" (spDeeds K d) := by
  have c_k_take := c_take (P := P) (w := w) (base := base) T
  have c_k_of := c_of (P := P) (w := w) (base := base) T
  have c_k_figure := c_figure (P := P) (w := w) (base := base) T
  refine T.d_k_deeds.ok sc_k_deeds (fun vs H Q h => ?_) (fun f cdv A outer s H E vs Q hr h => ?_)
  · obtain ⟨a, many, n, rfl, _⟩ := h
    rfl
  obtain ⟨a, many, n, rfl, m2, m3, hh, hn, k⟩ := h
  have u16 : 16 ≤ useD d := by
    cases d with
    | zero => decide
    | succ l => show 16 ≤ 21 + 2 * useD l; omega
  refine ⟨_, (pss_cons (ps_set (i := 3) sc_k_deeds.nd rfl (by first | exact Or.inl rfl | exact Or.inr rfl) (pe_lstA pa_nil))
      (pss_cons (ps_for PassesOwn.never rfl (pi_range1 (by rfl) T.b_range (pa_cons (pe_c c_k_take (hr.mono (by omega)) (pa_cons (pv 0) (pa_cons pe_int pa_nil))) pa_nil)) (pg_name (i := 4) sc_k_deeds.nd rfl (by first | exact Or.inl rfl | exact Or.inr rfl)) (pss_cons (ps_par (i := 6) (j := 7) (by rfl) sc_k_deeds.nd rfl rfl (by decide) rfl rfl (pa_cons (pe_c c_k_take (hr.mono (by omega)) (pa_cons (pv 0) (pa_cons pe_int pa_nil))) (pa_cons (pe_c c_k_of (hr.mono (by omega)) (pa_cons (pv 0) (pa_cons (pe_lstA (pa_cons pe_str (pa_cons pe_str (pa_cons pe_str (pa_cons pe_str (pa_cons pe_str (pa_cons pe_str pa_nil))))))) pa_nil))) pa_nil)) (by rfl))
      (pss_one (ps_if (pt_cmpR (opIn K) (pv 7) (pe_tupA K (pa_cons pe_str (pa_cons pe_str pa_nil))) rfl) (pss_one (ps_expr (pe_bm PySem.F.plainAttrs_list PySem.F.slot_list_append PySem.F.type_list_append mt_append (pv 3) (pa_cons (pe_tupA K (pa_cons (pv 7) (pa_cons (pv 6) (pa_cons (pe_c c_k_figure (hr.mono (by omega)) (pa_cons (pv 0) pa_nil)) pa_nil)))) pa_nil)))) (pss_one (ps_if (pt_cmpR (opIn K) (pv 7) (pe_tupA K (pa_cons pe_str (pa_cons pe_str pa_nil))) rfl) (pss_one (ps_expr (pe_bm PySem.F.plainAttrs_list PySem.F.slot_list_append PySem.F.type_list_append mt_append (pv 3) (pa_cons (pe_tupA K (pa_cons (pv 7) (pa_cons (pv 6) (pa_cons (pe_c c_k_take (hr.mono (by omega)) (pa_cons (pv 0) (pa_cons pe_int pa_nil))) pa_nil)))) pa_nil)))) (pss_one (ps_expr (pe_bm PySem.F.plainAttrs_list PySem.F.slot_list_append PySem.F.type_list_append mt_append (pv 3) (pa_cons (pe_tupA K (pa_cons (pv 7) (pa_cons (pv 6) (pa_cons (pe_c c_k_take (hr.mono (by omega)) (pa_cons (pv 0) (pa_cons (pv 1) pa_nil))) pa_nil)))) pa_nil))))))))))
      (pss_cons (ps_if (PW.pt (pw_and (pt_cmpR op_gt (pv 2) pe_int (nomark _)) (pw_and1 (pt_cmpR op_eq (pe_c c_k_take (hr.mono (by omega)) (pa_cons (pv 0) (pa_cons pe_int pa_nil))) pe_int (nomark _))))) (pss_cons (ps_setLc (i := 5) (own := [("_law_turn", 4)]) rfl sc_k_deeds.nd rfl rfl (sw_true rfl rfl rfl (by decide +kernel)) (pi_range1 (by rfl) T.b_range (pa_cons pe_int pa_nil)) (blkOk_by (own := [("_law_turn", 4)]) (N := N_k_deeds) (sc := defScope s_k_deeds) (by decide +kernel)) (fun _ _ _ _ _ => (pg_name (i := 4) sc_k_deeds.nd rfl (by first | exact Or.inl rfl | exact Or.inr rfl))) (fun _ _ _ _ _ => pts_nil) (fun _ _ _ _ _ => (pe_c c_k_deeds (hr.mono (by omega)) (pa_cons (pv 0) (pa_cons (pv 1) (pa_cons (pe_op op_sub (pv 2) pe_int) pa_nil))))))
      (pss_one (ps_expr (pe_bm PySem.F.plainAttrs_list PySem.F.slot_list_append PySem.F.type_list_append mt_append (pv 3) (pa_cons (pe_tupA K (pa_cons pe_str (pa_cons (pe_c c_k_take (hr.mono (by omega)) (pa_cons (pv 0) (pa_cons pe_int pa_nil))) (pa_cons (pe_c c_k_figure (hr.mono (by omega)) (pa_cons (pv 0) pa_nil)) (pa_cons (pe_ix (ixL K) (pv 5) pe_int (fun _ _ => rfl)) (pa_cons (pe_ix (ixL K) (pv 5) pe_int (fun _ _ => rfl)) pa_nil)))))) pa_nil))))) pss_nil)
      (pss_one (ps_ret (pe_callTy (clTupleA K) (by rfl) T.b_tuple (by decide +kernel) (pa_cons (pv 3) pa_nil))))))), ?_⟩
  refine ⟨szb, fun l H1 s1 n1 t1 => ⟨_, rfl, a, 4, n, rfl, by omega, by omega, hh.same s1, by omega, ?_⟩⟩
  have la := hh.ne n1
  rintro v H2 k2 h2 ⟨t, rfl, t0, t4⟩
  refine ⟨t, rfl, by omega, by omega, ?_⟩
  refine for_range (fun i σ H' => ∃ (v4 v5 v6 v7 : Option V) (xs : List V), σ = [some (.ref a), some (.int many), some (.int (d : Int)), some (.ref l), v4, v5, v6, v7] ∧ Kp a H H' ∧ Hand H' a (n + 1 + 5 * i) ∧ H' l = some (.lst xs) ∧ xs.length = i ∧ ∀ x ∈ xs, DeedAt K H' many d x)
    ⟨none, none, none, none, [], rfl, (kp_of s1).trans k2, h2, k2 _ _ la t1, rfl, by simp⟩ ?_ ?_
  · rintro i σ H3 hi ⟨v4, v5, v6, v7, xs, rfl, k3, h3, hl, lx, al⟩
    have i4 : i < 3 := by omega
    refine ⟨_, rfl, a, 4, _, rfl, by omega, by omega, h3, by omega, ?_⟩
    rintro v H4 k4 h4 ⟨j, rfl, j0, j1⟩
    refine ⟨_, rfl, szb, fun p5 H5 s5 n5 t5 => ⟨a, p5, _, _, rfl, h4.ne n5, t5, Nat.le_of_ble_eq_true rfl, Nat.le_of_ble_eq_true rfl, h4.same s5, by omega, ?_⟩⟩
    intro v H6 k6 h6 hv
    refine ⟨_, _, rfl, ?_⟩
    have k36 : Kp a H3 H6 := k4.trans ((kp_of s5).trans k6)
    have hl6 := k36 _ _ la hl
    have t36 : Tk K H3 H6 := h3.tk k36
    -- what is put behind the others
    have fin : ∀ (p : Addr) (x : V) (wd : Str) (e : Int) (H7 H8 : Hp), Kp a H6 H7 → Hand H7 a (n + 1 + 5 * i + 1 + 1 + 3) → Same H7 H8 → SqT K H8 p [.str wd, .int j, .int e] → PlainDeed many wd j e → ∀ v4 v5 v6 v7 : Option V,
        H8 l = some (.lst xs) ∧ ∃ (w4 w5 w6 w7 : Option V) (ys : List V), [some (.ref a), some (.int many), some (.int (d : Int)), some (.ref l), v4, v5, v6, v7] = [some (.ref a), some (.int many), some (.int (d : Int)), some (.ref l), w4, w5, w6, w7] ∧ Kp a H (upd H8 l (.lst (xs ++ [.ref p]))) ∧ Hand (upd H8 l (.lst (xs ++ [.ref p]))) a (n + 1 + 5 * (i + 1)) ∧ (upd H8 l (.lst (xs ++ [.ref p]))) l = some (.lst ys) ∧ ys.length = i + 1 ∧ ∀ x ∈ ys, DeedAt K (upd H8 l (.lst (xs ++ [.ref p]))) many d x := by
      intro p x wd e H7 H8 k7 h7 s8 tp pd v4 v5 v6 v7
      have hl8 := s8 _ _ (k7 _ _ la hl6)
      have t38 := t36.trans ((h6.tk k7).trans (tk_same s8))
      refine ⟨hl8, v4, v5, v6, v7, xs ++ [.ref p], rfl, fun b o ne q => ?_, ((h7.same s8).mono (by omega)).upd la, upd_same, by simp [lx], fun x hx => ?_⟩
      · rw [upd_ne (ne_of_none q n1)]
        exact s8 _ _ (k7 _ _ ne (k36 _ _ ne (k3 _ _ ne q)))
      · rcases List.mem_append.mp hx with hx | hx
        · exact (al x hx).tk (t38.trans (tk_put hl8))
        · have : x = .ref p := by simpa using hx
          subst this
          exact .inl ⟨p, wd, _, _, rfl, tk_put hl8 _ _ tp, pd⟩
    have cls : ∃ wd : Str, v = .str wd ∧ ((inV (.str wd) [.str "put", .str "add"] = true ∧ (wd = "put" ∨ wd = "add")) ∨
        (inV (.str wd) [.str "put", .str "add"] = false ∧ inV (.str wd) [.str "copy", .str "plus"] = true ∧ (wd = "copy" ∨ wd = "plus")) ∨
        (inV (.str wd) [.str "put", .str "add"] = false ∧ inV (.str wd) [.str "copy", .str "plus"] = false ∧ wd = "told")) := by
      simp only [List.mem_cons, List.not_mem_nil, or_false] at hv
      rcases hv with rfl | rfl | rfl | rfl | rfl | rfl
      · exact ⟨_, rfl, .inl ⟨by decide +kernel, .inl rfl⟩⟩
      · exact ⟨_, rfl, .inl ⟨by decide +kernel, .inr rfl⟩⟩
      · exact ⟨_, rfl, .inr (.inl ⟨by decide +kernel, by decide +kernel, .inl rfl⟩)⟩
      · exact ⟨_, rfl, .inr (.inl ⟨by decide +kernel, by decide +kernel, .inr rfl⟩)⟩
      · exact ⟨_, rfl, .inr (.inr ⟨by decide +kernel, by decide +kernel, rfl⟩)⟩
      · exact ⟨_, rfl, .inl ⟨by decide +kernel, .inr rfl⟩⟩
    obtain ⟨wd, rfl, cls⟩ := cls
    refine ⟨_, rfl, szb, fun q7 H7 s7 n7 t7 => ⟨_, _, rfl, .inr t7, rfl, rfl, _, rfl, ?_⟩⟩
    have h7 := h6.same s7
    have hl7 := s7 _ _ hl6
    rcases cls with ⟨c1, cw⟩ | ⟨c1, c2, cw⟩ | ⟨c1, c2, cw⟩
    · refine iteY c1 ?_
      refine ⟨_, rfl, .inl ⟨rfl, _, SqL.of hl7⟩, _, rfl, _, rfl, _, rfl, a, _, rfl, h7, by omega, ?_⟩
      rintro v H8 k8 h8 ⟨e, rfl, e0, e1⟩
      refine ⟨szb, fun p H9 s9 n9 t9 => ?_⟩
      obtain ⟨f1, f2⟩ := fin p (.ref p) wd e H8 H9 ((kp_of s7).trans k8) h8 s9 t9 ⟨by omega, by omega, .inl cw⟩ _ _ _ _
      exact ⟨l, _, _, rfl, rfl, f1, szl (by omega), f2⟩
    · refine iteN (fun z => by rw [show (if false = true then _ else inV (V.str wd) [V.str "put", V.str "add"]) = false from c1] at z; cases z) ?_
      refine ⟨_, rfl, szb, fun q8 H8 s8 n8 t8 => ⟨_, _, rfl, .inr t8, rfl, rfl, _, rfl, iteY c2 ?_⟩⟩
      have h8 := h7.same s8
      refine ⟨_, rfl, .inl ⟨rfl, _, SqL.of (s8 _ _ hl7)⟩, _, rfl, _, rfl, _, rfl, a, 4, _, rfl, by omega, by omega, h8, by omega, ?_⟩
      rintro v H9 k9 h9 ⟨e, rfl, e0, e1⟩
      refine ⟨szb, fun p Ha sa na ta => ?_⟩
      obtain ⟨f1, f2⟩ := fin p (.ref p) wd e H9 Ha ((kp_of (s7.trans s8)).trans k9) (h9.mono (by omega)) sa ta ⟨by omega, by omega, .inr (.inl ⟨cw, by omega, by omega⟩)⟩ _ _ _ _
      exact ⟨l, _, _, rfl, rfl, f1, szl (by omega), f2⟩
    · refine iteN (fun z => by rw [show (if false = true then _ else inV (V.str wd) [V.str "put", V.str "add"]) = false from c1] at z; cases z) ?_
      refine ⟨_, rfl, szb, fun q8 H8 s8 n8 t8 => ⟨_, _, rfl, .inr t8, rfl, rfl, _, rfl, iteN (fun z => by rw [show (if false = true then _ else inV (V.str wd) [V.str "copy", V.str "plus"]) = false from c2] at z; cases z) ?_⟩⟩
      have h8 := h7.same s8
      refine ⟨_, rfl, .inl ⟨rfl, _, SqL.of (s8 _ _ hl7)⟩, _, rfl, _, rfl, _, rfl, _, rfl, a, many, _, rfl, by omega, by omega, h8, by omega, ?_⟩
      rintro v H9 k9 h9 ⟨e, rfl, e0, e1⟩
      refine ⟨szb, fun p Ha sa na ta => ?_⟩
      obtain ⟨f1, f2⟩ := fin p (.ref p) wd e H9 Ha ((kp_of (s7.trans s8)).trans k9) (h9.mono (by omega)) sa ta ⟨by omega, by omega, .inr (.inr ⟨cw, by omega, by omega⟩)⟩ _ _ _ _
      exact ⟨l, _, _, rfl, rfl, f1, szl (by omega), f2⟩
  · rintro σ H3 ⟨v4, v5, v6, v7, xs, rfl, k3, h3, hl, lx, al⟩
    have h3' : Hand H3 a (n + 16) := h3.mono (by omega)
    -- the end: a tuple of what was found
    have fin : ∀ (H9 : Hp) (ys : List V), Kp a H H9 → Hand H9 a (n + useD d) → H9 l = some (.lst ys) → (∀ x ∈ ys, DeedAt K H9 many d x) →
        ∃ p zs, [V.ref l] = [V.ref p] ∧ SqL K H9 p zs ∧ ∀ r H2, Same H9 H2 → H9 r = none → SqT K H2 r zs → Q (.ref r) H2 := fun H9 ys k9 h9 hl9 al9 =>
      ⟨l, ys, rfl, SqL.of hl9, fun r H2 s2 nr hr => k _ _ (k9.trans (kp_of s2)) (h9.same s2) (deeds_mk hr fun x hx => (al9 x hx).tk (tk_same s2))⟩
    cases d with
    | zero =>
      refine ⟨_, rfl, _, _, rfl, rfl, _, rfl, iteN (fun z => absurd (of_decide_eq_true z) (by omega)) (iteN (by decide) ⟨_, rfl, fin H3 xs k3 h3' hl al⟩)⟩
    | succ d =>
      have hu : useD (d + 1) = 21 + 2 * useD d := rfl
      rw [hu] at hn
      refine ⟨_, rfl, _, _, rfl, rfl, _, rfl, iteY (decide_eq_true (by omega)) ⟨_, rfl, a, 3, _, rfl, by omega, by omega, h3', by omega, ?_⟩⟩
      rintro v H4 k4 h4 ⟨j, rfl, j0, j1⟩
      have hl4 := k4 _ _ la hl
      have al4 : ∀ x ∈ xs, DeedAt K H4 many (d + 1) x := fun x hx => (al x hx).tk (h3.tk k4)
      refine ⟨rfl, _, rfl, ite2 (fun q => ?_) (fun q => ⟨_, rfl, fin H4 xs (k3.trans k4) (h4.mono (by rw [hu]; omega)) hl4 al4⟩)⟩
      refine ⟨2, rfl, by omega, by omega, fun D hD => ?_⟩
      have Da := h4.ne hD
      have Dl : l ≠ D := ne_of_none hl4 hD
      refine it_range (fun i H' => Kp a H4 H' ∧ Hand H' a (n + 16 + 1 + useD d * i) ∧ ∃ ys, H' D = some (.lst ys) ∧ ys.length = i ∧ ∀ y ∈ ys, IsDeeds K H' many d y) ⟨kp_of (same_new hD), h4.new hD, [], upd_same, rfl, by simp⟩ ?_ ?_
      · rintro i H5 hi ⟨k5, h5, ys, hy, ly, ay⟩
        have hi2 : i < 2 := hi
        have um : useD d * i ≤ useD d * 1 := Nat.mul_le_mul_left _ (by omega)
        have ed : ((d + 1 : Nat) : Int) - 1 = (d : Int) := by omega
        refine ⟨rfl, _, rfl, _, rfl, _, rfl, _, _, rfl, rfl, d, rfl, a, many, _, ?_, m2, m3, h5, by omega, ?_⟩
        · show [V.ref a, V.int many, V.int (((d + 1 : Nat) : Int) - 1)] = _
          rw [ed]
        intro y H6 k6 h6 hd
        have hy6 := k6 _ _ Da hy
        refine ⟨_, hy6, szl (by omega), fun b o ne q => ?_, (h6.mono (by rw [Nat.mul_add, Nat.mul_one]; omega)).upd Da, ys ++ [y], upd_same, by simp [ly], fun z hz => ?_⟩
        · rw [upd_ne (ne_of_none q hD)]
          exact k6 _ _ ne (k5 _ _ ne q)
        · rcases List.mem_append.mp hz with hz | hz
          · exact (ay z hz).tk ((h5.tk k6).trans (tk_put hy6))
          · have : z = y := by simpa using hz
            subst this
            exact hd.tk (tk_put hy6)
      · rintro H5 ⟨k5, h5, ys, hy, ly, ay⟩
        have u2 : useD d * (2 : Int).toNat = 2 * useD d := Nat.mul_comm _ _
        rw [u2] at h5
        match ys, ly, hy, ay with
        | [y0, y1], _, hy, ay =>
          have hl5 := k5 _ _ la hl4
          refine ⟨_, rfl, .inl ⟨rfl, _, SqL.of hl5⟩, _, rfl, a, 4, _, rfl, by omega, by omega, h5, by omega, ?_⟩
          rintro v H6 k6 h6 ⟨e, rfl, e0, e1⟩
          refine ⟨_, rfl, a, _, rfl, h6, by omega, ?_⟩
          rintro v H7 k7 h7 ⟨c, rfl, c0, c1⟩
          have hy7 := k7 _ _ Da (k6 _ _ Da hy)
          have hl7 := k7 _ _ la (k6 _ _ la hl5)
          refine ⟨_, rfl, _, _, _, _, rfl, rfl, SqL.of hy7, rfl, _, rfl, _, _, _, _, rfl, rfl, SqL.of hy7, rfl, szb, fun p H8 s8 n8 t8 => ?_⟩
          have hl8 := s8 _ _ hl7
          have t58 : Tk K H5 H8 := (h5.tk k6).trans ((h6.tk k7).trans (tk_same s8))
          refine ⟨l, _, _, rfl, rfl, hl8, szl (by omega), ⟨_, rfl, fin _ (xs ++ [.ref p]) (fun b o ne q => ?_) (((h7.same s8).mono (by rw [hu]; omega)).upd la) upd_same (fun x hx => ?_)⟩⟩
          · rw [upd_ne (ne_of_none q n1)]
            exact s8 _ _ (k7 _ _ ne (k6 _ _ ne (k5 _ _ ne (k4 _ _ ne (k3 _ _ ne q)))))
          · rcases List.mem_append.mp hx with hx | hx
            · exact (al4 x hx).tk ((h4.tk k5).trans (t58.trans (tk_put hl8)))
            · have : x = .ref p := by simpa using hx
              subst this
              exact .inr ⟨d, p, e, c, y0, y1, rfl, rfl, tk_put hl8 _ _ t8, e0, e1, (ay y0 (by simp)).tk (t58.trans (tk_put hl8)), (ay y1 (by simp)).tk (t58.trans (tk_put hl8))⟩
theorem c_deeds (T : Top K mg) : ∀ d : Nat, Cl P w K mg base (6 + d) "_law_deeds" (spDeeds K d)
  | 0 => deeds_gen T (Nat.le_refl 5) ((T.d_k_deeds.nothing fun vs H Q ⟨l', e, _⟩ => by omega).mono (Nat.zero_le 5))
  | d + 1 => deeds_gen T (by show 5 ≤ 6 + d; omega) ((c_deeds T d).imp fun vs H Q ⟨l', e, h⟩ => by
      have : l' = d := by omega
      subst this
      exact h)
end
end Nr

/-! Drawing: doubters, thousands, weights, any doubter, a one as it joins. -/
namespace Nr
open PySem PySem.Spec PyProof.Rows L2

theorem iabs_le {i m : Int} (h0 : -m ≤ i) (h1 : i ≤ m) : iabs i ≤ m := by
  unfold iabs
  split <;> omega
/-- the farthest end -/
theorem far_of : ∀ {sps : List (Int × Int)}, sps ≠ [] → (∀ s ∈ sps, iabs s.1 ≤ 500 ∧ iabs s.2 ≤ 500) → ∃ far, FarOf far sps ∧ far ≤ 500
  | [], h, _ => absurd rfl h
  | [s], _, b => by
    have b1 := b s (by simp)
    by_cases c : iabs s.1 ≤ iabs s.2
    · exact ⟨iabs s.2, ⟨fun z hz => by
        have : z = s := by simpa using hz
        subst this
        exact ⟨c, Int.le_refl _⟩, s, by simp, .inr rfl⟩, b1.2⟩
    · exact ⟨iabs s.1, ⟨fun z hz => by
        have : z = s := by simpa using hz
        subst this
        exact ⟨Int.le_refl _, by omega⟩, s, by simp, .inl rfl⟩, b1.1⟩
  | s :: t :: r, _, b => by
    obtain ⟨far, F, hf⟩ := far_of (sps := t :: r) (by simp) fun z hz => b z (List.mem_cons_of_mem _ hz)
    have b1 := b s (by simp)
    obtain ⟨z1, hz1, e1⟩ := F.one
    by_cases c1 : iabs s.1 ≤ far
    · by_cases c2 : iabs s.2 ≤ far
      · exact ⟨far, ⟨fun z hz => by
          rcases List.mem_cons.mp hz with rfl | hz
          · exact ⟨c1, c2⟩
          · exact F.all z hz, z1, List.mem_cons_of_mem _ hz1, e1⟩, hf⟩
      · exact ⟨iabs s.2, ⟨fun z hz => by
          rcases List.mem_cons.mp hz with rfl | hz
          · exact ⟨by omega, Int.le_refl _⟩
          · have := F.all z hz
            omega, s, by simp, .inr rfl⟩, b1.2⟩
    · by_cases c2 : iabs s.2 ≤ iabs s.1
      · exact ⟨iabs s.1, ⟨fun z hz => by
          rcases List.mem_cons.mp hz with rfl | hz
          · exact ⟨Int.le_refl _, c2⟩
          · have := F.all z hz
            omega, s, by simp, .inl rfl⟩, b1.1⟩
      · exact ⟨iabs s.2, ⟨fun z hz => by
          rcases List.mem_cons.mp hz with rfl | hz
          · exact ⟨by omega, Int.le_refl _⟩
          · have := F.all z hz
            omega, s, by simp, .inr rfl⟩, b1.2⟩
section
variable {P : Program} {w : World} {K : PySem.W.Frag} {mg : Str → Option Value} {base : Heap}
theorem c_doubter (T : Top K mg) : Cl P w K mg base 10 "_law_doubter" (spDoubter K) := by
  have c_k_take := c_take (P := P) (w := w) (base := base) T
  have c_k_of := c_of (P := P) (w := w) (base := base) T
  have c_k_registers := c_regs (P := P) (w := w) (base := base) T
  have c_k_stake := c_stake (P := P) (w := w) (base := base) T
  have c_k_deeds := c_deeds (P := P) (w := w) (base := base) T 1
  refine T.d_k_doubter.ok sc_k_doubter (fun vs H Q h => ?_) (fun f cdv A outer s H E vs Q hr h => ?_)
  · obtain ⟨a, many, n, rfl, _⟩ := h
    rfl
  obtain ⟨a, many, n, rfl, m2, m3, hh, hn, k⟩ := h
  refine ⟨_, (pss_cons (ps_par (i := 6) (j := 7) (by rfl) sc_k_doubter.nd rfl rfl (by decide) rfl rfl (pa_cons (pe_c c_k_of (hr.mono (by omega)) (pa_cons (pv 0) (pa_cons (pe_lstA (pa_cons pe_str (pa_cons pe_str (pa_cons pe_str (pa_cons pe_str pa_nil))))) pa_nil))) (pa_cons (pe_c c_k_take (hr.mono (by omega)) (pa_cons (pv 0) (pa_cons pe_int pa_nil))) pa_nil)) (by rfl))
      (pss_cons (ps_set (i := 4) sc_k_doubter.nd rfl (by first | exact Or.inl rfl | exact Or.inr rfl) (pe_callTy (clTupleA K) (by rfl) T.b_tuple (by decide +kernel) (pa_cons (pe_lc (own := [("_law_sign_here", 8)]) rfl sc_k_doubter.nd (pi_range1 (by rfl) T.b_range (pa_cons (pv 1) pa_nil)) (blkOk_by (own := [("_law_sign_here", 8)]) (N := N_k_doubter) (sc := defScope s_k_doubter) (by decide +kernel)) (fun _ _ _ _ _ => (pg_name (i := 8) sc_k_doubter.nd rfl (by first | exact Or.inl rfl | exact Or.inr rfl))) (fun _ _ _ _ _ => pts_nil) (fun _ _ _ _ _ => (pe_c c_k_stake (hr.mono (by omega)) (pa_cons (pv 0) (pa_cons (pv 1) (pa_cons (pv 2) (pa_cons (pv 3) pa_nil))))))) pa_nil)))
      (pss_cons (ps_set (i := 5) sc_k_doubter.nd rfl (by first | exact Or.inl rfl | exact Or.inr rfl) (pe_callTy (clTupleA K) (by rfl) T.b_tuple (by decide +kernel) (pa_cons (pe_lc (own := [("_law_sign_here", 8)]) rfl sc_k_doubter.nd (pi_range1 (by rfl) T.b_range (pa_cons (pv 1) pa_nil)) (blkOk_by (own := [("_law_sign_here", 8)]) (N := N_k_doubter) (sc := defScope s_k_doubter) (by decide +kernel)) (fun _ _ _ _ _ => (pg_name (i := 8) sc_k_doubter.nd rfl (by first | exact Or.inl rfl | exact Or.inr rfl))) (fun _ _ _ _ _ => pts_nil) (fun _ _ _ _ _ => (pe_c c_k_deeds (hr.mono (by omega)) (pa_cons (pv 0) (pa_cons (pv 1) (pa_cons pe_int pa_nil)))))) pa_nil)))
      (pss_one (ps_ret (pe_tupA K (pa_cons (pv 6) (pa_cons (pv 7) (pa_cons (pe_c c_k_registers (hr.mono (by omega)) (pa_cons (pv 0) pa_nil)) (pa_cons (pv 4) (pa_cons (pv 5) pa_nil))))))))))), ?_⟩
  refine ⟨_, rfl, szb, fun p1 H1 s1 n1 t1 => ⟨a, p1, _, n, rfl, hh.ne n1, t1, Nat.le_of_ble_eq_true rfl, Nat.le_of_ble_eq_true rfl, hh.same s1, by omega, ?_⟩⟩
  intro v H2 k2 h2 hv
  obtain ⟨nm, rfl⟩ : ∃ nm : Str, v = .str nm := by
    simp only [List.mem_cons, List.not_mem_nil, or_false] at hv
    rcases hv with rfl | rfl | rfl | rfl
    all_goals exact ⟨_, rfl⟩
  refine ⟨_, rfl, a, 5, _, rfl, by omega, by omega, h2, by omega, ?_⟩
  rintro v H3 k3 h3 ⟨sc, rfl, sc0, sc5⟩
  have k13 : Kp a H H3 := (kp_of s1).trans (k2.trans k3)
  refine ⟨_, _, rfl, ?_⟩
  -- the stakes
  refine ⟨_, rfl, many, rfl, by omega, by omega, fun D hD => ?_⟩
  have Da := h3.ne hD
  refine it_range (fun i H' => Kp a H3 H' ∧ Hand H' a (n + 2 + 34 * i) ∧ ∃ ys sps, H' D = some (.lst ys) ∧ ys.length = i ∧ Al K H' many ys sps ∧ ∀ s ∈ sps, iabs s.1 ≤ 500 ∧ iabs s.2 ≤ 500) ⟨kp_of (same_new hD), h3.new hD, [], [], upd_same, rfl, Al.nil, by simp⟩ ?_ ?_
  · rintro i H4 hi ⟨k4, h4, ys, sps, hy, ly, al, b⟩
    have hi3 : i < 3 := by omega
    refine ⟨rfl, _, rfl, _, rfl, _, rfl, _, rfl, a, many, _, rfl, m2, m3, h4, by omega, ?_⟩
    rintro y H5 k5 h5 ⟨lo, hi', e5, l0, l1, g0, g1⟩
    have hy5 := k5 _ _ Da hy
    have t45 := h4.tk (K := K) k5
    refine ⟨_, hy5, szl (by omega), fun b o ne q => ?_, (h5.mono (by omega)).upd Da, ys ++ [y], sps ++ [(lo, hi')], upd_same, by simp [ly], ((al.tk t45).snoc e5).tk (tk_put hy5), fun z hz => ?_⟩
    · rw [upd_ne (ne_of_none q hD)]
      exact k5 _ _ ne (k4 _ _ ne q)
    · rcases List.mem_append.mp hz with hz | hz
      · exact b z hz
      · have : z = (lo, hi') := by simpa using hz
        subst this
        exact ⟨iabs_le l0 l1, iabs_le g0 g1⟩
  rintro H4 ⟨k4, h4, ys, sps, hy, ly, al, b⟩
  refine ⟨D, ys, rfl, SqL.of hy, fun p5 H5 s5 n5 t5 => ?_⟩
  have st5 : IsSt K H5 many (.ref p5) sps := (al.tk (tk_same s5)).st t5 (by omega) m3
  have h5 : Hand H5 a (n + 104) := (h4.same s5).mono (by omega)
  have k15 := k13.trans (k4.trans (kp_of s5))
  -- the deeds
  refine ⟨_, rfl, many, rfl, by omega, by omega, fun D2 hD2 => ?_⟩
  have Da2 := h5.ne hD2
  refine it_range (fun i H' => Kp a H5 H' ∧ Hand H' a (n + 104 + 53 * i) ∧ ∃ ys, H' D2 = some (.lst ys) ∧ ys.length = i ∧ ∀ y ∈ ys, IsDeeds K H' many 1 y) ⟨kp_of (same_new hD2), h5.new hD2, [], upd_same, rfl, by simp⟩ ?_ ?_
  · rintro i H6 hi ⟨k6, h6, zs, hz, lz, az⟩
    have hi3 : i < 3 := by omega
    refine ⟨rfl, _, rfl, _, rfl, a, many, _, rfl, m2, m3, h6, ?_, ?_⟩
    · show n + 104 + 53 * i + 53 ≤ 100000
      omega
    intro y H7 k7 h7 hd
    have hz7 := k7 _ _ Da2 hz
    refine ⟨_, hz7, szl (by omega), fun b o ne q => ?_, (h7.mono ?_).upd Da2, zs ++ [y], upd_same, by simp [lz], fun z hz => ?_⟩
    · rw [upd_ne (ne_of_none q hD2)]
      exact k7 _ _ ne (k6 _ _ ne q)
    · show n + 104 + 53 * i + 53 ≤ _
      omega
    · rcases List.mem_append.mp hz with hz | hz
      · exact (az z hz).tk ((h6.tk k7).trans (tk_put hz7))
      · have : z = y := by simpa using hz
        subst this
        exact hd.tk (tk_put hz7)
  rintro H6 ⟨k6, h6, zs, hz, lz, az⟩
  refine ⟨D2, zs, rfl, SqL.of hz, fun p7 H7 s7 n7 t7 => ?_⟩
  have h7 : Hand H7 a (n + 263) := (h6.same s7).mono (by omega)
  refine ⟨_, rfl, _, rfl, _, rfl, a, _, rfl, h7, by omega, ?_⟩
  intro rg H8 k8 h8 hrg
  refine ⟨_, rfl, _, rfl, szb, fun p9 H9 s9 n9 t9 => ?_⟩
  have hs1 : sps ≠ [] := fun e => by
    have := al.1
    rw [e] at this
    have : ys.length = 0 := this
    omega
  obtain ⟨far, F, f5⟩ := far_of hs1 b
  have t59 : Tk K H5 H9 := (h5.tk k6).trans ((tk_same s7).trans ((h7.tk k8).trans (tk_same s9)))
  have t79 : Tk K H7 H9 := (h7.tk k8).trans (tk_same s9)
  obtain ⟨S, q1, q2, q3⟩ := at_int (ns := [1, 2, 4, 8, 16]) sc0 (show sc < 5 by omega)
  have hsc : ScaleOf sc S := ⟨sc0, by omega, q2⟩
  have hS := hsc.range
  refine k _ _ (k15.trans (k6.trans ((kp_of s7).trans (k8.trans (kp_of s9))))) ((h8.same s9).mono (by omega)) ⟨S, _, p9, nm, sc, rg, _, _, sps, far, rfl, t9, hsc, hrg.tk (tk_same s9), st5.tk t59, F, ?_, rfl, ⟨p7, zs, rfl, t79 _ _ t7, by omega, fun x hx => (az x hx).tk ((tk_same s7).trans t79)⟩⟩
  have : 500 * 1 ≤ 500 * S := Int.mul_le_mul_of_nonneg_left hS.1 (by omega)
  omega
theorem c_thousand (T : Top K mg) : Cl P w K mg base 3 "_law_thousand" (spThousand K) := by
  have c_k_take := c_take (P := P) (w := w) (base := base) T
  have c_k_of := c_of (P := P) (w := w) (base := base) T
  refine T.d_k_thousand.ok sc_k_thousand (fun vs H Q h => ?_) (fun f cdv A outer s H E vs Q hr h => ?_)
  · obtain ⟨a, many, n, rfl, _⟩ := h
    rfl
  obtain ⟨a, many, n, rfl, m2, m3, hh, hn, k⟩ := h
  refine ⟨_, (pss_cons (ps_set (i := 2) sc_k_thousand.nd rfl (by first | exact Or.inl rfl | exact Or.inr rfl) (pe_c c_k_of (hr.mono (by omega)) (pa_cons (pv 0) (pa_cons (pe_lstA (pa_cons pe_int (pa_cons pe_int (pa_cons pe_int (pa_cons pe_int (pa_cons (pe_c c_k_take (hr.mono (by omega)) (pa_cons (pv 0) (pa_cons pe_int pa_nil))) pa_nil)))))) pa_nil))))
      (pss_cons (ps_if (pt_cmpR op_eq (pv 1) pe_int (nomark _)) (pss_one (ps_ret (pe_tupA K (pa_cons (pv 2) (pa_cons (pe_op op_sub pe_int (pv 2)) pa_nil))))) pss_nil)
      (pss_cons (ps_set (i := 3) sc_k_thousand.nd rfl (by first | exact Or.inl rfl | exact Or.inr rfl) (pe_c c_k_of (hr.mono (by omega)) (pa_cons (pv 0) (pa_cons (pe_lstA (pa_cons pe_int (pa_cons (pe_op op_sub pe_int (pv 2)) (pa_cons (pe_c c_k_take (hr.mono (by omega)) (pa_cons (pv 0) (pa_cons (pe_op op_sub pe_int (pv 2)) pa_nil))) pa_nil)))) pa_nil))))
      (pss_one (ps_ret (pe_tupA K (pa_cons (pv 2) (pa_cons (pv 3) (pa_cons (pe_op op_sub (pe_op op_sub pe_int (pv 2)) (pv 3)) pa_nil))))))))), ?_⟩
  refine ⟨_, rfl, _, rfl, a, 1001, n, rfl, by omega, by omega, hh, by omega, ?_⟩
  rintro v H1 k1 h1 ⟨i, rfl, i0, i1⟩
  refine ⟨szb, fun p2 H2 s2 n2 t2 => ⟨a, p2, _, _, rfl, h1.ne n2, t2, Nat.le_of_ble_eq_true rfl, Nat.le_of_ble_eq_true rfl, h1.same s2, by omega, ?_⟩⟩
  intro v H3 k3 h3 hv
  obtain ⟨x, rfl, x0, x1⟩ : ∃ c : Int, v = .int c ∧ 0 ≤ c ∧ c ≤ 1000 := by
    simp only [List.mem_cons, List.not_mem_nil, or_false] at hv
    rcases hv with rfl | rfl | rfl | rfl | rfl
    all_goals exact ⟨_, rfl, by omega, by omega⟩
  have k13 := k1.trans ((kp_of s2).trans k3)
  refine ⟨_, rfl, rfl, _, rfl, ite2 (fun q => ?_) (fun q => ?_)⟩
  · have em : many = 2 := V.int.inj (of_decide_eq_true q)
    refine ⟨_, rfl, _, rfl, _, _, rfl, rfl, szb, fun p H4 s4 n4 t4 => k _ _ (k13.trans (kp_of s4)) ((h3.same s4).mono (by omega)) ⟨p, [x, 1000 - x], rfl, t4, by rw [em]; rfl, fun t ht => ?_⟩⟩
    have : t = x ∨ t = 1000 - x := by simpa using ht
    omega
  · have em : many = 3 := by
      by_cases e : many = 2
      · exact absurd (decide_eq_true (congrArg V.int e)) q
      · omega
    refine ⟨_, rfl, _, rfl, _, _, rfl, rfl, _, rfl, _, rfl, _, _, rfl, rfl, a, 1001 - x, _, rfl, by omega, by omega, h3, by omega, ?_⟩
    rintro v H4 k4 h4 ⟨j, rfl, j0, j1⟩
    refine ⟨szb, fun p5 H5 s5 n5 t5 => ⟨a, p5, _, _, rfl, h4.ne n5, t5, Nat.le_of_ble_eq_true rfl, Nat.le_of_ble_eq_true rfl, h4.same s5, by omega, ?_⟩⟩
    intro v H6 k6 h6 hv
    obtain ⟨y, rfl, y0, y1⟩ : ∃ c : Int, v = .int c ∧ 0 ≤ c ∧ c ≤ 1000 - x := by
      simp only [List.mem_cons, List.not_mem_nil, or_false] at hv
      rcases hv with rfl | rfl | rfl
      all_goals exact ⟨_, rfl, by omega, by omega⟩
    refine ⟨_, rfl, _, rfl, _, rfl, _, _, rfl, rfl, _, rfl, _, _, rfl, rfl, szb, fun p H7 s7 n7 t7 => k _ _ (k13.trans (k4.trans ((kp_of s5).trans (k6.trans (kp_of s7))))) ((h6.same s7).mono (by omega)) ⟨p, [x, y, 1000 - x - y], rfl, t7, by rw [em]; rfl, fun t ht => ?_⟩⟩
    have : t = x ∨ t = y ∨ t = 1000 - x - y := by simpa using ht
    omega
theorem c_weight (T : Top K mg) : Cl P w K mg base 3 "_law_weight" spWeight := by
  have c_k_take := c_take (P := P) (w := w) (base := base) T
  have c_k_of := c_of (P := P) (w := w) (base := base) T
  refine T.d_k_weight.ok sc_k_weight (fun vs H Q h => ?_) (fun f cdv A outer s H E vs Q hr h => ?_)
  · obtain ⟨a, n, rfl, _⟩ := h
    rfl
  obtain ⟨a, n, rfl, hh, hn, k⟩ := h
  refine ⟨_, (pss_one (ps_ret (pe_c c_k_of (hr.mono (by omega)) (pa_cons (pv 0) (pa_cons (pe_lstA (pa_cons pe_int (pa_cons pe_int (pa_cons pe_int (pa_cons (pe_op op_pow pe_int pe_int) (pa_cons (pe_op op_pow pe_int pe_int) (pa_cons (pe_op op_add pe_int (pe_c c_k_take (hr.mono (by omega)) (pa_cons (pv 0) (pa_cons pe_int pa_nil)))) pa_nil))))))) pa_nil))))), ?_⟩
  refine ⟨_, rfl, _, _, rfl, rfl, ⟨by omega, by omega, by omega⟩, _, _, rfl, rfl, ⟨by omega, by omega, by omega⟩, _, rfl, a, 1000, n, rfl, by omega, by omega, hh, by omega, ?_⟩
  rintro v H1 k1 h1 ⟨i, rfl, i0, i1⟩
  refine ⟨_, _, rfl, rfl, szb, fun p2 H2 s2 n2 t2 => ⟨a, p2, _, _, rfl, h1.ne n2, t2, Nat.le_of_ble_eq_true rfl, Nat.le_of_ble_eq_true rfl, h1.same s2, by omega, ?_⟩⟩
  intro v H3 k3 h3 hv
  refine k v H3 (k1.trans ((kp_of s2).trans k3)) (h3.mono (by omega)) ?_
  simp only [List.mem_cons, List.not_mem_nil, or_false] at hv
  have e6 : (10 : Int) ^ (6 : Int).toNat = 1000000 := by decide
  have e12 : (10 : Int) ^ (12 : Int).toNat = 1000000000000 := by decide
  rw [e6, e12] at hv
  rcases hv with rfl | rfl | rfl | rfl | rfl | rfl
  all_goals exact ⟨_, rfl, by omega, by omega⟩
theorem c_any (T : Top K mg) : Cl P w K mg base 11 "_law_any" (spAny K) := by
  have c_k_take := c_take (P := P) (w := w) (base := base) T
  have c_k_of := c_of (P := P) (w := w) (base := base) T
  have c_k_thousand := c_thousand (P := P) (w := w) (base := base) T
  have c_k_doubter := c_doubter (P := P) (w := w) (base := base) T
  have c_tent := c_tent (P := P) (w := w) (base := base) T
  have c_rival := c_rival (P := P) (w := w) (base := base) T
  have c_after := c_after (P := P) (w := w) (base := base) T
  have c_lagging := c_lagging (P := P) (w := w) (base := base) T
  refine T.d_k_any.ok sc_k_any (fun vs H Q h => ?_) (fun f cdv A outer s H E vs Q hr h => ?_)
  · obtain ⟨a, many, n, rfl, _⟩ := h
    rfl
  obtain ⟨a, many, n, rfl, m2, m3, hh, hn, k⟩ := h
  refine ⟨_, (pss_cons (ps_par3 (i := 2) (j := 3) (l := 4) (by rfl) sc_k_any.nd rfl rfl rfl (by decide) (by decide) (by decide) rfl rfl rfl (pa_cons (pe_c c_k_take (hr.mono (by omega)) (pa_cons (pv 0) (pa_cons pe_int pa_nil))) (pa_cons (pe_c c_k_take (hr.mono (by omega)) (pa_cons (pv 0) (pa_cons (pv 1) pa_nil))) (pa_cons (pe_c c_k_of (hr.mono (by omega)) (pa_cons (pv 0) (pa_cons (pe_lstA (pa_cons pe_int (pa_cons (pe_un un_neg pe_int) pa_nil))) pa_nil))) pa_nil))) (by rfl))
      (pss_cons (ps_if (pt_cmpR op_eq (pv 2) pe_int (nomark _)) (pss_one (ps_ret (pe_c c_tent (hr.mono (by omega)) (pa_cons (pv 1) (pa_cons (pv 3) (pa_cons (pe_c c_k_of (hr.mono (by omega)) (pa_cons (pv 0) (pa_cons (pe_lstA (pa_cons pe_int (pa_cons pe_int (pa_cons pe_int (pa_cons (pe_c c_k_take (hr.mono (by omega)) (pa_cons (pv 0) (pa_cons pe_int pa_nil))) pa_nil))))) pa_nil))) (pa_cons (pe_op op_add pe_int (pe_c c_k_take (hr.mono (by omega)) (pa_cons (pv 0) (pa_cons pe_int pa_nil)))) (pa_cons (pv 4) pa_nil)))))))) pss_nil)
      (pss_cons (ps_if (pt_cmpR op_eq (pv 2) pe_int (nomark _)) (pss_one (ps_ret (pe_c c_rival (hr.mono (by omega)) (pa_cons (pv 1) (pa_cons (pe_c c_k_thousand (hr.mono (by omega)) (pa_cons (pv 0) (pa_cons (pv 1) pa_nil))) pa_nil))))) pss_nil)
      (pss_cons (ps_if (pt_cmpR op_eq (pv 2) pe_int (nomark _)) (pss_one (ps_ret (pe_c c_after (hr.mono (by omega)) (pa_cons (pv 1) (pa_cons (pv 3) (pa_cons (pe_c c_k_take (hr.mono (by omega)) (pa_cons (pv 0) (pa_cons (pv 1) pa_nil))) (pa_cons (pv 4) pa_nil))))))) pss_nil)
      (pss_one (ps_ret (pe_ifExp (pt_cmpR op_eq (pv 2) pe_int (nomark _)) (pe_c c_lagging (hr.mono (by omega)) (pa_cons (pv 1) pa_nil)) (pe_c c_k_doubter (hr.mono (by omega)) (pa_cons (pv 0) (pa_cons (pv 1) (pa_cons pe_int (pa_cons pe_int pa_nil)))))))))))), ?_⟩
  refine ⟨_, rfl, a, 7, n, rfl, by omega, by omega, hh, by omega, ?_⟩
  rintro v H1 k1 h1 ⟨way, rfl, w0, w7⟩
  refine ⟨_, rfl, _, rfl, a, many, _, rfl, by omega, by omega, h1, by omega, ?_⟩
  rintro v H2 k2 h2 ⟨sg, rfl, g0, g1⟩
  refine ⟨_, rfl, _, rfl, szb, fun p3 H3 s3 n3 t3 => ⟨a, p3, _, _, rfl, h2.ne n3, t3, Nat.le_of_ble_eq_true rfl, Nat.le_of_ble_eq_true rfl, h2.same s3, by omega, ?_⟩⟩
  intro v H4 k4 h4 hv
  obtain ⟨sd, rfl, hsd⟩ : ∃ c : Int, v = .int c ∧ (c = 1 ∨ c = -1) := by
    simp only [List.mem_cons, List.not_mem_nil, or_false] at hv
    rcases hv with rfl | rfl
    · exact ⟨_, rfl, .inl rfl⟩
    · exact ⟨_, rfl, .inr rfl⟩
  have k14 := k1.trans (k2.trans ((kp_of s3).trans k4))
  refine ⟨_, _, _, rfl, ?_⟩
  have tells : ∀ (H5 : Hp) (m : Nat), Kp a H H5 → Hand H5 a m → m ≤ n + 290 → TellsDb K many H5 Q := fun H5 m k5 h5 hm r H' S b s' hd => k r H' (k5.trans (kp_of s')) ((h5.same s').mono hm) ⟨S, b, hd⟩
  refine ⟨_, rfl, rfl, _, rfl, ite2 (fun q => ?_) (fun q => ?_)⟩
  · refine ⟨_, rfl, _, rfl, _, rfl, _, rfl, a, 1001, _, rfl, by omega, by omega, h4, by omega, ?_⟩
    rintro v H5 k5 h5 ⟨i, rfl, i0, i1⟩
    refine ⟨szb, fun p6 H6 s6 n6 t6 => ⟨a, p6, _, _, rfl, h5.ne n6, t6, Nat.le_of_ble_eq_true rfl, Nat.le_of_ble_eq_true rfl, h5.same s6, by omega, ?_⟩⟩
    intro v H7 k7 h7 hv
    obtain ⟨ce, rfl, c0, c1⟩ : ∃ c : Int, v = .int c ∧ 0 ≤ c ∧ c ≤ 1000 := by
      simp only [List.mem_cons, List.not_mem_nil, or_false] at hv
      rcases hv with rfl | rfl | rfl | rfl
      all_goals exact ⟨_, rfl, by omega, by omega⟩
    refine ⟨_, rfl, a, 500, _, rfl, by omega, by omega, h7, by omega, ?_⟩
    rintro v H8 k8 h8 ⟨wi, rfl, wi0, wi1⟩
    exact ⟨_, _, rfl, rfl, _, rfl, many, sg, ce, 1 + wi, sd, rfl, m2, m3, g0, g1, c0, c1, by omega, by omega, tells H8 _ (k14.trans (k5.trans ((kp_of s6).trans (k7.trans k8)))) h8 (by omega)⟩
  refine ⟨_, rfl, rfl, _, rfl, ite2 (fun q => ?_) (fun q => ?_)⟩
  · refine ⟨_, rfl, _, rfl, _, rfl, a, many, _, rfl, m2, m3, h4, by omega, ?_⟩
    rintro v H5 k5 h5 ⟨p, ts, rfl, tp, lt, bt⟩
    exact ⟨many, p, ts, rfl, m2, m3, tp, lt, bt, tells H5 _ (k14.trans k5) h5 (by omega)⟩
  refine ⟨_, rfl, rfl, _, rfl, ite2 (fun q => ?_) (fun q => ?_)⟩
  · refine ⟨_, rfl, _, rfl, _, rfl, _, rfl, a, many, _, rfl, by omega, by omega, h4, by omega, ?_⟩
    rintro v H5 k5 h5 ⟨th, rfl, th0, th1⟩
    exact ⟨_, rfl, many, sg, th, sd, rfl, m2, m3, th0, th1, hsd, tells H5 _ (k14.trans k5) h5 (by omega)⟩
  refine ⟨_, rfl, rfl, _, rfl, ite2 (fun q => ?_) (fun q => ?_)⟩
  · exact ⟨_, rfl, many, rfl, m2, m3, tells H4 _ k14 h4 (by omega)⟩
  · refine ⟨_, rfl, _, rfl, a, many, _, rfl, m2, m3, h4, by omega, ?_⟩
    intro v H5 k5 h5 hd
    exact k v H5 (k14.trans k5) (h5.mono (by omega)) hd
theorem c_made (T : Top K mg) : Cl P w K mg base 1 "_law_made" (spMade K) := by
  refine T.d_k_made.ok sc_k_made (fun vs H Q h => ?_) (fun f cdv A outer s H E vs Q hr h => ?_)
  · obtain ⟨v, many, S, b, wt, rfl, _⟩ := h
    rfl
  obtain ⟨v, many, S, b, wt, rfl, hD, k⟩ := h
  refine ⟨_, (pss_one (ps_ret (pe_tupA K (pa_cons pe_str (pa_cons (pv 0) (pa_cons (pe_ix (ixT K) (pv 0) pe_int (fun _ _ => rfl)) (pa_cons (pv 1) (pa_cons (pv 1) (pa_cons pe_int (pa_cons pe_int (pa_cons pe_int pa_nil))))))))))), ?_⟩
  obtain ⟨p, nm, sc, bg, sk, bh, sps, far, rfl, h1, h2⟩ := id hD
  refine ⟨_, rfl, _, rfl, _, _, _, _, rfl, rfl, h1, rfl, _, rfl, _, rfl, szb, fun r H2 s2 n2 t2 => ?_⟩
  exact k _ _ s2 ⟨r, _, _, rfl, t2, hD.tk (tk_same s2), h2.2.1.tk (tk_same s2)⟩
end
end Nr

/-! The law's own worth of an expression. -/
namespace Nr
open PySem PySem.Spec PyProof.Rows L2

/-- an expression with parts: its word, its numbers, its parts with their spans -/
inductive Fin8 (many : Int) : Str → List Int → List (V × Int × Int) → Int → Int → Prop where
  | times {f lo hi : Int} {x : V} (h0 : -9 ≤ f) (h1 : f ≤ 9) : Fin8 many "times" [f] [(x, lo, hi)] (imin (f * lo) (f * hi)) (imax (f * lo) (f * hi))
  | by_ {i lo hi : Int} {x : V} (h0 : 0 ≤ i) (h1 : i < 4) : Fin8 many "by" [i] [(x, lo, hi)] (-1000 * imax (iabs lo) (iabs hi)) (1000 * imax (iabs lo) (iabs hi))
  | sum {lo hi lo' hi' : Int} {x y : V} : Fin8 many "sum" [] [(x, lo, hi), (y, lo', hi')] (lo + lo') (hi + hi')
  | less {lo hi lo' hi' : Int} {x y : V} : Fin8 many "less" [] [(x, lo, hi), (y, lo', hi')] (lo - hi') (hi - lo')
  | least {lo hi lo' hi' : Int} {x y : V} : Fin8 many "least" [] [(x, lo, hi), (y, lo', hi')] (imin lo lo') (imin hi hi')
  | most {lo hi lo' hi' : Int} {x y : V} : Fin8 many "most" [] [(x, lo, hi), (y, lo', hi')] (imax lo lo') (imax hi hi')
  | when {i c lo hi lo' hi' : Int} {x y : V} (h0 : 0 ≤ i) (h1 : i < 4) : Fin8 many "when" [i, c] [(x, lo, hi), (y, lo', hi')] (imin lo lo') (imax hi hi')
  | where_ {j c lo hi lo' hi' : Int} {x y : V} (h0 : 0 ≤ j) (h1 : j < many) (h2 : 0 ≤ c) (h3 : c ≤ 1000) : Fin8 many "where" [j, c] [(x, lo, hi), (y, lo', hi')] (imin lo lo') (imax hi hi')
theorem Fin8.word {many : Int} {wd : Str} {ns : List Int} {sb : List (V × Int × Int)} {lo hi : Int} (f : Fin8 many wd ns sb lo hi) : inV (.str wd) [.str "fig", .str "reg"] = false ∧ decide (V.str wd = V.str "share") = false ∧ ns.length ≤ 2 ∧ sb.length ≤ 2 := by
  cases f <;> exact ⟨by decide +kernel, by decide +kernel, Nat.le_of_ble_eq_true rfl, Nat.le_of_ble_eq_true rfl⟩

theorem IsE.ref {K : PySem.W.Frag} {H : Hp} {many : Int} {n : Nat} {v : V} {lo hi : Int} (e : IsE K H many n v lo hi) : ∃ (q : Addr) (xs : List V), v = .ref q ∧ SqT K H q xs := by
  cases e <;> exact ⟨_, _, rfl, by assumption⟩
theorem IsE.split {K : PySem.W.Frag} {H : Hp} {many : Int} {n : Nat} {v : V} {lo hi : Int} (e : IsE K H many (n + 1) v lo hi) :
    (∃ (p : Addr) (c : Int), v = .ref p ∧ lo = c ∧ hi = c ∧ SqT K H p [.str "fig", .int c]) ∨
    (∃ (p : Addr) (i : Int), v = .ref p ∧ lo = -1000 ∧ hi = 1000 ∧ SqT K H p [.str "reg", .int i] ∧ 0 ≤ i ∧ i < 4) ∨
    (∃ (p : Addr) (j : Int), v = .ref p ∧ lo = 0 ∧ hi = 1000 ∧ SqT K H p [.str "share", .int j] ∧ 0 ≤ j ∧ j < many) ∨
    ∃ (p : Addr) (wd : Str) (fl : List Int) (sb : List (V × Int × Int)), v = .ref p ∧ SqT K H p (.str wd :: (fl.map V.int ++ sb.map (·.1))) ∧ (∀ z ∈ sb, IsE K H many n z.1 z.2.1 z.2.2) ∧ Fin8 many wd fl sb lo hi := by
  have one : ∀ {x : V} {lo hi : Int}, IsE K H many n x lo hi → ∀ z ∈ [(x, lo, hi)], IsE K H many n z.1 z.2.1 z.2.2 := fun {x lo hi} e z hz => by
    have : z = (x, lo, hi) := by simpa using hz
    subst this
    exact e
  have two : ∀ {x y : V} {lo hi lo' hi' : Int}, IsE K H many n x lo hi → IsE K H many n y lo' hi' → ∀ z ∈ [(x, lo, hi), (y, lo', hi')], IsE K H many n z.1 z.2.1 z.2.2 := fun {x y lo hi lo' hi'} e e' z hz => by
    have : z = (x, lo, hi) ∨ z = (y, lo', hi') := by simpa using hz
    rcases this with rfl | rfl
    · exact e
    · exact e'
  cases e with
  | @fig _ p c h => exact .inl ⟨p, _, rfl, rfl, rfl, h⟩
  | @reg _ p i h i0 i1 => exact .inr (.inl ⟨p, i, rfl, rfl, rfl, h, i0, i1⟩)
  | @share _ p j h j0 j1 => exact .inr (.inr (.inl ⟨p, j, rfl, rfl, rfl, h, j0, j1⟩))
  | @times _ p f x lo hi h h0 h1 e => exact .inr (.inr (.inr ⟨p, "times", [f], [(x, lo, hi)], rfl, h, one e, .times h0 h1⟩))
  | @by_ _ p i x lo hi h h0 h1 e => exact .inr (.inr (.inr ⟨p, "by", [i], [(x, lo, hi)], rfl, h, one e, .by_ h0 h1⟩))
  | @sum _ p x y lo hi lo' hi' h e e' => exact .inr (.inr (.inr ⟨p, "sum", [], [(x, lo, hi), (y, lo', hi')], rfl, h, two e e', .sum⟩))
  | @less _ p x y lo hi lo' hi' h e e' => exact .inr (.inr (.inr ⟨p, "less", [], [(x, lo, hi), (y, lo', hi')], rfl, h, two e e', .less⟩))
  | @least _ p x y lo hi lo' hi' h e e' => exact .inr (.inr (.inr ⟨p, "least", [], [(x, lo, hi), (y, lo', hi')], rfl, h, two e e', .least⟩))
  | @most _ p x y lo hi lo' hi' h e e' => exact .inr (.inr (.inr ⟨p, "most", [], [(x, lo, hi), (y, lo', hi')], rfl, h, two e e', .most⟩))
  | @when _ p i c x y lo hi lo' hi' h h0 h1 e e' => exact .inr (.inr (.inr ⟨p, "when", [i, c], [(x, lo, hi), (y, lo', hi')], rfl, h, two e e', .when h0 h1⟩))
  | @where_ _ p j c x y lo hi lo' hi' h h0 h1 h2 h3 e e' => exact .inr (.inr (.inr ⟨p, "where", [j, c], [(x, lo, hi), (y, lo', hi')], rfl, h, two e e', .where_ h0 h1 h2 h3⟩))

/-! ### the bounds -/
def Btw (N x lo hi : Int) : Prop := lo * N ≤ x ∧ x ≤ hi * N
theorem imin_l {a b : Int} : imin a b ≤ a := by unfold imin; split <;> omega
theorem imin_r {a b : Int} : imin a b ≤ b := by unfold imin; split <;> omega
theorem imax_l {a b : Int} : a ≤ imax a b := by unfold imax; split <;> omega
theorem imax_r {a b : Int} : b ≤ imax a b := by unfold imax; split <;> omega
theorem Btw.mono {N x lo hi lo' hi' : Int} (h : Btw N x lo hi) (n : 0 ≤ N) (h1 : lo' ≤ lo) (h2 : hi ≤ hi') : Btw N x lo' hi' :=
  ⟨Int.le_trans (Int.mul_le_mul_of_nonneg_right h1 n) h.1, Int.le_trans h.2 (Int.mul_le_mul_of_nonneg_right h2 n)⟩
theorem Btw.times {N x lo hi f : Int} (h : Btw N x lo hi) (n : 0 ≤ N) : Btw N (x * f) (imin (f * lo) (f * hi)) (imax (f * lo) (f * hi)) := by
  obtain ⟨h1, h2⟩ := h
  by_cases c : 0 ≤ f
  · have a1 := Int.mul_le_mul_of_nonneg_right h1 c
    have a2 := Int.mul_le_mul_of_nonneg_right h2 c
    have b : Btw N (x * f) (f * lo) (f * hi) := ⟨by rw [show f * lo * N = lo * N * f by grind]; exact a1, by rw [show f * hi * N = hi * N * f by grind]; exact a2⟩
    exact b.mono n imin_l imax_r
  · have a1 := Int.mul_le_mul_of_nonpos_right h1 (show f ≤ 0 by omega)
    have a2 := Int.mul_le_mul_of_nonpos_right h2 (show f ≤ 0 by omega)
    have b : Btw N (x * f) (f * hi) (f * lo) := ⟨by rw [show f * hi * N = hi * N * f by grind]; exact a2, by rw [show f * lo * N = lo * N * f by grind]; exact a1⟩
    exact b.mono n imin_r imax_l
theorem Btw.by_ {N x lo hi r : Int} (h : Btw N x lo hi) (n : 0 ≤ N) (r0 : -1000 ≤ r) (r1 : r ≤ 1000) : Btw N (x * r) (-1000 * imax (iabs lo) (iabs hi)) (1000 * imax (iabs lo) (iabs hi)) := by
  have f1 : -imax (iabs lo) (iabs hi) ≤ lo := by unfold imax iabs; split <;> split <;> split <;> omega
  have f2 : hi ≤ imax (iabs lo) (iabs hi) := by unfold imax iabs; split <;> split <;> split <;> omega
  have f0 : 0 ≤ imax (iabs lo) (iabs hi) := by unfold imax iabs; split <;> split <;> split <;> omega
  have b := h.mono n f1 f2
  have c := b.times (f := r) n
  generalize imax (iabs lo) (iabs hi) = m at *
  have hr : r * m ≤ 1000 * m := Int.mul_le_mul_of_nonneg_right r1 f0
  have hr2 : -1000 * m ≤ r * m := Int.mul_le_mul_of_nonneg_right r0 f0
  have e : r * -m = -(r * m) := by grind
  refine c.mono n ?_ ?_
  · rw [e]
    unfold imin
    split <;> omega
  · rw [e]
    unfold imax
    split <;> omega
theorem Btw.sum {N x y lo hi lo' hi' : Int} (h : Btw N x lo hi) (h' : Btw N y lo' hi') : Btw N (x + y * 1) (lo + lo') (hi + hi') := by
  obtain ⟨a, b⟩ := h
  obtain ⟨c, d⟩ := h'
  exact ⟨by rw [Int.add_mul]; omega, by rw [Int.add_mul]; omega⟩
theorem Btw.less {N x y lo hi lo' hi' : Int} (h : Btw N x lo hi) (h' : Btw N y lo' hi') : Btw N (x + y * -1) (lo - hi') (hi - lo') := by
  obtain ⟨a, b⟩ := h
  obtain ⟨c, d⟩ := h'
  exact ⟨by rw [Int.sub_mul]; omega, by rw [Int.sub_mul]; omega⟩
theorem Btw.least {N x y lo hi lo' hi' : Int} (h : Btw N x lo hi) (h' : Btw N y lo' hi') (n : 0 ≤ N) : Btw N (imin x y) (imin lo lo') (imin hi hi') := by
  constructor
  · have a1 := (h.mono n imin_l (Int.le_refl _) : Btw N x (imin lo lo') hi).1
    have a2 := (h'.mono n imin_r (Int.le_refl _) : Btw N y (imin lo lo') hi').1
    generalize imin lo lo' = l at a1 a2 ⊢
    unfold imin
    split <;> omega
  · have b1 := h.2
    have b2 := h'.2
    by_cases c : hi' < hi
    · rw [show imin hi hi' = hi' by unfold imin; rw [if_pos c]]
      exact Int.le_trans imin_r b2
    · rw [show imin hi hi' = hi by unfold imin; rw [if_neg c]]
      exact Int.le_trans imin_l b1
theorem Btw.most {N x y lo hi lo' hi' : Int} (h : Btw N x lo hi) (h' : Btw N y lo' hi') (n : 0 ≤ N) : Btw N (imax x y) (imax lo lo') (imax hi hi') := by
  constructor
  · have b1 := h.1
    have b2 := h'.1
    by_cases c : lo' > lo
    · rw [show imax lo lo' = lo' by unfold imax; rw [if_pos c]]
      exact Int.le_trans b2 imax_r
    · rw [show imax lo lo' = lo by unfold imax; rw [if_neg c]]
      exact Int.le_trans b1 imax_l
  · have a1 := (h.mono n (Int.le_refl _) imax_l : Btw N x lo (imax hi hi')).2
    have a2 := (h'.mono n (Int.le_refl _) imax_r : Btw N y lo' (imax hi hi')).2
    generalize imax hi hi' = l at a1 a2 ⊢
    unfold imax
    split <;> omega
/-- two in order -/
theorem two_sorted {x y : Int} {ns : List Int} (p : ns.Perm [x, y]) (s : ns.Pairwise (· ≤ ·)) : ns = [imin x y, imax x y] := by
  have l := p.length_eq
  match ns, l with
  | [a, b], _ =>
    have h1 : a ≤ b := by simpa using s
    have ha : a = x ∨ a = y := by simpa using p.mem_iff.mp (show a ∈ [a, b] by simp)
    have hb : b = x ∨ b = y := by simpa using p.mem_iff.mp (show b ∈ [a, b] by simp)
    have hx : x = a ∨ x = b := by simpa using p.mem_iff.mpr (show x ∈ [x, y] by simp)
    have hy : y = a ∨ y = b := by simpa using p.mem_iff.mpr (show y ∈ [x, y] by simp)
    unfold imin imax
    split <;> split <;> (congr 1 <;> first | omega | (congr 1; omega))

def spWorth (K : PySem.W.Frag) (n : Nat) : Pr := fun vs H Q => ∃ (v : V) (pr pl : Addr) (rs ps : List Int) (many lo hi : Int), vs = [v, .ref pr, .ref pl] ∧ IsE K H many n v lo hi ∧ SqT K H pr (rs.map V.int) ∧ RegOk rs ∧ SqT K H pl (ps.map V.int) ∧ ShOk many ps ∧
  ∀ (x : Int) (H' : Hp), Same H H' → Btw ps.sum x lo hi → Q (.int x) H'
theorem isi_no {K : PySem.W.Frag} {t : String} (h : (Value.type t == Value.type "tuple") = false) (h2 : PySem.W.kitCls K (.type t) (.type "tuple") = some false) : PySem.W.kitOne K (.type t) (.type "tuple") = some false := by
  unfold PySem.W.kitOne
  rw [h]
  exact h2
section
variable {P : Program} {w : World} {K : PySem.W.Frag} {mg : Str → Option Value} {base : Heap}
theorem kit_str : PySem.W.kitOne K (.type "str") (.type "tuple") = some false := by
  rfl
theorem kit_int : PySem.W.kitOne K (.type "int") (.type "tuple") = some false := by
  rfl
theorem kit_tup : PySem.W.kitOne K (.type "tuple") (.type "tuple") = some true := if_pos (beq_self_eq_true _)
theorem worth_gen (T : Top K mg) {n k0 : Nat} (c_k_worth : Cl P w K mg base k0 "_law_worth" (spWorth K n)) : Cl P w K mg base (k0 + 1) "_law_worth" (spWorth K (n + 1)) := by
  refine T.d_k_worth.ok sc_k_worth (fun vs H Q h => ?_) (fun f cdv A outer s H E vs Q hr h => ?_)
  · obtain ⟨v, pr, pl, rs, ps, many, lo, hi, rfl, _⟩ := h
    rfl
  obtain ⟨v, pr, pl, rs, ps, many, lo, hi, rfl, hE, hR, rok, hS, sok, k⟩ := h
  refine ⟨_, (pss_cons (ps_par (i := 4) (j := 5) (by rfl) sc_k_worth.nd rfl rfl (by decide) rfl rfl (pa_cons (pe_ix (ixT K) (pv 0) pe_int (fun _ _ => rfl)) (pa_cons (pe_callB (crSumT K rfl) (by rfl) T.b_sum (by decide +kernel) (pa_cons (pv 2) pa_nil)) pa_nil)) (by rfl))
      (pss_cons (ps_if (pt_cmpR (opIn K) (pv 4) (pe_tupA K (pa_cons pe_str (pa_cons pe_str pa_nil))) rfl) (pss_one (ps_ret (pe_op op_mul (pv 5) (pe_ifExp (pt_cmpR op_eq (pv 4) pe_str (nomark _)) (pe_ix (ixT K) (pv 0) pe_int (fun _ _ => rfl)) (pe_ix (ixT K) (pv 1) (pe_ix (ixT K) (pv 0) pe_int (fun _ _ => rfl)) (fun _ _ => rfl)))))) pss_nil)
      (pss_cons (ps_if (pt_cmpR op_eq (pv 4) pe_str (nomark _)) (pss_one (ps_ret (pe_op op_mul pe_int (pe_ix (ixT K) (pv 2) (pe_ix (ixT K) (pv 0) pe_int (fun _ _ => rfl)) (fun _ _ => rfl))))) pss_nil)
      (pss_cons (ps_setLc (i := 3) (own := [("_law_part", 6)]) rfl sc_k_worth.nd rfl rfl (sw_true rfl rfl rfl (by decide +kernel)) (piT K (pv 0)) (blkOk_by (own := [("_law_part", 6)]) (N := N_k_worth) (sc := defScope s_k_worth) (by decide +kernel)) (fun _ _ _ _ _ => (pg_name (i := 6) sc_k_worth.nd rfl (by first | exact Or.inl rfl | exact Or.inr rfl))) (fun _ _ _ _ _ => (pts_one (pt_val (pe_callB (clIsi K) (by rfl) T.b_isinstance (by decide +kernel) (pa_cons (pv 6) (pa_cons (pe_bltn (v := .ty "tuple") rfl T.b_tuple boot_tuple rfl) pa_nil)))))) (fun _ _ _ _ _ => (pe_c c_k_worth (hr.mono (by omega)) (pa_cons (pv 6) (pa_cons (pv 1) (pa_cons (pv 2) pa_nil))))))
      (pss_cons (ps_if (pt_cmpR (opIn K) (pv 4) (pe_tupA K (pa_cons pe_str (pa_cons pe_str pa_nil))) rfl) (pss_one (ps_ret (pe_op op_mul (pe_ix (ixL K) (pv 3) pe_int (fun _ _ => rfl)) (pe_ifExp (pt_cmpR op_eq (pv 4) pe_str (nomark _)) (pe_ix (ixT K) (pv 0) pe_int (fun _ _ => rfl)) (pe_ix (ixT K) (pv 1) (pe_ix (ixT K) (pv 0) pe_int (fun _ _ => rfl)) (fun _ _ => rfl)))))) pss_nil)
      (pss_cons (ps_if (pt_cmpR op_eq (pv 4) pe_str (nomark _)) (pss_one (ps_ret (pe_ix (ixL K) (pv 3) (pe_callTy call_int1 (by rfl) T.b_int (by decide +kernel) (pa_cons (pe_cmpR op_ge (pe_ix (ixT K) (pv 1) (pe_ix (ixT K) (pv 0) pe_int (fun _ _ => rfl)) (fun _ _ => rfl)) (pe_ix (ixT K) (pv 0) pe_int (fun _ _ => rfl)) (nomark _)) pa_nil)) (fun _ _ => rfl)))) pss_nil)
      (pss_cons (ps_if (pt_cmpR op_eq (pv 4) pe_str (nomark _)) (pss_one (ps_ret (pe_ix (ixL K) (pv 3) (pe_callTy call_int1 (by rfl) T.b_int (by decide +kernel) (pa_cons (pe_cmpR op_ge (pe_op op_mul pe_int (pe_ix (ixT K) (pv 2) (pe_ix (ixT K) (pv 0) pe_int (fun _ _ => rfl)) (fun _ _ => rfl))) (pe_op op_mul (pe_ix (ixT K) (pv 0) pe_int (fun _ _ => rfl)) (pv 5)) (nomark _)) pa_nil)) (fun _ _ => rfl)))) pss_nil)
      (pss_cons (ps_if (pt_cmpR (opIn K) (pv 4) (pe_tupA K (pa_cons pe_str (pa_cons pe_str pa_nil))) rfl) (pss_one (ps_ret (pe_op op_add (pe_ix (ixL K) (pv 3) pe_int (fun _ _ => rfl)) (pe_op op_mul (pe_ix (ixL K) (pv 3) pe_int (fun _ _ => rfl)) (pe_ifExp (pt_cmpR op_eq (pv 4) pe_str (nomark _)) pe_int (pe_un un_neg pe_int)))))) pss_nil)
      (pss_one (ps_ret (pe_ix (ixL K) (pe_callB (crSorted K) (by rfl) T.b_sorted (by decide +kernel) (pa_cons (pv 3) pa_nil)) (pe_callTy call_int1 (by rfl) T.b_int (by decide +kernel) (pa_cons (pe_cmpR op_eq (pv 4) pe_str (nomark _)) pa_nil)) (fun _ _ => rfl)))))))))))), ?_⟩
  have N0 : 0 ≤ ps.sum := by have := sok.pos; omega
  have N1 : ps.sum < 2 ^ 45 := sok.most
  have reg : ∀ i : Int, 0 ≤ i → i < 4 → ∃ r, atI (rs.map V.int) i = some (.int r) ∧ -1000 ≤ r ∧ r ≤ 1000 := fun i i0 i1 => by
    obtain ⟨r, e, _, m⟩ := at_int (ns := rs) i0 (by rw [rok.1]; exact i1)
    exact ⟨r, e, rok.2 r m⟩
  have shr : ∀ j : Int, 0 ≤ j → j < many → ∃ x, atI (ps.map V.int) j = some (.int x) ∧ 0 ≤ x ∧ x ≤ ps.sum := fun j j0 j1 => by
    obtain ⟨x, e, _, m⟩ := at_int (ns := ps) j0 (by rw [sok.len]; exact j1)
    exact ⟨x, e, sok.nn x m, le_sum sok.nn x m⟩
  rcases hE.split with ⟨p, c, rfl, rfl, rfl, h⟩ | ⟨p, i, rfl, rfl, rfl, h, i0, i1⟩ | ⟨p, j, rfl, rfl, rfl, h, j0, j1⟩ | ⟨p, wd, fl, sb, rfl, h, hsub, hF⟩
  · refine ⟨_, rfl, _, _, _, _, rfl, rfl, h, rfl, _, rfl, pl, _, rfl, hS, _, _, rfl, ?_⟩
    refine ⟨_, rfl, szb, fun p1 H1 s1 n1 t1 => ⟨_, _, rfl, .inr t1, rfl, rfl, _, rfl, iteY (by decide +kernel) ?_⟩⟩
    exact ⟨_, rfl, _, rfl, rfl, _, rfl, iteY (by decide +kernel) ⟨_, rfl, _, _, _, _, rfl, rfl, tk_same s1 _ _ h, rfl, _, _, rfl, rfl, .inl ⟨by omega, by omega⟩, k _ _ s1 ⟨by rw [Int.mul_comm]; exact Int.le_refl _, by rw [Int.mul_comm]; exact Int.le_refl _⟩⟩⟩
  · obtain ⟨r, er, r0, r1⟩ := reg i i0 i1
    refine ⟨_, rfl, _, _, _, _, rfl, rfl, h, rfl, _, rfl, pl, _, rfl, hS, _, _, rfl, ?_⟩
    refine ⟨_, rfl, szb, fun p1 H1 s1 n1 t1 => ⟨_, _, rfl, .inr t1, rfl, rfl, _, rfl, iteY (by decide +kernel) ?_⟩⟩
    refine ⟨_, rfl, _, rfl, rfl, _, rfl, iteN (by decide +kernel) ⟨_, rfl, _, rfl, _, _, _, _, rfl, rfl, tk_same s1 _ _ h, rfl, _, _, _, _, rfl, rfl, tk_same s1 _ _ hR, er, _, _, rfl, rfl, .inl ⟨by omega, by omega⟩, k _ _ s1 ?_⟩⟩
    have a1 := Int.mul_le_mul_of_nonneg_right r0 N0
    have a2 := Int.mul_le_mul_of_nonneg_right r1 N0
    exact ⟨by rw [Int.mul_comm ps.sum r]; exact a1, by rw [Int.mul_comm ps.sum r]; exact a2⟩
  · obtain ⟨x, ex, x0, x1⟩ := shr j j0 j1
    refine ⟨_, rfl, _, _, _, _, rfl, rfl, h, rfl, _, rfl, pl, _, rfl, hS, _, _, rfl, ?_⟩
    refine ⟨_, rfl, szb, fun p1 H1 s1 n1 t1 => ⟨_, _, rfl, .inr t1, rfl, rfl, _, rfl, iteN (by decide +kernel) ?_⟩⟩
    refine ⟨_, rfl, rfl, _, rfl, iteY (by decide +kernel) ⟨_, rfl, _, rfl, _, _, _, _, rfl, rfl, tk_same s1 _ _ h, rfl, _, _, _, _, rfl, rfl, tk_same s1 _ _ hS, ex, _, _, rfl, rfl, .inl ⟨by omega, by omega⟩, k _ _ s1 ?_⟩⟩
    exact ⟨by omega, by omega⟩
  obtain ⟨w1, w2, lf, lb⟩ := hF.word
  refine ⟨_, rfl, _, _, _, _, rfl, rfl, h, at_of (j := 0) rfl rfl, _, rfl, pl, _, rfl, hS, _, _, rfl, ?_⟩
  refine ⟨_, rfl, szb, fun p1 H1 s1 n1 t1 => ⟨_, _, rfl, .inr t1, rfl, rfl, _, rfl, iteN (fun z => by rw [show (if false = true then _ else inV (V.str wd) [V.str "fig", V.str "reg"]) = false from w1] at z; cases z) ?_⟩⟩
  refine ⟨_, rfl, rfl, _, rfl, iteN (fun z => by rw [w2] at z; cases z) ?_⟩
  have h1 := tk_same s1 _ _ h
  refine ⟨_, rfl, p, rfl, ⟨_, h1⟩, fun D hD => ?_⟩
  refine it_tup (xs := .str wd :: (fl.map V.int ++ sb.map (·.1))) (fun i H' => Same H1 H' ∧ ∃ ns : List Int, H' D = some (.lst (ns.map V.int)) ∧ ns.length = i - 1 - fl.length ∧ ∀ (j : Nat) (x : Int) (z : V × Int × Int), ns[j]? = some x → sb[j]? = some z → Btw ps.sum x z.2.1 z.2.2)
    ⟨same_new hD, [], upd_same, by simp, fun j x z hj => by simp at hj⟩ (fun i H' _ q => tk_same q.1 _ _ h1) ?_ ?_
  · rintro i y H2 hy ⟨s2, ns, hl, ln, hb⟩
    refine ⟨rfl, _, rfl, ?_⟩
    cases i with
    | zero =>
      have : y = .str wd := (Option.some.inj hy).symm
      subst this
      refine ⟨_, _, _, _, false, rfl, .ty _, .base (.str _), kit_str, _, rfl, iteN (by decide) ⟨s2, ns, hl, ?_, hb⟩⟩
      omega
    | succ i =>
      rw [List.getElem?_cons_succ] at hy
      by_cases c : i < fl.length
      · rw [List.getElem?_append_left (by rw [List.length_map]; exact c), List.getElem?_map, List.getElem?_eq_getElem c] at hy
        have : y = .int fl[i] := (Option.some.inj hy).symm
        subst this
        refine ⟨_, _, _, _, false, rfl, .ty _, .base (.int _), kit_int, _, rfl, iteN (by decide) ⟨s2, ns, hl, ?_, hb⟩⟩
        omega
      · rw [List.getElem?_append_right (by rw [List.length_map]; omega), List.length_map, List.getElem?_map] at hy
        obtain ⟨z, hz, rfl⟩ : ∃ z, sb[i - fl.length]? = some z ∧ y = z.1 := by
          cases e : sb[i - fl.length]? with
          | none => rw [e] at hy; cases hy
          | some z => rw [e] at hy; exact ⟨z, rfl, (Option.some.inj hy).symm⟩
        have ez := (hsub z (List.mem_of_getElem? hz)).tk (tk_same (s1.trans s2))
        obtain ⟨q, zs, hq, hzs⟩ := ez.ref
        have lns : ns.length < 1000 := by
          have := (List.getElem?_eq_some_iff.mp hz).1
          omega
        refine ⟨z.1, _, .type "tuple", _, true, rfl, .ty _, by rw [hq]; exact tyx_tup hzs, kit_tup, _, rfl, iteY (by decide) ?_⟩
        refine ⟨_, rfl, _, rfl, _, rfl, z.1, pr, pl, rs, ps, many, z.2.1, z.2.2, rfl, ez, tk_same (s1.trans s2) _ _ hR, rok, tk_same (s1.trans s2) _ _ hS, sok, fun x H3 s3 hx => ?_⟩
        refine ⟨_, s3 _ _ hl, szl (by rw [List.length_map]; exact lns), sm_put (s2.trans s3) hD, ns ++ [x], ?_, ?_, fun j x' z' hj hz' => ?_⟩
        · rw [upd_same, List.map_append]
          rfl
        · rw [List.length_append, List.length_singleton]
          omega
        · rcases snoc_get hj with hj | ⟨rfl, rfl⟩
          · exact hb j x' z' hj hz'
          · have ej : ns.length = i - fl.length := by omega
            rw [ej, hz] at hz'
            cases hz'
            exact hx
  rintro H2 ⟨s2, ns, hl, ln, hb⟩
  have ln2 : ns.length = sb.length := by
    rw [ln, List.length_cons, List.length_append, List.length_map, List.length_map]
    omega
  have hl' : SqL K H2 D (ns.map V.int) := SqL.of hl
  have h2 := tk_same s2 _ _ h1
  have hR2 := tk_same (s1.trans s2) _ _ hR
  have hS2 := tk_same (s1.trans s2) _ _ hS
  have s12 := s1.trans s2
  cases hF with
  | @times f lo hi x h0 h1' =>
    match ns, ln2 with
    | [x0], _ =>
      have b0 : Btw ps.sum x0 lo hi := hb 0 x0 _ rfl rfl
      refine ⟨_, rfl, szb, fun p3 H3 s3 n3 t3 => ⟨_, _, rfl, .inr t3, rfl, rfl, _, rfl, iteY (by decide +kernel) ?_⟩⟩
      exact ⟨_, rfl, _, _, _, _, rfl, rfl, s3.seq hl', rfl, _, rfl, rfl, _, rfl, iteY (by decide +kernel) ⟨_, rfl, _, _, _, _, rfl, rfl, tk_same s3 _ _ h2, rfl, _, _, rfl, rfl, .inr ⟨by omega, by omega⟩, k _ _ (s12.trans s3) (b0.times N0)⟩⟩
  | @by_ i lo hi x h0 h1' =>
    match ns, ln2 with
    | [x0], _ =>
      have b0 : Btw ps.sum x0 lo hi := hb 0 x0 _ rfl rfl
      obtain ⟨r, er, r0, r1⟩ := reg i h0 h1'
      refine ⟨_, rfl, szb, fun p3 H3 s3 n3 t3 => ⟨_, _, rfl, .inr t3, rfl, rfl, _, rfl, iteY (by decide +kernel) ?_⟩⟩
      exact ⟨_, rfl, _, _, _, _, rfl, rfl, s3.seq hl', rfl, _, rfl, rfl, _, rfl, iteN (by decide +kernel) ⟨_, rfl, _, rfl, _, _, _, _, rfl, rfl, tk_same s3 _ _ h2, rfl, _, _, _, _, rfl, rfl, tk_same s3 _ _ hR2, er, _, _, rfl, rfl, .inr ⟨by omega, by omega⟩, k _ _ (s12.trans s3) (b0.by_ N0 r0 r1)⟩⟩
  | @sum lo hi lo' hi' x y =>
    match ns, ln2 with
    | [x0, x1], _ =>
      have b0 : Btw ps.sum x0 lo hi := hb 0 x0 _ rfl rfl
      have b1 : Btw ps.sum x1 lo' hi' := hb 1 x1 _ rfl rfl
      refine ⟨_, rfl, szb, fun p3 H3 s3 n3 t3 => ⟨_, _, rfl, .inr t3, rfl, rfl, _, rfl, iteN (by decide +kernel) ?_⟩⟩
      refine ⟨_, rfl, rfl, _, rfl, iteN (by decide +kernel) ⟨_, rfl, rfl, _, rfl, iteN (by decide +kernel) ?_⟩⟩
      refine ⟨_, rfl, szb, fun p4 H4 s4 n4 t4 => ⟨_, _, rfl, .inr t4, rfl, rfl, _, rfl, iteY (by decide +kernel) ?_⟩⟩
      exact ⟨_, rfl, _, _, _, _, rfl, rfl, (s3.trans s4).seq hl', rfl, _, rfl, _, _, _, _, rfl, rfl, (s3.trans s4).seq hl', rfl, _, rfl, rfl, _, rfl, iteY (by decide +kernel) ⟨_, _, rfl, rfl, .inr ⟨by omega, by omega⟩, _, _, rfl, rfl, k _ _ (s12.trans (s3.trans s4)) (b0.sum b1)⟩⟩
  | @less lo hi lo' hi' x y =>
    match ns, ln2 with
    | [x0, x1], _ =>
      have b0 : Btw ps.sum x0 lo hi := hb 0 x0 _ rfl rfl
      have b1 : Btw ps.sum x1 lo' hi' := hb 1 x1 _ rfl rfl
      refine ⟨_, rfl, szb, fun p3 H3 s3 n3 t3 => ⟨_, _, rfl, .inr t3, rfl, rfl, _, rfl, iteN (by decide +kernel) ?_⟩⟩
      refine ⟨_, rfl, rfl, _, rfl, iteN (by decide +kernel) ⟨_, rfl, rfl, _, rfl, iteN (by decide +kernel) ?_⟩⟩
      refine ⟨_, rfl, szb, fun p4 H4 s4 n4 t4 => ⟨_, _, rfl, .inr t4, rfl, rfl, _, rfl, iteY (by decide +kernel) ?_⟩⟩
      exact ⟨_, rfl, _, _, _, _, rfl, rfl, (s3.trans s4).seq hl', rfl, _, rfl, _, _, _, _, rfl, rfl, (s3.trans s4).seq hl', rfl, _, rfl, rfl, _, rfl, iteN (by decide +kernel) ⟨_, rfl, _, _, rfl, rfl, .inr ⟨by omega, by omega⟩, _, _, rfl, rfl, k _ _ (s12.trans (s3.trans s4)) (b0.less b1)⟩⟩
  | @least lo hi lo' hi' x y =>
    match ns, ln2 with
    | [x0, x1], _ =>
      have b0 : Btw ps.sum x0 lo hi := hb 0 x0 _ rfl rfl
      have b1 : Btw ps.sum x1 lo' hi' := hb 1 x1 _ rfl rfl
      refine ⟨_, rfl, szb, fun p3 H3 s3 n3 t3 => ⟨_, _, rfl, .inr t3, rfl, rfl, _, rfl, iteN (by decide +kernel) ?_⟩⟩
      refine ⟨_, rfl, rfl, _, rfl, iteN (by decide +kernel) ⟨_, rfl, rfl, _, rfl, iteN (by decide +kernel) ?_⟩⟩
      refine ⟨_, rfl, szb, fun p4 H4 s4 n4 t4 => ⟨_, _, rfl, .inr t4, rfl, rfl, _, rfl, iteN (by decide +kernel) ?_⟩⟩
      refine ⟨_, rfl, D, [x0, x1], rfl, (s3.trans s4).seq hl', (by show 2 < 64; decide), fun ns' q hp hs hq => ?_⟩
      have e2 := two_sorted hp hs
      subst e2
      refine ⟨_, rfl, rfl, .inr ⟨_, rfl, _, _, _, _, rfl, rfl, SqL.of upd_same, ?_, k _ _ (s12.trans (s3.trans (s4.trans (same_new hq)))) (b0.least b1 N0)⟩⟩
      rw [show (if decide (V.str "least" = V.str "most") = true then (1 : Int) else 0) = (0 : Int) from by decide +kernel]
      rfl
  | @most lo hi lo' hi' x y =>
    match ns, ln2 with
    | [x0, x1], _ =>
      have b0 : Btw ps.sum x0 lo hi := hb 0 x0 _ rfl rfl
      have b1 : Btw ps.sum x1 lo' hi' := hb 1 x1 _ rfl rfl
      refine ⟨_, rfl, szb, fun p3 H3 s3 n3 t3 => ⟨_, _, rfl, .inr t3, rfl, rfl, _, rfl, iteN (by decide +kernel) ?_⟩⟩
      refine ⟨_, rfl, rfl, _, rfl, iteN (by decide +kernel) ⟨_, rfl, rfl, _, rfl, iteN (by decide +kernel) ?_⟩⟩
      refine ⟨_, rfl, szb, fun p4 H4 s4 n4 t4 => ⟨_, _, rfl, .inr t4, rfl, rfl, _, rfl, iteN (by decide +kernel) ?_⟩⟩
      refine ⟨_, rfl, D, [x0, x1], rfl, (s3.trans s4).seq hl', (by show 2 < 64; decide), fun ns' q hp hs hq => ?_⟩
      have e2 := two_sorted hp hs
      subst e2
      refine ⟨_, rfl, rfl, .inr ⟨_, rfl, _, _, _, _, rfl, rfl, SqL.of upd_same, ?_, k _ _ (s12.trans (s3.trans (s4.trans (same_new hq)))) (b0.most b1 N0)⟩⟩
      rw [show (if decide (V.str "most" = V.str "most") = true then (1 : Int) else 0) = (1 : Int) from by decide +kernel]
      rfl
  | @when i c lo hi lo' hi' x y h0 h1' =>
    match ns, ln2 with
    | [x0, x1], _ =>
      have b0 : Btw ps.sum x0 lo hi := hb 0 x0 _ rfl rfl
      have b1 : Btw ps.sum x1 lo' hi' := hb 1 x1 _ rfl rfl
      obtain ⟨r, er, r0, r1⟩ := reg i h0 h1'
      refine ⟨_, rfl, szb, fun p3 H3 s3 n3 t3 => ⟨_, _, rfl, .inr t3, rfl, rfl, _, rfl, iteN (by decide +kernel) ?_⟩⟩
      refine ⟨_, rfl, rfl, _, rfl, iteY (by decide +kernel) ?_⟩
      refine ⟨_, rfl, _, rfl, _, rfl, _, _, _, _, rfl, rfl, tk_same s3 _ _ h2, rfl, _, _, _, _, rfl, rfl, tk_same s3 _ _ hR2, er, _, rfl, _, _, _, _, rfl, rfl, tk_same s3 _ _ h2, rfl, _, _, rfl, rfl, .inr ⟨_, rfl, ?_⟩⟩
      by_cases cc : c ≤ r
      · exact ⟨_, _, _, .int x1, rfl, rfl, s3.seq hl', by rw [decide_eq_true cc]; rfl, k _ _ (s12.trans s3) (b1.mono N0 imin_r imax_r)⟩
      · exact ⟨_, _, _, .int x0, rfl, rfl, s3.seq hl', by rw [decide_eq_false cc]; rfl, k _ _ (s12.trans s3) (b0.mono N0 imin_l imax_l)⟩
  | @where_ j c lo hi lo' hi' x y h0 h1' c0 c1 =>
    match ns, ln2 with
    | [x0, x1], _ =>
      have b0 : Btw ps.sum x0 lo hi := hb 0 x0 _ rfl rfl
      have b1 : Btw ps.sum x1 lo' hi' := hb 1 x1 _ rfl rfl
      obtain ⟨z, ez, z0, z1⟩ := shr j h0 h1'
      refine ⟨_, rfl, szb, fun p3 H3 s3 n3 t3 => ⟨_, _, rfl, .inr t3, rfl, rfl, _, rfl, iteN (by decide +kernel) ?_⟩⟩
      refine ⟨_, rfl, rfl, _, rfl, iteN (by decide +kernel) ⟨_, rfl, rfl, _, rfl, iteY (by decide +kernel) ?_⟩⟩
      refine ⟨_, rfl, _, rfl, _, rfl, _, _, _, _, rfl, rfl, tk_same s3 _ _ h2, rfl, _, _, _, _, rfl, rfl, tk_same s3 _ _ hS2, ez, _, _, rfl, rfl, .inl ⟨by omega, by omega⟩, _, rfl, _, _, _, _, rfl, rfl, tk_same s3 _ _ h2, rfl, _, rfl, _, _, rfl, rfl, .inl ⟨by omega, by omega⟩, _, _, rfl, rfl, .inr ⟨_, rfl, ?_⟩⟩
      by_cases cc : c * ps.sum ≤ 1000 * z
      · exact ⟨_, _, _, .int x1, rfl, rfl, s3.seq hl', by rw [decide_eq_true cc]; rfl, k _ _ (s12.trans s3) (b1.mono N0 imin_r imax_r)⟩
      · exact ⟨_, _, _, .int x0, rfl, rfl, s3.seq hl', by rw [decide_eq_false cc]; rfl, k _ _ (s12.trans s3) (b0.mono N0 imin_l imax_l)⟩
theorem c_worth (T : Top K mg) : ∀ n : Nat, Cl P w K mg base n "_law_worth" (spWorth K n)
  | 0 => T.d_k_worth.nothing fun vs H Q h => by
      obtain ⟨v, pr, pl, rs, ps, many, lo, hi, _, e, _⟩ := h
      cases e
  | n + 1 => worth_gen T (c_worth T n)
end
end Nr

/-! The law's own deeds. -/
namespace Nr
open PySem PySem.Spec PyProof.Rows L2

def spDone (K : PySem.W.Frag) (d : Nat) : Pr := fun vs H Q => ∃ (v : V) (pr pl : Addr) (rs ps : List Int) (many : Int), vs = [v, .ref pr, .ref pl] ∧ IsDeeds K H many d v ∧ (SqL K H pr (rs.map V.int) ∨ SqT K H pr (rs.map V.int)) ∧ RegOk rs ∧ SqT K H pl (ps.map V.int) ∧ ShOk many ps ∧
  ∀ (r : V) (H' : Hp), Same H H' → IsReg K H' r → Q r H'
theorem RegOk.set {rs : List Int} (h : RegOk rs) {i : Nat} {z : Int} (h0 : -1000 ≤ z) (h1 : z ≤ 1000) : RegOk (rs.set i z) := by
  refine ⟨by rw [List.length_set]; exact h.1, fun r hr => ?_⟩
  rcases List.mem_or_eq_of_mem_set hr with hr | rfl
  · exact h.2 r hr
  · exact ⟨h0, h1⟩
theorem clamp {z : Int} : -1000 ≤ imin 1000 (imax (-1000) z) ∧ imin 1000 (imax (-1000) z) ≤ 1000 := by
  unfold imin imax
  constructor <;> (repeat' split) <;> omega
theorem deeds_open {K : PySem.W.Frag} {H : Hp} {many : Int} : ∀ {d : Nat} {v : V}, IsDeeds K H many d v → ∃ (p : Addr) (xs : List V), v = .ref p ∧ SqT K H p xs ∧ ∀ x ∈ xs,
      (∃ (q : Addr) (w : Str) (i n : Int), x = .ref q ∧ SqT K H q [.str w, .int i, .int n] ∧ PlainDeed many w i n) ∨
      (∃ (d' : Nat) (q : Addr) (i c : Int) (y z : V), d = d' + 1 ∧ x = .ref q ∧ SqT K H q [.str "when", .int i, .int c, y, z] ∧ 0 ≤ i ∧ i < 4 ∧ IsDeeds K H many d' y ∧ IsDeeds K H many d' z)
  | 0, _, h => by
    obtain ⟨p, xs, e, h, r⟩ := h
    exact ⟨p, xs, e, h, fun x hx => .inl (r x hx)⟩
  | d + 1, _, h => by
    obtain ⟨p, xs, e, h, r⟩ := h
    refine ⟨p, xs, e, h, fun x hx => ?_⟩
    rcases r x hx with q | ⟨q, i, c, y, z, e, h, h0, h1, ry, rz⟩
    · exact .inl q
    · exact .inr ⟨d, q, i, c, y, z, rfl, e, h, h0, h1, ry, rz⟩
section
variable {P : Program} {w : World} {K : PySem.W.Frag} {mg : Str → Option Value} {base : Heap}
theorem done_gen (T : Top K mg) {d k0 : Nat} (c_k_done : Cl P w K mg base k0 "_law_done" fun vs H Q => ∃ d' : Nat, d = d' + 1 ∧ spDone K d' vs H Q) : Cl P w K mg base (k0 + 1) "_law_done" (spDone K d) := by
  refine T.d_k_done.ok sc_k_done (fun vs H Q h => ?_) (fun f cdv A outer s H E vs Q hr h => ?_)
  · obtain ⟨v, pr, pl, rs, ps, many, rfl, _⟩ := h
    rfl
  obtain ⟨v, pr, pl, rs, ps, many, rfl, hD, hR, rok, hS, sok, k⟩ := h
  obtain ⟨p, xs, rfl, hx, hxs⟩ := deeds_open hD
  refine ⟨_, (pss_cons (ps_set (i := 3) sc_k_done.nd rfl (by first | exact Or.inl rfl | exact Or.inr rfl) (pe_callTy (clListA K) (by rfl) T.b_list (by decide +kernel) (pa_cons (pv 1) pa_nil)))
      (pss_cons (ps_for PassesOwn.never rfl (piT K (pv 0)) (pg_name (i := 4) sc_k_done.nd rfl (by first | exact Or.inl rfl | exact Or.inr rfl)) (pss_cons (ps_asg (pe_slice (slTA K) (pv 4) po_none (po_some pe_int)) (pgT K (n := 3) rfl (pgs_cons (pg_name (i := 5) sc_k_done.nd rfl (by first | exact Or.inl rfl | exact Or.inr rfl)) (pgs_cons (pg_name (i := 6) sc_k_done.nd rfl (by first | exact Or.inl rfl | exact Or.inr rfl)) (pgs_cons (pg_name (i := 7) sc_k_done.nd rfl (by first | exact Or.inl rfl | exact Or.inr rfl)) pgs_nil)))))
      (pss_one (ps_if (pt_cmpR op_eq (pv 5) pe_str (nomark _)) (pss_one (ps_set (i := 3) sc_k_done.nd rfl (by first | exact Or.inl rfl | exact Or.inr rfl) (pe_callTy (clListA K) (by rfl) T.b_list (by decide +kernel) (pa_cons (pe_c c_k_done (hr.mono (by omega)) (pa_cons (pe_ifExp (pt_cmpR op_lt (pe_ix (ixL K) (pv 3) (pv 6) (fun _ _ => rfl)) (pv 7) (nomark _)) (pe_ix (ixT K) (pv 4) pe_int (fun _ _ => rfl)) (pe_ix (ixT K) (pv 4) pe_int (fun _ _ => rfl))) (pa_cons (pv 3) (pa_cons (pv 2) pa_nil)))) pa_nil)))) (pss_one (ps_if (pt_cmpR op_eq (pv 5) pe_str (nomark _)) (pss_one (ps_asg (pe_op op_fdivW (pe_op op_mul pe_int (pe_ix (ixT K) (pv 2) (pv 7) (fun _ _ => rfl))) (pe_callB (crSumT K rfl) (by rfl) T.b_sum (by decide +kernel) (pa_cons (pv 2) pa_nil))) (pg_sub (pv 3) (pv 6) set_list))) (pss_cons (ps_set (i := 8) sc_k_done.nd rfl (by first | exact Or.inl rfl | exact Or.inr rfl) (pe_ifExp (pt_cmpR (opIn K) (pv 5) (pe_tupA K (pa_cons pe_str (pa_cons pe_str pa_nil))) rfl) (pv 7) (pe_ix (ixL K) (pv 3) (pv 7) (fun _ _ => rfl))))
      (pss_cons (ps_set (i := 8) sc_k_done.nd rfl (by first | exact Or.inl rfl | exact Or.inr rfl) (pe_op op_add (pv 8) (pe_op op_mul (pe_ix (ixL K) (pv 3) (pv 6) (fun _ _ => rfl)) (pe_callTy call_int1 (by rfl) T.b_int (by decide +kernel) (pa_cons (pe_cmpR (opIn K) (pv 5) (pe_tupA K (pa_cons pe_str (pa_cons pe_str pa_nil))) rfl) pa_nil)))))
      (pss_one (ps_asg (pe_callB (call_min2 rfl) (by rfl) T.b_min (by decide +kernel) (pa_cons pe_int (pa_cons (pe_callB (call_max2 rfl) (by rfl) T.b_max (by decide +kernel) (pa_cons (pe_un un_neg pe_int) (pa_cons (pv 8) pa_nil))) pa_nil))) (pg_sub (pv 3) (pv 6) set_list)))))))))))
      (pss_one (ps_ret (pe_callTy (clTupleA K) (by rfl) T.b_tuple (by decide +kernel) (pa_cons (pv 3) pa_nil)))))), ?_⟩
  refine ⟨_, rfl, pr, _, rfl, hR, fun l H1 s1 n1 t1 => ?_⟩
  refine ⟨_, rfl, p, rfl, ⟨_, tk_same s1 _ _ hx⟩, for_tup (K := K) (a := p) (xs := xs) (fun i σ H' => ∃ (l : Addr) (rs : List Int) (v4 v5 v6 v7 v8 : Option V), σ = [some (.ref p), some (.ref pr), some (.ref pl), some (.ref l), v4, v5, v6, v7, v8] ∧ Same H H' ∧ H l = none ∧ H' l = some (.lst (rs.map V.int)) ∧ RegOk rs)
    ⟨l, rs, none, none, none, none, none, rfl, s1, n1, t1, rok⟩ (fun i σ H' _ ⟨_, _, _, _, _, _, _, _, q, _⟩ => tk_same q _ _ hx) ?_ ?_⟩
  · rintro i y σ H2 hy ⟨l, rs, v4, v5, v6, v7, v8, rfl, s2, nl, hl, rok⟩
    have hl' : SqL K H2 l (rs.map V.int) := SqL.of hl
    have hS2 := tk_same s2 _ _ hS
    have reg : ∀ i : Int, 0 ≤ i → i < 4 → ∃ r, atI (rs.map V.int) i = some (.int r) ∧ -1000 ≤ r ∧ r ≤ 1000 := fun i i0 i1 => by
      obtain ⟨r, e, _, m⟩ := at_int (ns := rs) i0 (by rw [rok.1]; exact i1)
      exact ⟨r, e, rok.2 r m⟩
    -- a register is set
    have put : ∀ (H3 : Hp) (a z : Int) (v4 v5 v6 v7 v8 : Option V), Same H2 H3 → 0 ≤ a → a < 4 → -1000 ≤ z → z ≤ 1000 →
        ∃ q xs k j, V.ref l = .ref q ∧ V.int a = .int k ∧ H3 q = some (.lst xs) ∧ ixN xs.length k = some j ∧ ∃ (l' : Addr) (rs' : List Int) (w4 w5 w6 w7 w8 : Option V), [some (.ref p), some (.ref pr), some (.ref pl), some (.ref l), v4, v5, v6, v7, v8] = [some (.ref p), some (.ref pr), some (.ref pl), some (.ref l'), w4, w5, w6, w7, w8] ∧ Same H (upd H3 q (.lst (xs.set j (.int z)))) ∧ H l' = none ∧ (upd H3 q (.lst (xs.set j (.int z)))) l' = some (.lst (rs'.map V.int)) ∧ RegOk rs' := by
      intro H3 a z v4 v5 v6 v7 v8 s3 a0 a4 z0 z1
      refine ⟨l, _, a, a.toNat, rfl, rfl, s3 _ _ hl, ixn a0 (by rw [List.length_map, rok.1]; exact a4), l, rs.set a.toNat z, v4, v5, v6, v7, v8, rfl, sm_put (s2.trans s3) nl, nl, ?_, rok.set z0 z1⟩
      rw [upd_same, List.map_set]
    rcases hxs y (List.mem_of_getElem? hy) with ⟨q, wd, a, n, rfl, hq, pd⟩ | ⟨d', q, a, c, y1, y2, e0, rfl, hq, a0, a4, hy1, hy2⟩
    · obtain ⟨a0, a4, pd⟩ := pd
      refine ⟨_, rfl, _, rfl, q, _, rfl, tk_same s2 _ _ hq, fun q3 H3 s3 t3 => ?_⟩
      refine ⟨q3, [.str wd, .int a, .int n], rfl, t3, rfl, _, _, rfl, _, _, rfl, _, _, rfl, rfl, ?_⟩
      obtain ⟨r, er, r0, r1⟩ := reg a a0 a4
      rcases pd with (rfl | rfl) | ⟨rfl | rfl, n0, n4⟩ | ⟨rfl, n0, n4⟩
      · refine ⟨_, rfl, rfl, _, rfl, iteN (by decide +kernel) ⟨_, rfl, rfl, _, rfl, iteN (by decide +kernel) ?_⟩⟩
        refine ⟨_, rfl, szb, fun p4 H4 s4 n4 t4 => ⟨_, _, rfl, .inr t4, rfl, rfl, _, rfl, iteY (by decide +kernel) ⟨_, rfl, ?_⟩⟩⟩
        refine ⟨_, rfl, _, rfl, _, rfl, _, _, _, _, rfl, rfl, (s3.trans s4).seq hl', er, _, rfl, szb, fun p5 H5 s5 n5 t5 => ⟨_, _, rfl, .inr t5, rfl, rfl, .inr ⟨_, rfl, _, _, rfl, rfl, .inl ⟨by omega, by omega⟩, _, _, rfl, rfl, ?_⟩⟩⟩
        refine ⟨_, rfl, _, rfl, _, _, rfl, _, _, rfl, _, rfl, _, rfl, put H5 a _ _ _ _ _ _ (s3.trans (s4.trans s5)) a0 a4 clamp.1 clamp.2⟩
      · refine ⟨_, rfl, rfl, _, rfl, iteN (by decide +kernel) ⟨_, rfl, rfl, _, rfl, iteN (by decide +kernel) ?_⟩⟩
        refine ⟨_, rfl, szb, fun p4 H4 s4 n4 t4 => ⟨_, _, rfl, .inr t4, rfl, rfl, _, rfl, iteY (by decide +kernel) ⟨_, rfl, ?_⟩⟩⟩
        refine ⟨_, rfl, _, rfl, _, rfl, _, _, _, _, rfl, rfl, (s3.trans s4).seq hl', er, _, rfl, szb, fun p5 H5 s5 n5 t5 => ⟨_, _, rfl, .inr t5, rfl, rfl, .inr ⟨_, rfl, _, _, rfl, rfl, .inl ⟨by omega, by omega⟩, _, _, rfl, rfl, ?_⟩⟩⟩
        refine ⟨_, rfl, _, rfl, _, _, rfl, _, _, rfl, _, rfl, _, rfl, put H5 a _ _ _ _ _ _ (s3.trans (s4.trans s5)) a0 a4 clamp.1 clamp.2⟩
      · obtain ⟨r', er', r0', r1'⟩ := reg n n0 n4
        refine ⟨_, rfl, rfl, _, rfl, iteN (by decide +kernel) ⟨_, rfl, rfl, _, rfl, iteN (by decide +kernel) ?_⟩⟩
        refine ⟨_, rfl, szb, fun p4 H4 s4 n4 t4 => ⟨_, _, rfl, .inr t4, rfl, rfl, _, rfl, iteN (by decide +kernel) ⟨_, rfl, _, rfl, _, _, _, _, rfl, rfl, (s3.trans s4).seq hl', er', ?_⟩⟩⟩
        refine ⟨_, rfl, _, rfl, _, rfl, _, _, _, _, rfl, rfl, (s3.trans s4).seq hl', er, _, rfl, szb, fun p5 H5 s5 n5 t5 => ⟨_, _, rfl, .inr t5, rfl, rfl, .inr ⟨_, rfl, _, _, rfl, rfl, .inl ⟨by omega, by omega⟩, _, _, rfl, rfl, ?_⟩⟩⟩
        refine ⟨_, rfl, _, rfl, _, _, rfl, _, _, rfl, _, rfl, _, rfl, put H5 a _ _ _ _ _ _ (s3.trans (s4.trans s5)) a0 a4 clamp.1 clamp.2⟩
      · obtain ⟨r', er', r0', r1'⟩ := reg n n0 n4
        refine ⟨_, rfl, rfl, _, rfl, iteN (by decide +kernel) ⟨_, rfl, rfl, _, rfl, iteN (by decide +kernel) ?_⟩⟩
        refine ⟨_, rfl, szb, fun p4 H4 s4 n4 t4 => ⟨_, _, rfl, .inr t4, rfl, rfl, _, rfl, iteN (by decide +kernel) ⟨_, rfl, _, rfl, _, _, _, _, rfl, rfl, (s3.trans s4).seq hl', er', ?_⟩⟩⟩
        refine ⟨_, rfl, _, rfl, _, rfl, _, _, _, _, rfl, rfl, (s3.trans s4).seq hl', er, _, rfl, szb, fun p5 H5 s5 n5 t5 => ⟨_, _, rfl, .inr t5, rfl, rfl, .inr ⟨_, rfl, _, _, rfl, rfl, .inl ⟨by omega, by omega⟩, _, _, rfl, rfl, ?_⟩⟩⟩
        refine ⟨_, rfl, _, rfl, _, _, rfl, _, _, rfl, _, rfl, _, rfl, put H5 a _ _ _ _ _ _ (s3.trans (s4.trans s5)) a0 a4 clamp.1 clamp.2⟩
      · obtain ⟨x, ex, _, xm⟩ := at_int (ns := ps) n0 (by rw [sok.len]; exact n4)
        have x0 := sok.nn x xm
        have x1 := le_sum sok.nn x xm
        have xp := sok.pos
        have xN := sok.most
        have z0 : 0 ≤ 1000 * x / ps.sum := Int.ediv_nonneg (by omega) (by omega)
        have z1 : 1000 * x / ps.sum ≤ 1000 := Int.ediv_le_of_le_mul xp (by omega)
        refine ⟨_, rfl, rfl, _, rfl, iteN (by decide +kernel) ⟨_, rfl, rfl, _, rfl, iteY (by decide +kernel) ?_⟩⟩
        refine ⟨_, rfl, _, rfl, _, _, _, _, rfl, rfl, tk_same s3 _ _ hS2, ex, _, _, rfl, rfl, .inl ⟨by omega, by omega⟩, _, rfl, pl, _, rfl, tk_same s3 _ _ hS2, _, _, rfl, rfl, wide_div (b := 50) xp (by omega) (by decide) (by decide), ?_⟩
        exact ⟨_, rfl, _, rfl, put H3 a _ _ _ _ _ _ s3 a0 a4 (by omega) z1⟩
    · refine ⟨_, rfl, _, rfl, q, _, rfl, tk_same s2 _ _ hq, fun q3 H3 s3 t3 => ?_⟩
      refine ⟨q3, [.str "when", .int a, .int c], rfl, t3, rfl, _, _, rfl, _, _, rfl, _, _, rfl, rfl, ?_⟩
      obtain ⟨r, er, r0, r1⟩ := reg a a0 a4
      have s23 := s2.trans s3
      have dn : ∀ (yy : V), IsDeeds K H many d' yy → ∀ R : VK, (∀ (r : V) (H' : Hp), Same H3 H' → IsReg K H' r → R r H') → ∃ d' : Nat, d = d' + 1 ∧ spDone K d' [yy, .ref l, .ref pl] H3 R := fun yy hy R q =>
        ⟨d', e0, yy, l, pl, rs, ps, many, rfl, hy.tk (tk_same s23), .inl (s3.seq hl'), rok, tk_same s23 _ _ hS, sok, q⟩
      have fin : ∀ (v4 v5 v6 v7 v8 : Option V) (R : V) (H' : Hp), Same H3 H' → IsReg K H' R → ∃ q ys, [R] = [V.ref q] ∧ (SqL K H' q ys ∨ SqT K H' q ys) ∧ ∀ l2 H5, Same H' H5 → H' l2 = none → H5 l2 = some (.lst ys) → ∃ (l' : Addr) (rs' : List Int) (w4 w5 w6 w7 w8 : Option V), [some (.ref p), some (.ref pr), some (.ref pl), some (.ref l2), v4, v5, v6, v7, v8] = [some (.ref p), some (.ref pr), some (.ref pl), some (.ref l'), w4, w5, w6, w7, w8] ∧ Same H H5 ∧ H l' = none ∧ H5 l' = some (.lst (rs'.map V.int)) ∧ RegOk rs' := by
        rintro v4 v5 v6 v7 v8 R H' s4 ⟨g, rs', rfl, hg, rok'⟩
        exact ⟨g, _, rfl, .inr hg, fun l2 H5 s5 n5 t5 => ⟨l2, rs', _, _, _, _, _, rfl, s23.trans (s4.trans s5), Same.free (s23.trans s4) n5, t5, rok'⟩⟩
      have hq3 := tk_same s23 _ _ hq
      refine ⟨_, rfl, rfl, _, rfl, iteY (by decide +kernel) ?_⟩
      refine ⟨_, rfl, _, rfl, _, _, _, _, rfl, rfl, s3.seq hl', er, _, rfl, _, _, rfl, rfl, _, rfl, ite2 (fun q => ?_) (fun q => ?_)⟩
      · exact ⟨_, rfl, _, _, _, _, rfl, rfl, hq3, rfl, _, rfl, _, rfl, dn y1 hy1 _ fun r H' s4 hr => fin _ _ _ _ _ r H' s4 hr⟩
      · exact ⟨_, rfl, _, _, _, _, rfl, rfl, hq3, rfl, _, rfl, _, rfl, dn y2 hy2 _ fun r H' s4 hr => fin _ _ _ _ _ r H' s4 hr⟩
  · rintro σ H2 ⟨l, rs, v4, v5, v6, v7, v8, rfl, s2, nl, hl, rok⟩
    exact ⟨_, rfl, l, _, rfl, SqL.of hl, fun r H3 s3 n3 t3 => k _ _ (s2.trans s3) ⟨r, rs, rfl, t3, rok⟩⟩
theorem c_done (T : Top K mg) : ∀ d : Nat, Cl P w K mg base (d + 1) "_law_done" (spDone K d)
  | 0 => done_gen T (T.d_k_done.nothing fun vs H Q ⟨l', e, _⟩ => by omega)
  | d + 1 => done_gen T ((c_done T d).imp fun vs H Q ⟨l', e, h⟩ => by
      have : l' = d := by omega
      subst this
      exact h)
end
end Nr

/-! stepped, paid, sign. -/
namespace Nr
open PySem PySem.Spec PyProof.Rows L2

/-- what a day does to a one -/
structure DayOf (b F f e : Int) : Prop where
  F0 : 0 < F
  F1 : F < 2 ^ 120
  lo : -(b * F) ≤ 500 * f
  hi : 500 * f ≤ b * F
  idle : e = 1 ∨ (e = 0 ∧ f = 0)
def spStepped (K : PySem.W.Frag) : Pr := fun vs H Q => ∃ (v : V) (pl : Addr) (ps : List Int) (many S b wt m o d g s : Int), vs = [v, .ref pl, .int s] ∧ IsOne K H many S b wt m o d g v ∧ SqT K H pl (ps.map V.int) ∧ ShOk many ps ∧ 0 ≤ s ∧ s < many ∧ 0 ≤ m ∧ m < 2 ^ 300 ∧ 0 ≤ o ∧ o < 2 ^ 300 ∧
  ∀ (r : V) (H' : Hp) (F f e : Int), Same H H' → DayOf b F f e → IsOne K H' many S b wt (m * (F + f) / F) (1 - (0 - o * (F + f)) / F) (d + e) (g + 1000000000 * f / F) r → Q r H'
def spPaid (K : PySem.W.Frag) : Pr := fun vs H Q => ∃ (v : V) (pl : Addr) (ps : List Int) (many S b wt m o d g s : Int), vs = [v, .ref pl, .int s] ∧ IsOne K H many S b wt m o d g v ∧ SqT K H pl (ps.map V.int) ∧ ShOk many ps ∧ 0 ≤ s ∧ s < many ∧ ∀ (x : Int) (H' : Hp), Same H H' → Q (.int x) H'
def spSign (K : PySem.W.Frag) : Pr := fun vs H Q => ∃ (a : Addr) (v : V) (pl : Addr) (ps : List Int) (many S b wt m o d g way nth : Int) (n : Nat), vs = [.ref a, .int way, v, .ref pl, .int nth] ∧ 2 ≤ many ∧ many ≤ 3 ∧ IsOne K H many S b wt m o d g v ∧ SqT K H pl (ps.map V.int) ∧ ShOk many ps ∧ Draw a n 1 H (fun v _ => ∃ i : Int, v = .int i ∧ 0 ≤ i ∧ i < many) Q

/-! ### the arithmetic of a day -/
def dot (ps ns : List Int) : Int := ((ps.zip ns).map fun z => z.1 * z.2).sum
theorem dot_le : ∀ {ps ns : List Int} {B : Int}, (∀ x ∈ ps, 0 ≤ x) → (∀ x ∈ ns, -B ≤ x ∧ x ≤ B) → 0 ≤ B → -(ps.sum * B) ≤ dot ps ns ∧ dot ps ns ≤ ps.sum * B
  | [], ns, B, _, _, hB => by
    have : dot [] ns = 0 := rfl
    rw [this]
    simp
  | p :: ps, [], B, hp, _, hB => by
    have : dot (p :: ps) [] = 0 := rfl
    have s0 := sum_nn hp
    have := Int.mul_nonneg s0 hB
    omega
  | p :: ps, x :: ns, B, hp, hn, hB => by
    have e : dot (p :: ps) (x :: ns) = p * x + dot ps ns := by
      unfold dot
      rw [List.zip_cons_cons, List.map_cons, List.sum_cons]
    have ih := dot_le (ps := ps) (ns := ns) (B := B) (fun z hz => hp z (List.mem_cons_of_mem _ hz)) (fun z hz => hn z (List.mem_cons_of_mem _ hz)) hB
    have p0 := hp p List.mem_cons_self
    have hx := hn x List.mem_cons_self
    have a1 := Int.mul_le_mul_of_nonneg_left hx.1 p0
    have a2 := Int.mul_le_mul_of_nonneg_left hx.2 p0
    rw [e, List.sum_cons, Int.add_mul]
    have : p * -B = -(p * B) := Int.mul_neg ..
    omega
theorem dot_same : ∀ {ps ns : List Int} {c : Int}, ps.length = ns.length → (∀ x ∈ ns, x = c) → dot ps ns = ps.sum * c
  | [], [], c, _, _ => by simp [dot]
  | p :: ps, x :: ns, c, hl, hn => by
    have e : dot (p :: ps) (x :: ns) = p * x + dot ps ns := by
      unfold dot
      rw [List.zip_cons_cons, List.map_cons, List.sum_cons]
    rw [e, dot_same (ps := ps) (ns := ns) (c := c) (by simpa using hl) (fun z hz => hn z (List.mem_cons_of_mem _ hz)), hn x List.mem_cons_self, List.sum_cons, Int.add_mul]
theorem day_of {b S N far x : Int} {ps ns : List Int} (hN : ps.sum = N) (N0 : 0 < N) (N1 : N < 2 ^ 45) (S0 : 1 ≤ S) (S1 : S ≤ 16) (b0 : 0 ≤ b) (hp : ∀ x ∈ ps, 0 ≤ x) (far0 : 0 ≤ far) (hfar : far ≤ b * S) (hn : ∀ x ∈ ns, -(far * N) ≤ x ∧ x ≤ far * N) (hx : x ∈ ns) (hl : ps.length = ns.length)
    {n : Nat} (hn1 : n ≤ 1 → ∀ a ∈ ns, ∀ c ∈ ns, a = c) : DayOf b (1000 * S * N * N) (N * x - dot ps ns) (if decide ((1 : Int) < (n : Int)) = true then 1 else 0) := by
  have NN : 0 < N * N := Int.mul_pos N0 N0
  have hB : 0 ≤ far * N := Int.mul_nonneg far0 (by omega)
  have d := dot_le hp hn hB
  rw [hN] at d
  have hx' := hn x hx
  have a1 := Int.mul_le_mul_of_nonneg_left hx'.1 (Int.le_of_lt N0)
  have a2 := Int.mul_le_mul_of_nonneg_left hx'.2 (Int.le_of_lt N0)
  have e1 : N * (far * N) = far * (N * N) := by grind
  have e2 : N * -(far * N) = -(far * (N * N)) := by grind
  have f1 := Int.mul_le_mul_of_nonneg_right hfar (Int.le_of_lt NN)
  have e3 : 1000 * S * N * N = 1000 * (S * (N * N)) := by grind
  have e4 : b * (1000 * S * N * N) = 1000 * (b * S * (N * N)) := by grind
  have SN : 0 < S * (N * N) := Int.mul_pos (by omega) NN
  refine ⟨by rw [e3]; omega, ?_, ?_, ?_, ?_⟩
  · have g1 : N * N ≤ 2 ^ 45 * 2 ^ 45 := Int.mul_le_mul (by omega) (by omega) (by omega) (by decide)
    have g2 : S * (N * N) ≤ 16 * (2 ^ 45 * 2 ^ 45) := Int.mul_le_mul S1 g1 (by omega) (by decide)
    rw [e3]
    have : (1000 : Int) * (16 * (2 ^ 45 * 2 ^ 45)) < 2 ^ 120 := by decide
    omega
  · rw [e4]
    omega
  · rw [e4]
    omega
  · by_cases c : (1 : Int) < (n : Int)
    · left
      rw [decide_eq_true c]
      rfl
    · right
      rw [decide_eq_false c]
      refine ⟨rfl, ?_⟩
      rw [dot_same hl fun z hz => hn1 (by omega) z hz x hx, hN]
      omega
section
variable {P : Program} {w : World} {K : PySem.W.Frag} {mg : Str → Option Value} {base : Heap}
/-- the worths of all stakes -/
def Wor (far N : Int) (ns : List Int) : Prop := ∀ x ∈ ns, -(far * N) ≤ x ∧ x ≤ far * N
theorem btw_far {far N x lo hi : Int} (h : Btw N x lo hi) (n : 0 ≤ N) (h1 : iabs lo ≤ far) (h2 : iabs hi ≤ far) : -(far * N) ≤ x ∧ x ≤ far * N := by
  have a1 : -far ≤ lo := by unfold iabs at h1; split at h1 <;> omega
  have a2 : hi ≤ far := by unfold iabs at h2; split at h2 <;> omega
  have := h.mono n a1 a2
  obtain ⟨b1, b2⟩ := this
  rw [Int.neg_mul] at b1
  exact ⟨b1, b2⟩
theorem map_at {ns : List Int} {i : Nat} {y : V} (h : (ns.map V.int)[i]? = some y) : ∃ u, ns[i]? = some u ∧ y = .int u := by
  rw [List.getElem?_map] at h
  cases e : ns[i]? with
  | none => rw [e] at h; cases h
  | some u => rw [e] at h; exact ⟨u, rfl, (Option.some.inj h).symm⟩
theorem zip_len {ps ns : List Int} (h : ps.length = ns.length) : (ps.zip ns).length = ps.length := by
  rw [List.length_zip, ← h, Nat.min_self]
theorem zip_at {ps ns : List Int} {i : Nat} {x y : Int} (h1 : ps[i]? = some x) (h2 : ns[i]? = some y) : (ps.zip ns)[i]? = some (x, y) := by
  rw [List.getElem?_zip_eq_some]
  exact ⟨h1, h2⟩
theorem c_stepped (T : Top K mg) : Cl P w K mg base 12 "_law_stepped" (spStepped K) := by
  have c_k_worth := c_worth (P := P) (w := w) (base := base) T 8
  have c_k_done := c_done (P := P) (w := w) (base := base) T 1
  refine T.d_k_stepped.ok sc_k_stepped (fun vs H Q h => ?_) (fun f cdv A outer s H E vs Q hr h => ?_)
  · obtain ⟨v, pl, ps, many, S, b, wt, m, o, d, g, s, rfl, _⟩ := h
    rfl
  obtain ⟨v, pl, ps, many, S, b, wt, m, o, d, g, sg, rfl, ⟨p, db, rg, rfl, hO, hDb, hRg⟩, hS, sok, g0, g1, m0, m3, o0, o3, k⟩ := h
  obtain ⟨b1, b5, S1, S16⟩ := hDb.b
  obtain ⟨pd, nm, sc, bg, sk, bh, sps, far, rfl, hd, hsc, hbg, ⟨pk, xs, rfl, hx, ⟨lx, m33⟩, ln, hst⟩, hf, h5, hb, ⟨pb, zs, rfl, hz, lz, hzs⟩⟩ := id hDb
  obtain ⟨pg, rs, rfl, hR, rok⟩ := id hRg
  have N0 := sok.pos
  have N1 := sok.most
  generalize hN : ps.sum = N at N0 N1
  have hfarb : far ≤ b * S := by
    rw [hb]
    exact (bOf_ok hf.nn S1 h5).2.2
  refine ⟨_, (pss_cons (ps_asg (pe_slice (slTA K) (pv 0) po_none (po_some pe_int)) (pgT K (n := 3) rfl (pgs_cons (pg_name (i := 9) sc_k_stepped.nd rfl (by first | exact Or.inl rfl | exact Or.inr rfl)) (pgs_cons (pg_name (i := 10) sc_k_stepped.nd rfl (by first | exact Or.inl rfl | exact Or.inr rfl)) (pgs_cons (pg_name (i := 11) sc_k_stepped.nd rfl (by first | exact Or.inl rfl | exact Or.inr rfl)) pgs_nil)))))
      (pss_cons (ps_asg (pe_slice (slTA K) (pv 0) (po_some pe_int) po_none) (pgT K (n := 5) rfl (pgs_cons (pg_name (i := 12) sc_k_stepped.nd rfl (by first | exact Or.inl rfl | exact Or.inr rfl)) (pgs_cons (pg_name (i := 13) sc_k_stepped.nd rfl (by first | exact Or.inl rfl | exact Or.inr rfl)) (pgs_cons (pg_name (i := 5) sc_k_stepped.nd rfl (by first | exact Or.inl rfl | exact Or.inr rfl)) (pgs_cons (pg_name (i := 6) sc_k_stepped.nd rfl (by first | exact Or.inl rfl | exact Or.inr rfl)) (pgs_cons (pg_name (i := 7) sc_k_stepped.nd rfl (by first | exact Or.inl rfl | exact Or.inr rfl)) pgs_nil)))))))
      (Evl.pss_cut (ps_par (i := 14) (j := 15) (by rfl) sc_k_stepped.nd rfl rfl (by decide) rfl rfl (pa_cons (pe_callB (crSumT K rfl) (by rfl) T.b_sum (by decide +kernel) (pa_cons (pv 1) pa_nil)) (pa_cons (pe_lc (own := [("_law_stake_here", 16)]) rfl sc_k_stepped.nd (piT K (pe_ix (ixT K) (pv 10) pe_int (fun _ _ => rfl))) (blkOk_by (own := [("_law_stake_here", 16)]) (N := N_k_stepped) (sc := defScope s_k_stepped) (by decide +kernel)) (fun _ _ _ _ _ => (pg_name (i := 16) sc_k_stepped.nd rfl (by first | exact Or.inl rfl | exact Or.inr rfl))) (fun _ _ _ _ _ => pts_nil) (fun _ _ _ _ _ => (pe_c c_k_worth (hr.mono (by omega)) (pa_cons (pv 16) (pa_cons (pv 11) (pa_cons (pv 1) pa_nil)))))) pa_nil)) (by rfl))
      (Evl.pss_cut (ps_set (i := 3) sc_k_stepped.nd rfl (by first | exact Or.inl rfl | exact Or.inr rfl) (pe_op op_mul (pe_op op_mul (pe_op op_mul pe_int (pe_ix (ixL K) (pe_lstA (pa_cons pe_int (pa_cons pe_int (pa_cons pe_int (pa_cons pe_int (pa_cons pe_int pa_nil)))))) (pe_ix (ixT K) (pv 10) pe_int (fun _ _ => rfl)) (fun _ _ => rfl))) (pv 14)) (pv 14)))
      (Evl.pss_cut (ps_set (i := 4) sc_k_stepped.nd rfl (by first | exact Or.inl rfl | exact Or.inr rfl) (pe_op op_sub (pe_op op_mul (pv 14) (pe_ix (ixL K) (pv 15) (pv 2) (fun _ _ => rfl))) (pe_callB (crSum K rfl) (by rfl) T.b_sum (by decide +kernel) (pa_cons (pe_lc (own := [("_law_part", 17), ("_law_came_to", 18)]) rfl sc_k_stepped.nd (piZ K T.b_zip (pa_cons (pv 1) (pa_cons (pv 15) pa_nil))) (blkOk_by (own := [("_law_part", 17), ("_law_came_to", 18)]) (N := N_k_stepped) (sc := defScope s_k_stepped) (by decide +kernel)) (fun _ _ _ _ _ => (pgT K (n := 2) rfl (pgs_cons (pg_name (i := 17) sc_k_stepped.nd rfl (by first | exact Or.inl rfl | exact Or.inr rfl)) (pgs_cons (pg_name (i := 18) sc_k_stepped.nd rfl (by first | exact Or.inl rfl | exact Or.inr rfl)) pgs_nil)))) (fun _ _ _ _ _ => pts_nil) (fun _ _ _ _ _ => (pe_op op_mul (pv 17) (pv 18)))) pa_nil))))
      (pss_cons (ps_set (i := 5) sc_k_stepped.nd rfl (by first | exact Or.inl rfl | exact Or.inr rfl) (pe_op op_sub pe_int (pe_op op_fdivW (pe_op op_sub pe_int (pe_op op_mulW (pv 5) (pe_op op_add (pv 3) (pv 4)))) (pv 3))))
      (pss_cons (ps_set (i := 6) sc_k_stepped.nd rfl (by first | exact Or.inl rfl | exact Or.inr rfl) (pe_op op_add (pv 6) (pe_callTy call_int1 (by rfl) T.b_int (by decide +kernel) (pa_cons (pe_cmpR op_gt (pe_unlike T.b_len T.b_set (pv 15)) pe_int (nomark _)) pa_nil))))
      (pss_cons (ps_set (i := 7) sc_k_stepped.nd rfl (by first | exact Or.inl rfl | exact Or.inr rfl) (pe_op op_add (pv 7) (pe_op op_fdivW (pe_op op_mul (pe_op op_pow pe_int pe_int) (pv 4)) (pv 3))))
      (pss_cons (ps_set (i := 8) sc_k_stepped.nd rfl (by first | exact Or.inl rfl | exact Or.inr rfl) (pe_c c_k_done (hr.mono (by omega)) (pa_cons (pe_ix (ixT K) (pe_ix (ixT K) (pv 10) pe_int (fun _ _ => rfl)) (pv 2) (fun _ _ => rfl)) (pa_cons (pv 11) (pa_cons (pv 1) pa_nil)))))
      (pss_one (ps_ret (pe_tupA K (pa_cons (pv 9) (pa_cons (pv 10) (pa_cons (pv 8) (pa_cons (pv 12) (pa_cons (pe_op op_fdivW (pe_op op_mulW (pv 13) (pe_op op_add (pv 3) (pv 4))) (pv 3)) (pa_cons (pv 5) (pa_cons (pv 6) (pa_cons (pv 7) pa_nil)))))))))))))))))))), ?_⟩
  refine ⟨_, rfl, _, rfl, p, _, rfl, hO, fun q1 H1 s1 t1 => ⟨q1, [.str "one", .ref pd, .ref pg], rfl, t1, rfl, _, _, rfl, _, _, rfl, _, _, rfl, rfl, ?_⟩⟩
  refine ⟨_, rfl, _, rfl, p, _, rfl, tk_same s1 _ _ hO, fun q2 H2 s2 t2 => ⟨q2, [.int wt, .int m, .int o, .int d, .int g], rfl, t2, rfl, _, _, rfl, _, _, rfl, _, _, rfl, _, _, rfl, _, _, rfl, rfl, ?_⟩⟩
  have s12 := s1.trans s2
  have lps : ∀ ns : List Int, ns.length = xs.length → ps.length = ns.length := fun ns e => by
    have := sok.len
    omega
  -- total, worths
  refine ⟨fun σ' H' => ∃ (D : Addr) (ns : List Int), σ' = [some (.ref p), some (.ref pl), some (.int sg), none, none, some (.int o), some (.int d), some (.int g), none, some (.str "one"), some (.ref pd), some (.ref pg), some (.int wt), some (.int m), some (.int N), some (.ref D), none, none, none] ∧ Same H H' ∧ SqL K H' D (ns.map V.int) ∧ ns.length = xs.length ∧ Wor far N ns, ?_, ?_⟩
  · refine ⟨_, rfl, pl, _, rfl, tk_same s12 _ _ hS, _, rfl, _, _, _, _, rfl, rfl, tk_same s12 _ _ hd, rfl, pk, rfl, ⟨_, tk_same s12 _ _ hx⟩, fun D hD => ?_⟩
    refine it_tup (xs := xs) (fun i H' => Same H2 H' ∧ ∃ ns : List Int, H' D = some (.lst (ns.map V.int)) ∧ ns.length = i ∧ Wor far N ns) ⟨same_new hD, [], upd_same, rfl, fun x hx => by simp at hx⟩ (fun i H' _ q => tk_same (s12.trans q.1) _ _ hx) ?_ ?_
    · rintro i y H3 hy ⟨s3, ns, hl, lns, hw⟩
      have li : i < xs.length := (List.getElem?_eq_some_iff.mp hy).1
      have hs2 : sps[i]? = some sps[i] := List.getElem?_eq_getElem (by omega)
      have s13 := s12.trans s3
      refine ⟨rfl, _, rfl, _, rfl, _, rfl, y, pg, pl, rs, ps, many, _, _, rfl, (hst i y _ hy hs2).tk (tk_same s13), tk_same s13 _ _ hR, rok, tk_same s13 _ _ hS, sok, fun x H4 s4 hb4 => ?_⟩
      rw [hN] at hb4
      have fa := hf.all sps[i] (List.getElem_mem _)
      have bx := btw_far hb4 (by omega) fa.1 fa.2
      refine ⟨_, s4 _ _ hl, szl (by rw [List.length_map]; omega), sm_put (s3.trans s4) hD, ns ++ [x], ?_, by simp [lns], fun z hz' => ?_⟩
      · rw [upd_same, List.map_append]
        rfl
      · rcases List.mem_append.mp hz' with hz' | hz'
        · exact hw z hz'
        · have : z = x := by simpa using hz'
          subst this
          exact bx
    · rintro H3 ⟨s3, ns, hl, lns, hw⟩
      refine ⟨_, _, rfl, D, ns, ?_, s12.trans s3, SqL.of hl, lns, hw⟩
      rw [hN]
      rfl
  rintro σ3 H3 ⟨D, ns, rfl, s3, hL, lns, hw⟩
  -- full
  refine ⟨fun σ' H' => ∃ F : Int, F = 1000 * S * N * N ∧ σ' = [some (.ref p), some (.ref pl), some (.int sg), some (.int F), none, some (.int o), some (.int d), some (.int g), none, some (.str "one"), some (.ref pd), some (.ref pg), some (.int wt), some (.int m), some (.int N), some (.ref D), none, none, none] ∧ Same H H' ∧ SqL K H' D (ns.map V.int), ?_, ?_⟩
  · obtain ⟨sc0, sc4, scS⟩ := hsc
    have hat : atI [V.int 1, .int 2, .int 4, .int 8, .int 16] sc = some (.int S) := by
      obtain ⟨r, q1, q2, q3⟩ := at_int (ns := [1, 2, 4, 8, 16]) sc0 (show sc < 5 by omega)
      rw [scS] at q2
      cases q2
      exact q1
    refine ⟨szb, fun q4 H4 s4 n4 t4 => ⟨_, rfl, _, _, _, _, rfl, rfl, tk_same (s3.trans s4) _ _ hd, rfl, _, _, _, _, rfl, rfl, SqL.of t4, hat, _, _, rfl, rfl, .inl ⟨by omega, by omega⟩, _, rfl, _, _, rfl, rfl, .inr ⟨by omega, by omega⟩, _, rfl, _, _, rfl, rfl, .inr ⟨by omega, by omega⟩, ?_⟩⟩
    exact ⟨1000 * S * N * N, rfl, rfl, s3.trans s4, s4.seq hL⟩
  rintro σ4 H4 ⟨F, hF, rfl, s4, hL⟩
  -- further
  refine ⟨fun σ' H' => ∃ f : Int, (∀ n : Nat, (n ≤ 1 → ∀ a ∈ ns, ∀ c ∈ ns, a = c) → DayOf b F f (if decide ((1 : Int) < (n : Int)) = true then 1 else 0)) ∧ σ' = [some (.ref p), some (.ref pl), some (.int sg), some (.int F), some (.int f), some (.int o), some (.int d), some (.int g), none, some (.str "one"), some (.ref pd), some (.ref pg), some (.int wt), some (.int m), some (.int N), some (.ref D), none, none, none] ∧ Same H H' ∧ SqL K H' D (ns.map V.int), ?_, ?_⟩
  · obtain ⟨x, ex, ex2, xm⟩ := at_int (ns := ns) g0 (by omega)
    refine ⟨_, rfl, _, rfl, _, rfl, _, _, _, _, rfl, rfl, hL, ex, _, _, rfl, rfl, .inl ⟨by omega, by omega⟩, ?_⟩
    refine ⟨_, rfl, _, rfl, pl, D, _, _, rfl, tk_same s4 _ _ hS, hL, fun D2 hD2 => ?_⟩
    refine it_zip (xs := ps.map V.int) (ys := ns.map V.int) (by rw [List.length_map, List.length_map]; exact lps ns lns) (fun i H' => Same H4 H' ∧ H' D2 = some (.lst ((((ps.zip ns).take i).map fun z => z.1 * z.2).map V.int))) ⟨same_new hD2, upd_same⟩ (fun i H' q => ⟨tk_same (s4.trans q.1) _ _ hS, q.1.seq hL⟩) ?_ ?_
    · rintro i x' y' q5 H5 H6 hx' hy' ⟨s5, hl5⟩ n5 rfl
      obtain ⟨u, hu, rfl⟩ := map_at hx'
      obtain ⟨v, hv, rfl⟩ := map_at hy'
      have u0 := sok.nn u (List.mem_of_getElem? hu)
      have u1 := le_sum sok.nn u (List.mem_of_getElem? hu)
      rw [hN] at u1
      have ne : D2 ≠ q5 := ne_of_none hl5 n5
      have li : i < ps.length := (List.getElem?_eq_some_iff.mp hu).1
      refine ⟨q5, [.int u, .int v], rfl, SqT.of upd_same, rfl, _, _, rfl, _, _, rfl, rfl, wipe2 (by decide) _ _, _, rfl, _, rfl, _, _, rfl, rfl, .inl ⟨by omega, by omega⟩, _, by rw [upd_ne ne]; exact hl5, szl ?_, sm_put (sm_new s5 n5) hD2, ?_⟩
      · have := sok.len
        rw [List.length_map, List.length_map, List.length_take]
        omega
      · rw [upd_same, List.take_add_one, zip_at hu hv, List.map_append, List.map_append]
        rfl
    · rintro H5 ⟨s5, hl5⟩
      rw [List.length_map, ← zip_len (lps ns lns), List.take_length] at hl5
      refine ⟨D2, _, rfl, SqL.of hl5, _, _, rfl, rfl, N * x - dot ps ns, fun n hn => ?_, rfl, s4.trans s5, s5.seq hL⟩
      rw [hF]
      exact day_of hN N0 N1 S1 S16 (by omega) sok.nn hf.nn hfarb hw xm (lps ns lns) hn
  rintro σ5 H5 ⟨f, hday, rfl, s5, hL⟩
  have dz := hday 2 (fun z => by omega)
  have F0 := dz.F0
  have F1 := dz.F1
  have bF : b * F ≤ 500 * F := Int.mul_le_mul_of_nonneg_right b5 (by omega)
  have ff : 0 ≤ F + f ∧ F + f ≤ 2 * F := by
    have h1 := dz.lo
    have h2 := dz.hi
    omega
  have wd : CDivW 0 F := wide_div (b := 120) F0 (abs_lt (by omega) (by simpa using F1)) (by decide) (by decide)
  have af : (F + f).natAbs < 2 ^ 121 := abs_lt ff.1 (by
    have : ((2 ^ 121 : Nat) : Int) = 2 * 2 ^ 120 := by decide
    omega)
  have wo : CMulW o (F + f) := wide_mul (a := 300) (b := 121) (abs_lt o0 (by simpa using o3)) af (by decide) (by decide) (by decide)
  have wm : CMulW m (F + f) := wide_mul (a := 300) (b := 121) (abs_lt m0 (by simpa using m3)) af (by decide) (by decide) (by decide)
  -- owed
  refine ⟨_, rfl, _, rfl, _, rfl, _, _, rfl, rfl, _, _, rfl, rfl, wo, _, _, rfl, rfl, _, rfl, _, _, rfl, rfl, wd, _, _, rfl, rfl, ?_⟩
  -- the day's count
  refine ⟨_, rfl, _, rfl, D, ns, rfl, hL, by omega, fun n hn => ⟨_, _, rfl, rfl, .inr ⟨_, rfl, _, _, rfl, rfl, ?_⟩⟩⟩
  -- got
  refine ⟨_, rfl, _, _, rfl, rfl, ⟨by omega, by omega, by omega⟩, _, rfl, _, _, rfl, rfl, .inl ⟨by decide, by decide⟩, _, rfl, _, _, rfl, rfl, wd, _, _, rfl, rfl, ?_⟩
  -- the deeds
  obtain ⟨y, ey, ey2, ym⟩ := at_in (xs := zs) g0 (by omega)
  refine ⟨_, rfl, _, _, _, _, rfl, rfl, tk_same s5 _ _ hd, rfl, _, rfl, _, _, _, _, rfl, rfl, tk_same s5 _ _ hz, ey, _, rfl, _, rfl, y, pg, pl, rs, ps, many, rfl, (hzs y ym).tk (tk_same s5), .inr (tk_same s5 _ _ hR), rok, tk_same s5 _ _ hS, sok, fun rg H6 s6 hrg => ?_⟩
  refine ⟨_, rfl, _, rfl, _, rfl, _, rfl, _, rfl, _, rfl, _, rfl, _, _, rfl, rfl, _, _, rfl, rfl, wm, _, rfl, _, _, rfl, rfl, wd, _, rfl, _, rfl, _, rfl, szb, fun r H7 s7 n7 t7 => ?_⟩
  exact k (.ref r) H7 F f _ (s5.trans (s6.trans s7)) (hday n hn) ⟨r, .ref pd, rg, rfl, t7, hDb.tk (tk_same (s5.trans (s6.trans s7))), hrg.tk (tk_same s7)⟩
end
end Nr

/-! paid, sign, hand, right, law. -/
namespace Nr
open PySem PySem.Spec PyProof.Rows L2

def spRight : Pr := fun vs H Q => ∃ (a : Addr) (n : Nat), vs = [.ref a] ∧ Draw a n 1000 H (fun v _ => v = .bl true) Q
def spLaw (K : PySem.W.Frag) : Pr := fun vs H Q => ∃ (a : Addr) (ns : List Int), vs = [.ref a] ∧ SqL K H a (ns.map V.int) ∧ ns.length ≤ 63 ∧ ∀ H', Q (.bl true) H'
theorem first_of {ns : List Int} {m : Int} (h : m ∈ ns) : ∃ j : Nat, j < ns.length ∧ ns[j]? = some m ∧ ∀ (i : Nat) (z : Int), i < j → ns[i]? = some z → z ≠ m := by
  induction ns with
  | nil => simp at h
  | cons a r ih =>
    by_cases e : a = m
    · exact ⟨0, by simp, by simp [e], fun i z hi => by omega⟩
    · have hm : m ∈ r := by
        rcases List.mem_cons.mp h with rfl | h
        · exact absurd rfl e
        · exact h
      obtain ⟨j, h1, h2, h3⟩ := ih hm
      refine ⟨j + 1, by simpa using h1, by simpa using h2, fun i z hi hz => ?_⟩
      cases i with
      | zero =>
        have : a = z := by simpa using hz
        omega
      | succ i => exact h3 i z (by omega) (by simpa using hz)
section
variable {P : Program} {w : World} {K : PySem.W.Frag} {mg : Str → Option Value} {base : Heap}
theorem c_paid (T : Top K mg) : Cl P w K mg base 9 "_law_paid" (spPaid K) := by
  have c_k_worth := c_worth (P := P) (w := w) (base := base) T 8
  refine T.d_k_paid.ok sc_k_paid (fun vs H Q h => ?_) (fun f cdv A outer s H E vs Q hr h => ?_)
  · obtain ⟨v, pl, ps, many, S, b, wt, m, o, d, g, s, rfl, _⟩ := h
    rfl
  obtain ⟨v, pl, ps, many, S, b, wt, m, o, d, g, sg, rfl, ⟨p, db, rg, rfl, hO, hDb, hRg⟩, hS, sok, g0, g1, k⟩ := h
  obtain ⟨pd, nm, sc, bg, sk, bh, sps, far, rfl, hd, hsc, hbg, ⟨pk, xs, rfl, hx, ⟨lx, m33⟩, ln, hst⟩, _⟩ := id hDb
  obtain ⟨pg, rs, rfl, hR, rok⟩ := id hRg
  have N1 := sok.most
  have N0 := sok.pos
  refine ⟨_, (Evl.pss_cut (ps_setLc (i := 3) (own := [("_law_stake_here", 4)]) rfl sc_k_paid.nd rfl rfl (sw_true rfl rfl rfl (by decide +kernel)) (piT K (pe_ix (ixT K) (pe_ix (ixT K) (pv 0) pe_int (fun _ _ => rfl)) pe_int (fun _ _ => rfl))) (blkOk_by (own := [("_law_stake_here", 4)]) (N := N_k_paid) (sc := defScope s_k_paid) (by decide +kernel)) (fun _ _ _ _ _ => (pg_name (i := 4) sc_k_paid.nd rfl (by first | exact Or.inl rfl | exact Or.inr rfl))) (fun _ _ _ _ _ => pts_nil) (fun _ _ _ _ _ => (pe_c c_k_worth (hr.mono (by omega)) (pa_cons (pv 4) (pa_cons (pe_ix (ixT K) (pv 0) pe_int (fun _ _ => rfl)) (pa_cons (pv 1) pa_nil))))))
      (pss_one (ps_ret (pe_op op_sub (pe_op op_mul (pe_callB (crSumT K rfl) (by rfl) T.b_sum (by decide +kernel) (pa_cons (pv 1) pa_nil)) (pe_ix (ixL K) (pv 3) (pv 2) (fun _ _ => rfl))) (pe_callB (crSum K rfl) (by rfl) T.b_sum (by decide +kernel) (pa_cons (pe_lc (own := [("_law_part", 5), ("_law_came_to", 6)]) rfl sc_k_paid.nd (piZ K T.b_zip (pa_cons (pv 1) (pa_cons (pv 3) pa_nil))) (blkOk_by (own := [("_law_part", 5), ("_law_came_to", 6)]) (N := N_k_paid) (sc := defScope s_k_paid) (by decide +kernel)) (fun _ _ _ _ _ => (pgT K (n := 2) rfl (pgs_cons (pg_name (i := 5) sc_k_paid.nd rfl (by first | exact Or.inl rfl | exact Or.inr rfl)) (pgs_cons (pg_name (i := 6) sc_k_paid.nd rfl (by first | exact Or.inl rfl | exact Or.inr rfl)) pgs_nil)))) (fun _ _ _ _ _ => pts_nil) (fun _ _ _ _ _ => (pe_op op_mul (pv 5) (pv 6)))) pa_nil)))))), ?_⟩
  refine ⟨fun σ' H' => ∃ (D : Addr) (ns : List Int), σ' = [some (.ref p), some (.ref pl), some (.int sg), some (.ref D), none, none, none] ∧ Same H H' ∧ SqL K H' D (ns.map V.int) ∧ ns.length = xs.length, ?_, ?_⟩
  · refine ⟨_, rfl, _, _, _, _, rfl, rfl, hO, rfl, _, _, _, _, rfl, rfl, hd, rfl, pk, rfl, ⟨_, hx⟩, fun D hD => ?_⟩
    refine it_tup (xs := xs) (fun i H' => Same H H' ∧ ∃ ns : List Int, H' D = some (.lst (ns.map V.int)) ∧ ns.length = i) ⟨same_new hD, [], upd_same, rfl⟩ (fun i H' _ q => tk_same q.1 _ _ hx) ?_ ?_
    · rintro i y H3 hy ⟨s3, ns, hl, lns⟩
      have li : i < xs.length := (List.getElem?_eq_some_iff.mp hy).1
      have hs2 : sps[i]? = some sps[i] := List.getElem?_eq_getElem (by omega)
      refine ⟨rfl, _, rfl, _, rfl, _, _, _, _, rfl, rfl, tk_same s3 _ _ hO, rfl, _, rfl, y, pg, pl, rs, ps, many, _, _, rfl, (hst i y _ hy hs2).tk (tk_same s3), tk_same s3 _ _ hR, rok, tk_same s3 _ _ hS, sok, fun x H4 s4 hb4 => ?_⟩
      refine ⟨_, s4 _ _ hl, szl (by rw [List.length_map]; omega), sm_put (s3.trans s4) hD, ns ++ [x], ?_, by simp [lns]⟩
      rw [upd_same, List.map_append]
      rfl
    · rintro H3 ⟨s3, ns, hl, lns⟩
      exact ⟨D, ns, rfl, s3, SqL.of hl, lns⟩
  rintro σ4 H4 ⟨D, ns, rfl, s4, hL, lns⟩
  have lps : ps.length = ns.length := by
    have := sok.len
    omega
  obtain ⟨x, ex, ex2, xm⟩ := at_int (ns := ns) g0 (by omega)
  refine ⟨_, rfl, pl, _, rfl, tk_same s4 _ _ hS, _, rfl, _, rfl, _, _, _, _, rfl, rfl, hL, ex, _, _, rfl, rfl, .inl ⟨by omega, by omega⟩, ?_⟩
  refine ⟨_, rfl, _, rfl, pl, D, _, _, rfl, tk_same s4 _ _ hS, hL, fun D2 hD2 => ?_⟩
  refine it_zip (xs := ps.map V.int) (ys := ns.map V.int) (by rw [List.length_map, List.length_map]; exact lps) (fun i H' => Same H4 H' ∧ H' D2 = some (.lst ((((ps.zip ns).take i).map fun z => z.1 * z.2).map V.int))) ⟨same_new hD2, upd_same⟩ (fun i H' q => ⟨tk_same (s4.trans q.1) _ _ hS, q.1.seq hL⟩) ?_ ?_
  · rintro i x' y' q5 H5 H6 hx' hy' ⟨s5, hl5⟩ n5 rfl
    obtain ⟨u, hu, rfl⟩ := map_at hx'
    obtain ⟨v, hv, rfl⟩ := map_at hy'
    have u0 := sok.nn u (List.mem_of_getElem? hu)
    have u1 := le_sum sok.nn u (List.mem_of_getElem? hu)
    have ne : D2 ≠ q5 := ne_of_none hl5 n5
    have li : i < ps.length := (List.getElem?_eq_some_iff.mp hu).1
    refine ⟨q5, [.int u, .int v], rfl, SqT.of upd_same, rfl, _, _, rfl, _, _, rfl, rfl, wipe2 (by decide) _ _, _, rfl, _, rfl, _, _, rfl, rfl, .inl ⟨by omega, by omega⟩, _, by rw [upd_ne ne]; exact hl5, szl ?_, sm_put (sm_new s5 n5) hD2, ?_⟩
    · have := sok.len
      rw [List.length_map, List.length_map, List.length_take]
      omega
    · rw [upd_same, List.take_add_one, zip_at hu hv, List.map_append, List.map_append]
      rfl
  · rintro H5 ⟨s5, hl5⟩
    exact ⟨D2, _, rfl, SqL.of hl5, _, _, rfl, rfl, k _ _ (s4.trans s5)⟩
theorem c_sign (T : Top K mg) : Cl P w K mg base 10 "_law_sign" (spSign K) := by
  have c_k_take := c_take (P := P) (w := w) (base := base) T
  have c_k_paid := c_paid (P := P) (w := w) (base := base) T
  refine T.d_k_sign.ok sc_k_sign (fun vs H Q h => ?_) (fun f cdv A outer s H E vs Q hr h => ?_)
  · obtain ⟨a, v, pl, ps, many, S, b, wt, m, o, d, g, way, nth, n, rfl, _⟩ := h
    rfl
  obtain ⟨a, v, pl, ps, many, S, b, wt, m, o, d, g, way, nth, n, rfl, m2, m3, hO, hS, sok, hh, hn, k⟩ := h
  refine ⟨_, (pss_cons (ps_set (i := 5) sc_k_sign.nd rfl (by first | exact Or.inl rfl | exact Or.inr rfl) (pe_callB (clLen K) (by rfl) T.b_len (by decide +kernel) (pa_cons (pv 3) pa_nil)))
      (Evl.pss_cut (ps_setLc (i := 6) (own := [("_law_sign_here", 7)]) rfl sc_k_sign.nd rfl rfl (sw_true rfl rfl rfl (by decide +kernel)) (pi_range1 (by rfl) T.b_range (pa_cons (pv 5) pa_nil)) (blkOk_by (own := [("_law_sign_here", 7)]) (N := N_k_sign) (sc := defScope s_k_sign) (by decide +kernel)) (fun _ _ _ _ _ => (pg_name (i := 7) sc_k_sign.nd rfl (by first | exact Or.inl rfl | exact Or.inr rfl))) (fun _ _ _ _ _ => pts_nil) (fun _ _ _ _ _ => (pe_c c_k_paid (hr.mono (by omega)) (pa_cons (pv 2) (pa_cons (pv 3) (pa_cons (pv 7) pa_nil))))))
      (pss_cons (ps_if (pt_cmpR op_lt (pv 1) pe_int (nomark _)) (pss_one (ps_ret (pe_bm PySem.F.plainAttrs_list PySem.F.slot_list_index PySem.F.type_list_index mt_index (pv 6) (pa_cons (pe_ifExp (pt_cmpR op_eq (pv 1) pe_int (nomark _)) (pe_callB (crMax K rfl) (by rfl) T.b_max (by decide +kernel) (pa_cons (pv 6) pa_nil)) (pe_callB (crMin K rfl) (by rfl) T.b_min (by decide +kernel) (pa_cons (pv 6) pa_nil))) pa_nil)))) pss_nil)
      (pss_cons (ps_if (pt_cmpR op_eq (pv 1) pe_int (nomark _)) (pss_one (ps_ret (pe_c c_k_take (hr.mono (by omega)) (pa_cons (pv 0) (pa_cons (pv 5) pa_nil))))) pss_nil)
      (pss_one (ps_ret (pe_ifExp (pt_cmpR op_eq (pv 1) pe_int (nomark _)) pe_int (pe_op op_mod (pv 4) (pv 5))))))))), ?_⟩
  have hlen : (((ps.map V.int).length : Nat) : Int) = many := by
    rw [List.length_map]
    exact sok.len
  refine ⟨_, rfl, pl, _, rfl, .inr hS, ?_⟩
  refine ⟨fun σ' H' => ∃ (D : Addr) (ns : List Int), σ' = [some (.ref a), some (.int way), some v, some (.ref pl), some (.int nth), some (.int many), some (.ref D), none] ∧ Same H H' ∧ SqL K H' D (ns.map V.int) ∧ (ns.length : Int) = many, ?_, ?_⟩
  · refine ⟨_, rfl, many, congrArg (fun z => [V.int z]) hlen, by omega, by omega, fun D hD => ?_⟩
    refine it_range (fun i H' => Same H H' ∧ ∃ ns : List Int, H' D = some (.lst (ns.map V.int)) ∧ ns.length = i) ⟨same_new hD, [], upd_same, rfl⟩ ?_ ?_
    · rintro i H3 hi ⟨s3, ns, hl, lns⟩
      refine ⟨rfl, _, rfl, _, rfl, _, rfl, v, pl, ps, many, S, b, wt, m, o, d, g, _, rfl, hO.tk (tk_same s3), tk_same s3 _ _ hS, sok, by omega, by omega, fun x H4 s4 => ?_⟩
      refine ⟨_, s4 _ _ hl, szl (by rw [List.length_map]; omega), sm_put (s3.trans s4) hD, ns ++ [x], ?_, by simp [lns]⟩
      rw [upd_same, List.map_append]
      rfl
    · rintro H3 ⟨s3, ns, hl, lns⟩
      refine ⟨D, ns, ?_, s3, SqL.of hl, by omega⟩
      rw [← hlen]
      rfl
  rintro σ4 H4 ⟨D, ns, rfl, s4, hL, lns⟩
  have h4 := hh.same s4
  have fin : ∀ (i : Int) (H5 : Hp) (m : Nat), Kp a H H5 → Hand H5 a m → m ≤ n + 1 → 0 ≤ i → i < many → Q (.int i) H5 := fun i H5 m k5 h5 hm i0 i1 => k _ _ k5 (h5.mono hm) ⟨i, rfl, i0, i1⟩
  have idx : ∀ mm : Int, mm ∈ ns → ∃ (a : Addr) (ys : List V) (y : V) (j : Nat) (z : V), V.ref D = V.ref a ∧ [V.int mm] = [y] ∧ SqL K H4 a ys ∧ flatV y = true ∧ ys.all flatV = true ∧ ys[j]? = some z ∧ eqV z y = true ∧ (∀ (m : Nat) (z' : V), m < j → ys[m]? = some z' → eqV z' y = false) ∧ Q (.int (j : Nat)) H4 := fun mm hm => by
    obtain ⟨j, j1, j2, j3⟩ := first_of hm
    refine ⟨D, _, _, j, .int mm, rfl, rfl, hL, rfl, ?_, ?_, ?_, fun m' z' hm' hz' => ?_, fin _ _ _ (kp_of s4) h4 (by omega) (by omega) (by omega)⟩
    · rw [List.all_map]
      exact List.all_eq_true.mpr fun _ _ => rfl
    · rw [List.getElem?_map, j2]
      rfl
    · show (mm == mm) = true
      exact beq_self_eq_true _
    · obtain ⟨u, hu, rfl⟩ := map_at hz'
      show (u == mm) = false
      exact beq_eq_false_iff_ne.mpr (j3 m' u hm' hu)
  have pos : 0 < ns.length := by omega
  refine ⟨_, rfl, _, _, rfl, rfl, _, rfl, ite2 (fun q => ?_) (fun q => ?_)⟩
  · refine ⟨_, rfl, .inl ⟨rfl, _, hL⟩, _, rfl, rfl, _, rfl, ite2 (fun q => ?_) (fun q => ?_)⟩
    · exact ⟨_, rfl, D, ns, rfl, hL, pos, fun mm hm _ => idx mm hm⟩
    · exact ⟨_, rfl, D, ns, rfl, hL, pos, fun mm hm _ => idx mm hm⟩
  · refine ⟨_, rfl, rfl, _, rfl, ite2 (fun q => ?_) (fun q => ?_)⟩
    · refine ⟨_, rfl, _, rfl, a, many, n, rfl, by omega, by omega, h4, by omega, ?_⟩
      rintro v' H5 k5 h5 ⟨i, rfl, i0, i1⟩
      exact fin i H5 _ ((kp_of s4).trans k5) h5 (by omega) i0 i1
    · refine ⟨_, rfl, rfl, _, rfl, ite2 (fun q => ?_) (fun q => ?_)⟩
      · exact fin 0 H4 _ (kp_of s4) h4 (by omega) (by omega) (by omega)
      · have r := emod_range (x := nth) (y := many) (by omega)
        exact ⟨_, rfl, _, rfl, _, _, rfl, rfl, (by show 0 < many; omega), fin _ H4 _ (kp_of s4) h4 (by omega) r.1 r.2⟩
theorem c_hand (T : Top K mg) : Cl P w K mg base 1 "_law_hand" (spHand K) := by
  refine T.d_k_hand.ok sc_k_hand (fun vs H Q h => ?_) (fun f cdv A outer s H E vs Q hr h => ?_)
  · obtain ⟨a, ns, kk, rfl, _⟩ := h
    rfl
  obtain ⟨a, ns, kk, rfl, hS, k0, k1, k⟩ := h
  refine ⟨_, (Evl.pss_cut (ps_set (i := 2) sc_k_hand.nd rfl (by first | exact Or.inl rfl | exact Or.inr rfl) (pe_ifExp (pt_cmpR op_lt (pv 1) (pe_callB (clLen K) (by rfl) T.b_len (by decide +kernel) (pa_cons (pv 0) pa_nil)) (nomark _)) (pe_ix (ixL K) (pv 0) (pv 1) (fun _ _ => rfl)) pe_int))
      (Evl.pss_cut (ps_set (i := 3) sc_k_hand.nd rfl (by first | exact Or.inl rfl | exact Or.inr rfl) (pe_op op_mul (pe_op op_mod (pe_callB call_abs (by rfl) T.b_abs (by decide +kernel) (pa_cons (pv 2) pa_nil)) (pe_op op_mulW (pe_op op_pow pe_int pe_int) (pe_op op_pow pe_int pe_int))) (pe_callTy call_int1 (by rfl) T.b_int (by decide +kernel) (pa_cons (pe_cmpR op_ge (pe_callB call_abs (by rfl) T.b_abs (by decide +kernel) (pa_cons (pv 2) pa_nil)) (pe_op op_pow pe_int pe_int) (nomark _)) pa_nil))))
      (pss_one (ps_ret (pe_lstA (pa_cons (pv 3) (pa_cons (pe_op op_add (pe_op op_add (pe_op op_mod (pv 2) pe_int) (pe_op op_mul pe_int (pv 1))) pe_int) (pa_cons pe_int pa_nil)))))))), ?_⟩
  refine ⟨fun σ' H' => ∃ c : Int, H' = H ∧ σ' = [some (.ref a), some (.int kk), some (.int c), none], ?_, ?_⟩
  · refine ⟨_, rfl, _, rfl, a, _, rfl, .inl hS, _, _, rfl, rfl, _, rfl, ite2 (fun q => ?_) (fun q => ?_)⟩
    · have lt : kk < (((ns.map V.int).length : Nat) : Int) := of_decide_eq_true q
      rw [List.length_map] at lt
      obtain ⟨c, e1, _, _⟩ := at_int (ns := ns) k0 lt
      exact ⟨_, rfl, _, rfl, _, _, _, _, rfl, rfl, hS, e1, c, rfl, rfl⟩
    · exact ⟨0, rfl, rfl⟩
  rintro σ1 H1 ⟨c, rfl, rfl⟩
  have e60 : (10 : Int) ^ (60 : Int).toNat = 10 ^ 60 := rfl
  have LLp : (0 : Int) < 10 ^ (60 : Int).toNat * 10 ^ (60 : Int).toNat := by decide
  have LLe : (10 : Int) ^ (60 : Int).toNat * 10 ^ (60 : Int).toNat = LL := by decide
  refine ⟨fun σ' H' => ∃ g : Int, H' = H1 ∧ 0 ≤ g ∧ g < LL ∧ σ' = [some (.ref a), some (.int kk), some (.int c), some (.int g)], ?_, ?_⟩
  · have r := emod_range (x := iabs c) LLp
    rw [LLe] at r
    refine ⟨_, rfl, _, rfl, _, _, rfl, rfl, ⟨by omega, by omega, by omega⟩, _, _, rfl, rfl, ⟨by omega, by omega, by omega⟩, _, _, rfl, rfl, wide_mul (a := 200) (b := 200) (by decide) (by decide) (by decide) (by decide) (by decide), _, _, rfl, rfl, LLp, ?_⟩
    refine ⟨_, rfl, _, rfl, _, _, rfl, rfl, ⟨by omega, by omega, by omega⟩, _, _, rfl, rfl, .inr ⟨_, rfl, ?_⟩⟩
    by_cases cc : (10 : Int) ^ (18 : Int).toNat ≤ iabs c
    · refine ⟨_, _, rfl, rfl, ?_, iabs c % LL * 1, rfl, by omega, by omega, ?_⟩
      · rw [decide_eq_true cc]
        exact .inr ⟨by decide, by decide⟩
      · show [some (V.ref a), some (V.int kk), some (V.int c), some (V.int (iabs c % (10 ^ (60 : Int).toNat * 10 ^ (60 : Int).toNat) * (if decide ((10 : Int) ^ (18 : Int).toNat ≤ iabs c) = true then 1 else 0)))] = _
        rw [decide_eq_true cc, LLe]
        rfl
    · refine ⟨_, _, rfl, rfl, ?_, iabs c % LL * 0, rfl, by omega, by show iabs c % LL * 0 < 10 ^ 120; rw [Int.mul_zero]; decide, ?_⟩
      · rw [decide_eq_false cc]
        exact .inr ⟨by decide, by decide⟩
      · show [some (V.ref a), some (V.int kk), some (V.int c), some (V.int (iabs c % (10 ^ (60 : Int).toNat * 10 ^ (60 : Int).toNat) * (if decide ((10 : Int) ^ (18 : Int).toNat ≤ iabs c) = true then 1 else 0)))] = _
        rw [decide_eq_false cc, LLe]
        rfl
  rintro σ2 H2 ⟨g, rfl, g0, g1, rfl⟩
  have r := emod_range (x := c) (y := 2305843009213693951) (by decide)
  refine ⟨_, rfl, _, rfl, _, _, rfl, rfl, (by show (0 : Int) < 2305843009213693951; decide), _, rfl, _, _, rfl, rfl, .inl ⟨by omega, by omega⟩, _, _, rfl, rfl, _, _, rfl, rfl, szb, fun p H3 s3 n3 t3 => ?_⟩
  exact k p H3 s3 n3 ⟨g, _, 0, t3, g0, g1, by omega, by omega, by omega, by omega⟩
/-- how great the motes and what is owed can have grown -/
theorem grown {m o F f : Int} {i : Nat} (m0 : 0 ≤ m) (o0 : 0 ≤ o) (F0 : 0 < F) (f0 : 0 ≤ F + f) (f1 : F + f ≤ 2 * F) (h : m + o ≤ 2 ^ (50 + 2 * i)) :
    0 ≤ m * (F + f) / F ∧ 0 ≤ 1 - (0 - o * (F + f)) / F ∧ m * (F + f) / F + (1 - (0 - o * (F + f)) / F) ≤ 2 ^ (50 + 2 * (i + 1)) := by
  have a1 : m * (F + f) ≤ 2 * m * F := by
    have := Int.mul_le_mul_of_nonneg_left f1 m0
    rw [show 2 * m * F = m * (2 * F) by grind]
    exact this
  have a2 : o * (F + f) ≤ 2 * o * F := by
    have := Int.mul_le_mul_of_nonneg_left f1 o0
    rw [show 2 * o * F = o * (2 * F) by grind]
    exact this
  have a3 : 0 ≤ m * (F + f) := Int.mul_nonneg m0 f0
  have a4 : 0 ≤ o * (F + f) := Int.mul_nonneg o0 f0
  have b1 : m * (F + f) / F ≤ 2 * m := by
    have := Int.ediv_le_ediv F0 a1
    rw [Int.mul_ediv_cancel _ (by omega)] at this
    exact this
  have b2 : 0 ≤ m * (F + f) / F := Int.ediv_nonneg a3 (by omega)
  have b3 : -(2 * o) ≤ (0 - o * (F + f)) / F := (Int.le_ediv_iff_mul_le F0).mpr (by
    rw [Int.neg_mul]
    omega)
  have b4 : (0 - o * (F + f)) / F ≤ 0 := by
    have := Int.ediv_le_ediv F0 (show 0 - o * (F + f) ≤ 0 by omega)
    rw [Int.zero_ediv] at this
    exact this
  have e : (2 : Int) ^ (50 + 2 * (i + 1)) = 4 * 2 ^ (50 + 2 * i) := by
    rw [show 50 + 2 * (i + 1) = (50 + 2 * i) + 2 by omega, Int.pow_add]
    omega
  have one : (1 : Int) ≤ 2 ^ (50 + 2 * i) := by
    have : (0 : Int) < 2 ^ (50 + 2 * i) := Int.pow_pos (by decide)
    omega
  exact ⟨b2, by omega, by omega⟩
theorem pow_le200 {i : Nat} (h : i ≤ 41) : (2 : Int) ^ (50 + 2 * i) < 2 ^ 150 := by
  have h1 : 2 ^ (50 + 2 * i) < 2 ^ 150 := Nat.pow_lt_pow_right (by decide) (by omega)
  exact_mod_cast h1
theorem c_right (T : Top K mg) : Cl P w K mg base 13 "_law_right" spRight := by
  have c_k_take := c_take (P := P) (w := w) (base := base) T
  have c_k_made := c_made (P := P) (w := w) (base := base) T
  have c_k_any := c_any (P := P) (w := w) (base := base) T
  have c_k_weight := c_weight (P := P) (w := w) (base := base) T
  have c_k_shares := c_shares (P := P) (w := w) (base := base) T
  have c_k_stepped := c_stepped (P := P) (w := w) (base := base) T
  have c_k_sign := c_sign (P := P) (w := w) (base := base) T
  have c_sure := c_sure (P := P) (w := w) (base := base) T
  have c_off := c_off (P := P) (w := w) (base := base) T
  refine T.d_k_right.ok sc_k_right (fun vs H Q h => ?_) (fun f cdv A outer s H E vs Q hr h => ?_)
  · obtain ⟨a, n, rfl, _⟩ := h
    rfl
  obtain ⟨a, n, rfl, hh, hn, k⟩ := h
  refine ⟨_, (Evl.pss_cut (ps_set (i := 1) sc_k_right.nd rfl (by first | exact Or.inl rfl | exact Or.inr rfl) (pe_op op_add pe_int (pe_c c_k_take (hr.mono (by omega)) (pa_cons (pv 0) (pa_cons pe_int pa_nil)))))
      (Evl.pss_cut (ps_par (i := 4) (j := 5) (by rfl) sc_k_right.nd rfl rfl (by decide) rfl rfl (pa_cons (pe_c c_k_made (hr.mono (by omega)) (pa_cons (pe_c c_k_any (hr.mono (by omega)) (pa_cons (pv 0) (pa_cons (pv 1) pa_nil))) (pa_cons (pe_c c_k_weight (hr.mono (by omega)) (pa_cons (pv 0) pa_nil)) pa_nil))) (pa_cons (pe_c c_k_take (hr.mono (by omega)) (pa_cons (pv 0) (pa_cons pe_int pa_nil))) pa_nil)) (by rfl))
      (Evl.pss_cut (ps_set (i := 2) sc_k_right.nd rfl (by first | exact Or.inl rfl | exact Or.inr rfl) (pe_c c_k_shares (hr.mono (by omega)) (pa_cons (pv 0) (pa_cons (pv 1) pa_nil))))
      (pss_cons (ps_for PassesOwn.never rfl (pi_range1 (by rfl) T.b_range (pa_cons (pe_c c_k_take (hr.mono (by omega)) (pa_cons (pv 0) (pa_cons pe_int pa_nil))) pa_nil)) (pg_name (i := 3) sc_k_right.nd rfl (by first | exact Or.inl rfl | exact Or.inr rfl)) (Evl.pss_cut (ps_set (i := 2) sc_k_right.nd rfl (by first | exact Or.inl rfl | exact Or.inr rfl) (pe_ifExp (pt_cmpR op_gt (pe_c c_k_take (hr.mono (by omega)) (pa_cons (pv 0) (pa_cons pe_int pa_nil))) pe_int (nomark _)) (pe_c c_k_shares (hr.mono (by omega)) (pa_cons (pv 0) (pa_cons (pv 1) pa_nil))) (pv 2)))
      (Evl.pss_cut (ps_set (i := 4) sc_k_right.nd rfl (by first | exact Or.inl rfl | exact Or.inr rfl) (pe_c c_k_stepped (hr.mono (by omega)) (pa_cons (pv 4) (pa_cons (pv 2) (pa_cons (pe_c c_k_sign (hr.mono (by omega)) (pa_cons (pv 0) (pa_cons (pv 5) (pa_cons (pv 4) (pa_cons (pv 2) (pa_cons (pv 3) pa_nil)))))) pa_nil)))))
      (pss_cons (ps_set (i := 6) sc_k_right.nd rfl (by first | exact Or.inl rfl | exact Or.inr rfl) (pe_c c_sure (hr.mono (by omega)) (pa_cons (pv 4) pa_nil)))
      (pss_one (ps_if (PW.pt (pw_or (pt_cmpR op_isN (pv 6) pe_non (nomark _)) (pw_or (pt_cmpR op_gt (pe_c c_off (hr.mono (by omega)) (pa_cons (pv 4) pa_nil)) (pv 6) (nomark _)) (pw_or1 (pt_cmpR op_gt (pv 6) (pe_ix (ixT K) (pv 4) pe_int (fun _ _ => rfl)) (nomark _)))))) (pss_one (ps_ret pe_bl)) pss_nil))))))
      (pss_one (ps_ret pe_bl)))))), ?_⟩
  refine ⟨fun σ' H' => ∃ M : Int, σ' = [some (.ref a), some (.int M), none, none, none, none, none] ∧ 2 ≤ M ∧ M ≤ 3 ∧ Kp a H H' ∧ Hand H' a (n + 1), ?_, ?_⟩
  · refine ⟨_, rfl, a, 2, n, rfl, by omega, by omega, hh, by omega, ?_⟩
    rintro v H1 k1 h1 ⟨i, rfl, i0, i1⟩
    exact ⟨_, _, rfl, rfl, 2 + i, rfl, by omega, by omega, k1, h1⟩
  rintro σ1 H1 ⟨M, rfl, m2, m3, k1, h1⟩
  refine ⟨fun σ' H' => ∃ (one : V) (way S b wt : Int), σ' = [some (.ref a), some (.int M), none, none, some one, some (.int way), none] ∧ Kp a H H' ∧ Hand H' a (n + 300) ∧ 1 ≤ wt ∧ wt ≤ 1000000000000 ∧ IsOne K H' M S b wt wt 0 0 0 one, ?_, ?_⟩
  · refine ⟨_, rfl, _, rfl, a, M, _, rfl, m2, m3, h1, by omega, ?_⟩
    rintro db H2 k2 h2 ⟨S, b, hdb⟩
    refine ⟨_, rfl, a, _, rfl, h2, by omega, ?_⟩
    rintro v H3 k3 h3 ⟨wt, rfl, w1, w2⟩
    refine ⟨db, M, S, b, wt, rfl, hdb.tk (h2.tk k3), fun one H4 s4 hone => ?_⟩
    refine ⟨_, rfl, a, 5, _, rfl, by omega, by omega, h3.same s4, by omega, ?_⟩
    rintro v H5 k5 h5 ⟨way, rfl, _, _⟩
    exact ⟨_, _, rfl, one, way, S, b, wt, rfl, k1.trans (k2.trans (k3.trans ((kp_of s4).trans k5))), h5.mono (by omega), w1, w2, hone.tk ((h3.same s4).tk k5)⟩
  rintro σ2 H2 ⟨one, way, S, b, wt, rfl, k2, h2, w1, w2, hone⟩
  refine ⟨fun σ' H' => ∃ sh : V, σ' = [some (.ref a), some (.int M), some sh, none, some one, some (.int way), none] ∧ Kp a H H' ∧ Hand H' a (n + 313) ∧ IsSh K H' M sh ∧ IsOne K H' M S b wt wt 0 0 0 one, ?_, ?_⟩
  · refine ⟨_, rfl, _, rfl, a, M, _, rfl, m2, m3, h2, by omega, ?_⟩
    intro sh H3 k3 h3 hsh
    exact ⟨sh, rfl, k2.trans k3, h3, hsh, hone.tk (h2.tk k3)⟩
  rintro σ3 H3 ⟨sh, rfl, k3, h3, hsh, hone⟩
  have hB : 1 ≤ b ∧ b ≤ 500 := by
    obtain ⟨_, _, _, _, _, hDb, _⟩ := id hone
    have := hDb.b
    exact ⟨this.1, this.2.1⟩
  refine ⟨_, rfl, a, 41, _, rfl, by omega, by omega, h3, by omega, ?_⟩
  rintro v H4 k4 h4 ⟨t, rfl, t0, t1⟩
  refine ⟨t, rfl, by omega, by omega, ?_⟩
  refine for_range (fun i σ H' => ∃ (sh one : V) (m o d g : Int) (v3 v6 : Option V), σ = [some (.ref a), some (.int M), some sh, v3, some one, some (.int way), v6] ∧ Kp a H H' ∧ Hand H' a (n + 314 + 15 * i) ∧ IsSh K H' M sh ∧ IsOne K H' M S b wt m o d g one ∧ Books b wt (m + o) d g ∧ 0 ≤ m ∧ 0 ≤ o ∧ m + o ≤ 2 ^ (50 + 2 * i) ∧ 0 ≤ d ∧ d ≤ (i : Int) ∧ -(1000000000 * (i : Int)) ≤ g ∧ g ≤ 1000000000 * (i : Int))
    ⟨sh, one, wt, 0, 0, 0, none, none, rfl, k3.trans k4, h4, hsh.tk (h3.tk k4), hone.tk (h3.tk k4), Books.start, by omega, by omega, by simp; omega, by omega, by omega, by omega, by omega⟩ ?_ ?_
  · rintro i σ H5 hi ⟨sh, one, m, o, d, g, v3, v6, rfl, k5, h5, hsh, hone, hbk, m0, o0, mo, d0, di, g0, g1⟩
    have hi40 : i < 40 := by omega
    have p200 := pow_le200 (i := i) (by omega)
    have p201 := pow_le200 (i := i + 1) (by omega)
    -- today's shares
    refine ⟨fun σ' H' => ∃ (sh : V) (v3 : Option V), σ' = [some (.ref a), some (.int M), some sh, some (.int (0 + (i : Int))), some one, some (.int way), v6] ∧ Kp a H H' ∧ Hand H' a (n + 314 + 15 * i + 14) ∧ IsSh K H' M sh ∧ IsOne K H' M S b wt m o d g one, ?_, ?_⟩
    · refine ⟨_, rfl, a, 3, _, rfl, by omega, by omega, h5, by omega, ?_⟩
      rintro v H6 k6 h6 ⟨j, rfl, j0, j1⟩
      have t6 := h5.tk (K := K) k6
      refine ⟨_, _, rfl, rfl, _, rfl, ite2 (fun q => ?_) (fun q => ?_)⟩
      · refine ⟨_, rfl, _, rfl, a, M, _, rfl, m2, m3, h6, by omega, ?_⟩
        intro sh' H7 k7 h7 hsh'
        exact ⟨sh', none, rfl, k5.trans (k6.trans k7), h7.mono (by omega), hsh', hone.tk (t6.trans (h6.tk k7))⟩
      · exact ⟨_, rfl, sh, none, rfl, k5.trans k6, h6.mono (by omega), hsh.tk t6, hone.tk t6⟩
    rintro σ6 H6 ⟨sh, _, rfl, k6, h6, hsh, hone⟩
    -- the day
    obtain ⟨pl, ps, rfl, hS, sok⟩ := hsh
    refine ⟨fun σ' H' => ∃ (one : V) (m o d g : Int), σ' = [some (.ref a), some (.int M), some (.ref pl), some (.int (0 + (i : Int))), some one, some (.int way), v6] ∧ Kp a H H' ∧ Hand H' a (n + 314 + 15 * i + 15) ∧ IsSh K H' M (.ref pl) ∧ IsOne K H' M S b wt m o d g one ∧ Books b wt (m + o) d g ∧ 0 ≤ m ∧ 0 ≤ o ∧ m + o ≤ 2 ^ (50 + 2 * (i + 1)) ∧ 0 ≤ d ∧ d ≤ ((i + 1 : Nat) : Int) ∧ -(1000000000 * ((i + 1 : Nat) : Int)) ≤ g ∧ g ≤ 1000000000 * ((i + 1 : Nat) : Int), ?_, ?_⟩
    · refine ⟨_, rfl, _, rfl, _, rfl, _, rfl, _, rfl, _, rfl, _, rfl, a, one, pl, ps, M, S, b, wt, m, o, d, g, way, _, _, rfl, m2, m3, hone, hS, sok, h6, by omega, ?_⟩
      rintro v H7 k7 h7 ⟨s, rfl, s0, s1⟩
      have t7 := h6.tk (K := K) k7
      have big : (2 : Int) ^ 150 < 2 ^ 300 := by decide
      refine ⟨one, pl, ps, M, S, b, wt, m, o, d, g, s, rfl, hone.tk t7, t7 _ _ hS, sok, s0, s1, m0, by omega, o0, by omega, fun one' H8 F f e s8 day hone' => ?_⟩
      have F0 := day.F0
      have bF : b * F ≤ 500 * F := Int.mul_le_mul_of_nonneg_right hB.2 (by omega)
      have l1 := day.lo
      have l2 := day.hi
      obtain ⟨r1, r2, r3⟩ := grown (F := F) (f := f) (i := i) m0 o0 F0 (by omega) (by omega) mo
      have zr := z_range F0 l1 l2
      have GGb : GG b ≤ 1000000000 := by show 2000000 * b ≤ 1000000000; omega
      have hbk' : Books b wt (m * (F + f) / F + (1 - (0 - o * (F + f)) / F)) (d + e) (g + 1000000000 * f / F) := by
        rcases day.idle with rfl | ⟨rfl, rfl⟩
        · exact hbk.day (by omega) hB.1 hB.2 F0 l1 l2 (by omega)
        · exact hbk.still F0
      have e01 : 0 ≤ e ∧ e ≤ 1 := by
        rcases day.idle with rfl | ⟨rfl, rfl⟩ <;> omega
      refine ⟨one', _, _, _, _, rfl, k6.trans (k7.trans (kp_of s8)), (h7.same s8).mono (by omega), ⟨pl, ps, rfl, tk_same s8 _ _ (t7 _ _ hS), sok⟩, hone', hbk', r1, r2, r3, by omega, by push_cast; omega, by push_cast; omega, by push_cast; omega⟩
    rintro σ7 H7 ⟨one, m, o, d, g, rfl, k7, h7, hsh, hone, hbk, m0, o0, mo, d0, di, g0, g1⟩
    obtain ⟨u1, u2, ub⟩ := hbk.borne (by omega) (by omega) hB.1 hB.2
    have d50 : d ≤ 50 := by push_cast at di; omega
    have big : (2 : Int) ^ 150 < 2 ^ 200 := by decide
    -- sure, off
    refine ⟨_, rfl, one, M, S, b, wt, m, o, d, g, _, rfl, hone, u1, u2, d50, by omega, by omega, by omega, by omega, ub, fun r H8 s8 r1 r2 => ?_⟩
    have hone8 := hone.tk (tk_same s8)
    refine ⟨_, rfl, rfl, _, rfl, iteN (fun z => absurd (of_decide_eq_true z) (by intro h; cases h)) ?_⟩
    refine ⟨_, rfl, one, M, S, b, wt, m, o, d, g, rfl, hone8, by push_cast at g0; omega, by push_cast at g1; omega, fun H9 s9 => ?_⟩
    refine ⟨_, rfl, _, _, rfl, rfl, _, rfl, iteN (fun z => absurd (of_decide_eq_true z) (by omega)) ?_⟩
    have hone9 := hone8.tk (tk_same s9)
    obtain ⟨p, db, rg, rfl, hO, hdb, hrg⟩ := id hone9
    refine ⟨_, rfl, _, rfl, _, _, _, _, rfl, rfl, hO, rfl, _, _, rfl, rfl, _, rfl, iteN (fun z => absurd (of_decide_eq_true z) (by omega)) ?_⟩
    have s89 := s8.trans s9
    exact ⟨.ref pl, .ref p, m, o, d, g, _, _, rfl, k7.trans (kp_of s89), (h7.same s89).mono (by omega), hsh.tk (tk_same s89), hone9, hbk, m0, o0, mo, d0, di, g0, g1⟩
  · rintro σ H5 ⟨sh, one, m, o, d, g, v3, v6, rfl, k5, h5, _⟩
    exact k _ _ k5 (h5.mono (by omega)) rfl
theorem fn_law (T : Top K mg) {f : Addr} {fd : FuncData} (F : Fun K "law" "law" s_law f fd) : FnOk P w K mg base CX0 15 f fd ["_law_script"] (spLaw K).sp := by
  have c_k_hand := c_hand (P := P) (w := w) (base := base) T
  have c_k_right := c_right (P := P) (w := w) (base := base) T
  refine F.ok sc_law (fun vs H Q E h => ?_) (fun cdv A outer s H vs Q E hr h => ?_)
  · obtain ⟨a, ns, rfl, _⟩ := h
    rfl
  obtain ⟨a, ns, rfl, hS, h63, k⟩ := h
  refine ⟨_, (pss_cons (ps_for PassesOwn.never rfl (pi_range1 (by rfl) T.b_range (pa_cons (pe_callB (call_max2 rfl) (by rfl) T.b_max (by decide +kernel) (pa_cons pe_int (pa_cons (pe_callB (call_min2 rfl) (by rfl) T.b_min (by decide +kernel) (pa_cons pe_int (pa_cons (pe_callB (clLen K) (by rfl) T.b_len (by decide +kernel) (pa_cons (pv 0) pa_nil)) pa_nil))) pa_nil))) pa_nil)) (pg_name (i := 1) sc_law.nd rfl (by first | exact Or.inl rfl | exact Or.inr rfl)) (pss_cons (ps_set (i := 2) sc_law.nd rfl (by first | exact Or.inl rfl | exact Or.inr rfl) (pe_c c_k_hand (hr.mono (by omega)) (pa_cons (pv 0) (pa_cons (pv 1) pa_nil))))
      (pss_one (ps_if (pt_not (pt_val (pe_callB (crAll K rfl) (by rfl) T.b_all (by decide +kernel) (pa_cons (pe_lc (own := [("_law_turn", 3)]) rfl sc_law.nd (pi_range1 (by rfl) T.b_range (pa_cons pe_int pa_nil)) (blkOk_by (own := [("_law_turn", 3)]) (N := N_law) (sc := defScope s_law) (by decide +kernel)) (fun _ _ _ _ _ => (pg_name (i := 3) sc_law.nd rfl (by first | exact Or.inl rfl | exact Or.inr rfl))) (fun _ _ _ _ _ => pts_nil) (fun _ _ _ _ _ => (pe_c c_k_right (hr.mono (by omega)) (pa_cons (pv 2) pa_nil)))) pa_nil)))) (pss_one (ps_ret pe_bl)) pss_nil))))
      (pss_one (ps_ret pe_bl))), ?_⟩
  refine ⟨_, rfl, a, _, rfl, .inl hS, _, _, rfl, _, _, rfl, _, rfl, ?_⟩
  rw [List.length_map]
  generalize hj : (if (if (ns.length : Int) < 4 then (ns.length : Int) else 4) > 1 then (if (ns.length : Int) < 4 then (ns.length : Int) else 4) else 1) = j
  have j4 : 1 ≤ j ∧ j ≤ 4 := by
    rw [← hj]
    split <;> split <;> omega
  refine ⟨by omega, by omega, ?_⟩
  refine for_range (fun i σ H' => ∃ (v1 v2 v3 : Option V), σ = [some (.ref a), v1, v2, v3] ∧ Same H H') ⟨none, none, none, rfl, Same.refl H⟩ ?_ ?_
  · rintro i σ H1 hi ⟨v1, v2, v3, rfl, s1⟩
    refine ⟨_, rfl, _, rfl, a, ns, _, rfl, s1.seq hS, by omega, by omega, fun p H2 s2 n2 h2 => ?_⟩
    have np : H p = none := s1.free n2
    refine ⟨4, rfl, by omega, by omega, fun D hD => ?_⟩
    have Dp := h2.ne hD
    have nD : H D = none := (s1.trans s2).free hD
    refine it_range (fun j H' => Same H H' ∧ Hand H' p (1000 * j) ∧ ∃ bs : List Bool, H' D = some (.lst (bs.map V.bl)) ∧ bs.length = j ∧ bs.all id = true) ⟨(s1.trans s2).trans (same_new hD), h2.new hD, [], upd_same, rfl, rfl⟩ ?_ ?_
    · rintro j H3 hj ⟨s3, h3, bs, hl, lb, ab⟩
      have hj4 : j < 4 := hj
      refine ⟨rfl, _, rfl, p, _, rfl, h3, by omega, ?_⟩
      rintro v H4 k4 h4 rfl
      have hl4 := k4 _ _ Dp hl
      refine ⟨_, hl4, szl (by rw [List.length_map]; omega), sm_put (sm_kp s3 np k4) nD, (h4.mono (by omega)).upd Dp, bs ++ [true], ?_, by simp [lb], by simp [ab]⟩
      rw [upd_same, List.map_append]
      rfl
    · rintro H3 ⟨s3, h3, bs, hl, lb, ab⟩
      refine ⟨D, bs, rfl, SqL.of hl, _, rfl, iteN (by rw [ab]; decide) ?_⟩
      exact ⟨_, _, _, rfl, s3⟩
  · rintro σ H1 ⟨v1, v2, v3, rfl, s1⟩
    exact k H1
end
end Nr

set_option maxHeartbeats 4000000
namespace Nr
open PySem PySem.Spec PyProof.Rows L2
theorem all_mk {l : PySem.W.OpenLaw} {w : World} {K : PySem.W.Frag} {h : Heap} {mg : Str → Option Value} {fa : Addr} (X : K.In h) (G : h.Ns mainGlobals mg) (hfa : mg "law" = some (.ref fa))
    {f0 f1 f2 f3 f4 f5 f6 f7 f8 f9 f10 f11 f12 f13 f14 f15 f16 f17 f18 f19 f20 f21 f22 f23 f24 f25 f26 f27 f28 f29 f30 f31 f32 f33 f34 f35 f36 : Addr} {od0 an0 od1 an1 od2 an2 od3 an3 od4 an4 od5 an5 od6 an6 od7 an7 od8 an8 od9 an9 od10 an10 od11 an11 od12 an12 od13 an13 od14 an14 od15 an15 od16 an16 od17 an17 od18 an18 od19 an19 od20 an20 od21 an21 od22 an22 od23 an23 od24 an24 od25 an25 od26 an26 od27 an27 od28 an28 od29 an29 od30 an30 od31 an31 od32 an32 od33 an33 od34 an34 od35 an35 od36 an36 : Option Addr}
    {sl0 sl1 sl2 sl3 sl4 sl5 sl6 sl7 sl8 sl9 sl10 sl11 sl12 sl13 sl14 sl15 sl16 sl17 sl18 sl19 sl20 sl21 sl22 sl23 sl24 sl25 sl26 sl27 sl28 sl29 sl30 sl31 sl32 sl33 sl34 sl35 sl36 : Array (Option Value)}
    {oc0 kV0 dc0 pm0 cd0 ct0 oc1 kV1 dc1 pm1 cd1 ct1 oc2 kV2 dc2 pm2 cd2 ct2 oc3 kV3 dc3 pm3 cd3 ct3 oc4 kV4 dc4 pm4 cd4 ct4 oc5 kV5 dc5 pm5 cd5 ct5 oc6 kV6 dc6 pm6 cd6 ct6 oc7 kV7 dc7 pm7 cd7 ct7 oc8 kV8 dc8 pm8 cd8 ct8 oc9 kV9 dc9 pm9 cd9 ct9 oc10 kV10 dc10 pm10 cd10 ct10 oc11 kV11 dc11 pm11 cd11 ct11 oc12 kV12 dc12 pm12 cd12 ct12 oc13 kV13 dc13 pm13 cd13 ct13 oc14 kV14 dc14 pm14 cd14 ct14 oc15 kV15 dc15 pm15 cd15 ct15 oc16 kV16 dc16 pm16 cd16 ct16 oc17 kV17 dc17 pm17 cd17 ct17 oc18 kV18 dc18 pm18 cd18 ct18 oc19 kV19 dc19 pm19 cd19 ct19 oc20 kV20 dc20 pm20 cd20 ct20 oc21 kV21 dc21 pm21 cd21 ct21 oc22 kV22 dc22 pm22 cd22 ct22 oc23 kV23 dc23 pm23 cd23 ct23 oc24 kV24 dc24 pm24 cd24 ct24 oc25 kV25 dc25 pm25 cd25 ct25 oc26 kV26 dc26 pm26 cd26 ct26 oc27 kV27 dc27 pm27 cd27 ct27 oc28 kV28 dc28 pm28 cd28 ct28 oc29 kV29 dc29 pm29 cd29 ct29 oc30 kV30 dc30 pm30 cd30 ct30 oc31 kV31 dc31 pm31 cd31 ct31 oc32 kV32 dc32 pm32 cd32 ct32 oc33 kV33 dc33 pm33 cd33 ct33 oc34 kV34 dc34 pm34 cd34 ct34 oc35 kV35 dc35 pm35 cd35 ct35 oc36 kV36 dc36 pm36 cd36 ct36 : Value}
    {tc0 tc1 tc2 tc3 tc4 : Tok}
    {gT0 : Addr} {dT0 : Option Addr} {nT0 : Nat} {sT0 : Array (Option Value)} {tT0_0 tT0_1 tT0_2 tT0_3 tT0_4 : Tok}
    {gT1 : Addr} {dT1 : Option Addr} {nT1 : Nat} {sT1 : Array (Option Value)} {tT1_0 tT1_1 : Tok}
    (a0 : PySem.W.nsIn K mainGlobals "span_of_pair" = some (some (.ref f0))) (l0 : K.lookup f0 = some ⟨oc0, od0, .func (PySem.W.fnOf "span_of_pair" "span_of_pair" (defArgs s_span_of_pair) (defBody s_span_of_pair) (defScope s_span_of_pair) .none kV0 dc0 pm0 an0 cd0 ct0), sl0⟩) (c0 : PySem.W.codeIn K cd0 "span_of_pair" = true) (k0 : PySem.W.keepIn K (.ref f0) = true)
    (a1 : PySem.W.nsIn K mainGlobals "span" = some (some (.ref f1))) (l1 : K.lookup f1 = some ⟨oc1, od1, .func (PySem.W.fnOf "span" "span" (defArgs s_span) (defBody s_span) (defScope s_span) .none kV1 dc1 pm1 an1 cd1 ct1), sl1⟩) (c1 : PySem.W.codeIn K cd1 "span" = true) (k1 : PySem.W.keepIn K (.ref f1) = true)
    (a2 : PySem.W.nsIn K mainGlobals "bound" = some (some (.ref f2))) (l2 : K.lookup f2 = some ⟨oc2, od2, .func (PySem.W.fnOf "bound" "bound" (defArgs s_bound) (defBody s_bound) (defScope s_bound) .none kV2 dc2 pm2 an2 cd2 ct2), sl2⟩) (c2 : PySem.W.codeIn K cd2 "bound" = true) (k2 : PySem.W.keepIn K (.ref f2) = true)
    (a3 : PySem.W.nsIn K mainGlobals "off" = some (some (.ref f3))) (l3 : K.lookup f3 = some ⟨oc3, od3, .func (PySem.W.fnOf "off" "off" (defArgs s_off) (defBody s_off) (defScope s_off) .none kV3 dc3 pm3 an3 cd3 ct3), sl3⟩) (c3 : PySem.W.codeIn K cd3 "off" = true) (k3 : PySem.W.keepIn K (.ref f3) = true)
    (a4 : PySem.W.nsIn K mainGlobals "power" = some (some (.ref f4))) (l4 : K.lookup f4 = some ⟨oc4, od4, .func (PySem.W.fnOf "power" "power" (defArgs s_power) (defBody s_power) (defScope s_power) .none kV4 dc4 pm4 an4 cd4 ct4), sl4⟩) (c4 : PySem.W.codeIn K cd4 "power" = true) (k4 : PySem.W.keepIn K (.ref f4) = true)
    (a5 : PySem.W.nsIn K mainGlobals "is_borne" = some (some (.ref f5))) (l5 : K.lookup f5 = some ⟨oc5, od5, .func (PySem.W.fnOf "is_borne" "is_borne" (defArgs s_is_borne) (defBody s_is_borne) (defScope s_is_borne) .none kV5 dc5 pm5 an5 cd5 ct5), sl5⟩) (c5 : PySem.W.codeIn K cd5 "is_borne" = true) (k5 : PySem.W.keepIn K (.ref f5) = true)
    (a6 : PySem.W.nsIn K mainGlobals "most_off" = some (some (.ref f6))) (l6 : K.lookup f6 = some ⟨oc6, od6, .func (PySem.W.fnOf "most_off" "most_off" (defArgs s_most_off) (defBody s_most_off) (defScope s_most_off) .none kV6 dc6 pm6 an6 cd6 ct6), sl6⟩) (c6 : PySem.W.codeIn K cd6 "most_off" = true) (k6 : PySem.W.keepIn K (.ref f6) = true)
    (a7 : PySem.W.nsIn K mainGlobals "sure" = some (some (.ref f7))) (l7 : K.lookup f7 = some ⟨oc7, od7, .func (PySem.W.fnOf "sure" "sure" (defArgs s_sure) (defBody s_sure) (defScope s_sure) .none kV7 dc7 pm7 an7 cd7 ct7), sl7⟩) (c7 : PySem.W.codeIn K cd7 "sure" = true) (k7 : PySem.W.keepIn K (.ref f7) = true)
    (a8 : PySem.W.nsIn K mainGlobals "on_one" = some (some (.ref f8))) (l8 : K.lookup f8 = some ⟨oc8, od8, .func (PySem.W.fnOf "on_one" "on_one" (defArgs s_on_one) (defBody s_on_one) (defScope s_on_one) .none kV8 dc8 pm8 an8 cd8 ct8), sl8⟩) (c8 : PySem.W.codeIn K cd8 "on_one" = true) (k8 : PySem.W.keepIn K (.ref f8) = true)
    (a9 : PySem.W.nsIn K mainGlobals "tent" = some (some (.ref f9))) (l9 : K.lookup f9 = some ⟨oc9, od9, .func (PySem.W.fnOf "tent" "tent" (defArgs s_tent) (defBody s_tent) (defScope s_tent) .none kV9 dc9 pm9 an9 cd9 ct9), sl9⟩) (c9 : PySem.W.codeIn K cd9 "tent" = true) (k9 : PySem.W.keepIn K (.ref f9) = true)
    (a10 : PySem.W.nsIn K mainGlobals "by_registers" = some (some (.ref f10))) (l10 : K.lookup f10 = some ⟨oc10, od10, .func (PySem.W.fnOf "by_registers" "by_registers" (defArgs s_by_registers) (defBody s_by_registers) (defScope s_by_registers) .none kV10 dc10 pm10 an10 cd10 ct10), sl10⟩) (c10 : PySem.W.codeIn K cd10 "by_registers" = true) (k10 : PySem.W.keepIn K (.ref f10) = true)
    (a11 : PySem.W.nsIn K mainGlobals "rival" = some (some (.ref f11))) (l11 : K.lookup f11 = some ⟨oc11, od11, .func (PySem.W.fnOf "rival" "rival" (defArgs s_rival) (defBody s_rival) (defScope s_rival) .none kV11 dc11 pm11 an11 cd11 ct11), sl11⟩) (c11 : PySem.W.codeIn K cd11 "rival" = true) (k11 : PySem.W.keepIn K (.ref f11) = true)
    (a12 : PySem.W.nsIn K mainGlobals "after" = some (some (.ref f12))) (l12 : K.lookup f12 = some ⟨oc12, od12, .func (PySem.W.fnOf "after" "after" (defArgs s_after) (defBody s_after) (defScope s_after) .none kV12 dc12 pm12 an12 cd12 ct12), sl12⟩) (c12 : PySem.W.codeIn K cd12 "after" = true) (k12 : PySem.W.keepIn K (.ref f12) = true)
    (a13 : PySem.W.nsIn K mainGlobals "lagging" = some (some (.ref f13))) (l13 : K.lookup f13 = some ⟨oc13, od13, .func (PySem.W.fnOf "lagging" "lagging" (defArgs s_lagging) (defBody s_lagging) (defScope s_lagging) .none kV13 dc13 pm13 an13 cd13 ct13), sl13⟩) (c13 : PySem.W.codeIn K cd13 "lagging" = true) (k13 : PySem.W.keepIn K (.ref f13) = true)
    (a14 : PySem.W.nsIn K mainGlobals "_law_hand" = some (some (.ref f14))) (l14 : K.lookup f14 = some ⟨oc14, od14, .func (PySem.W.fnOf "_law_hand" "_law_hand" (defArgs s_k_hand) (defBody s_k_hand) (defScope s_k_hand) .none kV14 dc14 pm14 an14 cd14 ct14), sl14⟩) (c14 : PySem.W.codeIn K cd14 "_law_hand" = true) (k14 : PySem.W.keepIn K (.ref f14) = true)
    (a15 : PySem.W.nsIn K mainGlobals "_law_take" = some (some (.ref f15))) (l15 : K.lookup f15 = some ⟨oc15, od15, .func (PySem.W.fnOf "_law_take" "_law_take" (defArgs s_k_take) (defBody s_k_take) (defScope s_k_take) .none kV15 dc15 pm15 an15 cd15 ct15), sl15⟩) (c15 : PySem.W.codeIn K cd15 "_law_take" = true) (k15 : PySem.W.keepIn K (.ref f15) = true)
    (a16 : PySem.W.nsIn K mainGlobals "_law_of" = some (some (.ref f16))) (l16 : K.lookup f16 = some ⟨oc16, od16, .func (PySem.W.fnOf "_law_of" "_law_of" (defArgs s_k_of) (defBody s_k_of) (defScope s_k_of) .none kV16 dc16 pm16 an16 cd16 ct16), sl16⟩) (c16 : PySem.W.codeIn K cd16 "_law_of" = true) (k16 : PySem.W.keepIn K (.ref f16) = true)
    (a17 : PySem.W.nsIn K mainGlobals "_law_lowest" = some (some (.ref f17))) (l17 : K.lookup f17 = some ⟨oc17, od17, .func (PySem.W.fnOf "_law_lowest" "_law_lowest" (defArgs s_k_lowest) (defBody s_k_lowest) (defScope s_k_lowest) .none kV17 dc17 pm17 an17 cd17 ct17), sl17⟩) (c17 : PySem.W.codeIn K cd17 "_law_lowest" = true) (k17 : PySem.W.keepIn K (.ref f17) = true)
    (a18 : PySem.W.nsIn K mainGlobals "_law_shares" = some (some (.ref f18))) (l18 : K.lookup f18 = some ⟨oc18, od18, .func (PySem.W.fnOf "_law_shares" "_law_shares" (defArgs s_k_shares) (defBody s_k_shares) (defScope s_k_shares) .none kV18 dc18 pm18 an18 cd18 ct18), sl18⟩) (c18 : PySem.W.codeIn K cd18 "_law_shares" = true) (k18 : PySem.W.keepIn K (.ref f18) = true)
    (a19 : PySem.W.nsIn K mainGlobals "_law_figure" = some (some (.ref f19))) (l19 : K.lookup f19 = some ⟨oc19, od19, .func (PySem.W.fnOf "_law_figure" "_law_figure" (defArgs s_k_figure) (defBody s_k_figure) (defScope s_k_figure) .none kV19 dc19 pm19 an19 cd19 ct19), sl19⟩) (c19 : PySem.W.codeIn K cd19 "_law_figure" = true) (k19 : PySem.W.keepIn K (.ref f19) = true)
    (a20 : PySem.W.nsIn K mainGlobals "_law_registers" = some (some (.ref f20))) (l20 : K.lookup f20 = some ⟨oc20, od20, .func (PySem.W.fnOf "_law_registers" "_law_registers" (defArgs s_k_registers) (defBody s_k_registers) (defScope s_k_registers) .none kV20 dc20 pm20 an20 cd20 ct20), sl20⟩) (c20 : PySem.W.codeIn K cd20 "_law_registers" = true) (k20 : PySem.W.keepIn K (.ref f20) = true)
    (a21 : PySem.W.nsIn K mainGlobals "_law_leaf" = some (some (.ref f21))) (l21 : K.lookup f21 = some ⟨oc21, od21, .func (PySem.W.fnOf "_law_leaf" "_law_leaf" (defArgs s_k_leaf) (defBody s_k_leaf) (defScope s_k_leaf) .none kV21 dc21 pm21 an21 cd21 ct21), sl21⟩) (c21 : PySem.W.codeIn K cd21 "_law_leaf" = true) (k21 : PySem.W.keepIn K (.ref f21) = true)
    (a22 : PySem.W.nsIn K mainGlobals "_law_expression" = some (some (.ref f22))) (l22 : K.lookup f22 = some ⟨oc22, od22, .func (PySem.W.fnOf "_law_expression" "_law_expression" (defArgs s_k_expression) (defBody s_k_expression) (defScope s_k_expression) .none kV22 dc22 pm22 an22 cd22 ct22), sl22⟩) (c22 : PySem.W.codeIn K cd22 "_law_expression" = true) (k22 : PySem.W.keepIn K (.ref f22) = true)
    (a23 : PySem.W.nsIn K mainGlobals "_law_stake" = some (some (.ref f23))) (l23 : K.lookup f23 = some ⟨oc23, od23, .func (PySem.W.fnOf "_law_stake" "_law_stake" (defArgs s_k_stake) (defBody s_k_stake) (defScope s_k_stake) .none kV23 dc23 pm23 an23 cd23 ct23), sl23⟩) (c23 : PySem.W.codeIn K cd23 "_law_stake" = true) (k23 : PySem.W.keepIn K (.ref f23) = true)
    (a24 : PySem.W.nsIn K mainGlobals "_law_deeds" = some (some (.ref f24))) (l24 : K.lookup f24 = some ⟨oc24, od24, .func (PySem.W.fnOf "_law_deeds" "_law_deeds" (defArgs s_k_deeds) (defBody s_k_deeds) (defScope s_k_deeds) .none kV24 dc24 pm24 an24 cd24 ct24), sl24⟩) (c24 : PySem.W.codeIn K cd24 "_law_deeds" = true) (k24 : PySem.W.keepIn K (.ref f24) = true)
    (a25 : PySem.W.nsIn K mainGlobals "_law_doubter" = some (some (.ref f25))) (l25 : K.lookup f25 = some ⟨oc25, od25, .func (PySem.W.fnOf "_law_doubter" "_law_doubter" (defArgs s_k_doubter) (defBody s_k_doubter) (defScope s_k_doubter) .none kV25 dc25 pm25 an25 cd25 ct25), sl25⟩) (c25 : PySem.W.codeIn K cd25 "_law_doubter" = true) (k25 : PySem.W.keepIn K (.ref f25) = true)
    (a26 : PySem.W.nsIn K mainGlobals "_law_worth" = some (some (.ref f26))) (l26 : K.lookup f26 = some ⟨oc26, od26, .func (PySem.W.fnOf "_law_worth" "_law_worth" (defArgs s_k_worth) (defBody s_k_worth) (defScope s_k_worth) .none kV26 dc26 pm26 an26 cd26 ct26), sl26⟩) (c26 : PySem.W.codeIn K cd26 "_law_worth" = true) (k26 : PySem.W.keepIn K (.ref f26) = true)
    (a27 : PySem.W.nsIn K mainGlobals "_law_done" = some (some (.ref f27))) (l27 : K.lookup f27 = some ⟨oc27, od27, .func (PySem.W.fnOf "_law_done" "_law_done" (defArgs s_k_done) (defBody s_k_done) (defScope s_k_done) .none kV27 dc27 pm27 an27 cd27 ct27), sl27⟩) (c27 : PySem.W.codeIn K cd27 "_law_done" = true) (k27 : PySem.W.keepIn K (.ref f27) = true)
    (a28 : PySem.W.nsIn K mainGlobals "_law_stepped" = some (some (.ref f28))) (l28 : K.lookup f28 = some ⟨oc28, od28, .func (PySem.W.fnOf "_law_stepped" "_law_stepped" (defArgs s_k_stepped) (defBody s_k_stepped) (defScope s_k_stepped) .none kV28 dc28 pm28 an28 cd28 ct28), sl28⟩) (c28 : PySem.W.codeIn K cd28 "_law_stepped" = true) (k28 : PySem.W.keepIn K (.ref f28) = true)
    (a29 : PySem.W.nsIn K mainGlobals "_law_made" = some (some (.ref f29))) (l29 : K.lookup f29 = some ⟨oc29, od29, .func (PySem.W.fnOf "_law_made" "_law_made" (defArgs s_k_made) (defBody s_k_made) (defScope s_k_made) .none kV29 dc29 pm29 an29 cd29 ct29), sl29⟩) (c29 : PySem.W.codeIn K cd29 "_law_made" = true) (k29 : PySem.W.keepIn K (.ref f29) = true)
    (a30 : PySem.W.nsIn K mainGlobals "_law_thousand" = some (some (.ref f30))) (l30 : K.lookup f30 = some ⟨oc30, od30, .func (PySem.W.fnOf "_law_thousand" "_law_thousand" (defArgs s_k_thousand) (defBody s_k_thousand) (defScope s_k_thousand) .none kV30 dc30 pm30 an30 cd30 ct30), sl30⟩) (c30 : PySem.W.codeIn K cd30 "_law_thousand" = true) (k30 : PySem.W.keepIn K (.ref f30) = true)
    (a31 : PySem.W.nsIn K mainGlobals "_law_weight" = some (some (.ref f31))) (l31 : K.lookup f31 = some ⟨oc31, od31, .func (PySem.W.fnOf "_law_weight" "_law_weight" (defArgs s_k_weight) (defBody s_k_weight) (defScope s_k_weight) .none kV31 dc31 pm31 an31 cd31 ct31), sl31⟩) (c31 : PySem.W.codeIn K cd31 "_law_weight" = true) (k31 : PySem.W.keepIn K (.ref f31) = true)
    (a32 : PySem.W.nsIn K mainGlobals "_law_any" = some (some (.ref f32))) (l32 : K.lookup f32 = some ⟨oc32, od32, .func (PySem.W.fnOf "_law_any" "_law_any" (defArgs s_k_any) (defBody s_k_any) (defScope s_k_any) .none kV32 dc32 pm32 an32 cd32 ct32), sl32⟩) (c32 : PySem.W.codeIn K cd32 "_law_any" = true) (k32 : PySem.W.keepIn K (.ref f32) = true)
    (a33 : PySem.W.nsIn K mainGlobals "_law_paid" = some (some (.ref f33))) (l33 : K.lookup f33 = some ⟨oc33, od33, .func (PySem.W.fnOf "_law_paid" "_law_paid" (defArgs s_k_paid) (defBody s_k_paid) (defScope s_k_paid) .none kV33 dc33 pm33 an33 cd33 ct33), sl33⟩) (c33 : PySem.W.codeIn K cd33 "_law_paid" = true) (k33 : PySem.W.keepIn K (.ref f33) = true)
    (a34 : PySem.W.nsIn K mainGlobals "_law_sign" = some (some (.ref f34))) (l34 : K.lookup f34 = some ⟨oc34, od34, .func (PySem.W.fnOf "_law_sign" "_law_sign" (defArgs s_k_sign) (defBody s_k_sign) (defScope s_k_sign) .none kV34 dc34 pm34 an34 cd34 ct34), sl34⟩) (c34 : PySem.W.codeIn K cd34 "_law_sign" = true) (k34 : PySem.W.keepIn K (.ref f34) = true)
    (a35 : PySem.W.nsIn K mainGlobals "_law_right" = some (some (.ref f35))) (l35 : K.lookup f35 = some ⟨oc35, od35, .func (PySem.W.fnOf "_law_right" "_law_right" (defArgs s_k_right) (defBody s_k_right) (defScope s_k_right) .none kV35 dc35 pm35 an35 cd35 ct35), sl35⟩) (c35 : PySem.W.codeIn K cd35 "_law_right" = true) (k35 : PySem.W.keepIn K (.ref f35) = true)
    (a36 : PySem.W.nsIn K mainGlobals "law" = some (some (.ref f36))) (l36 : K.lookup f36 = some ⟨oc36, od36, .func (PySem.W.fnOf "law" "law" (defArgs s_law) (defBody s_law) (defScope s_law) .none kV36 dc36 pm36 an36 cd36 ct36), sl36⟩) (c36 : PySem.W.codeIn K cd36 "law" = true) (k36 : PySem.W.keepIn K (.ref f36) = true)
    (z_abs : PySem.W.nsIn K mainGlobals "abs" = some none)
    (z_all : PySem.W.nsIn K mainGlobals "all" = some none)
    (z_int : PySem.W.nsIn K mainGlobals "int" = some none)
    (z_isinstance : PySem.W.nsIn K mainGlobals "isinstance" = some none)
    (z_len : PySem.W.nsIn K mainGlobals "len" = some none)
    (z_list : PySem.W.nsIn K mainGlobals "list" = some none)
    (z_max : PySem.W.nsIn K mainGlobals "max" = some none)
    (z_min : PySem.W.nsIn K mainGlobals "min" = some none)
    (z_range : PySem.W.nsIn K mainGlobals "range" = some none)
    (z_set : PySem.W.nsIn K mainGlobals "set" = some none)
    (z_sorted : PySem.W.nsIn K mainGlobals "sorted" = some none)
    (z_sum : PySem.W.nsIn K mainGlobals "sum" = some none)
    (z_tuple : PySem.W.nsIn K mainGlobals "tuple" = some none)
    (z_zip : PySem.W.nsIn K mainGlobals "zip" = some none)
    (g_MOST_FIGURE : PySem.W.nsIn K mainGlobals "MOST_FIGURE" = some (some (.int 1000 tc0)))
    (g_REGISTERS : PySem.W.nsIn K mainGlobals "REGISTERS" = some (some (.int 4 tc1)))
    (g_MOST_STAKE : PySem.W.nsIn K mainGlobals "MOST_STAKE" = some (some (.int 500 tc2)))
    (g_PARTS : PySem.W.nsIn K mainGlobals "PARTS" = some (some (.int 1000000000 tc3)))
    (g_AFTER : PySem.W.nsIn K mainGlobals "AFTER" = some (some (.int 100 tc4)))
    (g_SCALES : PySem.W.nsIn K mainGlobals "SCALES" = some (some (.ref gT0))) (t_SCALES : K.lookup gT0 = some ⟨.type "tuple", dT0, .seq #[.int 1 tT0_0, .int 2 tT0_1, .int 4 tT0_2, .int 8 tT0_3, .int 16 tT0_4] nT0, sT0⟩)
    (g_IDLE : PySem.W.nsIn K mainGlobals "IDLE" = some (some (.ref gT1))) (t_IDLE : K.lookup gT1 = some ⟨.type "tuple", dT1, .seq #[.str "fig" tT1_0, .int 0 tT1_1] nT1, sT1⟩)
    : ∃ fd : FuncData, (∀ (s : Shared) (v : Value), BindsTo s fd ⟨[v], []⟩ [("_law_script", v)]) ∧ ∀ base : Heap, K.In base → base.Ns mainGlobals mg → FnOk l.prog w K mg base CX0 15 fa fd ["_law_script"] (spLaw K).sp := by
  have e := hfa.symm.trans (PySem.W.mg_of X G a36)
  cases e
  have F0 := fun_mk (st := s_span_of_pair) l0 c0 k0
  have D0 : Df K mg "span_of_pair" s_span_of_pair P_span_of_pair := ⟨_, _, PySem.W.mg_of X G a0, F0, F0.binds (ps := P_span_of_pair) fun _ _ _ _ _ _ us hl => match us, hl with | [_, _, _], _ => rfl⟩
  have F1 := fun_mk (st := s_span) l1 c1 k1
  have D1 : Df K mg "span" s_span P_span := ⟨_, _, PySem.W.mg_of X G a1, F1, F1.binds (ps := P_span) fun _ _ _ _ _ _ us hl => match us, hl with | [_], _ => rfl⟩
  have F2 := fun_mk (st := s_bound) l2 c2 k2
  have D2 : Df K mg "bound" s_bound P_bound := ⟨_, _, PySem.W.mg_of X G a2, F2, F2.binds (ps := P_bound) fun _ _ _ _ _ _ us hl => match us, hl with | [_], _ => rfl⟩
  have F3 := fun_mk (st := s_off) l3 c3 k3
  have D3 : Df K mg "off" s_off P_off := ⟨_, _, PySem.W.mg_of X G a3, F3, F3.binds (ps := P_off) fun _ _ _ _ _ _ us hl => match us, hl with | [_], _ => rfl⟩
  have F4 := fun_mk (st := s_power) l4 c4 k4
  have D4 : Df K mg "power" s_power P_power := ⟨_, _, PySem.W.mg_of X G a4, F4, F4.binds (ps := P_power) fun _ _ _ _ _ _ us hl => match us, hl with | [_, _], _ => rfl⟩
  have F5 := fun_mk (st := s_is_borne) l5 c5 k5
  have D5 : Df K mg "is_borne" s_is_borne P_is_borne := ⟨_, _, PySem.W.mg_of X G a5, F5, F5.binds (ps := P_is_borne) fun _ _ _ _ _ _ us hl => match us, hl with | [_, _, _, _, _], _ => rfl⟩
  have F6 := fun_mk (st := s_most_off) l6 c6 k6
  have D6 : Df K mg "most_off" s_most_off P_most_off := ⟨_, _, PySem.W.mg_of X G a6, F6, F6.binds (ps := P_most_off) fun _ _ _ _ _ _ us hl => match us, hl with | [_, _, _, _], _ => rfl⟩
  have F7 := fun_mk (st := s_sure) l7 c7 k7
  have D7 : Df K mg "sure" s_sure P_sure := ⟨_, _, PySem.W.mg_of X G a7, F7, F7.binds (ps := P_sure) fun _ _ _ _ _ _ us hl => match us, hl with | [_], _ => rfl⟩
  have F8 := fun_mk (st := s_on_one) l8 c8 k8
  have D8 : Df K mg "on_one" s_on_one P_on_one := ⟨_, _, PySem.W.mg_of X G a8, F8, F8.binds (ps := P_on_one) fun _ _ _ _ _ _ us hl => match us, hl with | [_, _, _], _ => rfl⟩
  have F9 := fun_mk (st := s_tent) l9 c9 k9
  have D9 : Df K mg "tent" s_tent P_tent := ⟨_, _, PySem.W.mg_of X G a9, F9, F9.binds (ps := P_tent) fun _ _ _ _ _ _ us hl => match us, hl with | [_, _, _, _, _], _ => rfl⟩
  have F10 := fun_mk (st := s_by_registers) l10 c10 k10
  have D10 : Df K mg "by_registers" s_by_registers P_by_registers := ⟨_, _, PySem.W.mg_of X G a10, F10, F10.binds (ps := P_by_registers) fun _ _ _ _ _ _ us hl => match us, hl with | [_], _ => rfl⟩
  have F11 := fun_mk (st := s_rival) l11 c11 k11
  have D11 : Df K mg "rival" s_rival P_rival := ⟨_, _, PySem.W.mg_of X G a11, F11, F11.binds (ps := P_rival) fun _ _ _ _ _ _ us hl => match us, hl with | [_, _], _ => rfl⟩
  have F12 := fun_mk (st := s_after) l12 c12 k12
  have D12 : Df K mg "after" s_after P_after := ⟨_, _, PySem.W.mg_of X G a12, F12, F12.binds (ps := P_after) fun _ _ _ _ _ _ us hl => match us, hl with | [_, _, _, _], _ => rfl⟩
  have F13 := fun_mk (st := s_lagging) l13 c13 k13
  have D13 : Df K mg "lagging" s_lagging P_lagging := ⟨_, _, PySem.W.mg_of X G a13, F13, F13.binds (ps := P_lagging) fun _ _ _ _ _ _ us hl => match us, hl with | [_], _ => rfl⟩
  have F14 := fun_mk (st := s_k_hand) l14 c14 k14
  have D14 : Df K mg "_law_hand" s_k_hand P_k_hand := ⟨_, _, PySem.W.mg_of X G a14, F14, F14.binds (ps := P_k_hand) fun _ _ _ _ _ _ us hl => match us, hl with | [_, _], _ => rfl⟩
  have F15 := fun_mk (st := s_k_take) l15 c15 k15
  have D15 : Df K mg "_law_take" s_k_take P_k_take := ⟨_, _, PySem.W.mg_of X G a15, F15, F15.binds (ps := P_k_take) fun _ _ _ _ _ _ us hl => match us, hl with | [_, _], _ => rfl⟩
  have F16 := fun_mk (st := s_k_of) l16 c16 k16
  have D16 : Df K mg "_law_of" s_k_of P_k_of := ⟨_, _, PySem.W.mg_of X G a16, F16, F16.binds (ps := P_k_of) fun _ _ _ _ _ _ us hl => match us, hl with | [_, _], _ => rfl⟩
  have F17 := fun_mk (st := s_k_lowest) l17 c17 k17
  have D17 : Df K mg "_law_lowest" s_k_lowest P_k_lowest := ⟨_, _, PySem.W.mg_of X G a17, F17, F17.binds (ps := P_k_lowest) fun _ _ _ _ _ _ us hl => match us, hl with | [_], _ => rfl⟩
  have F18 := fun_mk (st := s_k_shares) l18 c18 k18
  have D18 : Df K mg "_law_shares" s_k_shares P_k_shares := ⟨_, _, PySem.W.mg_of X G a18, F18, F18.binds (ps := P_k_shares) fun _ _ _ _ _ _ us hl => match us, hl with | [_, _], _ => rfl⟩
  have F19 := fun_mk (st := s_k_figure) l19 c19 k19
  have D19 : Df K mg "_law_figure" s_k_figure P_k_figure := ⟨_, _, PySem.W.mg_of X G a19, F19, F19.binds (ps := P_k_figure) fun _ _ _ _ _ _ us hl => match us, hl with | [_], _ => rfl⟩
  have F20 := fun_mk (st := s_k_registers) l20 c20 k20
  have D20 : Df K mg "_law_registers" s_k_registers P_k_registers := ⟨_, _, PySem.W.mg_of X G a20, F20, F20.binds (ps := P_k_registers) fun _ _ _ _ _ _ us hl => match us, hl with | [_], _ => rfl⟩
  have F21 := fun_mk (st := s_k_leaf) l21 c21 k21
  have D21 : Df K mg "_law_leaf" s_k_leaf P_k_leaf := ⟨_, _, PySem.W.mg_of X G a21, F21, F21.binds (ps := P_k_leaf) fun _ _ _ _ _ _ us hl => match us, hl with | [_, _], _ => rfl⟩
  have F22 := fun_mk (st := s_k_expression) l22 c22 k22
  have D22 : Df K mg "_law_expression" s_k_expression P_k_expression := ⟨_, _, PySem.W.mg_of X G a22, F22, F22.binds (ps := P_k_expression) fun _ _ _ _ _ _ us hl => match us, hl with | [_, _, _, _], _ => rfl⟩
  have F23 := fun_mk (st := s_k_stake) l23 c23 k23
  have D23 : Df K mg "_law_stake" s_k_stake P_k_stake := ⟨_, _, PySem.W.mg_of X G a23, F23, F23.binds (ps := P_k_stake) fun _ _ _ _ _ _ us hl => match us, hl with | [_, _, _, _], _ => rfl⟩
  have F24 := fun_mk (st := s_k_deeds) l24 c24 k24
  have D24 : Df K mg "_law_deeds" s_k_deeds P_k_deeds := ⟨_, _, PySem.W.mg_of X G a24, F24, F24.binds (ps := P_k_deeds) fun _ _ _ _ _ _ us hl => match us, hl with | [_, _, _], _ => rfl⟩
  have F25 := fun_mk (st := s_k_doubter) l25 c25 k25
  have D25 : Df K mg "_law_doubter" s_k_doubter P_k_doubter := ⟨_, _, PySem.W.mg_of X G a25, F25, F25.binds (ps := P_k_doubter) fun _ _ _ _ _ _ us hl => match us, hl with | [_, _, _, _], _ => rfl⟩
  have F26 := fun_mk (st := s_k_worth) l26 c26 k26
  have D26 : Df K mg "_law_worth" s_k_worth P_k_worth := ⟨_, _, PySem.W.mg_of X G a26, F26, F26.binds (ps := P_k_worth) fun _ _ _ _ _ _ us hl => match us, hl with | [_, _, _], _ => rfl⟩
  have F27 := fun_mk (st := s_k_done) l27 c27 k27
  have D27 : Df K mg "_law_done" s_k_done P_k_done := ⟨_, _, PySem.W.mg_of X G a27, F27, F27.binds (ps := P_k_done) fun _ _ _ _ _ _ us hl => match us, hl with | [_, _, _], _ => rfl⟩
  have F28 := fun_mk (st := s_k_stepped) l28 c28 k28
  have D28 : Df K mg "_law_stepped" s_k_stepped P_k_stepped := ⟨_, _, PySem.W.mg_of X G a28, F28, F28.binds (ps := P_k_stepped) fun _ _ _ _ _ _ us hl => match us, hl with | [_, _, _], _ => rfl⟩
  have F29 := fun_mk (st := s_k_made) l29 c29 k29
  have D29 : Df K mg "_law_made" s_k_made P_k_made := ⟨_, _, PySem.W.mg_of X G a29, F29, F29.binds (ps := P_k_made) fun _ _ _ _ _ _ us hl => match us, hl with | [_, _], _ => rfl⟩
  have F30 := fun_mk (st := s_k_thousand) l30 c30 k30
  have D30 : Df K mg "_law_thousand" s_k_thousand P_k_thousand := ⟨_, _, PySem.W.mg_of X G a30, F30, F30.binds (ps := P_k_thousand) fun _ _ _ _ _ _ us hl => match us, hl with | [_, _], _ => rfl⟩
  have F31 := fun_mk (st := s_k_weight) l31 c31 k31
  have D31 : Df K mg "_law_weight" s_k_weight P_k_weight := ⟨_, _, PySem.W.mg_of X G a31, F31, F31.binds (ps := P_k_weight) fun _ _ _ _ _ _ us hl => match us, hl with | [_], _ => rfl⟩
  have F32 := fun_mk (st := s_k_any) l32 c32 k32
  have D32 : Df K mg "_law_any" s_k_any P_k_any := ⟨_, _, PySem.W.mg_of X G a32, F32, F32.binds (ps := P_k_any) fun _ _ _ _ _ _ us hl => match us, hl with | [_, _], _ => rfl⟩
  have F33 := fun_mk (st := s_k_paid) l33 c33 k33
  have D33 : Df K mg "_law_paid" s_k_paid P_k_paid := ⟨_, _, PySem.W.mg_of X G a33, F33, F33.binds (ps := P_k_paid) fun _ _ _ _ _ _ us hl => match us, hl with | [_, _, _], _ => rfl⟩
  have F34 := fun_mk (st := s_k_sign) l34 c34 k34
  have D34 : Df K mg "_law_sign" s_k_sign P_k_sign := ⟨_, _, PySem.W.mg_of X G a34, F34, F34.binds (ps := P_k_sign) fun _ _ _ _ _ _ us hl => match us, hl with | [_, _, _, _, _], _ => rfl⟩
  have F35 := fun_mk (st := s_k_right) l35 c35 k35
  have D35 : Df K mg "_law_right" s_k_right P_k_right := ⟨_, _, PySem.W.mg_of X G a35, F35, F35.binds (ps := P_k_right) fun _ _ _ _ _ _ us hl => match us, hl with | [_], _ => rfl⟩
  have F36 := fun_mk (st := s_law) l36 c36 k36
  have D36 : Df K mg "law" s_law P_law := ⟨_, _, PySem.W.mg_of X G a36, F36, F36.binds (ps := P_law) fun _ _ _ _ _ _ us hl => match us, hl with | [_], _ => rfl⟩
  have T : Top K mg := {
    d_span_of_pair := D0
    d_span := D1
    d_bound := D2
    d_off := D3
    d_power := D4
    d_is_borne := D5
    d_most_off := D6
    d_sure := D7
    d_on_one := D8
    d_tent := D9
    d_by_registers := D10
    d_rival := D11
    d_after := D12
    d_lagging := D13
    d_k_hand := D14
    d_k_take := D15
    d_k_of := D16
    d_k_lowest := D17
    d_k_shares := D18
    d_k_figure := D19
    d_k_registers := D20
    d_k_leaf := D21
    d_k_expression := D22
    d_k_stake := D23
    d_k_deeds := D24
    d_k_doubter := D25
    d_k_worth := D26
    d_k_done := D27
    d_k_stepped := D28
    d_k_made := D29
    d_k_thousand := D30
    d_k_weight := D31
    d_k_any := D32
    d_k_paid := D33
    d_k_sign := D34
    d_k_right := D35
    d_law := D36
    b_abs := PySem.W.mg_none_of X G z_abs
    b_all := PySem.W.mg_none_of X G z_all
    b_int := PySem.W.mg_none_of X G z_int
    b_isinstance := PySem.W.mg_none_of X G z_isinstance
    b_len := PySem.W.mg_none_of X G z_len
    b_list := PySem.W.mg_none_of X G z_list
    b_max := PySem.W.mg_none_of X G z_max
    b_min := PySem.W.mg_none_of X G z_min
    b_range := PySem.W.mg_none_of X G z_range
    b_set := PySem.W.mg_none_of X G z_set
    b_sorted := PySem.W.mg_none_of X G z_sorted
    b_sum := PySem.W.mg_none_of X G z_sum
    b_tuple := PySem.W.mg_none_of X G z_tuple
    b_zip := PySem.W.mg_none_of X G z_zip
    c_MOST_FIGURE := ⟨_, PySem.W.mg_of X G g_MOST_FIGURE, _, rfl⟩
    c_REGISTERS := ⟨_, PySem.W.mg_of X G g_REGISTERS, _, rfl⟩
    c_MOST_STAKE := ⟨_, PySem.W.mg_of X G g_MOST_STAKE, _, rfl⟩
    c_PARTS := ⟨_, PySem.W.mg_of X G g_PARTS, _, rfl⟩
    c_AFTER := ⟨_, PySem.W.mg_of X G g_AFTER, _, rfl⟩
    c_SCALES := ⟨gT0, ⟨_, PySem.W.mg_of X G g_SCALES, rfl⟩, fun H => .inr ⟨_, _, _, t_SCALES, rfl, rfl, (by show 5 ≤ sizeLine; decide), (.cons ⟨_, rfl⟩ (.cons ⟨_, rfl⟩ (.cons ⟨_, rfl⟩ (.cons ⟨_, rfl⟩ (.cons ⟨_, rfl⟩ .nil)))))⟩⟩
    c_IDLE := ⟨gT1, ⟨_, PySem.W.mg_of X G g_IDLE, rfl⟩, fun H => .inr ⟨_, _, _, t_IDLE, rfl, rfl, (by show 2 ≤ sizeLine; decide), (.cons ⟨_, rfl⟩ (.cons ⟨_, rfl⟩ .nil))⟩⟩ }
  exact ⟨PySem.W.fnOf "law" "law" (defArgs s_law) (defBody s_law) (defScope s_law) .none kV36 dc36 pm36 an36 cd36 ct36, fun s v => .of_eq rfl, fun base _ _ => fn_law T F36⟩
theorem walk {l : PySem.W.OpenLaw} {q : Program} {loose : List Str} {XP : (Str → Option Value) → Heap → Prop} {YP : World → Heap → Prop} {d : DefRec} {K : Params → PySem.W.Frag} (hn : l.most = some 63) (hdf : d.params.defaults = [])
    (hY : ∀ (w : World) (h : Heap), YP w h → (K w.params).In h)
    (F : ∀ (w : World) (mg : Str → Option Value) (fa : Addr) (h : Heap), (K w.params).In h → h.Ns mainGlobals mg → mg d.name = some (.ref fa) →
      ∃ fd : FuncData, (∀ (s : Shared) (u : Value), BindsTo s fd ⟨[u], []⟩ [("_law_script", u)]) ∧ ∀ base : Heap, (K w.params).In base → base.Ns mainGlobals mg → FnOk l.prog w (K w.params) mg base CX0 15 fa fd ["_law_script"] (spLaw (K w.params)).sp) :
    PySem.W.WalkO q loose XP YP l.row.toRowW d [] (fun f vs => PySem.call f vs) :=
  L2.walk_of (n := 63) (k := 15) (x := "_law_script") (CX := fun _ => CX0) (sp := fun w => (spLaw (K w.params)).sp) hn (by decide) hdf ⟨rfl, by decide, by decide⟩ hY F (fun _ _ a ns hl _ hS => ⟨a, ns, rfl, hS, hl, fun _ => rfl⟩) fun _ _ _ _ _ z => z
end Nr
open PySem PySem.W PyProof.Rows
set_option maxRecDepth 100000 in
set_option maxHeartbeats 0 in
theorem PySem.Challenge.cw_nonegrowsrich_k49_whole_off_at_most_sure_holds : PySem.Challenge.rw_nonegrowsrich_k49_whole_off_at_most_sure.Holds := by
  w_on; o_law; k_head; (case hw => w_witness2)
  k_fill
  refine Nr.walk (l := PySem.Challenge.rw_nonegrowsrich_k49_whole_off_at_most_sure) rfl rfl (fun w h Y => PySem.W.kIn_of Y) ?F
  case F =>
    intro w mg fa h KX G hmg
    refine' Nr.all_mk KX G hmg ?a0 ?l0 ?c0 ?k0 ?a1 ?l1 ?c1 ?k1 ?a2 ?l2 ?c2 ?k2 ?a3 ?l3 ?c3 ?k3 ?a4 ?l4 ?c4 ?k4 ?a5 ?l5 ?c5 ?k5 ?a6 ?l6 ?c6 ?k6 ?a7 ?l7 ?c7 ?k7 ?a8 ?l8 ?c8 ?k8 ?a9 ?l9 ?c9 ?k9 ?a10 ?l10 ?c10 ?k10 ?a11 ?l11 ?c11 ?k11 ?a12 ?l12 ?c12 ?k12 ?a13 ?l13 ?c13 ?k13 ?a14 ?l14 ?c14 ?k14 ?a15 ?l15 ?c15 ?k15 ?a16 ?l16 ?c16 ?k16 ?a17 ?l17 ?c17 ?k17 ?a18 ?l18 ?c18 ?k18 ?a19 ?l19 ?c19 ?k19 ?a20 ?l20 ?c20 ?k20 ?a21 ?l21 ?c21 ?k21 ?a22 ?l22 ?c22 ?k22 ?a23 ?l23 ?c23 ?k23 ?a24 ?l24 ?c24 ?k24 ?a25 ?l25 ?c25 ?k25 ?a26 ?l26 ?c26 ?k26 ?a27 ?l27 ?c27 ?k27 ?a28 ?l28 ?c28 ?k28 ?a29 ?l29 ?c29 ?k29 ?a30 ?l30 ?c30 ?k30 ?a31 ?l31 ?c31 ?k31 ?a32 ?l32 ?c32 ?k32 ?a33 ?l33 ?c33 ?k33 ?a34 ?l34 ?c34 ?k34 ?a35 ?l35 ?c35 ?k35 ?a36 ?l36 ?c36 ?k36 ?z_abs ?z_all ?z_int ?z_isinstance ?z_len ?z_list ?z_max ?z_min ?z_range ?z_set ?z_sorted ?z_sum ?z_tuple ?z_zip ?g_MOST_FIGURE ?g_REGISTERS ?g_MOST_STAKE ?g_PARTS ?g_AFTER ?g_SCALES ?t_SCALES ?g_IDLE ?t_IDLE
    (case a0 => k_is)
    (case l0 => k_is)
    (case c0 => k_is)
    (case k0 => k_is)
    (case a1 => k_is)
    (case l1 => k_is)
    (case c1 => k_is)
    (case k1 => k_is)
    (case a2 => k_is)
    (case l2 => k_is)
    (case c2 => k_is)
    (case k2 => k_is)
    (case a3 => k_is)
    (case l3 => k_is)
    (case c3 => k_is)
    (case k3 => k_is)
    (case a4 => k_is)
    (case l4 => k_is)
    (case c4 => k_is)
    (case k4 => k_is)
    (case a5 => k_is)
    (case l5 => k_is)
    (case c5 => k_is)
    (case k5 => k_is)
    (case a6 => k_is)
    (case l6 => k_is)
    (case c6 => k_is)
    (case k6 => k_is)
    (case a7 => k_is)
    (case l7 => k_is)
    (case c7 => k_is)
    (case k7 => k_is)
    (case a8 => k_is)
    (case l8 => k_is)
    (case c8 => k_is)
    (case k8 => k_is)
    (case a9 => k_is)
    (case l9 => k_is)
    (case c9 => k_is)
    (case k9 => k_is)
    (case a10 => k_is)
    (case l10 => k_is)
    (case c10 => k_is)
    (case k10 => k_is)
    (case a11 => k_is)
    (case l11 => k_is)
    (case c11 => k_is)
    (case k11 => k_is)
    (case a12 => k_is)
    (case l12 => k_is)
    (case c12 => k_is)
    (case k12 => k_is)
    (case a13 => k_is)
    (case l13 => k_is)
    (case c13 => k_is)
    (case k13 => k_is)
    (case a14 => k_is)
    (case l14 => k_is)
    (case c14 => k_is)
    (case k14 => k_is)
    (case a15 => k_is)
    (case l15 => k_is)
    (case c15 => k_is)
    (case k15 => k_is)
    (case a16 => k_is)
    (case l16 => k_is)
    (case c16 => k_is)
    (case k16 => k_is)
    (case a17 => k_is)
    (case l17 => k_is)
    (case c17 => k_is)
    (case k17 => k_is)
    (case a18 => k_is)
    (case l18 => k_is)
    (case c18 => k_is)
    (case k18 => k_is)
    (case a19 => k_is)
    (case l19 => k_is)
    (case c19 => k_is)
    (case k19 => k_is)
    (case a20 => k_is)
    (case l20 => k_is)
    (case c20 => k_is)
    (case k20 => k_is)
    (case a21 => k_is)
    (case l21 => k_is)
    (case c21 => k_is)
    (case k21 => k_is)
    (case a22 => k_is)
    (case l22 => k_is)
    (case c22 => k_is)
    (case k22 => k_is)
    (case a23 => k_is)
    (case l23 => k_is)
    (case c23 => k_is)
    (case k23 => k_is)
    (case a24 => k_is)
    (case l24 => k_is)
    (case c24 => k_is)
    (case k24 => k_is)
    (case a25 => k_is)
    (case l25 => k_is)
    (case c25 => k_is)
    (case k25 => k_is)
    (case a26 => k_is)
    (case l26 => k_is)
    (case c26 => k_is)
    (case k26 => k_is)
    (case a27 => k_is)
    (case l27 => k_is)
    (case c27 => k_is)
    (case k27 => k_is)
    (case a28 => k_is)
    (case l28 => k_is)
    (case c28 => k_is)
    (case k28 => k_is)
    (case a29 => k_is)
    (case l29 => k_is)
    (case c29 => k_is)
    (case k29 => k_is)
    (case a30 => k_is)
    (case l30 => k_is)
    (case c30 => k_is)
    (case k30 => k_is)
    (case a31 => k_is)
    (case l31 => k_is)
    (case c31 => k_is)
    (case k31 => k_is)
    (case a32 => k_is)
    (case l32 => k_is)
    (case c32 => k_is)
    (case k32 => k_is)
    (case a33 => k_is)
    (case l33 => k_is)
    (case c33 => k_is)
    (case k33 => k_is)
    (case a34 => k_is)
    (case l34 => k_is)
    (case c34 => k_is)
    (case k34 => k_is)
    (case a35 => k_is)
    (case l35 => k_is)
    (case c35 => k_is)
    (case k35 => k_is)
    (case a36 => k_is)
    (case l36 => k_is)
    (case c36 => k_is)
    (case k36 => k_is)
    (case z_abs => k_is)
    (case z_all => k_is)
    (case z_int => k_is)
    (case z_isinstance => k_is)
    (case z_len => k_is)
    (case z_list => k_is)
    (case z_max => k_is)
    (case z_min => k_is)
    (case z_range => k_is)
    (case z_set => k_is)
    (case z_sorted => k_is)
    (case z_sum => k_is)
    (case z_tuple => k_is)
    (case z_zip => k_is)
    (case g_MOST_FIGURE => k_is)
    (case g_REGISTERS => k_is)
    (case g_MOST_STAKE => k_is)
    (case g_PARTS => k_is)
    (case g_AFTER => k_is)
    (case g_SCALES => k_is)
    (case t_SCALES => k_is)
    (case g_IDLE => k_is)
    (case t_IDLE => k_is)
#print axioms PySem.Challenge.cw_nonegrowsrich_k49_whole_off_at_most_sure_holds
