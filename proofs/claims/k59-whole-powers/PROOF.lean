import PyProof.Rows.All
import Wide.All
import OpenK.AllK
import Wide.FinOn
import KE.KStateDown
import Lean
import HandS.Base
import HandS.Call
import HandS.Ends
import HandS.More
import HandS.Words
import HandS.WordsExc
import HandS.Defaults
import HandS.Slots
import HandS.SlotsOwn
import HandS.Head0
import HandS.Head1
import HandS.Head2
import HandS.Head3
import HandS.HeadEnd
import HandS.HeadHook1
import HandS.HeadHook2
import HandS.HeadHook4
import HandS.HeadNt
import HandS.HeadWalk
import PySem.Challenge.RW_sourceforms_k59_whole_powers_by_second_l
import PyProof.EqAt
import PyProof.EqKinds
import PyProof.TupleCall
import HandS.List
import HandS.Comp
import HandS.Iter
import HandS.Walk
import HandS.AnyAll
import HandS.Wide
import HandS.Gcd
import HandS.TupAny
import HandS.Star
import HandS.IsInst
import HandS.IterVal
import HandS.Zip
import KE.GoesMore
import HandS.Codes
import HandS.EndTab
/-! Plain mathematics: polynomials in two letters as lists of entries. -/
namespace Km

/-- the sum of f i over i below n -/
def sm : Nat → (Nat → Int) → Int
  | 0, _ => 0
  | n + 1, f => sm n f + f n

theorem sm_congr : ∀ (n : Nat) (f g : Nat → Int), (∀ i, i < n → f i = g i) → sm n f = sm n g
  | 0, _, _, _ => rfl
  | n + 1, f, g, h => by
    show sm n f + f n = sm n g + g n
    rw [sm_congr n f g fun i hi => h i (Nat.lt_succ_of_lt hi), h n (Nat.lt_succ_self n)]

theorem sm_zero : ∀ (n : Nat) (f : Nat → Int), (∀ i, i < n → f i = 0) → sm n f = 0
  | 0, _, _ => rfl
  | n + 1, f, h => by
    show sm n f + f n = 0
    rw [sm_zero n f fun i hi => h i (Nat.lt_succ_of_lt hi), h n (Nat.lt_succ_self n)]
    rfl

theorem sm_add : ∀ (n : Nat) (f g : Nat → Int), sm n (fun i => f i + g i) = sm n f + sm n g
  | 0, _, _ => rfl
  | n + 1, f, g => by
    show sm n (fun i => f i + g i) + (f n + g n) = (sm n f + f n) + (sm n g + g n)
    rw [sm_add n f g]
    omega

theorem sm_mul : ∀ (n : Nat) (c : Int) (f : Nat → Int), sm n (fun i => c * f i) = c * sm n f
  | 0, c, _ => by show (0 : Int) = c * 0; rw [Int.mul_zero]
  | n + 1, c, f => by
    show sm n (fun i => c * f i) + c * f n = c * (sm n f + f n)
    rw [sm_mul n c f, Int.mul_add]

/-- one term alone -/
theorem sm_one : ∀ (n : Nat) (f : Nat → Int) (k : Nat), k < n → (∀ i, i < n → i ≠ k → f i = 0) → sm n f = f k
  | 0, _, _, h, _ => by omega
  | n + 1, f, k, hk, h => by
    show sm n f + f n = f k
    by_cases e : k = n
    · subst e
      rw [sm_zero k f fun i hi => h i (by omega) (by omega)]
      omega
    · rw [sm_one n f k (by omega) fun i hi hn => h i (by omega) hn, h n (by omega) (by omega)]
      omega

/-- the first term apart -/
theorem sm_head : ∀ (n : Nat) (f : Nat → Int), sm (n + 1) f = f 0 + sm n fun i => f (i + 1)
  | 0, f => by show (0 : Int) + f 0 = f 0 + 0; omega
  | n + 1, f => by
    show sm (n + 1) f + f (n + 1) = f 0 + (sm n (fun i => f (i + 1)) + f (n + 1))
    rw [sm_head n f]
    omega

/-- from behind -/
theorem sm_rev : ∀ (n : Nat) (f : Nat → Int), sm n f = sm n fun i => f (n - 1 - i)
  | 0, _ => rfl
  | n + 1, f => by
    rw [sm_head n fun i => f (n + 1 - 1 - i)]
    show sm n f + f n = f (n + 1 - 1 - 0) + sm n fun i => f (n + 1 - 1 - (i + 1))
    rw [sm_rev n f, show n + 1 - 1 - 0 = n by omega, Int.add_comm]
    congr 1
    exact sm_congr n _ _ fun i hi => by rw [show n - 1 - i = n + 1 - 1 - (i + 1) by omega]

/-- terms behind a place may be left out if they are 0 -/
theorem sm_cut : ∀ (n k : Nat) (f : Nat → Int), k ≤ n → (∀ i, k ≤ i → i < n → f i = 0) → sm n f = sm k f
  | 0, k, f, h, _ => by rw [show k = 0 by omega]
  | n + 1, k, f, h, hz => by
    by_cases e : k = n + 1
    · rw [e]
    · show sm n f + f n = sm k f
      rw [sm_cut n k f (by omega) fun i h1 h2 => hz i h1 (by omega), hz n (by omega) (by omega)]
      omega

/-- the entry at a place, 0 outside -/
def co (xs : List Int) (i : Nat) : Int := xs.getD i 0
theorem co_lt {xs : List Int} {i : Nat} (h : i < xs.length) : co xs i = xs[i] := by
  unfold co
  simp [h]
theorem co_ge {xs : List Int} {i : Nat} (h : xs.length ≤ i) : co xs i = 0 := by
  unfold co
  simp [h]
theorem co_some {xs : List Int} {i : Nat} {v : Int} (h : xs[i]? = some v) : co xs i = v := by
  unfold co
  simp [h]
theorem ext_co {xs ys : List Int} (hl : xs.length = ys.length) (h : ∀ i, i < xs.length → co xs i = co ys i) : xs = ys := by
  apply List.ext_getElem hl
  intro i h1 h2
  have e := h i h1
  rw [co_lt h1, co_lt h2] at e
  exact e

/-- a list of n entries by a rule -/
def tab (n : Nat) (f : Nat → Int) : List Int := (List.range n).map f
theorem tab_len (n : Nat) (f : Nat → Int) : (tab n f).length = n := by simp [tab]
theorem tab_co {n : Nat} {f : Nat → Int} {i : Nat} (h : i < n) : co (tab n f) i = f i := by
  rw [co_lt (by rw [tab_len]; exact h)]
  simp [tab]
theorem tab_co_ge {n : Nat} {f : Nat → Int} {i : Nat} (h : n ≤ i) : co (tab n f) i = 0 := co_ge (by rw [tab_len]; exact h)
theorem tab_congr {n : Nat} {f g : Nat → Int} (h : ∀ i, i < n → f i = g i) : tab n f = tab n g := by
  unfold tab
  apply List.map_congr_left
  intro i hi
  exact h i (List.mem_range.mp hi)
theorem eq_tab (xs : List Int) : xs = tab xs.length (co xs) := ext_co (by rw [tab_len]) fun i hi => by rw [tab_co hi]

/-- the product -/
def mul (xs ys : List Int) : List Int := tab (xs.length + ys.length - 1) fun m => sm (m + 1) fun i => co xs i * co ys (m - i)
theorem mul_len (xs ys : List Int) : (mul xs ys).length = xs.length + ys.length - 1 := tab_len _ _
theorem mul_co (xs ys : List Int) (m : Nat) (h : m < xs.length + ys.length - 1) : co (mul xs ys) m = sm (m + 1) fun i => co xs i * co ys (m - i) := tab_co h
theorem mul_co' (xs ys : List Int) (m : Nat) (hx : xs ≠ []) (hy : ys ≠ []) : co (mul xs ys) m = sm (m + 1) fun i => co xs i * co ys (m - i) := by
  by_cases h : m < xs.length + ys.length - 1
  · exact mul_co xs ys m h
  · have h1 : 0 < xs.length := List.length_pos_iff.mpr hx
    have h2 : 0 < ys.length := List.length_pos_iff.mpr hy
    rw [co_ge (by rw [mul_len]; omega)]
    refine (sm_zero _ _ fun i hi => ?_).symm
    by_cases h3 : i < xs.length
    · rw [co_ge (xs := ys) (by omega), Int.mul_zero]
    · rw [co_ge (xs := xs) (by omega), Int.zero_mul]
/-- a power -/
def pw (p : List Int) : Nat → List Int
  | 0 => [1]
  | n + 1 => mul (pw p n) p

/-- binomials -/
def ch : Nat → Nat → Nat
  | _, 0 => 1
  | 0, _ + 1 => 0
  | n + 1, k + 1 => ch n k + ch n (k + 1)
theorem ch_zero (n : Nat) : ch n 0 = 1 := by cases n <;> rfl
theorem ch_gt : ∀ (n k : Nat), n < k → ch n k = 0
  | 0, 0, h => by omega
  | 0, _ + 1, _ => rfl
  | n + 1, 0, h => by omega
  | n + 1, k + 1, h => by
    show ch n k + ch n (k + 1) = 0
    rw [ch_gt n k (by omega), ch_gt n (k + 1) (by omega)]
theorem ch_self : ∀ n : Nat, ch n n = 1
  | 0 => rfl
  | n + 1 => by
    show ch n n + ch n (n + 1) = 1
    rw [ch_self n, ch_gt n (n + 1) (by omega)]
theorem ch_pos : ∀ (n k : Nat), k ≤ n → 0 < ch n k
  | _, 0, _ => by rw [ch_zero]; omega
  | 0, k + 1, h => by omega
  | n + 1, k + 1, h => by
    show 0 < ch n k + ch n (k + 1)
    have := ch_pos n k (by omega)
    omega
/-- (k + 1) C(n, k + 1) = (n - k) C(n, k) -/
theorem ch_step : ∀ (n k : Nat), (k + 1) * ch n (k + 1) = (n - k) * ch n k
  | 0, 0 => rfl
  | 0, k + 1 => by show (k + 1 + 1) * 0 = (0 - (k + 1)) * 0; simp
  | n + 1, 0 => by
    have h := ch_step n 0
    show (0 + 1) * (ch n 0 + ch n 1) = (n + 1 - 0) * 1
    have e : ch n 0 = 1 := ch_zero n
    simp only [Nat.zero_add, Nat.one_mul, Nat.sub_zero, e, Nat.mul_one] at h ⊢
    omega
  | n + 1, k + 1 => by
    show (k + 1 + 1) * (ch n (k + 1) + ch n (k + 1 + 1)) = (n + 1 - (k + 1)) * (ch n k + ch n (k + 1))
    have h1 := ch_step n (k + 1)
    have h2 := ch_step n k
    rw [Nat.mul_add, h1, show n + 1 - (k + 1) = n - k by omega, Nat.mul_add, ← h2]
    by_cases hk : k + 1 ≤ n
    · obtain ⟨d, rfl⟩ : ∃ d, n = k + 1 + d := ⟨n - (k + 1), by omega⟩
      rw [show k + 1 + d - (k + 1) = d by omega, show k + 1 + d - k = d + 1 by omega]
      simp only [Nat.add_mul, Nat.one_mul]
      omega
    · rw [ch_gt n (k + 1) (by omega)]
      simp

theorem pw_len (p : List Int) (hp : p.length = 2) : ∀ n, (pw p n).length = n + 1
  | 0 => rfl
  | n + 1 => by
    show (mul (pw p n) p).length = n + 1 + 1
    rw [mul_len, pw_len p hp n, hp]
    omega
theorem pw_ne (p : List Int) (hp : p.length = 2) (n : Nat) : pw p n ≠ [] := fun h => by
  have := pw_len p hp n
  rw [h] at this
  cases this

/-- the entries of a power of a line -/
theorem pw_co (a b : Int) : ∀ (n i : Nat), i ≤ n → co (pw [a, b] n) i = (ch n i : Int) * a ^ (n - i) * b ^ i
  | 0, i, h => by
    have e : i = 0 := by omega
    subst e
    simp [co, pw, ch]
  | n + 1, i, h => by
    show co (mul (pw [a, b] n) [a, b]) i = _
    have hl : (pw [a, b] n).length = n + 1 := pw_len [a, b] rfl n
    rw [mul_co _ _ _ (by rw [hl]; show i < n + 1 + 2 - 1; omega)]
    cases i with
    | zero =>
      show (0 : Int) + co (pw [a, b] n) 0 * co [a, b] 0 = _
      rw [pw_co a b n 0 (by omega)]
      show (0 : Int) + (ch n 0 : Int) * a ^ (n - 0) * b ^ 0 * a = (ch (n + 1) 0 : Int) * a ^ (n + 1 - 0) * b ^ 0
      rw [ch_zero, ch_zero, Nat.sub_zero, Nat.sub_zero, Int.pow_succ, Int.pow_zero]
      simp
    | succ j =>
      -- only i = j and i = j + 1
      have e0 : sm (j + 1 + 1) (fun i => co (pw [a, b] n) i * co [a, b] (j + 1 - i)) = sm j (fun i => co (pw [a, b] n) i * co [a, b] (j + 1 - i)) + co (pw [a, b] n) j * co [a, b] (j + 1 - j) + co (pw [a, b] n) (j + 1) * co [a, b] (j + 1 - (j + 1)) := rfl
      rw [e0, sm_zero j _ fun i hi => by rw [co_ge (xs := [a, b]) (by show 2 ≤ j + 1 - i; omega), Int.mul_zero]]
      rw [show j + 1 - j = 1 by omega, show j + 1 - (j + 1) = 0 by omega]
      show (0 : Int) + co (pw [a, b] n) j * b + co (pw [a, b] n) (j + 1) * a = _
      rw [pw_co a b n j (by omega)]
      by_cases hj : j + 1 ≤ n
      · rw [pw_co a b n (j + 1) hj]
        show _ = ((ch n j + ch n (j + 1) : Nat) : Int) * a ^ (n + 1 - (j + 1)) * b ^ (j + 1)
        obtain ⟨d, rfl⟩ : ∃ d, n = j + 1 + d := ⟨n - (j + 1), by omega⟩
        rw [show j + 1 + d - j = d + 1 by omega, show j + 1 + d - (j + 1) = d by omega, show j + 1 + d + 1 - (j + 1) = d + 1 by omega, Int.pow_succ, Int.pow_succ, Int.natCast_add]
        simp only [Int.add_mul, Int.zero_add]
        congr 1
        · simp only [Int.mul_assoc]
        · simp only [Int.mul_assoc]
          congr 1
          congr 1
          grind
      · have e : j = n := by omega
        subst e
        rw [co_ge (by rw [hl]; omega), Int.zero_mul, Int.add_zero, Int.zero_add]
        rw [ch_self, ch_self, show j - j = 0 by omega, show j + 1 - (j + 1) = 0 by omega, Int.pow_succ b]
        simp
end Km
/-! Plain mathematics: a zero Hessian makes a form an integer times a power of a primitive line. -/
namespace Km

def eX (es : List Int) (i : Nat) : Int := co es i * ((es.length - 1 - i : Nat) : Int) * ((es.length - 2 - i : Nat) : Int)
def eZ (es : List Int) (i : Nat) : Int := co es (i + 1) * ((i + 1 : Nat) : Int) * ((es.length - 2 - i : Nat) : Int)
def eY (es : List Int) (i : Nat) : Int := co es (i + 2) * ((i + 2 : Nat) : Int) * ((i + 1 : Nat) : Int)
/-- half an entry of the Hessian -/
def hh (es : List Int) (m : Nat) : Int := sm (m + 1) fun i => eX es i * eY es (m - i) - eZ es i * eZ es (m - i)

theorem sq_zero {a : Int} (h : a * a = 0) : a = 0 := by
  rcases Int.mul_eq_zero.mp h with h | h <;> exact h

/-- no x ** n: then all but y ** n is missing -/
theorem low_zero (es : List Int) (n : Nat) (hl : es.length = n + 1) (hn : 2 ≤ n) (hz : ∀ m, m ≤ 2 * n - 4 → hh es m = 0) (h0 : co es 0 = 0) :
    ∀ s, s < n → co es s = 0 := by
  intro s
  induction s using Nat.strongRecOn with
  | ind s ih =>
    intro hs
    by_cases e : s = 0
    · rw [e]; exact h0
    have h1 : ∀ i, i < s → co es i = 0 := fun i hi => ih i hi (by omega)
    have hm := hz (2 * s - 2) (by omega)
    unfold hh at hm
    have e1 : 2 * s - 2 + 1 = 2 * s - 1 := by omega
    rw [e1] at hm
    have hX : ∀ i, i < s → eX es i = 0 := fun i hi => by unfold eX; rw [h1 i hi]; simp
    have hZ : ∀ i, i + 1 < s → eZ es i = 0 := fun i hi => by unfold eZ; rw [h1 (i + 1) hi]; simp
    have hY : ∀ i, i + 2 < s → eY es i = 0 := fun i hi => by unfold eY; rw [h1 (i + 2) hi]; simp
    have a1 : sm (2 * s - 1) (fun i => eX es i * eY es (2 * s - 2 - i) - eZ es i * eZ es (2 * s - 2 - i)) =
        sm (2 * s - 1) (fun i => eX es i * eY es (2 * s - 2 - i) + -1 * (eZ es i * eZ es (2 * s - 2 - i))) := sm_congr _ _ _ fun i _ => by omega
    rw [a1, sm_add, sm_mul] at hm
    have a2 : sm (2 * s - 1) (fun i => eZ es i * eZ es (2 * s - 2 - i)) = eZ es (s - 1) * eZ es (2 * s - 2 - (s - 1)) :=
      sm_one _ _ (s - 1) (by omega) fun i hi hne => by
        by_cases h : i + 1 < s
        · rw [hZ i h]; simp
        · rw [hZ (2 * s - 2 - i) (by omega)]; simp
    have a3 : sm (2 * s - 1) (fun i => eX es i * eY es (2 * s - 2 - i)) = eX es s * (co es s * ((s : Nat) : Int) * ((s - 1 : Nat) : Int)) := by
      by_cases h2 : 2 ≤ s
      · rw [sm_one _ _ s (by omega) fun i hi hne => by
          by_cases h : i < s
          · rw [hX i h]; simp
          · rw [hY (2 * s - 2 - i) (by omega)]; simp]
        have e2 : 2 * s - 2 - s = s - 2 := by omega
        rw [e2]
        unfold eY
        rw [show s - 2 + 2 = s by omega, show s - 2 + 1 = s - 1 by omega]
      · have e3 : s = 1 := by omega
        subst e3
        show (0 : Int) + eX es 0 * eY es 0 = eX es 1 * (co es 1 * ((1 : Nat) : Int) * ((1 - 1 : Nat) : Int))
        rw [hX 0 (by omega)]
        simp
    rw [a2, a3, show 2 * s - 2 - (s - 1) = s - 1 by omega] at hm
    unfold eX eZ at hm
    rw [show s - 1 + 1 = s by omega, hl, show n + 1 - 1 - s = n - s by omega, show n + 1 - 2 - s = n - s - 1 by omega, show n + 1 - 2 - (s - 1) = n - s by omega] at hm
    obtain ⟨d, hd⟩ : ∃ d, n - s = d + 1 := ⟨n - s - 1, by omega⟩
    obtain ⟨u, hu⟩ : ∃ u, s = u + 1 := ⟨s - 1, by omega⟩
    rw [hd, show d + 1 - 1 = d by omega] at hm
    rw [show s - 1 = u by omega] at hm
    have hs' : ((s : Nat) : Int) = (u : Int) + 1 := by omega
    rw [hs', show ((d + 1 : Nat) : Int) = (d : Int) + 1 by omega] at hm
    have key : (co es s * co es s) * (((d : Int) + 1) * ((u : Int) + 1) * ((d : Int) + u + 1)) = 0 := by grind
    rcases Int.mul_eq_zero.mp key with q | q
    · exact sq_zero q
    · exfalso
      have p1 : (0 : Int) < (d : Int) + 1 := by omega
      have p2 : (0 : Int) < (u : Int) + 1 := by omega
      have p3 : (0 : Int) < (d : Int) + u + 1 := by omega
      have := Int.mul_pos (Int.mul_pos p1 p2) p3
      omega

theorem ch_one (n : Nat) : ch n 1 = n := by
  have h := ch_step n 0
  rw [ch_zero] at h
  simpa using h
theorem chI (n k : Nat) : ((k : Int) + 1) * (ch n (k + 1) : Int) = ((n - k : Nat) : Int) * (ch n k : Int) := by
  have h := congrArg (fun x : Nat => (x : Int)) (ch_step n k)
  simp only [Int.natCast_mul] at h
  rw [show ((k + 1 : Nat) : Int) = (k : Int) + 1 by omega] at h
  exact h

/-- the middle terms vanish -/
theorem mid_zero (n i v : Nat) (A B C D z o : Int) (hN : (n : Int) * z ≠ 0)
    (p1 : A * ((n : Int) * z) ^ (i + 1) = (ch n (i + 1) : Int) * z * o ^ (i + 1)) (p2 : B * ((n : Int) * z) ^ (v + 2) = (ch n (v + 2) : Int) * z * o ^ (v + 2))
    (p3 : C * ((n : Int) * z) ^ (i + 2) = (ch n (i + 2) : Int) * z * o ^ (i + 2)) (p4 : D * ((n : Int) * z) ^ (v + 1) = (ch n (v + 1) : Int) * z * o ^ (v + 1))
    (c1 : (((i + 1 : Nat) : Int) + 1) * (ch n (i + 2) : Int) = ((n - (i + 1) : Nat) : Int) * (ch n (i + 1) : Int))
    (c2 : (((v + 1 : Nat) : Int) + 1) * (ch n (v + 2) : Int) = ((n - (v + 1) : Nat) : Int) * (ch n (v + 1) : Int)) :
    A * ((n - (i + 1) : Nat) : Int) * ((n - 2 - i : Nat) : Int) * (B * ((v + 2 : Nat) : Int) * ((v + 1 : Nat) : Int)) - C * ((i + 2 : Nat) : Int) * ((n - 2 - i : Nat) : Int) * (D * ((v + 1 : Nat) : Int) * ((n - (v + 1) : Nat) : Int)) = 0 := by
  have hNp : ((n : Int) * z) ^ (i + v + 3) ≠ 0 := Int.pow_ne_zero hN
  have x1 : ((n : Int) * z) ^ (i + v + 3) = ((n : Int) * z) ^ (i + 1) * ((n : Int) * z) ^ (v + 2) := by rw [← Int.pow_add]; congr 1; omega
  have x2 : o ^ (i + v + 3) = o ^ (i + 1) * o ^ (v + 2) := by rw [← Int.pow_add]; congr 1; omega
  have x3 : ((n : Int) * z) ^ (i + v + 3) = ((n : Int) * z) ^ (i + 2) * ((n : Int) * z) ^ (v + 1) := by rw [← Int.pow_add]; congr 1; omega
  have x4 : o ^ (i + v + 3) = o ^ (i + 2) * o ^ (v + 1) := by rw [← Int.pow_add]; congr 1; omega
  generalize ((n : Int) * z) ^ (i + v + 3) = P at *
  generalize o ^ (i + v + 3) = W at *
  generalize ((n : Int) * z) ^ (i + 1) = P1 at *
  generalize ((n : Int) * z) ^ (v + 2) = P2 at *
  generalize ((n : Int) * z) ^ (i + 2) = P3 at *
  generalize ((n : Int) * z) ^ (v + 1) = P4 at *
  generalize o ^ (i + 1) = W1 at *
  generalize o ^ (v + 2) = W2 at *
  generalize o ^ (i + 2) = W3 at *
  generalize o ^ (v + 1) = W4 at *
  have r1 : A * B * P = (ch n (i + 1) : Int) * (ch n (v + 2) : Int) * (z * z * W) := by
    have e : A * B * P = (A * P1) * (B * P2) := by rw [x1]; grind
    rw [e, p1, p2, x2]
    grind
  have r2 : C * D * P = (ch n (i + 2) : Int) * (ch n (v + 1) : Int) * (z * z * W) := by
    have e : C * D * P = (C * P3) * (D * P4) := by rw [x3]; grind
    rw [e, p3, p4, x4]
    grind
  clear x1 x2 x3 x4 p1 p2 p3 p4 hN
  rw [show ((i + 1 : Nat) : Int) = (i : Int) + 1 by omega] at c1
  rw [show ((v + 1 : Nat) : Int) = (v : Int) + 1 by omega] at c2 ⊢
  rw [show ((v + 2 : Nat) : Int) = (v : Int) + 1 + 1 by omega, show ((i + 2 : Nat) : Int) = (i : Int) + 1 + 1 by omega]
  generalize ((n - (i + 1) : Nat) : Int) = x1 at *
  generalize ((n - 2 - i : Nat) : Int) = x2 at *
  generalize ((n - (v + 1) : Nat) : Int) = x3 at *
  generalize (ch n (i + 1) : Int) = k1 at *
  generalize (ch n (v + 2) : Int) = k2 at *
  generalize (ch n (i + 2) : Int) = k3 at *
  generalize (ch n (v + 1) : Int) = k4 at *
  generalize (i : Int) = a at *
  generalize (v : Int) = b at *
  have fin : P * (A * x1 * x2 * (B * (b + 1 + 1) * (b + 1)) - C * (a + 1 + 1) * x2 * (D * (b + 1) * x3)) = 0 := by
    have y1 : P * (A * x1 * x2 * (B * (b + 1 + 1) * (b + 1))) = (A * B * P) * (x1 * x2 * (b + 1 + 1) * (b + 1)) := by grind
    have y2 : P * (C * (a + 1 + 1) * x2 * (D * (b + 1) * x3)) = (C * D * P) * ((a + 1 + 1) * x2 * (b + 1) * x3) := by grind
    rw [Int.mul_sub, y1, y2, r1, r2]
    have y3 : k1 * k2 * (z * z * W) * (x1 * x2 * (b + 1 + 1) * (b + 1)) = (x1 * k1) * ((b + 1 + 1) * k2) * (z * z * W * x2 * (b + 1)) := by grind
    have y4 : k3 * k4 * (z * z * W) * ((a + 1 + 1) * x2 * (b + 1) * x3) = ((a + 1 + 1) * k3) * (x3 * k4) * (z * z * W * x2 * (b + 1)) := by grind
    rw [y3, y4, c1, c2]
    omega
  rcases Int.mul_eq_zero.mp fin with q | q
  · exact absurd q hNp
  · exact q

/-- with x ** n: all entries by the first two -/
theorem all_told (es : List Int) (n : Nat) (hl : es.length = n + 1) (hn : 1 ≤ n) (hz : 2 ≤ n → ∀ m, m ≤ 2 * n - 4 → hh es m = 0) (h0 : co es 0 ≠ 0) :
    ∀ i, i ≤ n → co es i * ((n : Int) * co es 0) ^ i = (ch n i : Int) * co es 0 * co es 1 ^ i := by
  intro i
  induction i using Nat.strongRecOn with
  | ind i ih =>
    intro hi
    match i, ih, hi with
    | 0, _, _ => rw [ch_zero]; simp
    | 1, _, _ => rw [ch_one, Int.pow_succ, Int.pow_succ, Int.pow_zero, Int.pow_zero]; grind
    | t + 2, ih, hi =>
      have hN : (n : Int) * co es 0 ≠ 0 := fun q => by
        rcases Int.mul_eq_zero.mp q with q | q
        · omega
        · exact h0 q
      have hm := hz (by omega) t (by omega)
      unfold hh at hm
      rw [sm_head] at hm
      -- the terms behind the first one are 0
      have rest : ∀ i, i < t → eX es (i + 1) * eY es (t - (i + 1)) - eZ es (i + 1) * eZ es (t - (i + 1)) = 0 := by
        intro i hit
        obtain ⟨v, hv⟩ : ∃ v, t = i + 1 + v := ⟨t - (i + 1), by omega⟩
        have e1 : t - (i + 1) = v := by omega
        rw [e1]
        have p1 := ih (i + 1) (by omega) (by omega)
        have p2 := ih (v + 2) (by omega) (by omega)
        have p3 := ih (i + 2) (by omega) (by omega)
        have p4 := ih (v + 1) (by omega) (by omega)
        have c1 := chI n (i + 1)
        have c2 := chI n (v + 1)
        unfold eX eY eZ
        rw [hl]
        rw [show n + 1 - 1 - (i + 1) = n - (i + 1) by omega, show n + 1 - 2 - (i + 1) = n - 2 - i by omega, show n + 1 - 2 - v = n - (v + 1) by omega]
        rw [show i + 1 + 1 = i + 2 by omega] at c1 ⊢
        rw [show v + 1 + 1 = v + 2 by omega] at c2
        exact mid_zero n i v (co es (i + 1)) (co es (v + 2)) (co es (i + 2)) (co es (v + 1)) (co es 0) (co es 1) hN p1 p2 p3 p4 c1 c2
      rw [sm_zero t _ rest, Int.add_zero, Nat.sub_zero] at hm
      unfold eX eY eZ at hm
      rw [hl, show n + 1 - 1 - 0 = n by omega, show n + 1 - 2 - 0 = n - 1 by omega, show n + 1 - 2 - t = n - (t + 1) by omega] at hm
      have p1 := ih (t + 1) (by omega) (by omega)
      have c1 := chI n (t + 1)
      rw [show t + 1 + 1 = t + 2 by omega] at c1
      have hn1 : ((n - 1 : Nat) : Int) ≠ 0 := by omega
      have ht1 : ((t + 1 : Nat) : Int) ≠ 0 := by omega
      simp only [Nat.zero_add] at hm
      rw [show ((0 + 1 : Nat) : Int) = 1 by rfl] at hm
      have e0 : (((n - 1 : Nat) : Int) * ((t + 1 : Nat) : Int)) * ((n : Int) * co es 0 * co es (t + 2) * ((t + 2 : Nat) : Int) - co es 1 * co es (t + 1) * ((n - (t + 1) : Nat) : Int)) = 0 := by
        rw [← hm]
        grind
      have e1 : (n : Int) * co es 0 * co es (t + 2) * ((t + 2 : Nat) : Int) = co es 1 * co es (t + 1) * ((n - (t + 1) : Nat) : Int) := by
        rcases Int.mul_eq_zero.mp e0 with q | q
        · rcases Int.mul_eq_zero.mp q with q | q
          · exact absurd q hn1
          · exact absurd q ht1
        · omega
      have ht2 : ((t + 2 : Nat) : Int) ≠ 0 := by omega
      refine Int.eq_of_mul_eq_mul_left ht2 ?_
      rw [show ((t + 1 : Nat) : Int) + 1 = ((t + 2 : Nat) : Int) by omega] at c1
      rw [Int.pow_succ _ (t + 1), Int.pow_succ _ (t + 1)]
      generalize ((n - (t + 1) : Nat) : Int) = x1 at *
      generalize ((t + 2 : Nat) : Int) = x2 at *
      generalize (ch n (t + 1) : Int) = k1 at *
      generalize (ch n (t + 2) : Int) = k2 at *
      generalize co es (t + 2) = A at *
      generalize co es (t + 1) = B at *
      generalize co es 0 = z at *
      generalize co es 1 = o at *
      generalize ((n : Int) * z) ^ (t + 1) = P at *
      generalize o ^ (t + 1) = W at *
      have y1 : x2 * (A * (P * ((n : Int) * z))) = ((n : Int) * z * A * x2) * P := by grind
      rw [y1, e1]
      have y2 : o * B * x1 * P = o * x1 * (B * P) := by grind
      rw [y2, p1]
      have y3 : x2 * (k2 * z * (W * o)) = (x2 * k2) * z * W * o := by grind
      rw [y3, c1]
      grind

/-- an integer times a power of a line: k (p x + q y) ** n -/
def Tells (es : List Int) (n : Nat) (k p q : Int) : Prop := ∀ i, i ≤ n → co es i = k * ((ch n i : Int) * p ^ (n - i) * q ^ i)

theorem dvd_pow {p q c d : Int} {n : Nat} (hc : Nat.gcd p.natAbs q.natAbs = 1) (h : c * p ^ n = d * q ^ n) : ∃ k, d = k * p ^ n := by
  have h1 : (p ^ n).natAbs ∣ (d * q ^ n).natAbs := Int.natAbs_dvd_natAbs.mpr ⟨c, by rw [← h, Int.mul_comm]⟩
  rw [Int.natAbs_mul, Int.natAbs_pow, Int.natAbs_pow] at h1
  have co1 : Nat.Coprime (p.natAbs ^ n) (q.natAbs ^ n) := Nat.Coprime.pow n n hc
  have h2 : p.natAbs ^ n ∣ d.natAbs := Nat.Coprime.dvd_of_dvd_mul_right co1 h1
  rw [← Int.natAbs_pow] at h2
  obtain ⟨k, hk⟩ := Int.natAbs_dvd_natAbs.mp h2
  exact ⟨k, by rw [hk, Int.mul_comm]⟩

theorem tells_of (es : List Int) (n : Nat) (g p q : Int) (h0 : co es 0 ≠ 0) (hg : g ≠ 0) (e1 : (n : Int) * co es 0 = g * p) (e2 : co es 1 = g * q) (hc : Nat.gcd p.natAbs q.natAbs = 1) (hp : p ≠ 0)
    (ht : ∀ i, i ≤ n → co es i * ((n : Int) * co es 0) ^ i = (ch n i : Int) * co es 0 * co es 1 ^ i) : ∃ k, co es 0 = k * p ^ n ∧ Tells es n k p q := by
  have h1 : ∀ i, i ≤ n → co es i * p ^ i = (ch n i : Int) * co es 0 * q ^ i := by
    intro i hi
    have h := ht i hi
    rw [e1, e2, Int.mul_pow, Int.mul_pow] at h
    have hgi : g ^ i ≠ 0 := Int.pow_ne_zero hg
    refine Int.eq_of_mul_eq_mul_left hgi ?_
    generalize co es i = A at *
    generalize co es 0 = z at *
    generalize g ^ i = G at *
    generalize p ^ i = P at *
    generalize q ^ i = Q at *
    generalize (ch n i : Int) = k at *
    grind
  have hn := h1 n (Nat.le_refl n)
  rw [ch_self] at hn
  have hn' : co es n * p ^ n = co es 0 * q ^ n := by
    rw [hn]
    show (1 : Int) * co es 0 * q ^ n = co es 0 * q ^ n
    rw [Int.one_mul]
  obtain ⟨k, hk⟩ := dvd_pow hc hn'
  refine ⟨k, hk, fun i hi => ?_⟩
  have h := h1 i hi
  have hpi : p ^ i ≠ 0 := Int.pow_ne_zero hp
  refine Int.eq_of_mul_eq_mul_left hpi ?_
  have x1 : p ^ n = p ^ (n - i) * p ^ i := by rw [← Int.pow_add]; congr 1; omega
  rw [hk, x1] at h
  generalize co es i = A at *
  generalize p ^ (n - i) = P1 at *
  generalize p ^ i = P2 at *
  generalize q ^ i = Q at *
  generalize (ch n i : Int) = c at *
  rw [Int.mul_comm P2 A, h]
  grind
end Km
set_option Elab.async false
set_option linter.all false
set_option maxRecDepth 100000
set_option maxHeartbeats 0
/-! The head: the facts that the walk leans on, read off the top's run by a Hook. -/
namespace K9
open PySem PySem.Spec PyProof.Rows L2
def topS (i : Nat) : Stmt := PySem.Challenge.pw_sourceforms_k59_whole_powers_by_second_l.main.body.getD i (.Pass ⟨0, 0, 0, 0⟩)

abbrev s_is_whole : Stmt := topS 12
abbrev s_is_short : Stmt := topS 13
abbrev s_is_from : Stmt := topS 14
abbrev s_are_wholes : Stmt := topS 15
abbrev s_are_short : Stmt := topS 16
abbrev s_shared_of : Stmt := topS 19
abbrev s_first_of : Stmt := topS 20
abbrev s_lots_of : Stmt := topS 21
abbrev s_is_point_any : Stmt := topS 22
abbrev s_product_in : Stmt := topS 27
abbrev s_joined_entries : Stmt := topS 28
abbrev s_power_in : Stmt := topS 29
abbrev s_line_in : Stmt := topS 30
abbrev s_is_zero_in : Stmt := topS 34
abbrev s_first_index : Stmt := topS 35
abbrev s_are_entries : Stmt := topS 37
abbrev s_require_form : Stmt := topS 40
abbrev s_laying_slope : Stmt := topS 43
abbrev s_laying_slopes : Stmt := topS 44
abbrev s_add_product : Stmt := topS 45
abbrev s_laid_in : Stmt := topS 46
abbrev s_point_of_line : Stmt := topS 51
abbrev s_power_told : Stmt := topS 52
abbrev s_is_power_in : Stmt := topS 53
abbrev s_entry_paper : Stmt := topS 54
abbrev s_times_power : Stmt := topS 55
abbrev s_is_entry_of : Stmt := topS 56
abbrev s_paper_word : Stmt := topS 57
abbrev s_power_paper : Stmt := topS 58
abbrev s_is_told_power : Stmt := topS 59
abbrev s_is_power_paper : Stmt := topS 60
abbrev s__law_dice : Stmt := topS 62
abbrev s__law_roll : Stmt := topS 63
abbrev s__law_pick : Stmt := topS 64
abbrev s__law_near : Stmt := topS 65
abbrev s__law_gcd : Stmt := topS 66
abbrev s__law_shared : Stmt := topS 67
abbrev s__law_choose : Stmt := topS 68
abbrev s__law_plus : Stmt := topS 69
abbrev s__law_scaled : Stmt := topS 70
abbrev s__law_product : Stmt := topS 71
abbrev s__law_all_product : Stmt := topS 72
abbrev s__law_power : Stmt := topS 73
abbrev s__law_by_x : Stmt := topS 74
abbrev s__law_by_y : Stmt := topS 75
abbrev s__law_derived : Stmt := topS 76
abbrev s__law_laid : Stmt := topS 77
abbrev s__law_plain : Stmt := topS 78
abbrev s__law_line : Stmt := topS 79
abbrev s__law_point : Stmt := topS 80
abbrev s__law_small_form : Stmt := topS 81
abbrev s__law_form : Stmt := topS 82
abbrev s__law_is_whole : Stmt := topS 83
abbrev s__law_is_point : Stmt := topS 84
abbrev s__law_is_right : Stmt := topS 85
abbrev s__law_near_values : Stmt := topS 86
abbrev s__law_right : Stmt := topS 87
abbrev s__law_power_form : Stmt := topS 88
abbrev s_law : Stmt := topS 89
abbrev s_init : Stmt := inClass (topS 38) 1
abbrev s_entries : Stmt := inClass (topS 38) 4
abbrev s_degree : Stmt := inClass (topS 38) 5
abbrev s_is_zero : Stmt := inClass (topS 38) 6

def d_is_whole : He.DefD := ⟨("is_whole", none), "is_whole", "is_whole", defArgs s_is_whole, defBody s_is_whole, defScope s_is_whole, [], []⟩
def d_is_short : He.DefD := ⟨("is_short", none), "is_short", "is_short", defArgs s_is_short, defBody s_is_short, defScope s_is_short, [], []⟩
def d_is_from : He.DefD := ⟨("is_from", none), "is_from", "is_from", defArgs s_is_from, defBody s_is_from, defScope s_is_from, [], []⟩
def d_are_wholes : He.DefD := ⟨("are_wholes", none), "are_wholes", "are_wholes", defArgs s_are_wholes, defBody s_are_wholes, defScope s_are_wholes, [], []⟩
def d_are_short : He.DefD := ⟨("are_short", none), "are_short", "are_short", defArgs s_are_short, defBody s_are_short, defScope s_are_short, [], []⟩
def d_shared_of : He.DefD := ⟨("shared_of", none), "shared_of", "shared_of", defArgs s_shared_of, defBody s_shared_of, defScope s_shared_of, [], []⟩
def d_first_of : He.DefD := ⟨("first_of", none), "first_of", "first_of", defArgs s_first_of, defBody s_first_of, defScope s_first_of, [], []⟩
def d_lots_of : He.DefD := ⟨("lots_of", none), "lots_of", "lots_of", defArgs s_lots_of, defBody s_lots_of, defScope s_lots_of, [], []⟩
def d_is_point_any : He.DefD := ⟨("is_point_any", none), "is_point_any", "is_point_any", defArgs s_is_point_any, defBody s_is_point_any, defScope s_is_point_any, [], []⟩
def d_product_in : He.DefD := ⟨("product_in", none), "product_in", "product_in", defArgs s_product_in, defBody s_product_in, defScope s_product_in, [], []⟩
def d_joined_entries : He.DefD := ⟨("joined_entries", none), "joined_entries", "joined_entries", defArgs s_joined_entries, defBody s_joined_entries, defScope s_joined_entries, [], []⟩
def d_power_in : He.DefD := ⟨("power_in", none), "power_in", "power_in", defArgs s_power_in, defBody s_power_in, defScope s_power_in, [], []⟩
def d_line_in : He.DefD := ⟨("line_in", none), "line_in", "line_in", defArgs s_line_in, defBody s_line_in, defScope s_line_in, [], []⟩
def d_is_zero_in : He.DefD := ⟨("is_zero_in", none), "is_zero_in", "is_zero_in", defArgs s_is_zero_in, defBody s_is_zero_in, defScope s_is_zero_in, [], []⟩
def d_first_index : He.DefD := ⟨("first_index", none), "first_index", "first_index", defArgs s_first_index, defBody s_first_index, defScope s_first_index, [], []⟩
def d_are_entries : He.DefD := ⟨("are_entries", none), "are_entries", "are_entries", defArgs s_are_entries, defBody s_are_entries, defScope s_are_entries, [], []⟩
def d_require_form : He.DefD := ⟨("require_form", none), "require_form", "require_form", defArgs s_require_form, defBody s_require_form, defScope s_require_form, [], []⟩
def d_laying_slope : He.DefD := ⟨("laying_slope", none), "laying_slope", "laying_slope", defArgs s_laying_slope, defBody s_laying_slope, defScope s_laying_slope, [], []⟩
def d_laying_slopes : He.DefD := ⟨("laying_slopes", none), "laying_slopes", "laying_slopes", defArgs s_laying_slopes, defBody s_laying_slopes, defScope s_laying_slopes, [], []⟩
def d_add_product : He.DefD := ⟨("add_product", none), "add_product", "add_product", defArgs s_add_product, defBody s_add_product, defScope s_add_product, [], []⟩
def d_laid_in : He.DefD := ⟨("laid_in", none), "laid_in", "laid_in", defArgs s_laid_in, defBody s_laid_in, defScope s_laid_in, [], []⟩
def d_point_of_line : He.DefD := ⟨("point_of_line", none), "point_of_line", "point_of_line", defArgs s_point_of_line, defBody s_point_of_line, defScope s_point_of_line, [], []⟩
def d_power_told : He.DefD := ⟨("power_told", none), "power_told", "power_told", defArgs s_power_told, defBody s_power_told, defScope s_power_told, [], []⟩
def d_is_power_in : He.DefD := ⟨("is_power_in", none), "is_power_in", "is_power_in", defArgs s_is_power_in, defBody s_is_power_in, defScope s_is_power_in, [], []⟩
def d_entry_paper : He.DefD := ⟨("entry_paper", none), "entry_paper", "entry_paper", defArgs s_entry_paper, defBody s_entry_paper, defScope s_entry_paper, [], []⟩
def d_times_power : He.DefD := ⟨("times_power", none), "times_power", "times_power", defArgs s_times_power, defBody s_times_power, defScope s_times_power, [], []⟩
def d_is_entry_of : He.DefD := ⟨("is_entry_of", none), "is_entry_of", "is_entry_of", defArgs s_is_entry_of, defBody s_is_entry_of, defScope s_is_entry_of, [], []⟩
def d_paper_word : He.DefD := ⟨("paper_word", none), "paper_word", "paper_word", defArgs s_paper_word, defBody s_paper_word, defScope s_paper_word, [], []⟩
def d_power_paper : He.DefD := ⟨("power_paper", none), "power_paper", "power_paper", defArgs s_power_paper, defBody s_power_paper, defScope s_power_paper, [], []⟩
def d_is_told_power : He.DefD := ⟨("is_told_power", none), "is_told_power", "is_told_power", defArgs s_is_told_power, defBody s_is_told_power, defScope s_is_told_power, [], []⟩
def d_is_power_paper : He.DefD := ⟨("is_power_paper", none), "is_power_paper", "is_power_paper", defArgs s_is_power_paper, defBody s_is_power_paper, defScope s_is_power_paper, [], []⟩
def d__law_dice : He.DefD := ⟨("_law_dice", none), "_law_dice", "_law_dice", defArgs s__law_dice, defBody s__law_dice, defScope s__law_dice, [], []⟩
def d__law_roll : He.DefD := ⟨("_law_roll", none), "_law_roll", "_law_roll", defArgs s__law_roll, defBody s__law_roll, defScope s__law_roll, [], []⟩
def d__law_pick : He.DefD := ⟨("_law_pick", none), "_law_pick", "_law_pick", defArgs s__law_pick, defBody s__law_pick, defScope s__law_pick, [], []⟩
def d__law_near : He.DefD := ⟨("_law_near", none), "_law_near", "_law_near", defArgs s__law_near, defBody s__law_near, defScope s__law_near, [], []⟩
def d__law_gcd : He.DefD := ⟨("_law_gcd", none), "_law_gcd", "_law_gcd", defArgs s__law_gcd, defBody s__law_gcd, defScope s__law_gcd, [], []⟩
def d__law_shared : He.DefD := ⟨("_law_shared", none), "_law_shared", "_law_shared", defArgs s__law_shared, defBody s__law_shared, defScope s__law_shared, [], []⟩
def d__law_choose : He.DefD := ⟨("_law_choose", none), "_law_choose", "_law_choose", defArgs s__law_choose, defBody s__law_choose, defScope s__law_choose, [], []⟩
def d__law_plus : He.DefD := ⟨("_law_plus", none), "_law_plus", "_law_plus", defArgs s__law_plus, defBody s__law_plus, defScope s__law_plus, [], []⟩
def d__law_scaled : He.DefD := ⟨("_law_scaled", none), "_law_scaled", "_law_scaled", defArgs s__law_scaled, defBody s__law_scaled, defScope s__law_scaled, [], []⟩
def d__law_product : He.DefD := ⟨("_law_product", none), "_law_product", "_law_product", defArgs s__law_product, defBody s__law_product, defScope s__law_product, [], []⟩
def d__law_all_product : He.DefD := ⟨("_law_all_product", none), "_law_all_product", "_law_all_product", defArgs s__law_all_product, defBody s__law_all_product, defScope s__law_all_product, [], []⟩
def d__law_power : He.DefD := ⟨("_law_power", none), "_law_power", "_law_power", defArgs s__law_power, defBody s__law_power, defScope s__law_power, [], []⟩
def d__law_by_x : He.DefD := ⟨("_law_by_x", none), "_law_by_x", "_law_by_x", defArgs s__law_by_x, defBody s__law_by_x, defScope s__law_by_x, [], []⟩
def d__law_by_y : He.DefD := ⟨("_law_by_y", none), "_law_by_y", "_law_by_y", defArgs s__law_by_y, defBody s__law_by_y, defScope s__law_by_y, [], []⟩
def d__law_derived : He.DefD := ⟨("_law_derived", none), "_law_derived", "_law_derived", defArgs s__law_derived, defBody s__law_derived, defScope s__law_derived, [], []⟩
def d__law_laid : He.DefD := ⟨("_law_laid", none), "_law_laid", "_law_laid", defArgs s__law_laid, defBody s__law_laid, defScope s__law_laid, [], []⟩
def d__law_plain : He.DefD := ⟨("_law_plain", none), "_law_plain", "_law_plain", defArgs s__law_plain, defBody s__law_plain, defScope s__law_plain, [], []⟩
def d__law_line : He.DefD := ⟨("_law_line", none), "_law_line", "_law_line", defArgs s__law_line, defBody s__law_line, defScope s__law_line, [], []⟩
def d__law_point : He.DefD := ⟨("_law_point", none), "_law_point", "_law_point", defArgs s__law_point, defBody s__law_point, defScope s__law_point, [], []⟩
def d__law_small_form : He.DefD := ⟨("_law_small_form", none), "_law_small_form", "_law_small_form", defArgs s__law_small_form, defBody s__law_small_form, defScope s__law_small_form, [], []⟩
def d__law_form : He.DefD := ⟨("_law_form", none), "_law_form", "_law_form", defArgs s__law_form, defBody s__law_form, defScope s__law_form, [], []⟩
def d__law_is_whole : He.DefD := ⟨("_law_is_whole", none), "_law_is_whole", "_law_is_whole", defArgs s__law_is_whole, defBody s__law_is_whole, defScope s__law_is_whole, [], []⟩
def d__law_is_point : He.DefD := ⟨("_law_is_point", none), "_law_is_point", "_law_is_point", defArgs s__law_is_point, defBody s__law_is_point, defScope s__law_is_point, [], []⟩
def d__law_is_right : He.DefD := ⟨("_law_is_right", none), "_law_is_right", "_law_is_right", defArgs s__law_is_right, defBody s__law_is_right, defScope s__law_is_right, [], []⟩
def d__law_near_values : He.DefD := ⟨("_law_near_values", none), "_law_near_values", "_law_near_values", defArgs s__law_near_values, defBody s__law_near_values, defScope s__law_near_values, [], []⟩
def d__law_right : He.DefD := ⟨("_law_right", none), "_law_right", "_law_right", defArgs s__law_right, defBody s__law_right, defScope s__law_right, [], []⟩
def d__law_power_form : He.DefD := ⟨("_law_power_form", none), "_law_power_form", "_law_power_form", defArgs s__law_power_form, defBody s__law_power_form, defScope s__law_power_form, [], []⟩
def d_law : He.DefD := ⟨("law", none), "law", "law", defArgs s_law, defBody s_law, defScope s_law, [], []⟩
def d_init : He.DefD := ⟨("Form", some "__init__"), "__init__", "Form.__init__", defArgs s_init, defBody s_init, defScope s_init, [], []⟩
/-- the getter of a property of Form -/
def getterAt (f : Str) (K : PySem.W.Frag) : Addr := match PySem.W.recIn K (He.ma K (He.ga K "Form") f) "property" with
  | some (.ref g :: _) => g
  | _ => 0
def d_entries : He5.DefA := { at_ := getterAt "entries", name := "entries", qual := "Form.entries", params := defArgs s_entries, body := defBody s_entries, scope := defScope s_entries }
def d_degree : He5.DefA := { at_ := getterAt "degree", name := "degree", qual := "Form.degree", params := defArgs s_degree, body := defBody s_degree, scope := defScope s_degree }
def d_is_zero : He5.DefA := { at_ := getterAt "is_zero", name := "is_zero", qual := "Form.is_zero", params := defArgs s_is_zero, body := defBody s_is_zero, scope := defScope s_is_zero }
def fn : List He.DefD := [d_is_whole, d_is_short, d_is_from, d_are_wholes, d_are_short, d_shared_of, d_first_of, d_lots_of, d_is_point_any, d_product_in, d_joined_entries, d_power_in, d_line_in, d_is_zero_in, d_first_index, d_are_entries, d_require_form, d_laying_slope, d_laying_slopes, d_add_product, d_laid_in, d_point_of_line, d_power_told, d_is_power_in, d_entry_paper, d_times_power, d_is_entry_of, d_paper_word, d_power_paper, d_is_told_power]
def fn2 : List He.DefD := [d_is_power_paper, d__law_dice, d__law_roll, d__law_pick, d__law_near, d__law_gcd, d__law_shared, d__law_choose, d__law_plus, d__law_scaled, d__law_product, d__law_all_product, d__law_power, d__law_by_x, d__law_by_y, d__law_derived, d__law_laid, d__law_plain, d__law_line, d__law_point, d__law_small_form, d__law_form, d__law_is_whole, d__law_is_point, d__law_is_right, d__law_near_values, d__law_right, d__law_power_form, d_law, d_init]
def fnAll : List He.DefD := fn ++ fn2
def fnP : List He5.DefA := [d_entries, d_degree, d_is_zero]
def fa1 : List He.Fa := [.glo "is_whole", .glo "is_short", .glo "is_from", .glo "are_wholes", .glo "are_short", .glo "shared_of", .glo "first_of", .glo "lots_of", .glo "is_point_any", .glo "product_in", .glo "joined_entries", .glo "power_in", .glo "line_in", .glo "is_zero_in", .glo "first_index", .glo "are_entries", .glo "require_form", .glo "laying_slope", .glo "laying_slopes", .glo "add_product", .glo "laid_in", .glo "point_of_line", .glo "power_told", .glo "is_power_in", .glo "entry_paper", .glo "times_power", .glo "is_entry_of", .glo "paper_word", .glo "power_paper", .glo "is_told_power"]
def fa2 : List He.Fa := [.glo "is_power_paper", .glo "_law_dice", .glo "_law_roll", .glo "_law_pick", .glo "_law_near", .glo "_law_gcd", .glo "_law_shared", .glo "_law_choose", .glo "_law_plus", .glo "_law_scaled", .glo "_law_product", .glo "_law_all_product", .glo "_law_power", .glo "_law_by_x", .glo "_law_by_y", .glo "_law_derived", .glo "_law_laid", .glo "_law_plain", .glo "_law_line", .glo "_law_point", .glo "_law_small_form", .glo "_law_form", .glo "_law_is_whole", .glo "_law_is_point", .glo "_law_is_right", .glo "_law_near_values", .glo "_law_right", .glo "_law_power_form", .glo "law", .glo "Form", .glo "Told", .mkr "Form"]
def fa3 : List He.Fa := [.free "isinstance", .free "int", .free "bool", .free "tuple", .free "str", .free "all", .free "any", .free "len", .free "range", .free "next", .free "enumerate", .free "list", .free "abs", .free "max", .free "min", .free "zip", .free "repr", .free "sum", .int "SHORT_PAPER" (3), .int "MAX_DEGREE" (40), .int "GREATEST" (10 ^ 60), .str "POWER" "power", .str "ENTRY" "entry"]
def fa : List He.Fa := fa1 ++ (fa2 ++ fa3)
def tf : List He.Defn := [("first_of", none), ("first_index", none)]
/-- the slot of Form, its descriptor -/
def slotAt (K : PySem.W.Frag) : Addr := He.ma K (He.ga K "Form") "own_entries"
def propB (K : PySem.W.Frag) (f : Str) : Bool :=
  He.eqO (PySem.W.findIn K (.ref (He.ga K "Form")) f) (some (some (.ref (He.ma K (He.ga K "Form") f)))) && (He.eqO (PySem.W.specialIn K (.ref (He.ma K (He.ga K "Form") f)) "__get__") (some (some (.builtin "property.__get__"))) &&
  (decide (PySem.W.takesIn K (.ref (He.ma K (He.ga K "Form") f)) = some true) && (match PySem.W.recIn K (He.ma K (He.ga K "Form") f) "property" with
    | some (.ref _ :: _) => true
    | _ => false)))
def sclsB (K : PySem.W.Frag) : Bool := PySem.W.plainGet K (He.ga K "Form") Str.empty && (PySem.W.isClsIn K (He.ga K "Form") && (PySem.W.plainOver K (He.ga K "Form") && He.eqO (PySem.W.findIn K (.ref (He.ga K "Form")) "__setattr__") (some (some (.builtin "object.__setattr__")))))
def slotB (K : PySem.W.Frag) : Bool := He.eqO (PySem.W.findIn K (.ref (He.ga K "Form")) "own_entries") (some (some (.ref (slotAt K)))) && (He.eqO (PySem.W.specialIn K (.ref (slotAt K)) "__get__") (some (some (.builtin "member_descriptor.__get__"))) &&
  (decide (PySem.W.takesIn K (.ref (slotAt K)) = some true) && (decide (PySem.W.typeIn K (.ref (slotAt K)) = some (.type "member_descriptor")) && decide (PySem.W.slotIn K (slotAt K) (He.ga K "Form") = some 0))))
def isiB (K : PySem.W.Frag) : Bool := He.eqO (PySem.W.findIn K (.ref (He.ga K "Form")) "__class__") (some (some (.builtin "object.__class__"))) && (He.eqO (PySem.W.specialIn K (.builtin "object.__class__") "__get__") (some (some (.builtin "getset_descriptor.__get__"))) &&
  (decide (PySem.W.takesIn K (.builtin "object.__class__") = some true) && decide (PySem.W.mroIn K (He.ga K "Form") (.type "object") = some true)))
def kitB (K : PySem.W.Frag) : Bool := decide (PySem.W.kitOne K (.ref (He.ga K "Form")) (.ref (He.ga K "Form")) = some true) && decide (PySem.W.kitOne K (.type "tuple") (.ref (He.ga K "Told")) = some false)
def gcdB (K : PySem.W.Frag) : Bool := He.eqO (PySem.W.nsIn K mainGlobals "gcd") (some (some (.builtin "math.gcd")))
def ex (K : PySem.W.Frag) : Bool := gcdB K && (sclsB K && (slotB K && (isiB K && (kitB K && (propB K "entries" && (propB K "degree" && (propB K "is_zero" && fnP.all fun d => d.ok K)))))))
/-! ### the Hook -/
/-- what is followed: a dict's values, a def's code, a class's dict, a property's def -/
def refsY (o : Obj) : List Addr := match o.data with
  | .dict es _ => es.toList.flatMap fun e => He.refV e.val
  | .func fd => He.refV fd.code
  | .cls cd => [cd.ns]
  | .fields vs => (match o.cls with
    | .type c => (match decide (c = "property") with
      | true => vs.toList.flatMap He.refV
      | false => [])
    | _ => [])
  | _ => []
def forceA {β : Type} : List Addr → (List Addr → β) → β
  | [], k => k []
  | a :: r, k => HandSHeadRun.frNat a fun b => forceA r fun q => k (b :: q)
theorem forceA_eq {β : Type} : ∀ (l : List Addr) (k : List Addr → β), forceA l k = k l
  | [], _ => rfl
  | a :: r, k => by
    unfold forceA
    rw [HandSHeadRun.frNat_eq, forceA_eq r]
def nextY (g : Addr → Option Obj) (l : List Addr) : List Addr := l.flatMap fun a => match g a with
  | some o => refsY o
  | none => []
/-- so many steps from the frontier l, what stood before it ahead -/
def reachY {β : Type} (g : Addr → Option Obj) : Nat → List Addr → List Addr → (List Addr → β) → β
  | 0, old, l, k => k (old ++ l)
  | n + 1, old, l, k => forceA (nextY g l) fun l2 => reachY g n (old ++ l) l2 k
def listY (g : Addr → Option Obj) : Nat → List Addr → List Addr → List Addr
  | 0, old, l => old ++ l
  | n + 1, old, l => listY g n (old ++ l) (nextY g l)
theorem reachY_eq {β : Type} (g : Addr → Option Obj) : ∀ (n : Nat) (old l : List Addr) (k : List Addr → β), reachY g n old l k = k (listY g n old l)
  | 0, _, _, _ => rfl
  | n + 1, old, l, k => by
    unfold reachY
    rw [forceA_eq, reachY_eq g n] <;> rfl
abbrev AlY : Type := He.AlD × Bool × List He.FnW
def lookY (g : Addr → Option Obj) (as : List Addr) : AlY := (He.obsD fa fnAll (He.frT g as), ex (He.frT g as) && He.tabsB g tf (He.frT g as), fnP.map fun d => He5.fnA (He.frT g as) (d.at_ (He.frT g as)))
def obsY (g : Addr → Option Obj) : AlY := reachY g 5 [] [mainGlobals] fun as => lookY g as
def valY : AlY := (He.valD fnAll, true, fnP.map He5.DefA.val)
/-- what is told of K at the heap h -/
structure SaysY (h : Heap) (K : PySem.W.Frag) : Prop where
  d : He.SaysD fa fnAll K
  more : ex K = true
  hd : ∀ p ∈ tf, PySem.W.codeHdIn K (He.cT K p).1 (He.cT K p).2 = true
  out : ∀ p ∈ tf, K.lookup (He.cT K p).2 = none
  empty : ∀ p ∈ tf, h.get? (He.cT K p).2 = some { cls := .none, data := .fields #[] }
  p : (fnP.map fun d => He5.fnA K (d.at_ K)) = fnP.map He5.DefA.val
theorem saysY_of {h : Heap} (e : obsY h.get? = valY) : ∃ K : PySem.W.Frag, K.In h ∧ SaysY h K := by
  unfold obsY at e
  rw [reachY_eq] at e
  generalize listY h.get? 5 [] [mainGlobals] = as at e
  have e2 := congrArg (fun z : AlY => z.2) e
  have e3 : (ex (He.frT h.get? as) && He.tabsB h.get? tf (He.frT h.get? as)) = true := congrArg Prod.fst e2
  obtain ⟨e4, e5⟩ := Bool.and_eq_true_iff.mp e3
  have tab : ∀ p ∈ tf, PySem.W.codeHdIn (He.frT h.get? as) (He.cT (He.frT h.get? as) p).1 (He.cT (He.frT h.get? as) p).2 = true ∧ ∃ o, h.get? (He.cT (He.frT h.get? as) p).2 = some o ∧ He.emptyTab o = true := by
    intro p hp
    obtain ⟨a, b⟩ := Bool.and_eq_true_iff.mp (List.all_eq_true.mp e5 p hp)
    refine ⟨a, ?_⟩
    split at b
    · rename_i o q
      exact ⟨o, q, b⟩
    · cases b
  refine ⟨He.frT h.get? as, He.frT_in, congrArg Prod.fst e, e4, fun p hp => (tab p hp).1, fun p hp => ?_, fun p hp => ?_, congrArg Prod.snd e2⟩
  · obtain ⟨_, o, a, b⟩ := tab p hp
    exact He.frT_none a b
  · obtain ⟨_, o, a, b⟩ := tab p hp
    rw [a, He.emptyTab_eq b]
def hookY : PySem.W.Hook where
  α := AlY
  obs := fun s => obsY s.heap.get?
  val := fun _ => valY
  says := fun _ h => ∃ K : PySem.W.Frag, K.In h ∧ SaysY h K
  of := fun _ _ e => saysY_of e
  keeps := fun _ _ _ ⟨K, hK, c⟩ k => ⟨K, PySem.W.Frag.In.keeps hK k, ⟨c.d, c.more, c.hd, c.out, fun p hp => k _ _ (c.empty p hp), c.p⟩⟩
abbrev R : PySem.W.OpenRow := PySem.W.OpenLaw.row PySem.Challenge.rw_sourceforms_k59_whole_powers_by_second_l
abbrev hk : PySem.W.Hook := hookY
def ob (s : PySem.W.SharedT) : AlY := obsY (HandSHeadRun.getT s)
theorem ob_eq (s : PySem.W.SharedT) : ob s = hk.obs s.abs := by
  have e : HandSHeadRun.getT s = s.abs.heap.get? := funext (HandSHeadRun.getT_eq s)
  show obsY (HandSHeadRun.getT s) = obsY s.abs.heap.get?
  rw [e]

def ls0 : List Str := ["_wall", "LetterError", "InvalidForm", "InvalidTable", "InvalidPoint", "InvalidOperation", "InvalidNumber", "TooMany", "GREATEST", "is_whole", "is_short", "is_from", "are_wholes", "are_short", "require_short", "require_from", "shared_of", "first_of", "lots_of", "is_point_any"]
def ls1 : List Str := ["is_change", "require_change", "MAX_DEGREE", "product_in", "joined_entries", "power_in", "line_in", "value_in", "changed_in", "derived_in", "is_zero_in", "first_index", "Told", "are_entries", "Form", "form_of", "require_form", "sum_in", "laying_slope", "laying_slopes"]
def ls2 : List Str := ["add_product", "laid_in", "POWER", "ENTRY", "SHORT_PAPER", "point_of_line", "power_told", "is_power_in", "entry_paper", "times_power", "is_entry_of", "paper_word", "power_paper", "is_told_power", "is_power_paper", "_law_dice", "_law_roll", "_law_pick", "_law_near", "_law_gcd"]
def ls3 : List Str := ["_law_shared", "_law_choose", "_law_plus", "_law_scaled", "_law_product", "_law_all_product", "_law_power", "_law_by_x", "_law_by_y", "_law_derived", "_law_laid", "_law_plain", "_law_line", "_law_point", "_law_small_form", "_law_form", "_law_is_whole", "_law_is_point", "_law_is_right", "_law_near_values"]
def ls4 : List Str := ["_law_right", "_law_power_form"]
def ls : List Str := ls0 ++ ls1 ++ ls2 ++ ls3 ++ ls4
theorem run (w : World) : HandSHeadRun.RunEqI R (PySem.W.view R.prog [0, 89]) hk ob 6000 ls w := by
  unfold HandSHeadRun.RunEqI
  kernel_rfl
end K9
set_option Elab.async false
set_option linter.all false
set_option maxRecDepth 100000
set_option maxHeartbeats 2000000
/-! The D layer, 1: values as data, how they lie in the heap, what is kept. -/
namespace KD
open PySem PySem.Spec PyProof.Rows L2

/-- a value as data; scr: the script; dic: an empty dict; frm: a form with its entries -/
inductive D where
  | non
  | bl (b : Bool)
  | int (i : Int)
  | str (x : Str)
  | tup (xs : List D)
  | lst (xs : List D)
  | scr (ns : List Int)
  | dic
  | frm (es : List Int)

/-- the tables of code objects, the class of the forms -/
structure Cfg where
  tabs : List Addr
  cF : Addr

mutual
inductive Rep (K : PySem.W.Frag) (C : Cfg) (H : Hp) : V → D → Prop
  | non : Rep K C H .non .non
  | bl (b : Bool) : Rep K C H (.bl b) (.bl b)
  | int (i : Int) : Rep K C H (.int i) (.int i)
  | str (x : Str) : Rep K C H (.str x) (.str x)
  | tup {a : Addr} {vs : List V} {ds : List D} : SqT K H a vs → RepL K C H vs ds → Rep K C H (.ref a) (.tup ds)
  | lst {a : Addr} {vs : List V} {ds : List D} : H a = some (.lst vs) → RepL K C H vs ds → Rep K C H (.ref a) (.lst ds)
  | scr {a : Addr} {ns : List Int} : SqL K H a (ns.map V.int) → Rep K C H (.ref a) (.scr ns)
  | dic {a : Addr} : H a = some (.dK []) → Rep K C H (.ref a) .dic
  | frm {a dx t : Addr} {vs : List (Option V)} {es : List Int} : SlX.Slt H a C.cF dx vs → vs[0]? = some (some (.ref t)) → SqT K H t (es.map V.int) → Rep K C H (.ref a) (.frm es)
inductive RepL (K : PySem.W.Frag) (C : Cfg) (H : Hp) : List V → List D → Prop
  | nil : RepL K C H [] []
  | cons {v : V} {vs : List V} {d : D} {ds : List D} : Rep K C H v d → RepL K C H vs ds → RepL K C H (v :: vs) (d :: ds)
end

def isT : HO → Bool
  | .tbl _ => true
  | _ => false
/-- what is no table stays -/
def Keep (H H' : Hp) : Prop := ∀ a o, H a = some o → isT o = false → H' a = some o
theorem Keep.refl (H : Hp) : Keep H H := fun _ _ h _ => h
theorem Keep.trans {H H1 H2 : Hp} (a : Keep H H1) (b : Keep H1 H2) : Keep H H2 := fun x o h t => b x o (a x o h t) t

section
variable {K : PySem.W.Frag} {C : Cfg} {H H' : Hp}
theorem Keep.rd {a : Addr} {u : HO} (k : Keep H H') (h : Rd H a u) (t : isT u = false) : Rd H' a u := by
  rcases h with h | ⟨o, h⟩
  · exact .inl (k a _ h t)
  · exact .inr ⟨o, k a _ h rfl⟩
theorem Keep.sqT {a : Addr} {vs : List V} (k : Keep H H') (h : SqT K H a vs) : SqT K H' a vs := by
  rcases h with h | h
  · exact .inl (k.rd h rfl)
  · exact .inr h
theorem Keep.sqL {a : Addr} {vs : List V} (k : Keep H H') (h : SqL K H a vs) : SqL K H' a vs := by
  rcases h with h | h
  · exact .inl (k.rd h rfl)
  · exact .inr h
theorem Keep.slt {a c dx : Addr} {vs : List (Option V)} (k : Keep H H') (h : SlX.Slt H a c dx vs) : SlX.Slt H' a c dx vs := by
  rcases h with ⟨h, e⟩ | ⟨h, e⟩
  · exact .inl ⟨k _ _ h rfl, e⟩
  · exact .inr ⟨k _ _ h rfl, k _ _ e rfl⟩
mutual
theorem Rep.mono (k : Keep H H') : ∀ {v : V} {d : D}, Rep K C H v d → Rep K C H' v d
  | _, _, .non => .non
  | _, _, .bl b => .bl b
  | _, _, .int i => .int i
  | _, _, .str x => .str x
  | _, _, .tup h r => .tup (k.sqT h) (RepL.mono k r)
  | _, _, .lst h r => .lst (k _ _ h rfl) (RepL.mono k r)
  | _, _, .scr h => .scr (k.sqL h)
  | _, _, .dic h => .dic (k _ _ h rfl)
  | _, _, .frm h e t => .frm (k.slt h) e (k.sqT t)
theorem RepL.mono (k : Keep H H') : ∀ {vs : List V} {ds : List D}, RepL K C H vs ds → RepL K C H' vs ds
  | _, _, .nil => .nil
  | _, _, .cons r t => .cons (Rep.mono k r) (RepL.mono k t)
end
theorem RepL.length : ∀ {vs : List V} {ds : List D}, RepL K C H vs ds → vs.length = ds.length
  | _, _, .nil => rfl
  | _, _, .cons _ t => by rw [List.length_cons, List.length_cons, RepL.length t]
theorem RepL.append : ∀ {vs ws : List V} {ds es : List D}, RepL K C H vs ds → RepL K C H ws es → RepL K C H (vs ++ ws) (ds ++ es)
  | _, _, _, _, .nil, s => s
  | _, _, _, _, .cons r t, s => .cons r (RepL.append t s)
theorem RepL.get : ∀ {vs : List V} {ds : List D} {i : Nat} {d : D}, RepL K C H vs ds → ds[i]? = some d → ∃ v, vs[i]? = some v ∧ Rep K C H v d
  | _, _, _, _, .nil, e => by simp at e
  | _, _, 0, _, .cons r _, e => by simp at e; subst e; exact ⟨_, rfl, r⟩
  | _, _, i + 1, d, .cons _ t, e => by
    obtain ⟨v, h1, h2⟩ := RepL.get (i := i) (d := d) t (by simpa using e)
    exact ⟨v, by simpa using h1, h2⟩
theorem RepL.get' : ∀ {vs : List V} {ds : List D} {i : Nat} {v : V}, RepL K C H vs ds → vs[i]? = some v → ∃ d, ds[i]? = some d ∧ Rep K C H v d
  | _, _, _, _, .nil, e => by simp at e
  | _, _, 0, _, .cons r _, e => by simp at e; subst e; exact ⟨_, rfl, r⟩
  | _, _, i + 1, v, .cons _ t, e => by
    obtain ⟨d, h1, h2⟩ := RepL.get' (i := i) (v := v) t (by simpa using e)
    exact ⟨d, by simpa using h1, h2⟩
theorem RepL.set {v : V} {d : D} (r : Rep K C H v d) : ∀ {vs : List V} {ds : List D} (i : Nat), RepL K C H vs ds → RepL K C H (vs.set i v) (ds.set i d)
  | _, _, _, .nil => .nil
  | _, _, 0, .cons _ t => .cons r t
  | _, _, i + 1, .cons q t => .cons q (RepL.set r i t)
theorem RepL.take : ∀ {vs : List V} {ds : List D} (n : Nat), RepL K C H vs ds → RepL K C H (vs.take n) (ds.take n)
  | _, _, 0, _ => .nil
  | _, _, _ + 1, .nil => .nil
  | _, _, n + 1, .cons r t => .cons r (RepL.take n t)
theorem RepL.drop : ∀ {vs : List V} {ds : List D} (n : Nat), RepL K C H vs ds → RepL K C H (vs.drop n) (ds.drop n)
  | _, _, 0, r => r
  | _, _, _ + 1, .nil => .nil
  | _, _, n + 1, .cons _ t => RepL.drop n t
theorem RepL.nil_iff {ds : List D} (r : RepL K C H [] ds) : ds = [] := by cases r; rfl
theorem RepL.ints : ∀ {vs : List V} {ns : List Int}, RepL K C H vs (ns.map D.int) → vs = ns.map V.int
  | _, [], .nil => rfl
  | _, n :: ns, .cons (.int _) t => by
    rw [RepL.ints (ns := ns) t]
    rfl
theorem RepL.of_ints : ∀ ns : List Int, RepL K C H (ns.map V.int) (ns.map D.int)
  | [] => .nil
  | n :: ns => .cons (.int n) (RepL.of_ints ns)
theorem RepL.bls : ∀ {vs : List V} {bs : List Bool}, RepL K C H vs (bs.map D.bl) → vs = bs.map V.bl
  | _, [], .nil => rfl
  | _, b :: bs, .cons (.bl _) t => by
    rw [RepL.bls (bs := bs) t]
    rfl
end

/-- without the hidden objects -/
def out (hid : List Addr) (H : Hp) : Hp := fun a => if a ∈ hid then none else H a
theorem out_some {hid : List Addr} {H : Hp} {a : Addr} {o : HO} (h : out hid H a = some o) : a ∉ hid ∧ H a = some o := by
  unfold out at h
  by_cases e : a ∈ hid
  · rw [if_pos e] at h; cases h
  · rw [if_neg e] at h; exact ⟨e, h⟩
theorem out_of {hid : List Addr} {H : Hp} {a : Addr} {o : HO} (h : H a = some o) (e : a ∉ hid) : out hid H a = some o := by
  unfold out
  rw [if_neg e]
  exact h
theorem out_keep (hid : List Addr) (H : Hp) : Keep (out hid H) H := fun a o h _ => (out_some h).2
theorem out_cons (hid : List Addr) (p : Addr) (H : Hp) : Keep (out (p :: hid) H) (out hid H) := fun a o h _ => by
  obtain ⟨n, e⟩ := out_some h
  exact out_of e fun z => n (List.mem_cons_of_mem _ z)

/-- from H to H': all but the box at bx stays; tables stay tables -/
def Step (bx : Option Addr) (H H' : Hp) : Prop := ∀ a o, H a = some o → bx ≠ some a → (isT o = false → H' a = some o) ∧ (isT o = true → ∃ ps, H' a = some (.tbl ps))
theorem Step.refl (bx : Option Addr) (H : Hp) : Step bx H H := fun a o h _ => ⟨fun _ => h, fun t => by
  cases o <;> first
    | exact ⟨_, h⟩
    | cases t⟩
theorem Step.trans {bx : Option Addr} {H H1 H2 : Hp} (s : Step bx H H1) (t : Step bx H1 H2) : Step bx H H2 := fun a o h n =>
  ⟨fun e => (t a o ((s a o h n).1 e) n).1 e, fun e => by
    obtain ⟨ps, q⟩ := (s a o h n).2 e
    exact (t a _ q n).2 rfl⟩
theorem Step.weak {bx : Option Addr} {H H' : Hp} (s : Step none H H') : Step bx H H' := fun a o h _ => s a o h (fun z => nomatch z)
theorem Step.same {bx : Option Addr} {H H' : Hp} (s : Same H H') : Step bx H H' := fun a o h _ => ⟨fun _ => s a o h, fun t => by
  cases o <;> first
    | exact ⟨_, s a _ h⟩
    | cases t⟩
theorem Step.keep {bx : Option Addr} {H H' : Hp} {hid : List Addr} (s : Step bx H H') (hb : ∀ a, bx = some a → a ∈ hid) : Keep (out hid H) (out hid H') := fun a o h t => by
  obtain ⟨n, e⟩ := out_some h
  exact out_of ((s a o e fun z => n (hb a z)).1 t) n
theorem Step.keep0 {H H' : Hp} (s : Step none H H') : Keep H H' := fun a o h t => (s a o h fun z => nomatch z).1 t
theorem same_upd {H : Hp} {p : Addr} {o : HO} (h : H p = none) : Same H (upd H p o) := fun b x e => by
  rw [upd_ne (ne_of_none e h)]
  exact e

def TabsOk (C : Cfg) (H : Hp) : Prop := ∀ P ∈ C.tabs, GxR.TabG H P
theorem TabsOk.same {C : Cfg} {H H' : Hp} (s : Same H H') (t : TabsOk C H) : TabsOk C H' := fun P hP => by
  obtain ⟨ps, e, q⟩ := t P hP
  exact ⟨ps, s P _ e, q⟩

/-- the heap's part of what stands: the tables; the box, its items -/
structure Hs (K : PySem.W.Frag) (C : Cfg) (hid : List Addr) (bx : Option Addr) (B : List D) (H : Hp) : Prop where
  tabs : TabsOk C H
  live : ∀ a ∈ hid, ∃ o, H a = some o
  sub : ∀ a, bx = some a → a ∈ hid
  box : ∀ a, bx = some a → ∃ vs, H a = some (.lst vs) ∧ RepL K C (out hid H) vs B
section
variable {K : PySem.W.Frag} {C : Cfg} {hid : List Addr} {bx : Option Addr} {B B' : List D} {H H' : Hp}
theorem Hs.same (h : Hs K C hid bx B H) (s : Same H H') : Hs K C hid bx B H' :=
  ⟨h.tabs.same s, fun a ha => (h.live a ha).imp fun o e => s a o e, h.sub, fun a e => by
    obtain ⟨vs, h1, h2⟩ := h.box a e
    exact ⟨vs, s a _ h1, h2.mono ((Step.same (bx := bx) s).keep h.sub)⟩⟩
/-- behind a step that leaves the box alone -/
theorem Hs.after (h : Hs K C hid bx B H) (s : Step none H H') (t : TabsOk C H') : Hs K C hid bx B H' :=
  ⟨t, fun a ha => by
    obtain ⟨o, e⟩ := h.live a ha
    have q := s a o e fun z => nomatch z
    cases z : isT o with
    | false => exact ⟨o, q.1 z⟩
    | true =>
      obtain ⟨ps, e2⟩ := q.2 z
      exact ⟨_, e2⟩, h.sub, fun a e => by
    obtain ⟨vs, h1, h2⟩ := h.box a e
    exact ⟨vs, (s a _ h1 fun z => nomatch z).1 rfl, h2.mono ((Step.weak (bx := bx) s).keep h.sub)⟩⟩
theorem Hs.none (h : Hs K C hid bx B H) : Hs K C hid Option.none B' H := ⟨h.tabs, h.live, (fun _ e => nomatch e), (fun _ e => nomatch e)⟩
theorem Hs.fresh (h : Hs K C hid bx B H) {p : Addr} (n : H p = Option.none) : p ∉ hid := fun z => by
  obtain ⟨o, e⟩ := h.live p z
  rw [n] at e; cases e
/-- a new tuple, a new list -/
theorem Hs.newT (h : Hs K C hid bx B H) {p : Addr} {vs : List V} {ds : List D} (n : H p = Option.none) (r : RepL K C (out hid H) vs ds) : Rep K C (out hid (upd H p (.tup vs))) (.ref p) (.tup ds) :=
  .tup (SqT.of (out_of upd_same (h.fresh n))) (r.mono ((Step.same (bx := bx) (same_upd n)).keep h.sub))
theorem Hs.newL (h : Hs K C hid bx B H) {p : Addr} {vs : List V} {ds : List D} (n : H p = Option.none) (r : RepL K C (out hid H) vs ds) : Rep K C (out hid (upd H p (.lst vs))) (.ref p) (.lst ds) :=
  .lst (out_of upd_same (h.fresh n)) (r.mono ((Step.same (bx := bx) (same_upd n)).keep h.sub))
/-- what is fresh now was fresh before -/
theorem Step.fresh (h : Hs K C hid bx B' H') (s : Step bx H H') {p : Addr} (n : H' p = none) : H p = none := by
  cases e : H p with
  | none => rfl
  | some o =>
    by_cases hb : bx = some p
    · obtain ⟨vs, q, _⟩ := h.box p hb
      rw [n] at q; cases q
    · have q := s p o e hb
      cases t : isT o with
      | false => rw [q.1 t] at n; cases n
      | true => obtain ⟨ps, z⟩ := q.2 t; rw [z] at n; cases n
end

abbrev Env := List (Option D)
/-- slots and data -/
structure Ctx (K : PySem.W.Frag) (C : Cfg) (hid : List Addr) (bx : Option Addr) (bi : Option Nat) (ρ : Env) (B : List D) (σ : L2.St) (H : Hp) : Prop where
  hs : Hs K C hid bx B H
  len : ρ.length = σ.length
  get : ∀ (i : Nat) (d : D), ρ[i]? = some (some d) → ∃ v, σ[i]? = some (some v) ∧ Rep K C (out hid H) v d
  bs : ∀ j, bi = some j → ∃ a, bx = some a ∧ σ[j]? = some (some (.ref a))
  bn : bi = none → bx = none
section
variable {K : PySem.W.Frag} {C : Cfg} {hid : List Addr} {bx : Option Addr} {bi : Option Nat} {ρ : Env} {B B' : List D} {σ : L2.St} {H H' : Hp}
theorem Ctx.step (c : Ctx K C hid bx bi ρ B σ H) (s : Step bx H H') (h : Hs K C hid bx B' H') : Ctx K C hid bx bi ρ B' σ H' :=
  ⟨h, c.len, fun i d e => by
    obtain ⟨v, h1, h2⟩ := c.get i d e
    exact ⟨v, h1, h2.mono (s.keep h.sub)⟩, c.bs, c.bn⟩
theorem Ctx.set (c : Ctx K C hid bx bi ρ B σ H) {i : Nat} {v : V} {d : D} (r : Rep K C (out hid H) v d) (hi : bi ≠ some i) : Ctx K C hid bx bi (ρ.set i (some d)) B (σ.set i (some v)) H := by
  refine ⟨c.hs, by rw [List.length_set, List.length_set, c.len], fun j e h => ?_, fun j e => ?_, c.bn⟩
  · by_cases hj : i = j
    · subst hj
      rw [List.getElem?_set] at h
      simp only [if_true] at h
      split at h
      · rename_i hlt
        cases h
        refine ⟨v, ?_, r⟩
        rw [List.getElem?_set_self (by rw [← c.len]; exact hlt)]
      · cases h
    · rw [List.getElem?_set_ne hj] at h
      obtain ⟨w, h1, h2⟩ := c.get j e h
      exact ⟨w, by rw [List.getElem?_set_ne hj]; exact h1, h2⟩
  · obtain ⟨a, h1, h2⟩ := c.bs j e
    refine ⟨a, h1, ?_⟩
    rw [List.getElem?_set_ne (fun z => hi (by rw [z, e]))]
    exact h2
/-- forgetting a slot -/
theorem Ctx.unset (c : Ctx K C hid bx bi ρ B σ H) (i : Nat) (o : Option V) (hi : bi ≠ some i) : Ctx K C hid bx bi (ρ.set i none) B (σ.set i o) H := by
  refine ⟨c.hs, by rw [List.length_set, List.length_set, c.len], fun j e h => ?_, fun j e => ?_, c.bn⟩
  · by_cases hj : i = j
    · subst hj
      rw [List.getElem?_set] at h
      simp only [if_true] at h
      split at h <;> cases h
    · rw [List.getElem?_set_ne hj] at h
      obtain ⟨w, h1, h2⟩ := c.get j e h
      exact ⟨w, by rw [List.getElem?_set_ne hj]; exact h1, h2⟩
  · obtain ⟨a, h1, h2⟩ := c.bs j e
    refine ⟨a, h1, ?_⟩
    rw [List.getElem?_set_ne (fun z => hi (by rw [z, e]))]
    exact h2
end

/-! ### readings over data -/
abbrev DE := Env → List D → (D → List D → Prop) → Prop
abbrev DT := Env → List D → (Bool → List D → Prop) → Prop
abbrev DA := Env → List D → (List D → List D → Prop) → Prop
structure DEnds where
  nx : Env → List D → Prop
  rt : D → List D → Prop
abbrev DS := DEnds → Env → List D → Prop
/-- rows that a loop walks -/
abbrev DI := Env → List D → (List (List D) → List D → Prop) → Prop

section
variable (K : PySem.W.Frag) (C : Cfg) (bi : Option Nat)
def SE (t : TE) (r : DE) : Prop := ∀ (hid : List Addr) (bx : Option Addr) (ρ : Env) (B : List D) (σ : L2.St) (H : Hp) (QD : D → List D → Prop) (Q : VK),
  Ctx K C hid bx bi ρ B σ H → r ρ B QD → (∀ d B' v H', QD d B' → Step bx H H' → Hs K C hid bx B' H' → Rep K C (out hid H') v d → Q v H') → t σ H Q
/-- a new list that nothing else holds -/
def SL (t : TE) (r : DA) : Prop := ∀ (hid : List Addr) (bx : Option Addr) (ρ : Env) (B : List D) (σ : L2.St) (H : Hp) (QD : List D → List D → Prop) (Q : VK),
  Ctx K C hid bx bi ρ B σ H → r ρ B QD → (∀ ds B' p vs H', QD ds B' → Step bx H H' → Hs K C hid bx B' H' → H p = none → H' p = some (.lst vs) → RepL K C (out hid H') vs ds → Q (.ref p) H') → t σ H Q
def SA (t : TA) (r : DA) : Prop := ∀ (hid : List Addr) (bx : Option Addr) (ρ : Env) (B : List D) (σ : L2.St) (H : Hp) (QD : List D → List D → Prop) (Q : List V → Hp → Prop),
  Ctx K C hid bx bi ρ B σ H → r ρ B QD → (∀ ds B' vs H', QD ds B' → Step bx H H' → Hs K C hid bx B' H' → RepL K C (out hid H') vs ds → Q vs H') → t σ H Q
def ST (t : TT) (r : DT) : Prop := ∀ (hid : List Addr) (bx : Option Addr) (ρ : Env) (B : List D) (σ : L2.St) (H : Hp) (QD : Bool → List D → Prop) (Q : Bool → Hp → Prop),
  Ctx K C hid bx bi ρ B σ H → r ρ B QD → (∀ b B' H', QD b B' → Step bx H H' → Hs K C hid bx B' H' → Q b H') → t σ H Q
def SS (t : TS) (r : DS) : Prop := ∀ (hid : List Addr) (bx : Option Addr) (ρ : Env) (B : List D) (σ : L2.St) (H : Hp) (ED : DEnds) (D' : Ends),
  Ctx K C hid bx bi ρ B σ H → r ED ρ B → (∀ ρ' B' σ' H', ED.nx ρ' B' → Step bx H H' → Ctx K C hid bx bi ρ' B' σ' H' → D'.nx σ' H') →
  (∀ d B' v H', ED.rt d B' → Step bx H H' → Hs K C hid bx B' H' → Rep K C (out hid H') v d → D'.rt v H') → t D' σ H
def setV : L2.St → List Nat → List V → L2.St
  | σ, j :: js, v :: vs => setV (σ.set j (some v)) js vs
  | σ, _, _ => σ
def setD : Env → List Nat → List D → Env
  | ρ, j :: js, d :: ds => setD (ρ.set j (some d)) js ds
  | ρ, _, _ => ρ
/-- the iterator J, the target g: the rows, one a turn, whatever has been added to the heap since H1 -/
def RowsOk (hid : List Addr) (J : It) (g : TG) (js : List Nat) (rows : List (List D)) (H1 : Hp) : Prop := ∀ hid2 H2, Keep (out hid H1) (out hid2 H2) →
  (∀ i, i < rows.length → J.go i H2) ∧ J.stop rows.length H2 ∧
  ∀ i row x H3, rows[i]? = some row → J.yld i H2 x H3 → ∀ (σ : L2.St) (Kc : L2.St → Hp → Prop), (∀ vs H4, Same H2 H4 → vs.length = js.length → RepL K C (out hid2 H4) vs row → Kc (setV σ js vs) H4) → g x σ H3 Kc
def SI (wi : TI) (g : TG) (js : List Nat) (r : DI) : Prop := ∀ (hid : List Addr) (bx : Option Addr) (ρ : Env) (B : List D) (σ : L2.St) (H : Hp) (QD : List (List D) → List D → Prop) (R : It → Hp → Prop),
  Ctx K C hid bx bi ρ B σ H → r ρ B QD → (∀ rows B' J H', QD rows B' → Step bx H H' → Hs K C hid bx B' H' → RowsOk K C hid J g js rows H' → R J H') → wi σ H R
end
theorem Ctx.setRow {K : PySem.W.Frag} {C : Cfg} {hid : List Addr} {bx : Option Addr} {bi : Option Nat} {B : List D} {H : Hp} : ∀ {js : List Nat} {ρ : Env} {σ : L2.St} {vs : List V} {ds : List D},
    Ctx K C hid bx bi ρ B σ H → RepL K C (out hid H) vs ds → (∀ j ∈ js, bi ≠ some j) → Ctx K C hid bx bi (setD ρ js ds) B (setV σ js vs) H
  | [], _, _, _, _, c, _, _ => c
  | j :: js, _, _, _, _, c, .nil, _ => c
  | j :: js, _, _, _, _, c, .cons r t, hj => Ctx.setRow (js := js) (c.set r (hj j List.mem_cons_self)) t fun i hi => hj i (List.mem_cons_of_mem _ hi)
end KD
set_option Elab.async false
set_option linter.all false
set_option maxRecDepth 100000
set_option maxHeartbeats 2000000
/-! The D layer, 2: how heap readings of expressions keep to readings over data. -/
namespace KD
open PySem PySem.Spec PyProof.Rows L2

theorem size1000 {n : Nat} (h : n ≤ 100000) : n ≤ sizeLine := Nat.le_trans h (by decide)
section
variable {K : PySem.W.Frag} {C : Cfg} {bi : Option Nat} {ta tb tc te : TE} {ra rb rc : DE}

def eVar (i : Nat) : DE := fun ρ B Q => ∃ d, ρ[i]? = some (some d) ∧ Q d B
theorem se_var {i : Nat} : SE K C bi (tVar i) (eVar i) := by
  intro hid bx ρ B σ H QD Q c h k
  obtain ⟨d, e, q⟩ := h
  obtain ⟨v, ev, rv⟩ := c.get i d e
  exact ⟨v, ev, k d B v H q (Step.refl _ _) c.hs rv⟩
def eC (d : D) : DE := fun _ B Q => Q d B
theorem se_c {v : V} {d : D} (r : ∀ H, Rep K C H v d) : SE K C bi (tC v) (eC d) := by
  intro hid bx ρ B σ H QD Q c h k
  exact k d B v H h (Step.refl _ _) c.hs (r _)

/-! two values, one value -/
abbrev DR := D → D → (D → Prop) → Prop
def OpOk (K : PySem.W.Frag) (C : Cfg) (r : R2) (rr : DR) : Prop := ∀ (hid : List Addr) (bx : Option Addr) (B : List D) (H : Hp) (x y : V) (dx dy : D) (QD : D → Prop) (Q : VK), Hs K C hid bx B H →
  Rep K C (out hid H) x dx → Rep K C (out hid H) y dy → rr dx dy QD → (∀ d v H', QD d → Same H H' → Rep K C (out hid H') v d → Q v H') → r x y H Q
def eOp (rr : DR) (ra rb : DE) : DE := fun ρ B Q => ra ρ B fun x B1 => rb ρ B1 fun y B2 => rr x y fun d => Q d B2
theorem se_op {r : R2} {rr : DR} (ho : OpOk K C r rr) (ha : SE K C bi ta ra) (hb : SE K C bi tb rb) : SE K C bi (tOp r ta tb) (eOp rr ra rb) := by
  intro hid bx ρ B σ H QD Q c h k
  refine ha hid bx ρ B σ H _ _ c h fun x B1 v H1 q1 s1 h1 r1 => ?_
  refine hb hid bx ρ B1 σ H1 _ _ (c.step s1 h1) q1 fun y B2 w H2 q2 s2 h2 r2 => ?_
  refine ho hid bx B2 H2 v w x y _ _ h2 (r1.mono (s2.keep h2.sub)) r2 q2 fun d u H3 q3 s3 r3 => ?_
  exact k d B2 u H3 q3 (s1.trans (s2.trans (Step.same s3))) (h2.same s3) r3
abbrev DU := D → (D → Prop) → Prop
def UnOk (K : PySem.W.Frag) (C : Cfg) (r : V → Hp → VK → Prop) (rr : DU) : Prop := ∀ (hid : List Addr) (bx : Option Addr) (B : List D) (H : Hp) (x : V) (dx : D) (QD : D → Prop) (Q : VK), Hs K C hid bx B H →
  Rep K C (out hid H) x dx → rr dx QD → (∀ d v H', QD d → Same H H' → Rep K C (out hid H') v d → Q v H') → r x H Q
def eUn (rr : DU) (ra : DE) : DE := fun ρ B Q => ra ρ B fun x B1 => rr x fun d => Q d B1
theorem se_un {r : V → Hp → VK → Prop} {rr : DU} (ho : UnOk K C r rr) (ha : SE K C bi ta ra) : SE K C bi (tUn r ta) (eUn rr ra) := by
  intro hid bx ρ B σ H QD Q c h k
  refine ha hid bx ρ B σ H _ _ c h fun x B1 v H1 q1 s1 h1 r1 => ?_
  refine ho hid bx B1 H1 v x _ _ h1 r1 q1 fun d u H3 q3 s3 r3 => ?_
  exact k d B1 u H3 q3 (s1.trans (Step.same s3)) (h1.same s3) r3
/-- a built-in's call with one value -/
def rOne (r : List V → Hp → VK → Prop) : V → Hp → VK → Prop := fun x H Q => r [x] H Q
theorem se_cb1 {r : List V → Hp → VK → Prop} {rr : DU} (ho : UnOk K C (rOne r) rr) (ha : SE K C bi ta ra) : SE K C bi (tCB r (tCons ta tNil)) (eUn rr ra) := by
  intro hid bx ρ B σ H QD Q c h k
  refine ha hid bx ρ B σ H _ _ c h fun x B1 v H1 q1 s1 h1 r1 => ?_
  refine ho hid bx B1 H1 v x _ _ h1 r1 q1 fun d u H3 q3 s3 r3 => ?_
  exact k d B1 u H3 q3 (s1.trans (Step.same s3)) (h1.same s3) r3
def rTwo (r : List V → Hp → VK → Prop) : R2 := fun x y H Q => r [x, y] H Q
theorem se_cb2 {r : List V → Hp → VK → Prop} {rr : DR} (ho : OpOk K C (rTwo r) rr) (ha : SE K C bi ta ra) (hb : SE K C bi tb rb) : SE K C bi (tCB r (tCons ta (tCons tb tNil))) (eOp rr ra rb) := by
  intro hid bx ρ B σ H QD Q c h k
  refine ha hid bx ρ B σ H _ _ c h fun x B1 v H1 q1 s1 h1 r1 => ?_
  refine hb hid bx ρ B1 σ H1 _ _ (c.step s1 h1) q1 fun y B2 w H2 q2 s2 h2 r2 => ?_
  refine ho hid bx B2 H2 v w x y _ _ h2 (r1.mono (s2.keep h2.sub)) r2 q2 fun d u H3 q3 s3 r3 => ?_
  exact k d B2 u H3 q3 (s1.trans (s2.trans (Step.same s3))) (h2.same s3) r3

/-! argument lists, displays -/
def aNil : DA := fun _ B Q => Q [] B
def aCons (ra : DE) (rr : DA) : DA := fun ρ B Q => ra ρ B fun x B1 => rr ρ B1 fun xs B2 => Q (x :: xs) B2
def aStar (ra : DE) (rr : DA) : DA := fun ρ B Q => ra ρ B fun x B1 => ∃ xs, (x = .tup xs ∨ x = .lst xs) ∧ rr ρ B1 fun ys B2 => Q (xs ++ ys) B2
variable {t u : TA} {rt ru : DA}
theorem sa_nil : SA K C bi tNil aNil := fun hid bx ρ B σ H QD Q c h k => k [] B [] H h (Step.refl _ _) c.hs .nil
theorem sa_cons (ha : SE K C bi ta ra) (hr : SA K C bi t rt) : SA K C bi (tCons ta t) (aCons ra rt) := by
  intro hid bx ρ B σ H QD Q c h k
  refine ha hid bx ρ B σ H _ _ c h fun x B1 v H1 q1 s1 h1 r1 => ?_
  refine hr hid bx ρ B1 σ H1 _ _ (c.step s1 h1) q1 fun xs B2 vs H2 q2 s2 h2 r2 => ?_
  exact k (x :: xs) B2 (v :: vs) H2 q2 (s1.trans s2) h2 (.cons (r1.mono (s2.keep h2.sub)) r2)
theorem sa_star (ha : SE K C bi ta ra) (hr : SA K C bi t rt) : SA K C bi (StX.tStar K ta t) (aStar ra rt) := by
  intro hid bx ρ B σ H QD Q c h k
  refine ha hid bx ρ B σ H _ _ c h fun x B1 v H1 q1 s1 h1 r1 => ?_
  obtain ⟨ds, ed, q1⟩ := q1
  have go : ∀ (p : Addr) (ws : List V), (SqT K H1 p ws ∨ SqL K H1 p ws) → v = .ref p → RepL K C (out hid H1) ws ds → ∃ p xs, v = V.ref p ∧ (SqT K H1 p xs ∨ SqL K H1 p xs) ∧ t σ H1 fun ys H2 => Q (xs ++ ys) H2 := by
    intro p ws hp ev rl
    refine ⟨p, ws, ev, hp, ?_⟩
    refine hr hid bx ρ B1 σ H1 _ _ (c.step s1 h1) q1 fun ys B2 us H2 q2 s2 h2 r2 => ?_
    exact k (ds ++ ys) B2 (ws ++ us) H2 q2 (s1.trans s2) h2 ((rl.mono (s2.keep h2.sub)).append r2)
  rcases ed with ed | ed
  · subst ed
    cases r1 with
    | tup hp rl => exact go _ _ (.inl ((out_keep hid H1).sqT hp)) rfl rl
  · subst ed
    cases r1 with
    | lst hp rl => exact go _ _ (.inr (SqL.of (out_some hp).2)) rfl rl
def eTup (ra : DA) : DE := fun ρ B Q => ra ρ B fun ds B1 => ds.length ≤ 100000 ∧ Q (.tup ds) B1
theorem se_tup (ha : SA K C bi t rt) : SE K C bi (tTup t) (eTup rt) := by
  intro hid bx ρ B σ H QD Q c h k
  refine ha hid bx ρ B σ H _ _ c h fun ds B1 vs H1 q1 s1 h1 r1 => ?_
  obtain ⟨hl, q1⟩ := q1
  refine ⟨size1000 (by rw [r1.length]; exact hl), fun p hp => ?_⟩
  exact k _ B1 _ _ q1 (s1.trans (Step.same (same_upd hp))) (h1.same (same_upd hp)) (h1.newT hp r1)
/-- a written list: a new one -/
def lDisp (ra : DA) : DA := fun ρ B Q => ra ρ B fun ds B1 => ds.length ≤ 100000 ∧ Q ds B1
theorem sl_lst (ha : SA K C bi t rt) : SL K C bi (tLst t) (lDisp rt) := by
  intro hid bx ρ B σ H QD Q c h k
  refine ha hid bx ρ B σ H _ _ c h fun ds B1 vs H1 q1 s1 h1 r1 => ?_
  obtain ⟨hl, q1⟩ := q1
  refine ⟨size1000 (by rw [r1.length]; exact hl), fun p hp => ?_⟩
  exact k ds B1 p vs _ q1 (s1.trans (Step.same (same_upd hp))) (h1.same (same_upd hp)) (Step.fresh h1 s1 hp) upd_same (r1.mono ((Step.same (bx := bx) (same_upd hp)).keep h1.sub))
/-- a new list as a value -/
def eOfL (rl : DA) : DE := fun ρ B Q => rl ρ B fun ds B1 => Q (.lst ds) B1
theorem se_ofL {t : TE} (ha : SL K C bi t rt) : SE K C bi t (eOfL rt) := by
  intro hid bx ρ B σ H QD Q c h k
  refine ha hid bx ρ B σ H _ _ c h fun ds B1 p vs H1 q1 s1 h1 n e r1 => ?_
  have np : p ∉ hid := c.hs.fresh n
  exact k _ B1 _ _ q1 s1 h1 (.lst (out_of e np) r1)

/-! tests -/
variable {tt tu : TT} {rT rU : DT}
def tstE (ra : DE) : DT := fun ρ B Q => ra ρ B fun d B1 => ∃ b, d = .bl b ∧ Q b B1
theorem st_B (ha : SE K C bi ta ra) : ST K C bi (tB ta) (tstE ra) := by
  intro hid bx ρ B σ H QD Q c h k
  refine ha hid bx ρ B σ H _ _ c h fun d B1 v H1 q1 s1 h1 r1 => ?_
  obtain ⟨b, e, q1⟩ := q1
  subst e
  cases r1
  exact ⟨b, rfl, k b B1 H1 q1 s1 h1⟩
theorem st_Test (ha : SE K C bi ta ra) : ST K C bi (tTest ta) (tstE ra) := st_B ha
def tstAnd (a b : DT) : DT := fun ρ B Q => a ρ B fun x B1 => if x = true then b ρ B1 Q else Q false B1
def tstOr (a b : DT) : DT := fun ρ B Q => a ρ B fun x B1 => if x = true then Q true B1 else b ρ B1 Q
def tstNot (a : DT) : DT := fun ρ B Q => a ρ B fun x B1 => Q (!x) B1
theorem st_and (ha : ST K C bi tt rT) (hb : ST K C bi tu rU) : ST K C bi (tAnd tt tu) (tstAnd rT rU) := by
  intro hid bx ρ B σ H QD Q c h k
  refine ha hid bx ρ B σ H _ _ c h fun b B1 H1 q1 s1 h1 => ?_
  cases b with
  | true =>
    rw [if_pos rfl] at q1 ⊢
    exact hb hid bx ρ B1 σ H1 _ _ (c.step s1 h1) q1 fun b B2 H2 q2 s2 h2 => k b B2 H2 q2 (s1.trans s2) h2
  | false =>
    rw [if_neg Bool.false_ne_true] at q1 ⊢
    exact k false B1 H1 q1 s1 h1
theorem st_or (ha : ST K C bi tt rT) (hb : ST K C bi tu rU) : ST K C bi (tOr tt tu) (tstOr rT rU) := by
  intro hid bx ρ B σ H QD Q c h k
  refine ha hid bx ρ B σ H _ _ c h fun b B1 H1 q1 s1 h1 => ?_
  cases b with
  | true =>
    rw [if_pos rfl] at q1 ⊢
    exact k true B1 H1 q1 s1 h1
  | false =>
    rw [if_neg Bool.false_ne_true] at q1 ⊢
    exact hb hid bx ρ B1 σ H1 _ _ (c.step s1 h1) q1 fun b B2 H2 q2 s2 h2 => k b B2 H2 q2 (s1.trans s2) h2
theorem st_not (ha : ST K C bi tt rT) : ST K C bi (tNot tt) (tstNot rT) := by
  intro hid bx ρ B σ H QD Q c h k
  exact ha hid bx ρ B σ H _ _ c h fun b B1 H1 q1 s1 h1 => k (!b) B1 H1 q1 s1 h1
def tstYes : DT := fun _ B Q => Q true B
theorem st_yes : ST K C bi tYes tstYes := fun hid bx ρ B σ H QD Q c h k => k true B H h (Step.refl _ _) c.hs
/-! .. as values -/
def eAndV (a b : DE) : DE := fun ρ B Q => a ρ B fun x B1 => ∃ k, x = .bl k ∧ if k = true then b ρ B1 Q else Q (.bl false) B1
def eOrV (a b : DE) : DE := fun ρ B Q => a ρ B fun x B1 => ∃ k, x = .bl k ∧ if k = true then Q (.bl true) B1 else b ρ B1 Q
def eNotV (a : DE) : DE := fun ρ B Q => a ρ B fun x B1 => ∃ k, x = .bl k ∧ Q (.bl (!k)) B1
theorem se_andV (ha : SE K C bi ta ra) (hb : SE K C bi tb rb) : SE K C bi (tAndV ta tb) (eAndV ra rb) := by
  intro hid bx ρ B σ H QD Q c h k
  refine ha hid bx ρ B σ H _ _ c h fun d B1 v H1 q1 s1 h1 r1 => ?_
  obtain ⟨b, e, q1⟩ := q1
  subst e
  cases r1
  refine ⟨b, rfl, ?_⟩
  cases b with
  | true =>
    rw [if_pos rfl] at q1 ⊢
    exact hb hid bx ρ B1 σ H1 _ _ (c.step s1 h1) q1 fun d B2 v H2 q2 s2 h2 r2 => k d B2 v H2 q2 (s1.trans s2) h2 r2
  | false =>
    rw [if_neg Bool.false_ne_true] at q1 ⊢
    exact k _ B1 _ H1 q1 s1 h1 (.bl false)
theorem se_orV (ha : SE K C bi ta ra) (hb : SE K C bi tb rb) : SE K C bi (tOrV ta tb) (eOrV ra rb) := by
  intro hid bx ρ B σ H QD Q c h k
  refine ha hid bx ρ B σ H _ _ c h fun d B1 v H1 q1 s1 h1 r1 => ?_
  obtain ⟨b, e, q1⟩ := q1
  subst e
  cases r1
  refine ⟨b, rfl, ?_⟩
  cases b with
  | true =>
    rw [if_pos rfl] at q1 ⊢
    exact k _ B1 _ H1 q1 s1 h1 (.bl true)
  | false =>
    rw [if_neg Bool.false_ne_true] at q1 ⊢
    exact hb hid bx ρ B1 σ H1 _ _ (c.step s1 h1) q1 fun d B2 v H2 q2 s2 h2 r2 => k d B2 v H2 q2 (s1.trans s2) h2 r2
theorem se_notV (ha : SE K C bi ta ra) : SE K C bi (tNotV ta) (eNotV ra) := by
  intro hid bx ρ B σ H QD Q c h k
  refine ha hid bx ρ B σ H _ _ c h fun d B1 v H1 q1 s1 h1 r1 => ?_
  obtain ⟨b, e, q1⟩ := q1
  subst e
  cases r1
  exact ⟨b, rfl, k _ B1 _ H1 q1 s1 h1 (.bl _)⟩
def eIf (t : DT) (a b : DE) : DE := fun ρ B Q => t ρ B fun x B1 => if x = true then a ρ B1 Q else b ρ B1 Q
theorem se_if (ht : ST K C bi tt rT) (ha : SE K C bi ta ra) (hb : SE K C bi tb rb) : SE K C bi (tIf tt ta tb) (eIf rT ra rb) := by
  intro hid bx ρ B σ H QD Q c h k
  refine ht hid bx ρ B σ H _ _ c h fun b B1 H1 q1 s1 h1 => ?_
  cases b with
  | true =>
    rw [if_pos rfl] at q1 ⊢
    exact ha hid bx ρ B1 σ H1 _ _ (c.step s1 h1) q1 fun d B2 v H2 q2 s2 h2 r2 => k d B2 v H2 q2 (s1.trans s2) h2 r2
  | false =>
    rw [if_neg Bool.false_ne_true] at q1 ⊢
    exact hb hid bx ρ B1 σ H1 _ _ (c.step s1 h1) q1 fun d B2 v H2 q2 s2 h2 r2 => k d B2 v H2 q2 (s1.trans s2) h2 r2
/-- a chain of two comparisons -/
def eChain (r r' : DR) (a b e : DE) : DE := fun ρ B Q => a ρ B fun x B1 => b ρ B1 fun y B2 => r x y fun z => ∃ k, z = .bl k ∧ if k = true then e ρ B2 fun w B3 => r' y w fun d => Q d B3 else Q (.bl false) B2
theorem se_chain {r r' : R2} {rr rr' : DR} (ho : OpOk K C r rr) (ho' : OpOk K C r' rr') (ha : SE K C bi ta ra) (hb : SE K C bi tb rb) (hc : SE K C bi tc rc) : SE K C bi (tChain r r' ta tb tc) (eChain rr rr' ra rb rc) := by
  intro hid bx ρ B σ H QD Q c h k
  refine ha hid bx ρ B σ H _ _ c h fun x B1 v H1 q1 s1 h1 r1 => ?_
  refine hb hid bx ρ B1 σ H1 _ _ (c.step s1 h1) q1 fun y B2 w H2 q2 s2 h2 r2 => ?_
  refine ho hid bx B2 H2 v w x y _ _ h2 (r1.mono (s2.keep h2.sub)) r2 q2 fun z u H3 q3 s3 r3 => ?_
  obtain ⟨b, e, q3⟩ := q3
  subst e
  cases r3
  refine ⟨b, rfl, ?_⟩
  have h3 := h2.same s3
  have s13 : Step bx H H3 := s1.trans (s2.trans (Step.same s3))
  cases b with
  | false =>
    rw [if_neg Bool.false_ne_true] at q3 ⊢
    exact k _ B2 _ H3 q3 s13 h3 (.bl false)
  | true =>
    rw [if_pos rfl] at q3 ⊢
    refine hc hid bx ρ B2 σ H3 _ _ (c.step s13 h3) q3 fun d B4 v4 H4 q4 s4 h4 r4 => ?_
    refine ho' hid bx B4 H4 w v4 y d _ _ h4 (r2.mono (((Step.same (bx := bx) s3).trans s4).keep h4.sub)) r4 q4 fun d5 v5 H5 q5 s5 r5 => ?_
    exact k d5 B4 v5 H5 q5 (s13.trans (s4.trans (Step.same s5))) (h4.same s5) r5

/-! ### operations -/
def oI (c : Int → Int → Prop) (g : Int → Int → D) : DR := fun x y Q => ∃ i j, x = .int i ∧ y = .int j ∧ c i j ∧ Q (g i j)
def oI0 (g : Int → Int → D) : DR := fun x y Q => ∃ i j, x = .int i ∧ y = .int j ∧ Q (g i j)
theorem ok_rI {c : Int → Int → Prop} {g : Int → Int → V} {g' : Int → Int → D} (hg : ∀ i j H, Rep K C H (g i j) (g' i j)) : OpOk K C (rI c g) (oI c g') := by
  intro hid bx B H x y dx dy QD Q h rx ry q k
  obtain ⟨i, j, e1, e2, hc, q⟩ := q
  subst e1 e2
  cases rx
  cases ry
  exact ⟨i, j, rfl, rfl, hc, k _ _ H q (Same.refl H) (hg i j _)⟩
theorem ok_rI0 {g : Int → Int → V} {g' : Int → Int → D} (hg : ∀ i j H, Rep K C H (g i j) (g' i j)) : OpOk K C (rI0 g) (oI0 g') := by
  intro hid bx B H x y dx dy QD Q h rx ry q k
  obtain ⟨i, j, e1, e2, q⟩ := q
  subst e1 e2
  cases rx
  cases ry
  exact ⟨i, j, rfl, rfl, k _ _ H q (Same.refl H) (hg i j _)⟩
def oU (g : Int → D) : DU := fun x Q => ∃ i, x = .int i ∧ Q (g i)
theorem ok_rU {g : Int → V} {g' : Int → D} (hg : ∀ i H, Rep K C H (g i) (g' i)) : UnOk K C (L2.rU g) (oU g') := by
  intro hid bx B H x dx QD Q h rx q k
  obtain ⟨i, e1, q⟩ := q
  subst e1
  cases rx
  exact ⟨i, rfl, k _ _ H q (Same.refl H) (hg i _)⟩
/-- == and != of two ints, of two texts -/
def oEqI : DR := oI0 fun i j => .bl (decide (i = j))
def oNeI : DR := oI0 fun i j => .bl (!decide (i = j))
def oEqS : DR := fun x y Q => ∃ a b, x = .str a ∧ y = .str b ∧ Q (.bl (decide (a = b)))
def oNeS : DR := fun x y Q => ∃ a b, x = .str a ∧ y = .str b ∧ Q (.bl (!decide (a = b)))
theorem dec_iff {p q : Prop} [Decidable p] [Decidable q] (h : p ↔ q) : decide p = decide q := by
  by_cases e : p
  · rw [decide_eq_true e, decide_eq_true (h.mp e)]
  · rw [decide_eq_false e, decide_eq_false fun z => e (h.mpr z)]
theorem ok_eqI : OpOk K C rEq oEqI := by
  intro hid bx B H x y dx dy QD Q h rx ry q k
  obtain ⟨i, j, e1, e2, q⟩ := q
  subst e1 e2
  cases rx
  cases ry
  refine ⟨rfl, ?_⟩
  rw [show decide (V.int i = V.int j) = decide (i = j) from dec_iff ⟨fun e => by injection e, fun e => by rw [e]⟩]
  exact k _ _ H q (Same.refl H) (.bl _)
theorem ok_neI : OpOk K C rNe oNeI := by
  intro hid bx B H x y dx dy QD Q h rx ry q k
  obtain ⟨i, j, e1, e2, q⟩ := q
  subst e1 e2
  cases rx
  cases ry
  refine ⟨rfl, ?_⟩
  rw [show decide (V.int i = V.int j) = decide (i = j) from dec_iff ⟨fun e => by injection e, fun e => by rw [e]⟩]
  exact k _ _ H q (Same.refl H) (.bl _)
theorem ok_eqS : OpOk K C rEq oEqS := by
  intro hid bx B H x y dx dy QD Q h rx ry q k
  obtain ⟨i, j, e1, e2, q⟩ := q
  subst e1 e2
  cases rx
  cases ry
  refine ⟨rfl, ?_⟩
  rw [show decide (V.str i = V.str j) = decide (i = j) from dec_iff ⟨fun e => by injection e, fun e => by rw [e]⟩]
  exact k _ _ H q (Same.refl H) (.bl _)
theorem ok_neS : OpOk K C rNe oNeS := by
  intro hid bx B H x y dx dy QD Q h rx ry q k
  obtain ⟨i, j, e1, e2, q⟩ := q
  subst e1 e2
  cases rx
  cases ry
  refine ⟨rfl, ?_⟩
  rw [show decide (V.str i = V.str j) = decide (i = j) from dec_iff ⟨fun e => by injection e, fun e => by rw [e]⟩]
  exact k _ _ H q (Same.refl H) (.bl _)

/-! data as the library's data -/
mutual
def toP : D → Option PyData
  | .non => some .none
  | .bl b => some (.bool b)
  | .int i => some (.int i)
  | .str x => some (.str x)
  | .tup xs => (toPs xs).map .tuple
  | .lst xs => (toPs xs).map .list
  | .scr _ => none
  | .dic => none
  | .frm _ => none
def toPs : List D → Option (List PyData)
  | [] => some []
  | x :: xs => (toP x).bind fun p => (toPs xs).map fun ps => p :: ps
end
mutual
theorem rep_dp {H : Hp} : ∀ {v : V} {d : D}, Rep K C H v d → ∀ p, toP d = some p → Dp K H v p
  | _, _, .non, p, e => by simp only [toP] at e; cases e; exact .non
  | _, _, .bl b, p, e => by simp only [toP] at e; cases e; exact .bl b
  | _, _, .int i, p, e => by simp only [toP] at e; cases e; exact .int i
  | _, _, .str x, p, e => by simp only [toP] at e; cases e; exact .str x
  | _, _, .tup h r, p, e => by
    simp only [toP, Option.map_eq_some_iff] at e
    obtain ⟨ps, e1, e2⟩ := e
    subst e2
    exact .tup h (rep_dps r ps e1)
  | _, _, .lst h r, p, e => by
    simp only [toP, Option.map_eq_some_iff] at e
    obtain ⟨ps, e1, e2⟩ := e
    subst e2
    exact .lst (SqL.of h) (rep_dps r ps e1)
  | _, _, .scr _, p, e => by simp only [toP] at e; cases e
  | _, _, .dic _, p, e => by simp only [toP] at e; cases e
  | _, _, .frm _ _ _, p, e => by simp only [toP] at e; cases e
theorem rep_dps {H : Hp} : ∀ {vs : List V} {ds : List D}, RepL K C H vs ds → ∀ ps, toPs ds = some ps → DpAll K H vs ps
  | _, _, .nil, ps, e => by simp only [toPs] at e; cases e; exact .nil
  | _, _, .cons r t, ps, e => by
    simp only [toPs, Option.bind_eq_some_iff, Option.map_eq_some_iff] at e
    obtain ⟨p, e1, qs, e2, e3⟩ := e
    subst e3
    exact .cons (rep_dp r p e1) (rep_dps t qs e2)
end
def oEqD : DR := fun x y Q => ∃ p q, toP x = some p ∧ toP y = some q ∧ SeqAt.shaped p = true ∧ SeqAt.shaped q = true ∧ Q (.bl (PyData.eqv p q))
def oNeD : DR := fun x y Q => ∃ p q, toP x = some p ∧ toP y = some q ∧ SeqAt.shaped p = true ∧ SeqAt.shaped q = true ∧ Q (.bl (!PyData.eqv p q))
theorem ok_eqD : OpOk K C (rEqD K) oEqD := by
  intro hid bx B H x y dx dy QD Q h rx ry q k
  obtain ⟨p, p', e1, e2, s1, s2, q⟩ := q
  exact ⟨p, p', rep_dp (rx.mono (out_keep hid H)) p e1, rep_dp (ry.mono (out_keep hid H)) p' e2, s1, s2, k _ _ H q (Same.refl H) (.bl _)⟩
theorem ok_neD : OpOk K C (rNeD K) oNeD := by
  intro hid bx B H x y dx dy QD Q h rx ry q k
  obtain ⟨p, p', e1, e2, s1, s2, q⟩ := q
  exact ⟨p, p', rep_dp (rx.mono (out_keep hid H)) p e1, rep_dp (ry.mono (out_keep hid H)) p' e2, s1, s2, k _ _ H q (Same.refl H) (.bl _)⟩

/-! subscripts, slices, sums of tuples and lists -/
theorem repL_at {H : Hp} {vs : List V} {ds : List D} {i : Int} {d : D} (r : RepL K C H vs ds) (e : atI ds i = some d) : ∃ v, atI vs i = some v ∧ Rep K C H v d := by
  unfold atI at e ⊢
  rw [r.length]
  cases q : ixN ds.length i with
  | none => rw [q] at e; cases e
  | some j =>
    rw [q] at e
    obtain ⟨v, e1, r1⟩ := r.get (show ds[j]? = some d from e)
    exact ⟨v, e1, r1⟩
def oIxT : DR := fun x y Q => ∃ ds i d, x = .tup ds ∧ y = .int i ∧ atI ds i = some d ∧ Q d
def oIxL : DR := fun x y Q => ∃ ds i d, x = .lst ds ∧ y = .int i ∧ atI ds i = some d ∧ Q d
def oIxC : DR := fun x y Q => ∃ ns i j, x = .scr ns ∧ y = .int i ∧ atI ns i = some j ∧ Q (.int j)
theorem ok_ixT : OpOk K C (rIxT K) oIxT := by
  intro hid bx B H x y dx dy QD Q h rx ry q k
  obtain ⟨ds, i, d, e1, e2, e3, q⟩ := q
  subst e1 e2
  cases ry
  cases rx with
  | tup hp r =>
    obtain ⟨v, e4, r4⟩ := repL_at r e3
    exact ⟨_, _, i, v, rfl, rfl, (out_keep hid H).sqT hp, e4, k _ _ H q (Same.refl H) r4⟩
theorem ok_ixL : OpOk K C (rIxL K) oIxL := by
  intro hid bx B H x y dx dy QD Q h rx ry q k
  obtain ⟨ds, i, d, e1, e2, e3, q⟩ := q
  subst e1 e2
  cases ry
  cases rx with
  | lst hp r =>
    obtain ⟨v, e4, r4⟩ := repL_at r e3
    exact ⟨_, _, i, v, rfl, rfl, SqL.of (out_some hp).2, e4, k _ _ H q (Same.refl H) r4⟩
theorem atI_map {α β : Type} (f : α → β) (xs : List α) (i : Int) : atI (xs.map f) i = (atI xs i).map f := by
  unfold atI
  rw [List.length_map]
  cases ixN xs.length i with
  | none => rfl
  | some j =>
    show (xs.map f)[j]? = xs[j]?.map f
    rw [List.getElem?_map]
theorem ok_ixC : OpOk K C (rIxL K) oIxC := by
  intro hid bx B H x y dx dy QD Q h rx ry q k
  obtain ⟨ns, i, j, e1, e2, e3, q⟩ := q
  subst e1 e2
  cases ry
  cases rx with
  | scr hp =>
    exact ⟨_, _, i, .int j, rfl, rfl, (out_keep hid H).sqL hp, by rw [atI_map, e3]; rfl, k _ _ H q (Same.refl H) (.int j)⟩
/-- [a:b] of any list -/
def cut {α : Type} (xs : List α) (lo hi : Option Int) : List α := (xs.drop (HT.sIx xs.length 0 lo)).take (HT.sIx xs.length xs.length hi - HT.sIx xs.length 0 lo)
theorem RepL.cut {H : Hp} {vs : List V} {ds : List D} (r : RepL K C H vs ds) (lo hi : Option Int) : RepL K C H (cutV vs lo hi) (KD.cut ds lo hi) := by
  unfold cutV KD.cut
  rw [r.length]
  exact (r.drop _).take _
abbrev DO := Env → List D → (Option Int → List D → Prop) → Prop
def SO (K : PySem.W.Frag) (C : Cfg) (bi : Option Nat) (t : TO) (r : DO) : Prop := ∀ (hid : List Addr) (bx : Option Addr) (ρ : Env) (B : List D) (σ : L2.St) (H : Hp) (QD : Option Int → List D → Prop) (Q : Option Int → Hp → Prop),
  Ctx K C hid bx bi ρ B σ H → r ρ B QD → (∀ o B' H', QD o B' → Step bx H H' → Hs K C hid bx B' H' → Q o H') → t σ H Q
def pNone : DO := fun _ B Q => Q none B
def pSome (ra : DE) : DO := fun ρ B Q => ra ρ B fun d B1 => ∃ i, d = .int i ∧ Q (some i) B1
theorem so_none : SO K C bi tNoPart pNone := fun hid bx ρ B σ H QD Q c h k => k none B H h (Step.refl _ _) c.hs
theorem so_some (ha : SE K C bi ta ra) : SO K C bi (tPart ta) (pSome ra) := by
  intro hid bx ρ B σ H QD Q c h k
  refine ha hid bx ρ B σ H _ _ c h fun d B1 v H1 q1 s1 h1 r1 => ?_
  obtain ⟨i, e, q1⟩ := q1
  subst e
  cases r1
  exact ⟨i, rfl, k _ B1 H1 q1 s1 h1⟩
variable {tl th : TO} {rl rh : DO}
def eSlT (ra : DE) (rl rh : DO) : DE := fun ρ B Q => ra ρ B fun x B1 => rl ρ B1 fun lo B2 => rh ρ B2 fun hi B3 => ∃ ds, x = .tup ds ∧ Q (.tup (cut ds lo hi)) B3
theorem cut_whole {α : Type} {xs : List α} {lo hi : Option Int} (h1 : HT.sIx xs.length 0 lo = 0) (h2 : HT.sIx xs.length xs.length hi = xs.length) : cut xs lo hi = xs := by
  unfold cut
  rw [h1, h2]
  simp
theorem se_slT (ha : SE K C bi ta ra) (hl : SO K C bi tl rl) (hh : SO K C bi th rh) : SE K C bi (tSl (rSlA K) ta tl th) (eSlT ra rl rh) := by
  intro hid bx ρ B σ H QD Q c h k
  refine ha hid bx ρ B σ H _ _ c h fun x B1 v H1 q1 s1 h1 r1 => ?_
  refine hl hid bx ρ B1 σ H1 _ _ (c.step s1 h1) q1 fun lo B2 H2 q2 s2 h2 => ?_
  refine hh hid bx ρ B2 σ H2 _ _ (c.step (s1.trans s2) h2) q2 fun hi B3 H3 q3 s3 h3 => ?_
  obtain ⟨ds, e, q3⟩ := q3
  subst e
  have r3 := r1.mono ((s2.trans s3).keep h3.sub)
  have s13 : Step bx H H3 := s1.trans (s2.trans s3)
  cases r3 with
  | tup hp r =>
    refine ⟨_, _, rfl, (out_keep hid H3).sqT hp, fun hw => ?_, fun hw p hp2 => ?_⟩
    · rw [r.length] at hw
      rw [cut_whole hw.1 hw.2] at q3
      exact k _ B3 _ H3 q3 s13 h3 (.tup hp r)
    · exact k _ B3 _ _ q3 (s13.trans (Step.same (same_upd hp2))) (h3.same (same_upd hp2)) (h3.newT hp2 (r.cut lo hi))
/-- .. of a list: a new one -/
def lSl (ra : DE) (rl rh : DO) : DA := fun ρ B Q => ra ρ B fun x B1 => rl ρ B1 fun lo B2 => rh ρ B2 fun hi B3 => ∃ ds, x = .lst ds ∧ Q (cut ds lo hi) B3
theorem sl_sl (ha : SE K C bi ta ra) (hl : SO K C bi tl rl) (hh : SO K C bi th rh) : SL K C bi (tSl (rSlL K) ta tl th) (lSl ra rl rh) := by
  intro hid bx ρ B σ H QD Q c h k
  refine ha hid bx ρ B σ H _ _ c h fun x B1 v H1 q1 s1 h1 r1 => ?_
  refine hl hid bx ρ B1 σ H1 _ _ (c.step s1 h1) q1 fun lo B2 H2 q2 s2 h2 => ?_
  refine hh hid bx ρ B2 σ H2 _ _ (c.step (s1.trans s2) h2) q2 fun hi B3 H3 q3 s3 h3 => ?_
  obtain ⟨ds, e, q3⟩ := q3
  subst e
  have r3 := r1.mono ((s2.trans s3).keep h3.sub)
  have s13 : Step bx H H3 := s1.trans (s2.trans s3)
  cases r3 with
  | lst hp r =>
    refine ⟨_, _, rfl, SqL.of (out_some hp).2, fun p hp2 => ?_⟩
    exact k _ B3 p _ _ q3 (s13.trans (Step.same (same_upd hp2))) (h3.same (same_upd hp2)) (Step.fresh h3 s13 hp2) upd_same ((r.cut lo hi).mono ((Step.same (bx := bx) (same_upd hp2)).keep h3.sub))
def oCatT : DR := fun x y Q => ∃ ds es, x = .tup ds ∧ y = .tup es ∧ ds.length + es.length ≤ 100000 ∧ Q (.tup (ds ++ es))
theorem ok_catT : OpOk K C (rCatA K) oCatT := by
  intro hid bx B H x y dx dy QD Q h rx ry q k
  obtain ⟨ds, es, e1, e2, hl, q⟩ := q
  subst e1 e2
  cases rx with
  | @tup a vs _ hp r =>
    cases ry with
    | @tup b ws _ hp2 r2 =>
      refine ⟨a, b, vs, ws, rfl, rfl, (out_keep hid H).sqT hp, (out_keep hid H).sqT hp2, size1000 (by rw [r.length, r2.length]; exact hl), fun e => ?_, fun _ e => ?_, fun _ _ p np => ?_⟩
      · subst e
        have e3 := r.nil_iff
        subst e3
        exact k _ _ H q (Same.refl H) (.tup hp2 r2)
      · subst e
        have e3 := r2.nil_iff
        subst e3
        rw [List.append_nil] at q
        exact k _ _ H q (Same.refl H) (.tup hp r)
      · exact k _ _ _ q (same_upd np) (h.newT np (r.append r2))
def oCatL : DR := fun x y Q => ∃ ds es, x = .lst ds ∧ y = .lst es ∧ ds.length + es.length ≤ 100000 ∧ Q (.lst (ds ++ es))
theorem ok_catL : OpOk K C rCat oCatL := by
  intro hid bx B H x y dx dy QD Q h rx ry q k
  obtain ⟨ds, es, e1, e2, hl, q⟩ := q
  subst e1 e2
  cases rx with
  | @lst a vs _ hp r =>
    cases ry with
    | @lst b ws _ hp2 r2 =>
      exact ⟨a, b, vs, ws, rfl, rfl, (out_some hp).2, (out_some hp2).2, size1000 (by rw [r.length, r2.length]; exact hl), fun p np => k _ _ _ q (same_upd np) (h.newL np (r.append r2))⟩
/-- [x] * n: a new list -/
def lRep (ra rb : DE) : DA := fun ρ B Q => ra ρ B fun x B1 => rb ρ B1 fun y B2 => ∃ ds n, x = .lst ds ∧ y = .int n ∧ -(2 ^ 63) ≤ n ∧ n < 2 ^ 63 ∧ ds.length * n.toNat ≤ 100000 ∧ Q (List.replicate n.toNat ds).flatten B2
theorem RepL.rep {H : Hp} {vs : List V} {ds : List D} (r : RepL K C H vs ds) : ∀ n, RepL K C H (List.replicate n vs).flatten (List.replicate n ds).flatten
  | 0 => .nil
  | n + 1 => by
    rw [List.replicate_succ, List.replicate_succ, List.flatten_cons, List.flatten_cons]
    exact r.append (RepL.rep r n)
theorem sl_rep (ha : SE K C bi ta ra) (hb : SE K C bi tb rb) : SL K C bi (tOp rRep ta tb) (lRep ra rb) := by
  intro hid bx ρ B σ H QD Q c h k
  refine ha hid bx ρ B σ H _ _ c h fun x B1 v H1 q1 s1 h1 r1 => ?_
  refine hb hid bx ρ B1 σ H1 _ _ (c.step s1 h1) q1 fun y B2 w H2 q2 s2 h2 r2 => ?_
  obtain ⟨ds, n, e1, e2, b1, b2, hl, q2⟩ := q2
  subst e1 e2
  have r3 := r1.mono (s2.keep h2.sub)
  cases r2
  cases r3 with
  | @lst a vs _ hp r =>
    refine ⟨a, n, vs, rfl, rfl, (out_some hp).2, b1, b2, size1000 (by rw [r.length]; exact hl), fun p np => ?_⟩
    exact k _ B2 p _ _ q2 (s1.trans (s2.trans (Step.same (same_upd np)))) (h2.same (same_upd np)) (Step.fresh h2 (s1.trans s2) np) upd_same ((r.rep _).mono ((Step.same (bx := bx) (same_upd np)).keep h2.sub))
/-- x not in (a text, a text ..) -/
def strsD : List D → Option (List Str)
  | [] => some []
  | .str x :: r => (strsD r).map fun ys => x :: ys
  | _ :: _ => none
def oNotIn : DR := fun x y Q => ∃ z ds ys, x = .str z ∧ y = .tup ds ∧ strsD ds = some ys ∧ Q (.bl (!ys.contains z))
theorem strs_rep {H : Hp} : ∀ {vs : List V} {ds : List D}, RepL K C H vs ds → ∀ ys, strsD ds = some ys → vs = ys.map V.str
  | _, _, .nil, ys, e => by simp only [strsD] at e; cases e; rfl
  | _, _, .cons (d := d) r t, ys, e => by
    cases d with
    | str x =>
      simp only [strsD, Option.map_eq_some_iff] at e
      obtain ⟨zs, e1, e2⟩ := e
      subst e2
      cases r
      rw [strs_rep t zs e1]
      rfl
    | _ => simp [strsD] at e
theorem inV_strs (z : Str) : ∀ ys : List Str, inV (.str z) (ys.map V.str) = ys.contains z
  | [] => rfl
  | y :: ys => by
    have ih := inV_strs z ys
    unfold inV at ih ⊢
    rw [List.map_cons, List.any_cons, ih, List.contains_cons]
    congr 1
    show (y == z) = (z == y)
    rw [Bool.eq_iff_iff]
    constructor
    · intro e
      rw [beq_iff_eq] at e ⊢
      exact e.symm
    · intro e
      rw [beq_iff_eq] at e ⊢
      exact e.symm
theorem ok_notIn : OpOk K C (rIn K true) oNotIn := by
  intro hid bx B H x y dx dy QD Q h rx ry q k
  obtain ⟨z, ds, ys, e1, e2, e3, q⟩ := q
  subst e1 e2
  cases rx
  cases ry with
  | tup hp r =>
    have ev := strs_rep r ys e3
    subst ev
    refine ⟨_, _, rfl, .inr ((out_keep hid H).sqT hp), rfl, ?_, ?_⟩
    · rw [List.all_map]
      exact List.all_eq_true.mpr fun _ _ => rfl
    · rw [if_pos rfl, inV_strs]
      exact k _ _ H q (Same.refl H) (.bl _)

/-! built-ins with one value -/
def lenD : D → Option Nat
  | .tup xs => some xs.length
  | .lst xs => some xs.length
  | .scr ns => some ns.length
  | _ => none
def oLen : DU := fun x Q => ∃ n, lenD x = some n ∧ Q (.int n)
theorem ok_len {r : List V → Hp → VK → Prop} (hr : r = fun xs H Q => ∃ x n, xs = [x] ∧ LenV K x H n ∧ Q (.int n) H) : UnOk K C (rOne r) oLen := by
  intro hid bx B H x dx QD Q h rx q k
  obtain ⟨n, e, q⟩ := q
  subst hr
  cases rx with
  | tup hp r =>
    cases e
    exact ⟨_, _, rfl, .inr ⟨_, (out_keep hid H).sqT hp, r.length.symm⟩, k _ _ H q (Same.refl H) (.int _)⟩
  | lst hp r =>
    cases e
    exact ⟨_, _, rfl, .inl ⟨_, SqL.of (out_some hp).2, r.length.symm⟩, k _ _ H q (Same.refl H) (.int _)⟩
  | scr hp =>
    cases e
    exact ⟨_, _, rfl, .inl ⟨_, (out_keep hid H).sqL hp, by rw [List.length_map]⟩, k _ _ H q (Same.refl H) (.int _)⟩
  | _ => cases e
/-- tuple(x): of a list a new tuple, of a tuple itself -/
def oTuple : DU := fun x Q => ∃ ds, (x = .lst ds ∨ x = .tup ds) ∧ Q (.tup ds)
theorem ok_tuple {r : List V → Hp → VK → Prop} (hr : r = fun xs H Q => ∃ p ys, xs = [.ref p] ∧ ((SqL K H p ys ∧ ∀ l, H l = none → Q (.ref l) (upd H l (.tup ys))) ∨ (SqT K H p ys ∧ Q (.ref p) H))) : UnOk K C (rOne r) oTuple := by
  intro hid bx B H x dx QD Q h rx q k
  obtain ⟨ds, e, q⟩ := q
  subst hr
  rcases e with e | e
  · subst e
    cases rx with
    | lst hp r => exact ⟨_, _, rfl, .inl ⟨SqL.of (out_some hp).2, fun l nl => k _ _ _ q (same_upd nl) (h.newT nl r)⟩⟩
  · subst e
    cases rx with
    | tup hp r => exact ⟨_, _, rfl, .inr ⟨(out_keep hid H).sqT hp, k _ _ H q (Same.refl H) (.tup hp r)⟩⟩
/-- list(x): a new list -/
def lList (ra : DE) : DA := fun ρ B Q => ra ρ B fun x B1 => ∃ ds, (x = .tup ds ∨ x = .lst ds) ∧ Q ds B1
theorem sl_list {r : List V → Hp → VK → Prop} (hr : r = fun xs H Q => ∃ p ys, xs = [.ref p] ∧ (SqL K H p ys ∨ SqT K H p ys) ∧ ∀ l, H l = none → Q (.ref l) (upd H l (.lst ys))) (ha : SE K C bi ta ra) : SL K C bi (tCB r (tCons ta tNil)) (lList ra) := by
  intro hid bx ρ B σ H QD Q c h k
  subst hr
  refine ha hid bx ρ B σ H _ _ c h fun x B1 v H1 q1 s1 h1 r1 => ?_
  obtain ⟨ds, e, q1⟩ := q1
  rcases e with e | e
  · subst e
    cases r1 with
    | tup hp r => exact ⟨_, _, rfl, .inr ((out_keep hid H1).sqT hp), fun l nl => k _ B1 l _ _ q1 (s1.trans (Step.same (same_upd nl))) (h1.same (same_upd nl)) (Step.fresh h1 s1 nl) upd_same (r.mono ((Step.same (bx := bx) (same_upd nl)).keep h1.sub))⟩
  · subst e
    cases r1 with
    | lst hp r => exact ⟨_, _, rfl, .inl (SqL.of (out_some hp).2), fun l nl => k _ B1 l _ _ q1 (s1.trans (Step.same (same_upd nl))) (h1.same (same_upd nl)) (Step.fresh h1 s1 nl) upd_same (r.mono ((Step.same (bx := bx) (same_upd nl)).keep h1.sub))⟩
def oAbs : DU := oU fun i => .int (if i < 0 then -i else i)
theorem ok_abs {r : List V → Hp → VK → Prop} (hr : r = fun xs H Q => ∃ i, xs = [.int i] ∧ Q (.int (if i < 0 then -i else i)) H) : UnOk K C (rOne r) oAbs := by
  intro hid bx B H x dx QD Q h rx q k
  obtain ⟨i, e, q⟩ := q
  subst hr e
  cases rx
  exact ⟨i, rfl, k _ _ H q (Same.refl H) (.int _)⟩
/-- int(x) of an int or a bool -/
def intD : D → Option Int
  | .int i => some i
  | .bl b => some (if b then 1 else 0)
  | _ => none
def oInt : DU := fun x Q => ∃ i, intD x = some i ∧ Q (.int i)
theorem ok_int {r : List V → Hp → VK → Prop} (hr : r = fun xs H Q => (∃ i, xs = [.int i] ∧ Q (.int i) H) ∨ ∃ k, xs = [.bl k] ∧ Q (.int (if k then 1 else 0)) H) : UnOk K C (rOne r) oInt := by
  intro hid bx B H x dx QD Q h rx q k
  obtain ⟨i, e, q⟩ := q
  subst hr
  cases rx with
  | int j => cases e; exact .inl ⟨_, rfl, k _ _ H q (Same.refl H) (.int _)⟩
  | bl b => cases e; exact .inr ⟨b, rfl, k _ _ H q (Same.refl H) (.int _)⟩
  | _ => cases e
/-- all(list of bools) -/
def blsD : List D → Option (List Bool)
  | [] => some []
  | .bl b :: r => (blsD r).map fun bs => b :: bs
  | _ :: _ => none
theorem bls_rep {H : Hp} : ∀ {vs : List V} {ds : List D}, RepL K C H vs ds → ∀ bs, blsD ds = some bs → vs = bs.map V.bl
  | _, _, .nil, ys, e => by simp only [blsD] at e; cases e; rfl
  | _, _, .cons (d := d) r t, ys, e => by
    cases d with
    | bl x =>
      simp only [blsD, Option.map_eq_some_iff] at e
      obtain ⟨zs, e1, e2⟩ := e
      subst e2
      cases r
      rw [bls_rep t zs e1]
      rfl
    | _ => simp [blsD] at e
def oAll : DU := fun x Q => ∃ ds bs, x = .lst ds ∧ blsD ds = some bs ∧ Q (.bl (bs.all id))
theorem ok_all : UnOk K C (rOne (rAll K)) oAll := by
  intro hid bx B H x dx QD Q h rx q k
  obtain ⟨ds, bs, e1, e2, q⟩ := q
  subst e1
  cases rx with
  | lst hp r =>
    have ev := bls_rep r bs e2
    subst ev
    exact ⟨_, bs, rfl, SqL.of (out_some hp).2, k _ _ H q (Same.refl H) (.bl _)⟩
/-- two ints -/
theorem ok_two {r : List V → Hp → VK → Prop} {g : Int → Int → Int} (hr : r = fun xs H Q => ∃ i j, xs = [.int i, .int j] ∧ Q (.int (g i j)) H) : OpOk K C (rTwo r) (oI0 fun i j => .int (g i j)) := by
  intro hid bx B H x y dx dy QD Q h rx ry q k
  obtain ⟨i, j, e1, e2, q⟩ := q
  subst hr e1 e2
  cases rx
  cases ry
  exact ⟨i, j, rfl, k _ _ H q (Same.refl H) (.int _)⟩
/-- repr of a bool -/
def oRepr : DU := fun x Q => ∃ b, x = .bl b ∧ Q (.str (if b then "True" else "False"))
def rReprB : List V → Hp → VK → Prop := fun xs H Q => ∃ b, xs = [.bl b] ∧ Q (.str (if b then "True" else "False")) H
theorem ok_repr : UnOk K C (rOne rReprB) oRepr := by
  intro hid bx B H x dx QD Q h rx q k
  obtain ⟨b, e, q⟩ := q
  subst e
  cases rx
  exact ⟨b, rfl, k _ _ H q (Same.refl H) (.str _)⟩

/-! isinstance -/
def isInt : D → Bool
  | .int _ => true
  | .bl _ => true
  | _ => false
def isBool : D → Bool
  | .bl _ => true
  | _ => false
def isTup : D → Bool
  | .tup _ => true
  | _ => false
def isStr : D → Bool
  | .str _ => true
  | _ => false
def isFrm : D → Bool
  | .frm _ => true
  | _ => false
def tyD : D → Option String
  | .non => some "NoneType"
  | .bl _ => some "bool"
  | .int _ => some "int"
  | .str _ => some "str"
  | .tup _ => some "tuple"
  | .lst _ => some "list"
  | .dic => some "dict"
  | .scr _ => none
  | .frm _ => none
theorem rep_ty {H : Hp} {v : V} {d : D} {n : String} (r : Rep K C H v d) (e : tyD d = some n) : TyX K H v (.type n) := by
  cases r with
  | non => cases e; exact .base .non
  | bl b => cases e; exact .base (.bl b)
  | int i => cases e; exact .base (.int i)
  | str x => cases e; exact .base (.str x)
  | lst h _ => cases e; exact .base (.lst h)
  | dic h => cases e; exact .base (.dK h)
  | tup h _ =>
    cases e
    rcases h with (h | ⟨o, h⟩) | ⟨o, its, m, h1, h2, _⟩
    · exact .base (.tup h)
    · exact .fTuple h
    · exact .kTuple h1 h2
  | scr _ => cases e
  | frm _ _ _ => cases e
/-- isinstance(x, T) of what is no form, no script: T a built-in class or one's own, by the library's decider -/
def eIsi (f : D → Bool) (ra : DE) : DE := fun ρ B Q => ra ρ B fun d B1 => (∃ n, tyD d = some n) ∧ Q (.bl (f d)) B1
theorem se_isi {cv : V} {u : Value} {f : D → Bool} (hc : ClsV cv u) (hf : ∀ d n, tyD d = some n → PySem.W.kitOne K (.type n) u = some (f d)) (ha : SE K C bi ta ra) : SE K C bi (tCB (rIsi K) (tCons ta (tCons (tC cv) tNil))) (eIsi f ra) := by
  intro hid bx ρ B σ H QD Q c h k
  refine ha hid bx ρ B σ H _ _ c h fun d B1 v H1 q1 s1 h1 r1 => ?_
  obtain ⟨⟨n, e⟩, q1⟩ := q1
  exact ⟨v, cv, .type n, u, f d, rfl, hc, rep_ty (r1.mono (out_keep hid H1)) e, hf d n e, k _ B1 _ H1 q1 s1 h1 (.bl _)⟩
/-- isinstance(x, Form) of a form -/
def eIsF (ra : DE) : DE := fun ρ B Q => ra ρ B fun d B1 => (∃ es, d = .frm es) ∧ Q (.bl true) B1
theorem se_isF (hk : PySem.W.kitOne K (.ref C.cF) (.ref C.cF) = some true) (sc : SlX.SCls K C.cF) (si : SlX.SIsi K C.cF) (ha : SE K C bi ta ra) :
    SE K C bi (tCB (SlX.rIsiSl K (.ref C.cF)) (tCons ta (tCons (tC (.ref C.cF)) tNil))) (eIsF ra) := by
  intro hid bx ρ B σ H QD Q c h k
  refine ha hid bx ρ B σ H _ _ c h fun d B1 v H1 q1 s1 h1 r1 => ?_
  obtain ⟨⟨es, e⟩, q1⟩ := q1
  subst e
  cases r1 with
  | @frm a dx t vs _ hs e1 e2 =>
    exact ⟨a, C.cF, dx, vs, .ref C.cF, true, rfl, rfl, fun w e => e, (out_keep hid H1).slt hs, sc, si, hk, k _ B1 _ H1 q1 s1 h1 (.bl _)⟩
/-- {} -/
theorem se_dic {rd : TE} (hd : ∀ σ H Q, (∀ p, H p = none → Q (.ref p) (upd H p (.dK []))) → rd σ H Q) : SE K C bi rd (eC .dic) := by
  intro hid bx ρ B σ H QD Q c h k
  refine hd σ H Q fun p np => ?_
  exact k _ B _ _ h (Step.same (same_upd np)) (c.hs.same (same_upd np)) (.dic (out_of upd_same (c.hs.fresh np)))

/-! ### calls of defs -/
/-- a promise over data: nothing that stood changes -/
def spP (K : PySem.W.Frag) (C : Cfg) (sd : List D → (D → Prop) → Prop) : Sp := fun vs H Q _ => ∃ hid ds QD, RepL K C (out hid H) vs ds ∧ TabsOk C H ∧ (∀ a ∈ hid, ∃ o, H a = some o) ∧ sd ds QD ∧
  ∀ d v H', QD d → Step none H H' → TabsOk C H' → Rep K C (out hid H') v d → Q v H'
/-- .. the first argument is a list that is changed -/
def spB (K : PySem.W.Frag) (C : Cfg) (sd : List D → List D → (D → List D → Prop) → Prop) : Sp := fun vs H Q _ => ∃ a ws hid ds B QD, vs = V.ref a :: ws ∧ RepL K C (out hid H) ws ds ∧ Hs K C hid (some a) B H ∧ sd ds B QD ∧
  ∀ d B' v H', QD d B' → Step (some a) H H' → Hs K C hid (some a) B' H' → Rep K C (out hid H') v d → Q v H'
/-- .. a new list comes back -/
def spN (K : PySem.W.Frag) (C : Cfg) (sd : List D → (List D → Prop) → Prop) : Sp := fun vs H Q _ => ∃ hid ds QD, RepL K C (out hid H) vs ds ∧ TabsOk C H ∧ (∀ a ∈ hid, ∃ o, H a = some o) ∧ sd ds QD ∧
  ∀ ws p vs' H', QD ws → Step none H H' → TabsOk C H' → H p = none → H' p = some (.lst vs') → RepL K C (out hid H') vs' ws → Q (.ref p) H'
def eCall (sd : List D → (D → Prop) → Prop) (ra : DA) : DE := fun ρ B Q => ra ρ B fun ds B1 => sd ds fun d => Q d B1
theorem se_call {sd : List D → (D → Prop) → Prop} {E : XK} (ha : SA K C bi t rt) : SE K C bi (tCall (spP K C sd) [] E t) (eCall sd rt) := by
  intro hid bx ρ B σ H QD Q c h k
  refine ha hid bx ρ B σ H _ _ c h fun ds B1 vs H1 q1 s1 h1 r1 => ?_
  refine ⟨hid, ds, _, by rw [List.append_nil]; exact r1, h1.tabs, h1.live, q1, fun d v H2 q2 s2 t2 r2 => ?_⟩
  exact k d B1 v H2 q2 (s1.trans s2.weak) (h1.after s2 t2) r2
def eCallB (sd : List D → List D → (D → List D → Prop) → Prop) (ra : DA) : DE := fun ρ B Q => ra ρ B fun ds B1 => sd ds B1 Q
theorem se_callB {j : Nat} {sd : List D → List D → (D → List D → Prop) → Prop} {E : XK} (ha : SA K C (some j) t rt) : SE K C (some j) (tCall (spB K C sd) [] E (tCons (tVar j) t)) (eCallB sd rt) := by
  intro hid bx ρ B σ H QD Q c h k
  obtain ⟨a, hb, hs⟩ := c.bs j rfl
  subst hb
  refine ⟨.ref a, hs, ?_⟩
  refine ha hid (some a) ρ B σ H _ _ c h fun ds B1 vs H1 q1 s1 h1 r1 => ?_
  refine ⟨a, vs, hid, ds, B1, _, by rw [List.append_nil], r1, h1, q1, fun d B2 v H2 q2 s2 h2 r2 => ?_⟩
  exact k d B2 v H2 q2 (s1.trans s2) h2 r2
def lCallN (sd : List D → (List D → Prop) → Prop) (ra : DA) : DA := fun ρ B Q => ra ρ B fun ds B1 => sd ds fun ws => Q ws B1
theorem sl_callN {sd : List D → (List D → Prop) → Prop} {E : XK} (ha : SA K C bi t rt) : SL K C bi (tCall (spN K C sd) [] E t) (lCallN sd rt) := by
  intro hid bx ρ B σ H QD Q c h k
  refine ha hid bx ρ B σ H _ _ c h fun ds B1 vs H1 q1 s1 h1 r1 => ?_
  refine ⟨hid, ds, _, by rw [List.append_nil]; exact r1, h1.tabs, h1.live, q1, fun ws p us H2 q2 s2 t2 n e r2 => ?_⟩
  exact k ws B1 p us H2 q2 (s1.trans s2.weak) (h1.after s2 t2) (Step.fresh h1 s1 n) e r2

/-! ### the box -/
/-- box[i] -/
def eIxB (rb : DE) : DE := fun ρ B Q => rb ρ B fun y B1 => ∃ i d, y = .int i ∧ atI B1 i = some d ∧ Q d B1
theorem se_ixB {j : Nat} (hb : SE K C (some j) tb rb) : SE K C (some j) (tOp (rIxL K) (tVar j) tb) (eIxB rb) := by
  intro hid bx ρ B σ H QD Q c h k
  obtain ⟨a, hbx, hs⟩ := c.bs j rfl
  refine ⟨.ref a, hs, ?_⟩
  refine hb hid bx ρ B σ H _ _ c h fun y B1 w H1 q1 s1 h1 r1 => ?_
  obtain ⟨i, d, e, e2, q1⟩ := q1
  subst e
  cases r1
  obtain ⟨vs, ha, rl⟩ := h1.box a hbx
  obtain ⟨v, e3, r3⟩ := repL_at rl e2
  exact ⟨a, vs, i, v, rfl, rfl, SqL.of ha, e3, k d B1 v H1 q1 s1 h1 r3⟩
/-- tuple(box) -/
def eTupB : DE := fun _ B Q => Q (.tup B) B
theorem se_tupB {j : Nat} {r : List V → Hp → VK → Prop} (hr : r = fun xs H Q => ∃ p ys, xs = [.ref p] ∧ ((SqL K H p ys ∧ ∀ l, H l = none → Q (.ref l) (upd H l (.tup ys))) ∨ (SqT K H p ys ∧ Q (.ref p) H))) : SE K C (some j) (tCB r (tCons (tVar j) tNil)) eTupB := by
  intro hid bx ρ B σ H QD Q c h k
  subst hr
  obtain ⟨a, hbx, hs⟩ := c.bs j rfl
  refine ⟨.ref a, hs, ?_⟩
  obtain ⟨vs, ha, rl⟩ := c.hs.box a hbx
  exact ⟨a, vs, rfl, .inl ⟨SqL.of ha, fun l nl => k _ B _ _ h (Step.same (same_upd nl)) (c.hs.same (same_upd nl)) (c.hs.newT nl rl)⟩⟩
end
end KD
set_option Elab.async false
set_option linter.all false
set_option maxRecDepth 100000
set_option maxHeartbeats 2000000
/-! The D layer, 3: rows, statements, loops, comprehensions. -/
namespace KD
open PySem PySem.Spec PyProof.Rows L2

section
variable {K : PySem.W.Frag} {C : Cfg} {bi : Option Nat} {te ta tb tc : TE} {re ra rb rc : DE} {t u : TS} {rt ru : DS} {tt : TT} {rT : DT}

/-! ### statements -/
def dSeq (a b : DS) : DS := fun E ρ B => a { nx := fun ρ' B' => b E ρ' B', rt := E.rt } ρ B
theorem ss_seq (ha : SS K C bi t rt) (hb : SS K C bi u ru) : SS K C bi (tSeq t u) (dSeq rt ru) := by
  intro hid bx ρ B σ H E D' c h kn kr
  refine ha hid bx ρ B σ H _ _ c h (fun ρ' B' σ' H' q s c' => ?_) fun d B' v H' q s h' r => kr d B' v H' q s h' r
  exact hb hid bx ρ' B' σ' H' _ _ c' q (fun ρ2 B2 σ2 H2 q2 s2 c2 => kn ρ2 B2 σ2 H2 q2 (s.trans s2) c2) fun d B2 v H2 q2 s2 h2 r => kr d B2 v H2 q2 (s.trans s2) h2 r
def dNext : DS := fun E ρ B => E.nx ρ B
theorem ss_next : SS K C bi tNext dNext := fun hid bx ρ B σ H E D' c h kn kr => kn ρ B σ H h (Step.refl _ _) c
def dNever : DS := fun _ _ _ => False
theorem ss_never : SS K C bi tNever dNever := fun hid bx ρ B σ H E D' c h kn kr => h.elim
def dAsg (i : Nat) (a : DE) : DS := fun E ρ B => a ρ B fun d B1 => E.nx (ρ.set i (some d)) B1
theorem ss_asg {i : Nat} (hi : bi ≠ some i) (ha : SE K C bi ta ra) : SS K C bi (tAsg ta (gName i)) (dAsg i ra) := by
  intro hid bx ρ B σ H E D' c h kn kr
  refine ha hid bx ρ B σ H _ _ c h fun d B1 v H1 q1 s1 h1 r1 => ?_
  exact kn _ B1 _ H1 q1 s1 ((c.step s1 h1).set r1 hi)
/-- a, b = a pair -/
def dAsg2 (i j : Nat) (a : DE) : DS := fun E ρ B => a ρ B fun d B1 => ∃ x y, d = .tup [x, y] ∧ E.nx ((ρ.set i (some x)).set j (some y)) B1
theorem ss_asg2 {i j : Nat} (hi : bi ≠ some i) (hj : bi ≠ some j) (ha : SE K C bi ta ra) : SS K C bi (tAsg ta (gTup K 2 (gCons (gName i) (gCons (gName j) gNil)))) (dAsg2 i j ra) := by
  intro hid bx ρ B σ H E D' c h kn kr
  refine ha hid bx ρ B σ H _ _ c h fun d B1 v H1 q1 s1 h1 r1 => ?_
  obtain ⟨x, y, e, q1⟩ := q1
  subst e
  cases r1 with
  | @tup a vs _ hp r =>
    cases r with
    | cons rx r =>
      cases r with
      | cons ry r =>
        cases r
        exact ⟨_, _, rfl, (out_keep hid H1).sqT hp, rfl, _, _, rfl, _, _, rfl, rfl, kn _ B1 _ H1 q1 s1 (((c.step s1 h1).set rx hi).set ry hj)⟩
/-- a, b = e1, e2 by places -/
def dPar (i j : Nat) (a : DA) : DS := fun E ρ B => a ρ B fun ds B1 => ∃ x y, ds = [x, y] ∧ E.nx ((ρ.set i (some x)).set j (some y)) B1
theorem ss_par {i j : Nat} {ta : TA} {ra : DA} (hi : bi ≠ some i) (hj : bi ≠ some j) (ha : SA K C bi ta ra) : SS K C bi (tPar i j ta) (dPar i j ra) := by
  intro hid bx ρ B σ H E D' c h kn kr
  refine ha hid bx ρ B σ H _ _ c h fun ds B1 vs H1 q1 s1 h1 r1 => ?_
  obtain ⟨x, y, e, q1⟩ := q1
  subst e
  cases r1 with
  | cons rx r =>
    cases r with
    | cons ry r =>
      cases r
      exact ⟨_, _, rfl, kn _ B1 _ H1 q1 s1 (((c.step s1 h1).set rx hi).set ry hj)⟩
def dRet (a : DE) : DS := fun E ρ B => a ρ B fun d B1 => E.rt d B1
theorem ss_ret (ha : SE K C bi ta ra) : SS K C bi (tRet ta) (dRet ra) := by
  intro hid bx ρ B σ H E D' c h kn kr
  exact ha hid bx ρ B σ H _ _ c h fun d B1 v H1 q1 s1 h1 r1 => kr d B1 v H1 q1 s1 h1 r1
def dIf (c : DT) (a b : DS) : DS := fun E ρ B => c ρ B fun x B1 => if x = true then a E ρ B1 else b E ρ B1
theorem ss_if (hc : ST K C bi tt rT) (ha : SS K C bi t rt) (hb : SS K C bi u ru) : SS K C bi (tIfS tt t u) (dIf rT rt ru) := by
  intro hid bx ρ B σ H E D' c h kn kr
  refine hc hid bx ρ B σ H _ _ c h fun b B1 H1 q1 s1 h1 => ?_
  cases b with
  | true =>
    rw [if_pos rfl] at q1 ⊢
    exact ha hid bx ρ B1 σ H1 _ _ (c.step s1 h1) q1 (fun ρ2 B2 σ2 H2 q2 s2 c2 => kn ρ2 B2 σ2 H2 q2 (s1.trans s2) c2) fun d B2 v H2 q2 s2 h2 r => kr d B2 v H2 q2 (s1.trans s2) h2 r
  | false =>
    rw [if_neg Bool.false_ne_true] at q1 ⊢
    exact hb hid bx ρ B1 σ H1 _ _ (c.step s1 h1) q1 (fun ρ2 B2 σ2 H2 q2 s2 c2 => kn ρ2 B2 σ2 H2 q2 (s1.trans s2) c2) fun d B2 v H2 q2 s2 h2 r => kr d B2 v H2 q2 (s1.trans s2) h2 r
def dDrop (a : DE) : DS := fun E ρ B => a ρ B fun _ B1 => E.nx ρ B1
theorem ss_drop (ha : SE K C bi ta ra) : SS K C bi (tDrop ta) (dDrop ra) := by
  intro hid bx ρ B σ H E D' c h kn kr
  exact ha hid bx ρ B σ H _ _ c h fun d B1 v H1 q1 s1 h1 r1 => kn ρ B1 σ H1 q1 s1 (c.step s1 h1)
/-- while -/
def dWhile (c : DT) (a : DS) : DS := fun E ρ B => ∃ W : Nat → Env → List D → Prop, (∃ m, W m ρ B) ∧ ∀ m ρ B, W m ρ B → c ρ B fun x B1 =>
  if x = true then a { nx := fun ρ' B' => ∃ m', m' < m ∧ W m' ρ' B', rt := E.rt } ρ B1 else E.nx ρ B1
theorem ss_while (hc : ST K C bi tt rT) (ha : SS K C bi t rt) : SS K C bi (tWhile tt t) (dWhile rT rt) := by
  intro hid bx ρ B σ H E D' c h kn kr
  obtain ⟨W, ⟨m0, w0⟩, turn⟩ := h
  refine ⟨fun m σ' H' => ∃ ρ' B', W m ρ' B' ∧ Ctx K C hid bx bi ρ' B' σ' H' ∧ Step bx H H', ⟨m0, ρ, B, w0, c, Step.refl _ _⟩, fun m σ' H' hw => ?_⟩
  obtain ⟨ρ', B', w', c', s'⟩ := hw
  refine hc hid bx ρ' B' σ' H' _ _ c' (turn m ρ' B' w') fun b B1 H1 q1 s1 h1 => ?_
  cases b with
  | true =>
    rw [if_pos rfl] at q1 ⊢
    refine ⟨fun σ2 H2 => ∃ m', m' < m ∧ ∃ ρ2 B2, W m' ρ2 B2 ∧ Ctx K C hid bx bi ρ2 B2 σ2 H2 ∧ Step bx H H2, fun σ2 H2 hN => hN, ?_⟩
    refine ha hid bx ρ' B1 σ' H1 _ _ (c'.step s1 h1) q1 (fun ρ2 B2 σ2 H2 q2 s2 c2 => ?_) fun d B2 v H2 q2 s2 h2 r => kr d B2 v H2 q2 (s'.trans (s1.trans s2)) h2 r
    obtain ⟨m', hm, w2⟩ := q2
    exact ⟨m', hm, ρ2, B2, w2, c2, s'.trans (s1.trans s2)⟩
  | false =>
    rw [if_neg Bool.false_ne_true] at q1 ⊢
    exact kn ρ' B1 σ' H1 q1 (s'.trans s1) (c'.step s1 h1)
/-- for -/
def dForGo (js : List Nat) (b : DS) (E : DEnds) : List (List D) → Env → List D → Prop
  | [], ρ, B => E.nx ρ B
  | row :: rest, ρ, B => b { nx := fun ρ' B' => dForGo js b E rest ρ' B', rt := E.rt } (setD ρ js row) B
def dFor (js : List Nat) (ri : DI) (b : DS) : DS := fun E ρ B => ri ρ B fun rows B1 => dForGo js b E rows ρ B1
theorem ss_for {wi : TI} {g : TG} {js : List Nat} {ri : DI} (hi : SI K C bi wi g js ri) (hj : ∀ j ∈ js, bi ≠ some j) (hb : SS K C bi t rt) : SS K C bi (tFor wi g t) (dFor js ri rt) := by
  intro hid bx ρ B σ H E D' c h kn kr
  refine hi hid bx ρ B σ H _ _ c h fun rows B1 J H1 q1 s1 h1 rok => ?_
  refine ⟨fun i m σ' H' => m = rows.length - i ∧ i ≤ rows.length ∧ ∃ ρ' B', Ctx K C hid bx bi ρ' B' σ' H' ∧ Step bx H1 H' ∧ dForGo js rt E (rows.drop i) ρ' B',
    ⟨rows.length, by simp, Nat.zero_le _, ρ, B1, c.step s1 h1, Step.refl _ _, q1⟩, ?_⟩
  rintro i m σ' H' ⟨rfl, hle, ρ', B', c', s', q'⟩
  obtain ⟨g1, g2, g3⟩ := rok hid H' (s'.keep c'.hs.sub)
  by_cases hlt : i < rows.length
  · have e : rows.drop i = rows[i] :: rows.drop (i + 1) := List.drop_eq_getElem_cons hlt
    rw [e] at q'
    refine .inr ⟨g1 i hlt, fun σ2 H2 => i + 1 ≤ rows.length ∧ ∃ ρ2 B2, Ctx K C hid bx bi ρ2 B2 σ2 H2 ∧ Step bx H1 H2 ∧ dForGo js rt E (rows.drop (i + 1)) ρ2 B2,
      fun σ2 H2 hN => ⟨rows.length - (i + 1), by omega, rfl, hN⟩, fun x H3 y => ?_⟩
    refine g3 i rows[i] x H3 (List.getElem?_eq_getElem hlt) y σ' _ fun vs H4 sm hl rl => ?_
    have c4 : Ctx K C hid bx bi ρ' B' σ' H4 := c'.step (Step.same sm) (c'.hs.same sm)
    have s4 : Step bx H1 H4 := s'.trans (Step.same sm)
    exact hb hid bx (setD ρ' js rows[i]) B' (setV σ' js vs) H4 _ _ (c4.setRow rl hj) q'
      (fun ρ2 B2 σ2 H2 q2 s2 c2 => ⟨hlt, ρ2, B2, c2, s4.trans s2, q2⟩)
      fun d B2 v H2 q2 s2 h2 r => kr d B2 v H2 q2 (s1.trans (s4.trans s2)) h2 r
  · have e : i = rows.length := by omega
    subst e
    rw [List.drop_length] at q'
    exact .inl ⟨g2, kn ρ' B' σ' H' q' (s1.trans s') c'⟩

/-! the box -/
theorem out_upd {hid : List Addr} {H : Hp} {p : Addr} {o : HO} (h : p ∈ hid) : out hid (upd H p o) = out hid H := by
  funext a
  unfold out
  by_cases e : a ∈ hid
  · rw [if_pos e, if_pos e]
  · rw [if_neg e, if_neg e, upd_ne (fun z => e (by rw [z]; exact h))]
theorem step_box {a : Addr} {H : Hp} {o : HO} : Step (some a) H (upd H a o) := fun b u h n => by
  have hb : b ≠ a := fun z => n (by rw [z])
  rw [upd_ne hb]
  refine ⟨fun _ => h, fun z => ?_⟩
  cases u <;> first
    | exact ⟨_, h⟩
    | cases z
theorem Hs.put {hid : List Addr} {a : Addr} {B B' : List D} {H : Hp} {vs : List V} (h : Hs K C hid (some a) B H) (r : RepL K C (out hid H) vs B') : Hs K C hid (some a) B' (upd H a (.lst vs)) := by
  have ha := h.sub a rfl
  obtain ⟨ws, e, _⟩ := h.box a rfl
  refine ⟨fun P hP => ?_, fun b hb => ?_, h.sub, fun b eb => ?_⟩
  · obtain ⟨ps, e2, t⟩ := h.tabs P hP
    refine ⟨ps, ?_, t⟩
    rw [upd_ne (fun z => by rw [z, e] at e2; cases e2)]
    exact e2
  · by_cases z : b = a
    · rw [z]; exact ⟨_, upd_same⟩
    · rw [upd_ne z]; exact h.live b hb
  · cases eb
    exact ⟨vs, upd_same, by rw [out_upd ha]; exact r⟩
/-- a hidden list that is no box is changed -/
theorem Hs.put2 {hid : List Addr} {bx : Option Addr} {p : Addr} {B : List D} {H : Hp} {vs ws : List V} (h : Hs K C hid bx B H) (e : H p = some (.lst ws)) (hp : p ∈ hid) (nb : bx ≠ some p) : Hs K C hid bx B (upd H p (.lst vs)) := by
  refine ⟨fun P hP => ?_, fun b hb => ?_, h.sub, fun b eb => ?_⟩
  · obtain ⟨ps, e2, t⟩ := h.tabs P hP
    refine ⟨ps, ?_, t⟩
    rw [upd_ne (fun z => by rw [z, e] at e2; cases e2)]
    exact e2
  · by_cases z : b = p
    · rw [z]; exact ⟨_, upd_same⟩
    · rw [upd_ne z]; exact h.live b hb
  · obtain ⟨us, e1, r1⟩ := h.box b eb
    refine ⟨us, ?_, by rw [out_upd hp]; exact r1⟩
    rw [upd_ne (fun z => nb (by rw [eb, z]))]
    exact e1
/-- box[i] = e -/
def dSetB (ri re : DE) : DS := fun E ρ B => re ρ B fun d B1 => ri ρ B1 fun y B2 => ∃ i n, y = .int i ∧ ixN B2.length i = some n ∧ E.nx ρ (B2.set n d)
theorem ss_setB {j : Nat} (hi : SE K C (some j) ta ra) (he : SE K C (some j) te re) : SS K C (some j) (tAsg te (gSub (tVar j) ta rSetL)) (dSetB ra re) := by
  intro hid bx ρ B σ H E D' c h kn kr
  obtain ⟨a, hbx, hs⟩ := c.bs j rfl
  subst hbx
  refine he hid _ ρ B σ H _ _ c h fun d B1 v H1 q1 s1 h1 r1 => ?_
  refine ⟨.ref a, hs, ?_⟩
  refine hi hid _ ρ B1 σ H1 _ _ (c.step s1 h1) q1 fun y B2 w H2 q2 s2 h2 r2 => ?_
  obtain ⟨i, n, e, e2, q2⟩ := q2
  subst e
  cases r2
  obtain ⟨vs, e3, rl⟩ := h2.box a rfl
  refine ⟨a, vs, i, n, rfl, rfl, e3, by rw [rl.length]; exact e2, ?_⟩
  have h3 : Hs K C hid (some a) (B2.set n d) (upd H2 a (.lst (vs.set n v))) := h2.put (RepL.set (r1.mono (s2.keep h2.sub)) n rl)
  have s3 : Step (some a) H (upd H2 a (.lst (vs.set n v))) := s1.trans (s2.trans step_box)
  exact kn ρ _ σ _ q2 s3 (c.step s3 h3)
def rGetL (K : PySem.W.Frag) : V → V → Hp → VK → Prop := rIxL K
/-- box[i] += e -/
def dAugB (ri re : DE) : DS := fun E ρ B => ri ρ B fun y B1 => ∃ i o, y = .int i ∧ atI B1 i = some (.int o) ∧ re ρ B1 fun z B2 => ∃ u n, z = .int u ∧ ixN B2.length i = some n ∧ E.nx ρ (B2.set n (.int (o + u)))
theorem ss_augB {j : Nat} (hi : SE K C (some j) ta ra) (he : SE K C (some j) te re) : SS K C (some j) (tAugS (tVar j) ta te (rGetL K) (ipI fun i j => i + j) rSetL) (dAugB ra re) := by
  intro hid bx ρ B σ H E D' c h kn kr
  obtain ⟨a, hbx, hs⟩ := c.bs j rfl
  subst hbx
  refine ⟨.ref a, hs, ?_⟩
  refine hi hid _ ρ B σ H _ _ c h fun y B1 w H1 q1 s1 h1 r1 => ?_
  obtain ⟨i, o, e, e2, q1⟩ := q1
  subst e
  cases r1
  obtain ⟨vs, e3, rl⟩ := h1.box a rfl
  obtain ⟨v, e4, r4⟩ := repL_at rl e2
  cases r4
  refine ⟨a, vs, i, .int o, rfl, rfl, SqL.of e3, e4, ?_⟩
  refine he hid _ ρ B1 σ H1 _ _ (c.step s1 h1) q1 fun z B2 x H2 q2 s2 h2 r2 => ?_
  obtain ⟨u, n, e5, e6, q2⟩ := q2
  subst e5
  cases r2
  refine ⟨o, u, rfl, rfl, ?_⟩
  obtain ⟨ws, e7, rl2⟩ := h2.box a rfl
  refine ⟨a, ws, i, n, rfl, rfl, e7, by rw [rl2.length]; exact e6, ?_⟩
  have h3 : Hs K C hid (some a) (B2.set n (.int (o + u))) (upd H2 a (.lst (ws.set n (.int (o + u))))) := h2.put (RepL.set (.int _) n rl2)
  have s3 : Step (some a) H (upd H2 a (.lst (ws.set n (.int (o + u))))) := s1.trans (s2.trans step_box)
  exact kn ρ _ σ _ q2 s3 (c.step s3 h3)
/-- x = a new list of ints, which is the box of what follows -/
def dBox (j : Nat) (rl : DA) (b : DS) : DS := fun E ρ B => rl ρ B fun ds B1 => ∃ ns : List Int, ds = ns.map D.int ∧ j < ρ.length ∧ b { nx := fun ρ' _ => E.nx ρ' B1, rt := fun d _ => E.rt d B1 } (ρ.set j none) ds
theorem ss_box {j : Nat} {rl : DA} (ha : SL K C none ta rl) (hb : SS K C (some j) t rt) : SS K C none (tSeq (tAsg ta (gName j)) t) (dBox j rl rt) := by
  intro hid bx ρ B σ H E D' c h kn kr
  have hbx := c.bn rfl
  subst hbx
  refine ha hid none ρ B σ H _ _ c h fun ds B1 p vs H1 q1 s1 h1 np e1 r1 => ?_
  obtain ⟨ns, e, hjl, q1⟩ := q1
  rw [c.len] at hjl
  subst e
  have ev := r1.ints
  subst ev
  have npH : p ∉ hid := c.hs.fresh np
  have keep1 : Keep (out hid H) (out (p :: hid) H1) := fun a o ho t => by
    obtain ⟨n1, e2⟩ := out_some ho
    have na : a ≠ p := ne_of_none e2 np
    exact out_of ((s1 a o e2 fun z => nomatch z).1 t) fun z => (List.mem_cons.mp z).elim na n1
  have hs1 : Hs K C (p :: hid) (some p) (ns.map D.int) H1 := ⟨h1.tabs, fun a ha => by
    rcases List.mem_cons.mp ha with z | z
    · subst z; exact ⟨_, e1⟩
    · exact h1.live a z, fun a ea => by cases ea; exact List.mem_cons_self,
    fun a ea => by cases ea; exact ⟨_, e1, RepL.of_ints ns⟩⟩
  have c1 : Ctx K C (p :: hid) (some p) (some j) (ρ.set j none) (ns.map D.int) (σ.set j (some (.ref p))) H1 := by
    refine ⟨hs1, by rw [List.length_set, List.length_set, c.len], fun i d hd => ?_, fun i hi => ?_, fun z => nomatch z⟩
    · by_cases hij : j = i
      · subst hij
        rw [List.getElem?_set] at hd
        simp only [if_true] at hd
        split at hd <;> cases hd
      · rw [List.getElem?_set_ne hij] at hd
        obtain ⟨v, g1, g2⟩ := c.get i d hd
        exact ⟨v, by rw [List.getElem?_set_ne hij]; exact g1, g2.mono keep1⟩
    · cases hi
      exact ⟨p, rfl, List.getElem?_set_self hjl⟩
  have back : ∀ {H2 : Hp}, Step (some p) H1 H2 → Step none H H2 := fun {H2} s2 a o ha _ => by
    have na : a ≠ p := ne_of_none ha np
    have q := s1 a o ha fun z => nomatch z
    have np2 : (some p : Option Addr) ≠ some a := fun z => na (by injection z with z; exact z.symm)
    refine ⟨fun z => (s2 a o (q.1 z) np2).1 z, fun z => ?_⟩
    obtain ⟨ps, e2⟩ := q.2 z
    exact (s2 a _ e2 np2).2 rfl
  have hsb : ∀ {B2 : List D} {H2 : Hp}, Hs K C (p :: hid) (some p) B2 H2 → Hs K C hid none B1 H2 := fun {B2 H2} h2 => ⟨h2.tabs, fun a ha => h2.live a (List.mem_cons_of_mem _ ha), fun _ z => (nomatch z), fun _ z => (nomatch z)⟩
  refine hb (p :: hid) (some p) (ρ.set j none) _ _ H1 _ _ c1 q1 (fun ρ2 B2 σ2 H2 q2 s2 c2 => ?_) fun d B2 v H2 q2 s2 h2 r => ?_
  · refine kn ρ2 B1 σ2 H2 q2 (back s2) ⟨hsb c2.hs, c2.len, fun i d hd => ?_, fun i hi => (nomatch hi), fun _ => rfl⟩
    obtain ⟨v, g1, g2⟩ := c2.get i d hd
    exact ⟨v, g1, g2.mono (out_cons hid p H2)⟩
  · exact kr d B1 v H2 q2 (back s2) (hsb h2) (r.mono (out_cons hid p H2))

/-! ### rows -/
theorem setV_len : ∀ (js : List Nat) (σ : L2.St) (vs : List V), (setV σ js vs).length = σ.length
  | [], _, _ => rfl
  | j :: js, σ, [] => rfl
  | j :: js, σ, v :: vs => by
    show (setV (σ.set j (some v)) js vs).length = σ.length
    rw [setV_len js, List.length_set]
/-- over a tuple, one name -/
def iTupD (ra : DE) : DI := fun ρ B Q => ra ρ B fun x B1 => ∃ ds, x = .tup ds ∧ Q (ds.map fun d => [d]) B1
theorem si_tup {j : Nat} (ha : SE K C bi ta ra) : SI K C bi (iTup K ta) (gName j) [j] (iTupD ra) := by
  intro hid bx ρ B σ H QD R c h k
  refine ha hid bx ρ B σ H _ _ c h fun x B1 v H1 q1 s1 h1 r1 => ?_
  obtain ⟨ds, e, q1⟩ := q1
  subst e
  cases r1 with
  | @tup a vs _ hp r =>
    refine ⟨a, rfl, ⟨vs, (out_keep hid H1).sqT hp⟩, k _ B1 _ H1 q1 s1 h1 fun hid' H2 kp => ?_⟩
    have hq : SqT K H2 a vs := (out_keep hid' H2).sqT (kp.sqT hp)
    have w := walk_tup (K := K) (a := a) (xs := vs)
    refine ⟨fun i hi => w.goes i H2 (by rw [List.length_map] at hi; rw [r.length]; exact hi) hq, by rw [List.length_map, ← r.length]; exact w.stops H2 hq, fun i row x H3 hr y σ Kc hk => ?_⟩
    rw [List.getElem?_map, Option.map_eq_some_iff] at hr
    obtain ⟨d, ed, er⟩ := hr
    subst er
    obtain ⟨v, ev, rv⟩ := r.get ed
    have hi : i < vs.length := (List.getElem?_eq_some_iff.mp ev).1
    obtain ⟨e3, e4⟩ := w.yields i H2 x H3 hi hq y
    subst e3
    have e5 := Option.some.inj (ev.symm.trans e4)
    subst e5
    exact hk [v] _ (Same.refl _) rfl (.cons (rv.mono kp) .nil)
/-- over a list -/
def iLstD (ra : DE) : DI := fun ρ B Q => ra ρ B fun x B1 => ∃ ds, x = .lst ds ∧ Q (ds.map fun d => [d]) B1
theorem si_lst {j : Nat} (ha : SE K C bi ta ra) : SI K C bi (iList K ta) (gName j) [j] (iLstD ra) := by
  intro hid bx ρ B σ H QD R c h k
  refine ha hid bx ρ B σ H _ _ c h fun x B1 v H1 q1 s1 h1 r1 => ?_
  obtain ⟨ds, e, q1⟩ := q1
  subst e
  cases r1 with
  | @lst a vs _ hp r =>
    refine ⟨a, rfl, ⟨vs, SqL.of (out_some hp).2⟩, k _ B1 _ H1 q1 s1 h1 fun hid' H2 kp => ?_⟩
    have hq : SqL K H2 a vs := SqL.of (out_some (kp a _ hp rfl)).2
    have w := walk_list (K := K) (a := a) (xs := vs)
    refine ⟨fun i hi => w.goes i H2 (by rw [List.length_map] at hi; rw [r.length]; exact hi) hq, by rw [List.length_map, ← r.length]; exact w.stops H2 hq, fun i row x H3 hr y σ Kc hk => ?_⟩
    rw [List.getElem?_map, Option.map_eq_some_iff] at hr
    obtain ⟨d, ed, er⟩ := hr
    subst er
    obtain ⟨v, ev, rv⟩ := r.get ed
    have hi : i < vs.length := (List.getElem?_eq_some_iff.mp ev).1
    obtain ⟨e3, e4⟩ := w.yields i H2 x H3 hi hq y
    subst e3
    have e5 := Option.some.inj (ev.symm.trans e4)
    subst e5
    exact hk [v] _ (Same.refl _) rfl (.cons (rv.mono kp) .nil)
/-- range(n) -/
def iRngD (ra : DE) : DI := fun ρ B Q => ra ρ B fun x B1 => ∃ n : Int, x = .int n ∧ -(2 ^ 62) ≤ n ∧ n < 2 ^ 62 ∧ Q ((List.range n.toNat).map fun i => [D.int (i : Nat)]) B1
theorem si_rng {j : Nat} (ha : SE K C bi ta ra) : SI K C bi (iRng1 (tCons ta tNil)) (gName j) [j] (iRngD ra) := by
  intro hid bx ρ B σ H QD R c h k
  refine ha hid bx ρ B σ H _ _ c h fun x B1 v H1 q1 s1 h1 r1 => ?_
  obtain ⟨n, e, b1, b2, q1⟩ := q1
  subst e
  cases r1
  refine ⟨n, rfl, b1, b2, k _ B1 _ H1 q1 s1 h1 fun hid' H2 kp => ?_⟩
  have w := walk_range (lo := 0) (n := n.toNat)
  have e0 : (n - 0).toNat = n.toNat := by rw [Int.sub_zero]
  refine ⟨fun i hi => w.goes i H2 (by simpa using hi) trivial, by rw [List.length_map, List.length_range]; exact w.stops H2 trivial, fun i row x H3 hr y σ Kc hk => ?_⟩
  rw [List.getElem?_map, Option.map_eq_some_iff] at hr
  obtain ⟨d, ed, er⟩ := hr
  subst er
  have hi : i < n.toNat := by
    have := (List.getElem?_eq_some_iff.mp ed).1
    simpa using this
  have ed2 : d = i := by
    rw [List.getElem?_range hi] at ed
    exact (Option.some.inj ed).symm
  subst ed2
  obtain ⟨e3, e4⟩ := w.yields d H2 x H3 hi trivial y
  have e5 : x = V.int (d : Nat) := by
    rw [e4]
    show V.int (0 + ((d : Nat) : Int)) = V.int ((d : Nat) : Int)
    rw [Int.zero_add]
  subst e3
  subst e5
  exact hk [.int (d : Nat)] _ (Same.refl _) rfl (.cons (.int _) .nil)
/-- the pair of a turn is a new tuple -/
theorem g_pair {i j : Nat} {T : Addr} {x y : V} {H : Hp} {σ : L2.St} {Kc : L2.St → Hp → Prop} (h : Kc (setV σ [i, j] [x, y]) (upd H T (.tup [x, y]))) : gTup K 2 (gCons (gName i) (gCons (gName j) gNil)) (.ref T) σ (upd H T (.tup [x, y])) Kc :=
  ⟨T, [x, y], rfl, SqT.of upd_same, rfl, x, [y], rfl, y, [], rfl, rfl, h⟩
def numbered (ds : List D) : List (List D) := ds.zipIdx.map fun p => [D.int (p.2 : Nat), p.1]
theorem numbered_get {ds : List D} {i : Nat} {row : List D} (h : (numbered ds)[i]? = some row) : ∃ d, ds[i]? = some d ∧ row = [.int (i : Nat), d] := by
  unfold numbered at h
  rw [List.getElem?_map, Option.map_eq_some_iff] at h
  obtain ⟨p, e1, e2⟩ := h
  rw [List.getElem?_zipIdx, Option.map_eq_some_iff] at e1
  obtain ⟨d, e3, e4⟩ := e1
  subst e4
  exact ⟨d, e3, by rw [← e2]; simp⟩
theorem numbered_len (ds : List D) : (numbered ds).length = ds.length := by simp [numbered]
/-- enumerate(list) -/
def iEnmL (ra : DE) : DI := fun ρ B Q => ra ρ B fun x B1 => ∃ ds, x = .lst ds ∧ Q (numbered ds) B1
theorem si_enmL {i j : Nat} (ha : SE K C bi ta ra) : SI K C bi (iEnum K (tCons ta tNil)) (gTup K 2 (gCons (gName i) (gCons (gName j) gNil))) [i, j] (iEnmL ra) := by
  intro hid bx ρ B σ H QD R c h k
  refine ha hid bx ρ B σ H _ _ c h fun x B1 v H1 q1 s1 h1 r1 => ?_
  obtain ⟨ds, e, q1⟩ := q1
  subst e
  cases r1 with
  | @lst a vs _ hp r =>
    refine ⟨a, vs, rfl, SqL.of (out_some hp).2, k _ B1 _ H1 q1 s1 h1 fun hid' H2 kp => ?_⟩
    have hq : SqL K H2 a vs := SqL.of (out_some (kp a _ hp rfl)).2
    have w := walk_enum (K := K) (a := a) (xs := vs)
    refine ⟨fun i hi => w.goes i H2 (by rw [numbered_len] at hi; rw [r.length]; exact hi) hq, by rw [numbered_len, ← r.length]; exact w.stops H2 hq, fun n row x H3 hr y σ Kc hk => ?_⟩
    obtain ⟨d, ed, er⟩ := numbered_get hr
    subst er
    obtain ⟨v, ev, rv⟩ := r.get ed
    have hi : n < vs.length := (List.getElem?_eq_some_iff.mp ev).1
    obtain ⟨T, x1, x2, e1, nT, e3, e4, e5⟩ := w.yields n H2 x H3 hi hq y
    have e6 : V.int (n : Nat) = x1 := Option.some.inj e4
    have e7 : v = x2 := Option.some.inj (ev.symm.trans e5)
    subst e6
    subst e7
    subst e1
    subst e3
    exact g_pair (hk [.int (n : Nat), v] _ (same_upd nT) rfl (.cons (.int _) (.cons ((rv.mono kp).mono ((Step.same (bx := none) (same_upd nT)).keep fun _ z => nomatch z)) .nil)))
/-- zip of two tuples -/
def iZipD (ra rb : DE) : DI := fun ρ B Q => ra ρ B fun x B1 => rb ρ B1 fun y B2 => ∃ ds es, x = .tup ds ∧ y = .tup es ∧ Q ((ds.zip es).map fun p => [p.1, p.2]) B2

/-! ### comprehensions -/
def wipeD (ρ : Env) : List Nat → Env
  | [] => ρ
  | v :: vs => (wipeD ρ vs).set v none
def dLcGo (js : List Nat) (rt : DT) (re : DE) (ρ : Env) : List (List D) → List D → List D → (List D → List D → Prop) → Prop
  | [], acc, B, Q => Q acc B
  | row :: rest, acc, B, Q => rt (setD ρ js row) B fun b B1 => if b = true then re (setD ρ js row) B1 fun d B2 => dLcGo js rt re ρ rest (acc ++ [d]) B2 Q else dLcGo js rt re ρ rest acc B1 Q
def lLc (ri : DI) (js vs : List Nat) (rt : DT) (re : DE) : DA := fun ρ B Q => ri ρ B fun rows B1 => rows.length ≤ 50000 ∧ dLcGo js rt re (wipeD ρ vs) rows [] B1 Q
theorem Ctx.wipe {hid : List Addr} {bx : Option Addr} {ρ : Env} {B : List D} {σ : L2.St} {H : Hp} (c : Ctx K C hid bx bi ρ B σ H) : ∀ vs : List Nat, (∀ j ∈ vs, bi ≠ some j) → Ctx K C hid bx bi (wipeD ρ vs) B (L2.wipe σ vs) H
  | [], _ => c
  | v :: vs, h => (Ctx.wipe c vs fun j hj => h j (List.mem_cons_of_mem _ hj)).unset v none (h v List.mem_cons_self)
theorem wipe_set_mem (σ : L2.St) (j : Nat) (o : Option V) : ∀ vs : List Nat, j ∈ vs → L2.wipe (σ.set j o) vs = L2.wipe σ vs
  | [], h => by cases h
  | v :: vs, h => by
    show (L2.wipe (σ.set j o) vs).set v none = (L2.wipe σ vs).set v none
    by_cases hm : j ∈ vs
    · rw [wipe_set_mem σ j o vs hm]
    · have e : j = v := (List.mem_cons.mp h).elim id fun z => absurd z hm
      subst e
      have comm : ∀ us : List Nat, j ∉ us → L2.wipe (σ.set j o) us = (L2.wipe σ us).set j o := by
        intro us
        induction us with
        | nil => intro _; rfl
        | cons u us ih =>
          intro hn
          show (L2.wipe (σ.set j o) us).set u none = ((L2.wipe σ us).set u none).set j o
          rw [ih fun z => hn (List.mem_cons_of_mem _ z), List.set_comm _ _ (fun z => hn (by rw [z]; exact List.mem_cons_self))]
      rw [comm vs hm, List.set_set]
theorem wipe_wipe (σ : L2.St) (vs : List Nat) : ∀ us : List Nat, (∀ u ∈ us, u ∈ vs) → L2.wipe (L2.wipe σ us) vs = L2.wipe σ vs
  | [], _ => rfl
  | u :: us, h => by
    show L2.wipe ((L2.wipe σ us).set u none) vs = _
    rw [wipe_set_mem _ u none vs (h u List.mem_cons_self), wipe_wipe σ vs us fun x hx => h x (List.mem_cons_of_mem _ hx)]
theorem wipe_setV (vs : List Nat) : ∀ (js : List Nat) (σ : L2.St) (ws : List V), (∀ j ∈ js, j ∈ vs) → L2.wipe (setV σ js ws) vs = L2.wipe σ vs
  | [], _, _, _ => rfl
  | j :: js, σ, [], _ => rfl
  | j :: js, σ, w :: ws, h => by
    show L2.wipe (setV (σ.set j (some w)) js ws) vs = _
    rw [wipe_setV vs js _ ws fun x hx => h x (List.mem_cons_of_mem _ hx), wipe_set_mem σ j (some w) vs (h j List.mem_cons_self)]
theorem sl_lc {wi : TI} {g : TG} {js vs : List Nat} {ri : DI} (hi : SI K C bi wi g js ri) (hjv : ∀ j ∈ js, j ∈ vs) (hv : ∀ j ∈ vs, bi ≠ some j) (ht : ST K C bi tt rT) (he : SE K C bi te re) : SL K C bi (tLc wi g tt te vs) (lLc ri js vs rT re) := by
  intro hid bx ρ B σ H QD Q c h k
  refine hi hid bx ρ B σ H _ _ c h fun rows B1 J H1 q1 s1 h1 rok => ?_
  obtain ⟨hsz, q1⟩ := q1
  intro p np
  have npH : p ∉ hid := h1.fresh np
  have nbx : bx ≠ some p := fun z => npH (h1.sub p z)
  have c1 := c.step s1 h1
  -- from H1 on, p hidden
  have keep0 : ∀ {H2 : Hp}, Step bx H1 H2 → Keep (out hid H1) (out (p :: hid) H2) := fun {H2} s2 a o ho t => by
    obtain ⟨n1, e2⟩ := out_some ho
    have na : a ≠ p := ne_of_none e2 np
    exact out_of ((s2 a o e2 fun z => n1 (h1.sub a z)).1 t) fun z => (List.mem_cons.mp z).elim na n1
  have hs0 : Hs K C (p :: hid) bx B1 (upd H1 p (.lst [])) := by
    have h2 := h1.same (same_upd (o := .lst []) np)
    refine ⟨h2.tabs, fun a ha => by
      rcases List.mem_cons.mp ha with z | z
      · subst z; exact ⟨_, upd_same⟩
      · exact h2.live a z, fun a ea => List.mem_cons_of_mem _ (h2.sub a ea), fun a ea => ?_⟩
    obtain ⟨ws, e1, r1⟩ := h1.box a ea
    exact ⟨ws, (same_upd np) _ _ e1, r1.mono (keep0 (Step.same (same_upd np)))⟩
  refine ⟨fun i m H' => m = rows.length - i ∧ i ≤ rows.length ∧ ∃ acc B' ws, acc.length ≤ i ∧ Step bx H1 H' ∧ Hs K C (p :: hid) bx B' H' ∧ H' p = some (.lst ws) ∧ RepL K C (out (p :: hid) H') ws acc ∧ dLcGo js rT re (wipeD ρ vs) (rows.drop i) acc B' QD,
    ⟨rows.length, by simp, Nat.zero_le _, [], B1, [], Nat.le_refl _, Step.same (same_upd np), hs0, upd_same, .nil, q1⟩, ?_⟩
  rintro i m H' ⟨rfl, hle, acc, B', ws, hacc, s', hs', e', rl', q'⟩
  obtain ⟨g1, g2, g3⟩ := rok (p :: hid) H' (keep0 s')
  by_cases hlt : i < rows.length
  · have e : rows.drop i = rows[i] :: rows.drop (i + 1) := List.drop_eq_getElem_cons hlt
    rw [e] at q'
    refine .inr ⟨g1 i hlt, fun H2 => i + 1 ≤ rows.length ∧ ∃ acc B' ws, acc.length ≤ i + 1 ∧ Step bx H1 H2 ∧ Hs K C (p :: hid) bx B' H2 ∧ H2 p = some (.lst ws) ∧ RepL K C (out (p :: hid) H2) ws acc ∧ dLcGo js rT re (wipeD ρ vs) (rows.drop (i + 1)) acc B' QD,
      fun H2 hN => ⟨rows.length - (i + 1), by omega, rfl, hN⟩, fun x H3 y => ?_⟩
    refine g3 i rows[i] x H3 (List.getElem?_eq_getElem hlt) y (L2.wipe σ vs) _ fun us H4 sm hl rl => ?_
    refine ⟨by rw [wipe_setV vs js _ us hjv, wipe_wipe σ vs vs fun _ z => z], ?_⟩
    have s4 : Step bx H1 H4 := s'.trans (Step.same sm)
    have cw : Ctx K C (p :: hid) bx bi (wipeD ρ vs) B' (L2.wipe σ vs) H4 := by
      have c0 : Ctx K C (p :: hid) bx bi ρ B' σ H4 := ⟨hs'.same sm, c1.len, fun n d hd => by
        obtain ⟨v, k1, k2⟩ := c1.get n d hd
        exact ⟨v, k1, k2.mono (keep0 s4)⟩, c1.bs, c1.bn⟩
      exact c0.wipe vs hv
    have c4 := cw.setRow rl fun j hj => hv j (hjv j hj)
    refine ht (p :: hid) bx _ B' _ H4 _ _ c4 q' fun b B5 H5 q5 s5 h5 => ?_
    have eb5 : H5 p = some (.lst ws) := (s5 p _ (sm p _ e') nbx).1 rfl
    have rl5 : RepL K C (out (p :: hid) H5) ws acc := rl'.mono (((Step.same (bx := bx) sm).trans s5).keep h5.sub)
    cases b with
    | false =>
      rw [if_neg Bool.false_ne_true] at q5 ⊢
      exact ⟨hlt, acc, B5, ws, by omega, s4.trans s5, h5, eb5, rl5, q5⟩
    | true =>
      rw [if_pos rfl] at q5 ⊢
      refine he (p :: hid) bx _ B5 _ H5 _ _ (c4.step s5 h5) q5 fun d B6 v H6 q6 s6 h6 r6 => ?_
      have eb6 : H6 p = some (.lst ws) := (s6 p _ eb5 nbx).1 rfl
      have rl6 : RepL K C (out (p :: hid) H6) ws acc := rl5.mono (s6.keep h6.sub)
      refine ⟨ws, eb6, Nat.lt_of_le_of_lt (show ws.length ≤ 50000 by rw [rl6.length]; omega) (by decide), hlt, acc ++ [d], B6, ws ++ [v], by rw [List.length_append]; show acc.length + 1 ≤ i + 1; omega, ?_, ?_, upd_same, ?_, q6⟩
      · intro a o ha hn
        rw [upd_ne (ne_of_none ha np)]
        exact (s4.trans (s5.trans s6)) a o ha hn
      · exact h6.put2 eb6 List.mem_cons_self nbx
      · rw [out_upd List.mem_cons_self]
        exact rl6.append (.cons r6 .nil)
  · have e : i = rows.length := by omega
    subst e
    rw [List.drop_length] at q'
    refine .inl ⟨g2, ?_⟩
    have hs2 : Hs K C hid bx B' H' := ⟨hs'.tabs, fun a ha => hs'.live a (List.mem_cons_of_mem _ ha), h1.sub, fun a ea => by
      obtain ⟨us, e1, r1⟩ := hs'.box a ea
      exact ⟨us, e1, r1.mono (out_cons hid p H')⟩⟩
    exact k acc B' p ws H' q' (s1.trans s') hs2 (Step.fresh h1 s1 np) e' (rl'.mono (out_cons hid p H'))
end
end KD
set_option Elab.async false
set_option linter.all false
set_option maxRecDepth 100000
set_option maxHeartbeats 2000000
/-! Rules of this claim's own, 1: // by any divisor, repr of a bool, any of a tuple of ints, xs[i] of an augmented assignment, enumerate of a tuple. -/
namespace KD
open PySem PySem.Spec PyProof.Rows L2
section
variable {X : Cx}
def CDivZ (_ j : Int) : Prop := j ≠ 0 ∧ j.natAbs.log2 < 9000
theorem op_fdivZ : OpR X (binaryOp .FloorDiv) (rI CDivZ fun i j => .int (i.fdiv j)) := opI fun i j _ _ _ _ _ hc q => floordiv_int hc.1 q (.inl (PyProof.noPylong_of_log2 hc.2))
theorem cr_repr : CallR X (.builtin "repr") rReprB := by
  intro pins s σ H xs us Q I r h
  obtain ⟨b, rfl, q⟩ := h
  obtain ⟨u, rfl, ru⟩ := r.one
  cases (show u = Value.bool b from ru)
  exact PySem.P.repr_of_bool ⟨.str (if b then "True" else "False"), H, I.tok _, ⟨_, rfl⟩, q⟩
/-- any(tuple of ints) -/
def rAnyI (K : PySem.W.Frag) : List V → Hp → VK → Prop := fun vs H Q => ∃ (a : Addr) (ns : List Int), vs = [V.ref a] ∧ SqT K H a (ns.map V.int) ∧ Q (.bl (ns.any fun n => n != 0)) H
theorem ints_vals : ∀ {ns : List Int} {its : List Value}, Vals (ns.map V.int) its → ∀ (i : Nat) (v : Value), its[i]? = some v → ∃ n t, ns[i]? = some n ∧ v = .int n t
  | [], _, .nil, i, v, e => by simp at e
  | n :: ns, _, .cons r t, 0, v, e => by
    simp at e
    subst e
    obtain ⟨k, rfl⟩ := r
    exact ⟨n, k, rfl, rfl⟩
  | n :: ns, _, .cons r t, i + 1, v, e => by
    obtain ⟨m, k, h1, h2⟩ := ints_vals (ns := ns) t i v (by simpa using e)
    exact ⟨m, k, by simpa using h1, h2⟩
theorem any_at (ns : List Int) : (List.range ns.length).any (fun i => ns.getD i 0 != 0) = ns.any fun n => n != 0 := by
  rw [Bool.eq_iff_iff, List.any_eq_true, List.any_eq_true]
  constructor
  · rintro ⟨i, hi, h⟩
    have hi' := List.mem_range.mp hi
    rw [List.getD_eq_getElem?_getD, List.getElem?_eq_getElem hi'] at h
    exact ⟨ns[i], List.getElem_mem hi', h⟩
  · rintro ⟨n, hn, h⟩
    obtain ⟨i, hi, e⟩ := List.getElem_of_mem hn
    refine ⟨i, List.mem_range.mpr hi, ?_⟩
    rw [List.getD_eq_getElem?_getD, List.getElem?_eq_getElem hi, e]
    exact h
theorem cr_anyI (hc : X.calm = true) : CallR X (.builtin "any") (rAnyI X.K) := by
  intro pins s σ H vs us Q I r h
  obtain ⟨a, ns, rfl, hs, q⟩ := h
  obtain ⟨its, rv, p, _⟩ := I.tuple hs
  have ht : s.heap.IsTuple a its.toArray := p
  have hlt : a < s.heap.objs.size := by obtain ⟨_, e, _⟩ := ht; exact Heap.lt_size e
  rw [Vals.ref1 r]
  refine call_any_walk (wpAny_pyIter_tuple ht ?_)
  refine ⟨_, _, _, _, _, _, (fun i => ns.getD i 0 != 0), rfl, Walks.tuple (A := X.A.in1) (I.ok.hd hc) s.heap.objs.size a (Nat.ne_of_lt hlt) its.toArray, ⟨⟨_, Heap.get?_push_size _ rfl, rfl, rfl⟩, ht.push _⟩, ?_, fun h' tk hk => ?_⟩
  · intro i v s2 Q2 E2 hv hq
    obtain ⟨n, t, h1, h2⟩ := ints_vals rv i v (by simpa using hv)
    subst h2
    have hq' : Q2 (ns.getD i 0 != 0) s2 := hq
    rw [List.getD_eq_getElem?_getD, h1] at hq'
    exact PySem.P.truthy_int hq'
  · refine ⟨.bl _, H, I.kept fun b o eo => hk b o (fun hmem => ?_) (Heap.get?_push_of_some _ eo), ?_, q⟩
    · rcases List.mem_cons.mp hmem with e1 | hmem
      · exact absurd (e1 ▸ Heap.lt_size eo) (Nat.lt_irrefl _)
      · cases hmem
    · show Value.bool _ = Value.bool _
      rw [← any_at, List.size_toArray, ← rv.length, List.length_map]
/-- xs[i] in xs[i] op= e -/
theorem pget_list : PGet X (rGetL X.K) := by
  intro pins s σ H x y v u Q I rx ry h
  obtain ⟨p, xs, i, z, rfl, rfl, hq, he, q⟩ := h
  cases rx
  obtain ⟨t, rfl⟩ := ry
  obtain ⟨its, r, pl, hz⟩ := I.list hq
  obtain ⟨j, h1, h2, h3, h4, h5⟩ := atI_get he
  obtain ⟨w, ew, rw'⟩ := r.get h2
  have hl := r.length
  have hn := line63
  by_cases h0 : 0 ≤ i
  · have hj : i.toNat = j := by
      rw [seqIndex_of h0 h5] at h1
      exact Option.some.inj h1
    exact wpAny_getItem_list pl.isList h0 (by omega) (x := w) (by rw [hj]; simpa using ew) ⟨z, H, I, rw', q⟩
  · have hj : (i + (its.toArray.size : Int)).toNat = j := by
      rw [seqIndex_neg (by omega) h4] at h1
      rw [List.size_toArray, ← hl]
      exact Option.some.inj h1
    exact wpAny_getItem_list_neg pl.isList (by omega) (by rw [List.size_toArray] <;> omega) (by omega) (x := w) (by rw [hj]; simpa using ew) ⟨z, H, I, rw', q⟩
end
end KD
/-! ### enumerate of a tuple -/
namespace PySem
open Sem (wp)
open AutoSeq1 (wpAny_loadPart')
abbrev ketI (h : Heap) (l : Addr) : Heap := h.push { cls := .type "tuple_iterator", data := .fields #[.ref l, .int 0 0] }
theorem ket_meets (l : Addr) (items : Array Value) (n : Nat) (dct : Option Addr) (sl : Array (Option Value)) :
    Meets (Builtin.«enumerate.__new__» ⟨[.type "enumerate", .ref l], []⟩) (fun _ R s => s.heap.get? l = some { cls := .type "tuple", dict := dct, data := .seq items n, slots := sl } ∧
      R (.ok (.ret (.ref (ketI s.heap l).objs.size))) { s with heap := (ketI s.heap l).push { cls := .type "enumerate", data := .fields #[.none, .bool false, .ref s.heap.objs.size, rawInt 0, .none, .none] } }) :=
  .of_wp fun prog w A R s h => by
    obtain ⟨hp, g, d, tk, os⟩ := s
    obtain ⟨hl, h⟩ := h
    have hsub := sub_enumerate
    have hT : Heap.IsTuple (Shared.heap ⟨hp, g, d, tk, os⟩) l items := ⟨_, hl, rfl, n, rfl⟩
    wp_walk using wpAny_loadPart' hl
    refine wpAny_stack_any fun st => wpAny_pure ?_
    split
    · rename_i c _ _ _ _ _
      generalize (c == Value.type "enumerate") = bb
      cases bb <;>
        (wp_walk using wpAny_loadPart' hl, wpAny_pyIter_tuple hT
         exact ⟨_, rfl, h⟩)
    · wp_walk using wpAny_loadPart' hl, wpAny_pyIter_tuple hT
      exact ⟨_, rfl, h⟩
section
variable {prog : Program} {w : World} {A : Around} {E : Value → Shared → Prop} {s : Shared}
theorem ket_call {l : Addr} {items : Array Value} {Q : Value → Shared → Prop} (hL : s.heap.IsTuple l items)
    (q : ∀ h', IsEnum h' (s.heap.objs.size + 1) s.heap.objs.size 0 .none → h'.IsTupleIter s.heap.objs.size l 0 → h'.objs.size = s.heap.objs.size + 2 → (∀ b o, s.heap.get? b = some o → h'.get? b = some o) → Q (.ref (s.heap.objs.size + 1)) { s with heap := h' }) :
    wpAny (model prog w) A (call (.type "enumerate") [.ref l]) Q E s := by
  obtain ⟨⟨c, dct, dt, sl⟩, hl, hc, n, hd⟩ := hL
  have hc' : c = .type "tuple" := hc
  have hd' : dt = .seq items n := hd
  subst hc'
  subst hd'
  refine callType_new F.called_enumerate (by decide) (F.typeCall_enumerate_1 _) (F.newCall_enumerate_1 _) (fun obj => F.args_object_init_2 obj _) F.entry_enumerate_new (ket_meets l items n dct sl) ⟨hl, ?_⟩
  have e1 : (ketI s.heap l).objs.size = s.heap.objs.size + 1 := Heap.size_push ..
  show _ ∧ _
  rw [e1]
  have e2 := Heap.get?_push_size (ketI s.heap l) (o := { cls := .type "enumerate", data := .fields #[.none, .bool false, .ref s.heap.objs.size, rawInt 0, .none, .none] }) rfl
  rw [e1] at e2
  exact ⟨⟨_, e2, rfl⟩, q _ e2 ⟨_, Heap.get?_push_of_some _ (Heap.get?_push_size _ rfl), rfl, rfl⟩ (by rw [Heap.size_push, e1]) fun b o x => Heap.get?_push_of_some _ (Heap.get?_push_of_some _ x)⟩
end
end PySem
namespace KD
open PySem PySem.Spec PyProof.Rows L2
/-- the tuple at a, each item in a new pair -/
def IteT (K : PySem.W.Frag) (a : Addr) : It where
  go := fun i H => ∃ (xs : List V) (x : V), SqT K H a xs ∧ xs[i]? = some x
  yld := fun i H v H' => ∃ T x, v = .ref T ∧ H T = none ∧ H' = upd H T (.tup [.int (i : Nat), x]) ∧ ∀ xs, SqT K H a xs → xs[i]? = some x
  stop := fun i H => ∃ xs : List V, SqT K H a xs ∧ xs.length ≤ i
theorem turn_enumT {P : Program} {w : World} {K : PySem.W.Frag} {elts : List Expr} {kk : Nat} {tpos : Pos} (a e it : Addr) :
    Turn P w K (.Tuple elts kk tpos) (IteT K a) [e, it] e (fun i h => (∃ old, IsEnum h e it ((i : Nat) : Int) old) ∧ h.IsTupleIter it a i ∧ e ≠ it ∧ e ≠ a ∧ a ≠ it) where
  mem := List.mem_cons_self
  obj := fun i h st b hb => by
    obtain ⟨⟨old, he⟩, ⟨o, ho, hc, hd⟩, _⟩ := st
    rcases List.mem_cons.mp hb with z | z
    · subst z
      exact ⟨_, he, fun v q => nomatch q⟩
    · obtain rfl := List.mem_singleton.mp z
      exact ⟨o, ho, fun v q => by rw [hd] at q; cases q⟩
  keep := fun i h h' st k => by
    obtain ⟨⟨old, he⟩, hi, hne⟩ := st
    exact ⟨⟨old, k e List.mem_cons_self _ he⟩, hi.at fun o q => k it (List.mem_cons_of_mem _ List.mem_cons_self) o q, hne⟩
  item := by
    intro X hP hw hK hc i pins s σ H E I hf st hg
    subst hP hw hK
    obtain ⟨⟨old, he⟩, hit, hne, hea, hai⟩ := st
    obtain ⟨xs, x, hq, hx⟩ := hg
    obtain ⟨its, rv, p, _⟩ := I.tuple hq
    have ht : s.heap.IsTuple a its.toArray := p
    obtain ⟨u, hu, ru⟩ := rv.get hx
    have hlt : i < its.toArray.size := by
      rw [List.size_toArray]
      exact (List.getElem?_eq_some_iff.mp hu).1
    have hel : e < s.heap.objs.size := Heap.lt_size he
    have hil : it < s.heap.objs.size := by obtain ⟨_, q, _⟩ := hit; exact Heap.lt_size q
    have hef : e ∉ [it, a] := fun z => by
      rcases List.mem_cons.mp z with z | z
      · exact hne z
      · exact hea (List.mem_singleton.mp z)
    refine wpAny_pyNext_enum_itemD (Draws.tuple (A := X.A.in1) (I.ok.hd hc) it a hai its.toArray) he ⟨hit, ht⟩ hlt hne hef fun y h' tk hy ho hst hT hsz hk => ?_
    have ey : y = u := by
      have e2 : its[i]? = some y := by simpa using hy
      exact (Option.some.inj (hu.symm.trans e2)).symm
    subst ey
    refine ⟨_, rfl, wpAny_letOwnedTupleGo_enum (s := { s with heap := h', toks := tk + 1 }) ho fun h'' he' sb => ?_⟩
    have hT2 : h''.get? s.heap.objs.size = some { cls := .type "tuple", data := .seq #[.int i tk, y] } := (sb.2 _ (Nat.ne_of_gt hel)).trans hT
    have new : ObjOk X.prog X.w (upd H s.heap.objs.size (.tup [.int (i : Nat), x])) h'' s.heap.objs.size (.tup [.int (i : Nat), x]) :=
      ⟨show 2 ≤ sizeLine by decide, [.int i tk, y], .cons ⟨_, rfl⟩ (.cons ru .nil), ⟨_, hT2, rfl, _, rfl⟩⟩
    have I1 : Inv X pins σ (upd H s.heap.objs.size (.tup [.int (i : Nat), x])) { s with heap := h'', toks := tk + 1 } :=
      I.turnedNew (ch := [e, it]) (fun b ob hb q => (sb.2 b (fun z => hb (by simp [z]))).trans (hk b ob (fun z => hb (by simp [z])) (fun z => hb (by simp [z])) q)) hf (Nat.le_refl _) new
    refine ⟨.ref s.heap.objs.size, _, I1, rfl, ⟨_, x, rfl, I.hok.fresh (Nat.le_refl _), rfl, fun ys hy => by rw [I.tuple_inj hy hq]; exact hx⟩, ⟨⟨y, ?_⟩, hst.1.at fun o q => (sb.2 it (Ne.symm hne)).trans q, hne, hea, hai⟩, fun b hb => ?_⟩
    · rw [show ((i + 1 : Nat) : Int) = (i : Int) + 1 by omega]
      exact he'
    · have hb' : b < s.heap.objs.size := by
        rcases List.mem_cons.mp hb with z | z
        · subst z; exact hel
        · obtain rfl := List.mem_singleton.mp z
          exact hil
      rw [upd_ne (Nat.ne_of_lt hb')]
      exact (hf b hb).1
  done := by
    intro X hP hw hK hc i pins s σ H E I hf st hg
    subst hP hw hK
    obtain ⟨⟨old, he⟩, hit, hne, hea, hai⟩ := st
    obtain ⟨xs, hq, hx⟩ := hg
    obtain ⟨its, rv, p, _⟩ := I.tuple hq
    have ht : s.heap.IsTuple a its.toArray := p
    obtain ⟨f0, f1, f2, f3, f4, f5⟩ := hf it (List.mem_cons_of_mem _ List.mem_cons_self)
    have hl := rv.length
    have hT : s.TypeIs (.ref e) "enumerate" := ⟨_, he, rfl⟩
    unfold pyNext
    refine wpAny_bind (wpAny_attempt (wpAny_callSpecial?_slot (name := Str.ofString "__next__") hT F.slot_enumerate_next (wpAny_call_entry F.slot_enumerate_next hT F.entry_enumerate_next ?_ (F.args_enumerate_next_1 _))))
    show wpAny _ _ (field (.ref e) 2 >>= _) _ _ _
    refine wpAny_bind (wpAny_field he rfl (x := .ref it) rfl ?_)
    refine wpAny_bind (wpAny_nextOf_tuple_end (I.ok.hd hc) hit ht (by simp; omega) fun h' x eb hx' => ?_)
    obtain ⟨o, ho, hc'⟩ := hx'
    refine wpAny_bind (wpAny_isInstance (T := "StopIteration") (b := true) ⟨o, ho, hc'⟩ isSubtype_stop ?_)
    exact wpAny_pure ⟨rfl, I.turned (t' := s.toks) (fun b o hb q => eb b o hb q) f0 f1 f3 f4 f5⟩
  self := fun A i s Q E st h => by
    obtain ⟨⟨_, he⟩, _⟩ := st
    exact wpAny_pyIter_enum he h
def iEnumT (K : PySem.W.Frag) (ta : TA) : TI := fun σ H R => ta σ H fun vs H1 => ∃ a xs, vs = [.ref a] ∧ SqT K H1 a xs ∧ R (IteT K a) H1
theorem pi_enumT {X : Cx} {e : Expr} {ta : TA} {p pos tpos : Pos} {elts : List Expr} {kk : Nat} (hg : Gl X "enumerate") (hm : X.mg "enumerate" = none) (ha : PA X [e] ta) (hs : starEach [e] X.env = [(false, eval e X.env)] := by rfl) :
    PI X (.Tuple elts kk tpos) (.Call (.Name "enumerate" p) [e] [] pos) (iEnumT X.K ta) := by
  refine ⟨fun pins s σ H R I h => ?_⟩
  refine Call_ (ld_blt I hg hm boot_enumerate (PyProof.Rows.callWith_type1 (thn (ha.run pos pins s σ H _ I h) fun us s1 ⟨vs, H1, I1, r1, q1⟩ => ?_) hs rfl))
  obtain ⟨a, xs, ex, hq, q⟩ := q1
  subst ex
  obtain ⟨u, rfl, ru⟩ := r1.one
  cases (show u = Value.ref a from ru)
  obtain ⟨its, rv, p', _⟩ := I1.tuple hq
  have ht : s1.heap.IsTuple a its.toArray := p'
  have hlt : a < s1.heap.objs.size := by obtain ⟨_, z, _⟩ := ht; exact Heap.lt_size z
  refine ket_call ht fun h' he hit hsz hk => wpAny_pyIter_enum he ?_
  have I2 : Inv X pins σ H1 { s1 with heap := h' } := I1.kept (t' := s1.toks) hk
  refine ⟨s1.heap.objs.size + 1, [s1.heap.objs.size + 1, s1.heap.objs.size], _, _, H1, rfl, I2, turn_enumT a (s1.heap.objs.size + 1) s1.heap.objs.size,
    ⟨⟨.none, he⟩, hit, Nat.succ_ne_self _, Nat.ne_of_gt (Nat.lt_succ_of_lt hlt), Nat.ne_of_lt hlt⟩, fun b hb => ?_, q⟩
  have hle : s1.heap.objs.size ≤ b := by
    rcases List.mem_cons.mp hb with z | z
    · rw [z]; exact Nat.le_add_right _ _
    · rw [List.mem_singleton.mp z]; exact Nat.le_refl _
  exact I1.fpOk hle (I1.hok.fresh hle)
theorem walk_enumT {K : PySem.W.Frag} {a : Addr} {xs : List V} : Walk (IteT K a) xs.length (fun H => SqT K H a xs) (YPair (fun i => some (.int (i : Nat))) (fun i => xs[i]?)) where
  goes := fun i _ hi q => ⟨xs, xs[i], q, List.getElem?_eq_getElem hi⟩
  stops := fun _ q => ⟨xs, q, Nat.le_refl _⟩
  yields := fun i H v H' _ q y => by
    obtain ⟨T, x, h1, h2, h3, h4⟩ := y
    exact ⟨T, .int (i : Nat), x, h1, h2, h3, rfl, h4 xs q⟩
theorem walk_zipT {K : PySem.W.Frag} {a b : Addr} {xs ys : List V} : Walk (RZ.ItzT K a b) (min xs.length ys.length) (fun H => SqT K H a xs ∧ SqT K H b ys) (YPair (fun i => xs[i]?) (fun i => ys[i]?)) where
  goes := fun i _ hi q => ⟨xs, ys, xs[i]'(by omega), ys[i]'(by omega), q.1, q.2, List.getElem?_eq_getElem (by omega), List.getElem?_eq_getElem (by omega)⟩
  stops := fun _ q => ⟨xs, ys, q.1, q.2, by omega⟩
  yields := fun i H v H' _ q y => by
    obtain ⟨T, x, z, h1, h2, h3, h4, h5⟩ := y
    exact ⟨T, x, z, h1, h2, h3, h4 xs q.1, h5 ys q.2⟩
/-! the rows -/
section
variable {K : PySem.W.Frag} {C : Cfg} {bi : Option Nat} {ta tb : TE} {ra rb : DE}
def iEnmT (ra : DE) : DI := fun ρ B Q => ra ρ B fun x B1 => ∃ ds, x = .tup ds ∧ Q (numbered ds) B1
theorem si_enmT {i j : Nat} (ha : SE K C bi ta ra) : SI K C bi (iEnumT K (tCons ta tNil)) (gTup K 2 (gCons (gName i) (gCons (gName j) gNil))) [i, j] (iEnmT ra) := by
  intro hid bx ρ B σ H QD R c h k
  refine ha hid bx ρ B σ H _ _ c h fun x B1 v H1 q1 s1 h1 r1 => ?_
  obtain ⟨ds, e, q1⟩ := q1
  subst e
  cases r1 with
  | @tup a vs _ hp r =>
    refine ⟨a, vs, rfl, (out_keep hid H1).sqT hp, k _ B1 _ H1 q1 s1 h1 fun hid' H2 kp => ?_⟩
    have hq : SqT K H2 a vs := (out_keep hid' H2).sqT (kp.sqT hp)
    have w := walk_enumT (K := K) (a := a) (xs := vs)
    refine ⟨fun i hi => w.goes i H2 (by rw [numbered_len] at hi; rw [r.length]; exact hi) hq, by rw [numbered_len, ← r.length]; exact w.stops H2 hq, fun n row x H3 hr y σ Kc hk => ?_⟩
    obtain ⟨d, ed, er⟩ := numbered_get hr
    subst er
    obtain ⟨v, ev, rv⟩ := r.get ed
    have hi : n < vs.length := (List.getElem?_eq_some_iff.mp ev).1
    obtain ⟨T, x1, x2, e1, nT, e3, e4, e5⟩ := w.yields n H2 x H3 hi hq y
    have e6 : V.int (n : Nat) = x1 := Option.some.inj e4
    have e7 : v = x2 := Option.some.inj (ev.symm.trans e5)
    subst e6
    subst e7
    subst e1
    subst e3
    exact g_pair (hk [.int (n : Nat), v] _ (same_upd nT) rfl (.cons (.int _) (.cons ((rv.mono kp).mono ((Step.same (bx := none) (same_upd nT)).keep fun _ z => nomatch z)) .nil)))
theorem zip_rows {ds es : List D} {i : Nat} {row : List D} (h : ((ds.zip es).map fun p => [p.1, p.2])[i]? = some row) : ∃ d e, ds[i]? = some d ∧ es[i]? = some e ∧ row = [d, e] := by
  rw [List.getElem?_map, Option.map_eq_some_iff] at h
  obtain ⟨p, e1, e2⟩ := h
  rw [List.getElem?_zip_eq_some] at e1
  exact ⟨p.1, p.2, e1.1, e1.2, e2.symm⟩
theorem si_zipT {i j : Nat} (ha : SE K C bi ta ra) (hb : SE K C bi tb rb) : SI K C bi (RZ.iZipA K (tCons ta (tCons tb tNil))) (gTup K 2 (gCons (gName i) (gCons (gName j) gNil))) [i, j] (iZipD ra rb) := by
  intro hid bx ρ B σ H QD R c h k
  refine ha hid bx ρ B σ H _ _ c h fun x B1 v H1 q1 s1 h1 r1 => ?_
  refine hb hid bx ρ B1 σ H1 _ _ (c.step s1 h1) q1 fun y B2 w H2 q2 s2 h2 r2 => ?_
  obtain ⟨ds, es, e1, e2, q2⟩ := q2
  subst e1
  subst e2
  have r3 := r1.mono (s2.keep h2.sub)
  cases r3 with
  | @tup a vs _ hp r =>
    cases r2 with
    | @tup b ws _ hp2 r2 =>
      refine ⟨a, b, vs, ws, rfl, .inr ⟨(out_keep hid H2).sqT hp, (out_keep hid H2).sqT hp2, k _ B2 _ H2 q2 (s1.trans s2) h2 fun hid' H3 kp => ?_⟩⟩
      have hq : SqT K H3 a vs := (out_keep hid' H3).sqT (kp.sqT hp)
      have hq2 : SqT K H3 b ws := (out_keep hid' H3).sqT (kp.sqT hp2)
      have w := walk_zipT (K := K) (a := a) (b := b) (xs := vs) (ys := ws)
      have el : ((ds.zip es).map fun p => [p.1, p.2]).length = min vs.length ws.length := by rw [List.length_map, List.length_zip, r.length, r2.length]
      refine ⟨fun i hi => w.goes i H3 (by rw [el] at hi; exact hi) ⟨hq, hq2⟩, by rw [el]; exact w.stops H3 ⟨hq, hq2⟩, fun n row x H4 hr y σ Kc hk => ?_⟩
      obtain ⟨d, e, ed, ee, er⟩ := zip_rows hr
      subst er
      obtain ⟨v, ev, rv⟩ := r.get ed
      obtain ⟨u, eu, ru⟩ := r2.get ee
      have hi : n < min vs.length ws.length := by
        have := (List.getElem?_eq_some_iff.mp ev).1
        have := (List.getElem?_eq_some_iff.mp eu).1
        omega
      obtain ⟨T, x1, x2, e1, nT, e3, e4, e5⟩ := w.yields n H3 x H4 hi ⟨hq, hq2⟩ y
      have e6 : v = x1 := Option.some.inj (ev.symm.trans e4)
      have e7 : u = x2 := Option.some.inj (eu.symm.trans e5)
      subst e6
      subst e7
      subst e1
      subst e3
      have up := (Step.same (bx := none) (same_upd (o := .tup [v, u]) nT)).keep (hid := hid') fun _ z => nomatch z
      exact g_pair (hk [v, u] _ (same_upd nT) rfl (.cons ((rv.mono kp).mono up) (.cons ((ru.mono kp).mono up) .nil)))
/-- any(tuple of ints) -/
def intsD : List D → Option (List Int)
  | [] => some []
  | .int n :: r => (intsD r).map fun ns => n :: ns
  | _ :: _ => none
theorem ints_rep {H : Hp} : ∀ {vs : List V} {ds : List D}, RepL K C H vs ds → ∀ ns, intsD ds = some ns → vs = ns.map V.int
  | _, _, .nil, ys, e => by simp only [intsD] at e; cases e; rfl
  | _, _, .cons (d := d) r t, ys, e => by
    cases d with
    | int x =>
      simp only [intsD, Option.map_eq_some_iff] at e
      obtain ⟨zs, e1, e2⟩ := e
      subst e2
      cases r
      rw [ints_rep t zs e1]
      rfl
    | _ => simp [intsD] at e
theorem intsD_map : ∀ ns : List Int, intsD (ns.map D.int) = some ns
  | [] => rfl
  | n :: ns => by
    show (intsD (ns.map D.int)).map _ = _
    rw [intsD_map ns]
    rfl
def oAnyI : DU := fun x Q => ∃ ds ns, x = .tup ds ∧ intsD ds = some ns ∧ Q (.bl (ns.any fun n => n != 0))
theorem ok_anyI : UnOk K C (rOne (rAnyI K)) oAnyI := by
  intro hid bx B H x dx QD Q h rx q k
  obtain ⟨ds, ns, e1, e2, q⟩ := q
  subst e1
  cases rx with
  | tup hp r =>
    have ev := ints_rep r ns e2
    subst ev
    exact ⟨_, ns, rfl, (out_keep hid H).sqT hp, k _ _ H q (Same.refl H) (.bl _)⟩
end
end KD
set_option Elab.async false
set_option linter.all false
set_option maxRecDepth 100000
set_option maxHeartbeats 2000000
/-! Rules of this claim's own, 2: next(generator expression, default). -/
namespace KD
open PySem PySem.Spec PyProof.Rows L2 GxR
/-- next(it, dflt), it a generator's object -/
theorem next_gen {prog : Program} {w : World} {A : Around} {E : Value → Shared → Prop} {s : Shared} {g : Addr} {d : Value} {Q : Value → Shared → Prop} (hT : s.TypeIs (.ref g) "generator")
    (h : wpAny (model prog w) A.in1 (pyNext (.ref g)) (fun r s1 => Q (r.getD d) s1) E s) : wpAny (model prog w) A (call (.builtin "next") [.ref g, d]) Q E s := by
  refine Calls.call_function_entry (by decide +kernel) (by decide +kernel) PySem.W.kdk_entry_next (PySem.W.kdk_args_next2 _ _) ?_
  unfold Builtin.«next»
  refine wpAny_bind (m := someArgs "next" 1 2 _) (wpAny_of_eq (a := [Value.ref g, d]) (by first | rfl | kernel_rfl!) ?_)
  dsimp only
  refine wpAny_bind (wpAny_specialOf (name := Str.ofString "__next__") hT slot_gen_next.lookup ?_)
  refine wpAny_ite_split (fun q => absurd q (by decide)) fun _ => ?_
  exact wpAny_bind (wpAny_mono h (fun r s1 q => wpAny_pure ⟨_, rfl, q⟩) fun _ _ z => z)
section
variable {X : Cx} {pins : List (Addr × Obj)} {σ : L2.St} {H H1 : Hp} {s s1 : Shared} {k : Nat} {c P : Addr} {scope : Scope} {gpos : Pos}
theorem not_P {h : Heap} {P b : Addr} {ps : Array Value} (hP : h.get? P = some { cls := .none, data := .fields ps }) (hl : h.NoLimit) : cStatics ≠ P := fun e => by
  obtain ⟨_, hns, _⟩ := hl
  obtain ⟨o, es, ep, ho, hd, _⟩ := hns
  rw [e, hP] at ho
  cases ho
  cases hd
/-- the generator's code object: found, or made and told to the def's table -/
theorem gen_code {ps : Array Value} {h2 : Heap} {t2 : Nat} {Kq : Value → Addr → Shared → Prop} (I1 : Inv X pins σ H1 s1) (TB : TabB X.base X.mg c P) (hcode : X.env.code = .ref c) (hP : H1 P = some (.tbl ps)) (ht : TriplesOk ps.toList)
    (k12 : ∀ b o, s1.heap.get? b = some o → h2.get? b = some o) (hl : h2.NoLimit)
    (h : ∀ (code : Value) (h3 : Heap) (tk : Nat) (ps' more : Array Value), ps' = ps ++ more → TriplesOk ps'.toList → Heap.ExtBut P h2 h3 → h2.objs.size ≤ h3.objs.size → h3.get? P = some { cls := .none, data := .fields ps' } → h3.NoLimit →
      Kq code builtinsNs { s1 with heap := h3, toks := tk }) :
    wpAny (model X.prog X.w) X.A (genexprCode X.env gpos (X.env.qual ++ "<genexpr>") scope) (fun code s3 => wpAny (model X.prog X.w) X.A (builtinsFor X.env.globals X.env.builtins) (fun bi s4 => Kq code bi s4) X.xe s3) X.xe { s1 with heap := h2, toks := t2 } := by
  have hPs : s1.heap.get? P = some { cls := .none, data := .fields ps } := I1.hok P _ hP
  have hP2 := k12 _ _ hPs
  have cd : PySem.W.CodeHd h2 c P := TB.code.keeps fun b u e => k12 b u (I1.bk b u e)
  have nP : cStatics ≠ P := not_P (b := P) hP2 hl
  obtain ⟨bm, ob, m1, m2, m3, m4, m5, m6, m7, m8⟩ := TB.bm
  have glob : ∀ h3, Heap.ExtBut P h2 h3 → h3.Ns X.env.globals X.mg ∧ h3.get? bm = some ob := fun h3 x => by
    refine ⟨?_, x _ _ m4 (k12 _ _ (I1.bk _ _ m5))⟩
    rw [I1.ok.glob]
    exact ((I1.mod.glob.keeps I1.bk).keeps k12).extBut x TB.gP
  have fin : ∀ (code : Value) (h3 : Heap) (tk : Nat) (ps' more : Array Value), ps' = ps ++ more → TriplesOk ps'.toList → Heap.ExtBut P h2 h3 → h2.objs.size ≤ h3.objs.size → h3.get? P = some { cls := .none, data := .fields ps' } →
      wpAny (model X.prog X.w) X.A (builtinsFor X.env.globals X.env.builtins) (fun bi s4 => Kq code bi s4) X.xe { s1 with heap := h3, toks := tk } := fun code h3 tk ps' more e t x z g =>
    wpAny_builtinsFor (m := X.mg) (glob h3 x).1 m1 m2 (glob h3 x).2 m6 m7 m8 (h code h3 tk ps' more e t x z g (hl.extBut x nP))
  cases hf : codeAmong gpos ps.toList with
  | some cv =>
    refine wpAny_genexprCode_hit hcode (cd.code hP2 ht) hf ?_
    exact fin cv h2 t2 ps #[] (by simp) ht (Heap.ExtBut.refl _ _) (Nat.le_refl _) hP2
  | none =>
    refine wpAny_genexprCodeX hcode (cd.code hP2 ht) (cd.tab hP2) hf fun c' h3 tk x ge lt co' _ tab' _ => ?_
    obtain ⟨_, _, _, _, _, _, _, _, _, _, _, _, _, _, _, _, _, _, _, tr, _⟩ := co'
    exact fin _ h3 tk _ _ rfl tr x (Nat.le_trans ge (Nat.le_of_lt lt)) tab'.2
/-- a generator at g, n things to come, F of the j-th; what is held whenever it has moved: H1 but for the table -/
def Made (X : Cx) (pins : List (Addr × Obj)) (σ : L2.St) (H1 : Hp) (P : Addr) (g : Addr) (n : Nat) (F : Nat → Value → Prop) (s5 : Shared) : Prop :=
  ∃ (fp wr : List Addr) (G : Array GenState → Array GenState → Prop) (St : Nat → Shared → Prop), WalksS X.prog X.w X.A.in1 g fp wr G n F St ∧ St 0 s5 ∧ s5.TypeIs (.ref g) "generator" ∧ ∀ s', Moved wr G s5 s' → ∃ H2, Tabbed P H1 H2 ∧ Inv X pins σ H2 s'
/-- what is held behind the making -/
theorem made_inv {ps ps' more : Array Value} {h2 h3 h5 : Heap} {t2 tk tk5 : Nat} {gs : GenState} {wr : List Addr} {g5 : Nat} (I1 : Inv X pins σ H1 s1) (hP : H1 P = some (.tbl ps)) (e : ps' = ps ++ more) (tr : TriplesOk ps'.toList)
    (k12 : ∀ b o, s1.heap.get? b = some o → h2.get? b = some o) (x : Heap.ExtBut P h2 h3) (sz : h2.objs.size ≤ h3.objs.size) (sz1 : s1.heap.objs.size ≤ h2.objs.size) (hP3 : h3.get? P = some { cls := .none, data := .fields ps' })
    (hw : ∀ b ∈ wr, s1.heap.objs.size ≤ b) (k35 : ∀ b o, h3.get? b = some o → h5.get? b = some o) (hgb : gs.bare = true) (s' : Shared)
    (mv : Moved (h3.objs.size :: wr) (GenOnlyQ g5) { s1 with gens := s1.gens.push gs, toks := tk5, heap := h5 } s') : ∃ H2, Tabbed P H1 H2 ∧ Inv X pins σ H2 s' := by
  have hPs : s1.heap.get? P = some { cls := .none, data := .fields ps } := I1.hok P _ hP
  have nw : ∀ b u, s1.heap.get? b = some u → b ∉ h3.objs.size :: wr := fun b u eb hb => by
    have hl := Heap.lt_size eb
    rcases List.mem_cons.mp hb with z | z
    · rw [z] at hl
      exact absurd (Nat.le_trans sz1 sz) (Nat.not_le_of_lt hl)
    · exact absurd (hw b z) (Nat.not_le_of_lt hl)
  have J := inv_tab (more := more) (h' := s'.heap) (g' := s'.gens) (d' := s'.drawn) (t' := s'.toks) I1 hP (fun b u nb eb => mv.heap b u (nw b u eb) (k35 b u (x b u nb (k12 b u eb))))
    (by rw [← e]; exact mv.heap P _ (nw P _ hPs) (k35 P _ hP3)) (AllBare.movedS (I1.bare.push hgb) mv)
  rw [sh_eta s1 s' mv.os] at J
  exact ⟨_, ⟨⟨ps ++ more, upd_same, by rw [← e]; exact tr⟩, fun b nb => upd_ne nb⟩, J⟩
/-- the test x != 0 -/
def nzAt (ns : List Int) (i : Nat) : Bool := ns.getD i 0 != 0
theorem nzAt_of {ns : List Int} {i : Nat} {n : Int} (e : ns[i]? = some n) : nzAt ns i = (n != 0) := by
  unfold nzAt
  rw [List.getD_eq_getElem?_getD, e]
  rfl
/-- (x for x in t if x != 0), t a tuple of ints -/
theorem gen_nz {iter : Expr} {x : Str} {px p1 p2 p3 p4 : Pos} {j : Nat} {te : TE} {Q' : Value → Shared → Prop} {R : Addr → List Int → Hp → Prop}
    (hr : Room k X.A) (TB : TabB X.base X.mg c P) (hcode : X.env.code = .ref c) (S : GenS X.env scope x) (hi : PE X iter te) (hd : (x == ("__debug__" : Str)) = false)
    (hs : ∀ v, genFold iter X.env v = pure v) (I : Inv X pins σ H s) (h : te σ H fun v H1 => ∃ a ns, v = .ref a ∧ SqT X.K H1 a (ns.map V.int) ∧ TabG H1 P ∧ R a ns H1)
    (hQ : ∀ a ns H1 g s5, R a ns H1 → Made X pins σ H1 P g (passing (nzAt ns) ns.length 0).length (fun jj y => ∃ i n t, (passing (nzAt ns) ns.length 0)[jj]? = some i ∧ ns[i]? = some n ∧ y = .int n t) s5 → Q' (.ref g) s5) :
    wpAny (model X.prog X.w) X.A (eval (.GeneratorExp (.Name x p1) [⟨.Name x px, iter, [.Compare (.Name x p2) [.NotEq] [.Constant (.int 0) j p3] p4], 0⟩] scope gpos) X.env) Q' X.xe s := by
  refine wpAny_GeneratorExp_walksQ hr.hd S.co (closure_ok S.free) S.cell S.dot S.loc S.kind (by have := hr.dp; omega) ?_ hs
  refine thn (hi.run pins s σ H _ I h) fun xv s1 ⟨v, H1, I1, r1, a, ns, ev, hq, ⟨ps, hP, ht⟩, q1⟩ => ?_
  subst ev
  obtain rfl : xv = Value.ref a := r1
  obtain ⟨its, rv, p, hz⟩ := I1.tuple hq
  have hT : s1.heap.IsTuple a its.toArray := p
  have hlt : a < s1.heap.objs.size := by obtain ⟨_, z, _⟩ := hT; exact Heap.lt_size z
  refine wpAny_pyIter_tuple hT ?_
  have k12 : ∀ b o, s1.heap.get? b = some o → (s1.heap.push { cls := .type "tuple_iterator", data := .fields #[.ref a, .int 0 0] }).get? b = some o := fun b o e => Heap.get?_push_of_some _ e
  have lim2 := I1.nolimit.push { cls := .type "tuple_iterator", data := .fields #[.ref a, .int 0 0] }
  refine ⟨lim2, gen_code (t2 := s1.toks) I1 TB hcode hP ht k12 lim2 fun code h3 tk ps' more e tr xt sz hP3 hl3 => ?_⟩
  have sz2 : (s1.heap.push { cls := .type "tuple_iterator", data := .fields #[.ref a, .int 0 0] }).objs.size = s1.heap.objs.size + 1 := Heap.size_push ..
  have hPs : s1.heap.get? P = some { cls := .none, data := .fields ps } := I1.hok P _ hP
  have naP : a ≠ P := fun z => by
    obtain ⟨o, ho, _, _, hd⟩ := hT
    rw [z, hPs] at ho
    cases ho
    cases hd
  have niP : s1.heap.objs.size ≠ P := fun z => by
    have := Heap.lt_size hPs
    rw [← z] at this
    exact Nat.lt_irrefl _ this
  have hsz : its.toArray.size = ns.length := by rw [List.size_toArray, ← rv.length, List.length_map]
  refine ⟨s1.heap.objs.size, [s1.heap.objs.size, a], [s1.heap.objs.size], its.toArray.size, (fun i v => its.toArray[i]? = some v), _, nzAt ns, (fun i y => ∃ n t, ns[i]? = some n ∧ y = .int n t), rfl,
    fun A' hA => Walks.tuple hA s1.heap.objs.size a (Nat.ne_of_lt hlt) its.toArray, ⟨?_, ?_⟩, ?_, hl3, ?_, fun href hhref => ?_, ?_⟩
  · exact ⟨_, xt _ _ niP (Heap.get?_push_size _ rfl), rfl, rfl⟩
  · exact hT.at fun o z => xt a o naP (k12 a o z)
  · intro b hb
    show b < h3.objs.size
    have up : s1.heap.objs.size < h3.objs.size := Nat.lt_of_lt_of_le (by rw [sz2]; exact Nat.lt_succ_self _) sz
    rcases List.mem_cons.mp hb with z | z
    · rw [z]; exact up
    · rw [List.mem_singleton.mp z]; exact Nat.lt_trans hlt up
  · intro z
    have hcl : cStatics < s1.heap.objs.size := by obtain ⟨_, hns, _⟩ := I1.nolimit; exact hns.lt
    rw [List.mem_singleton.mp z] at hcl
    exact Nat.lt_irrefl _ hcl
  · have nm : ∀ {cenv : PySem.Env} {A' : Around} {E' : Value → Shared → Prop} {v : Value} {s₂ : Shared} {m₂ : Str → Option Value} {Q2 : Value → Shared → Prop} {pp : Pos}, cenv.scope = scope → s₂.heap.Ns cenv.locals m₂ → m₂ x = some v → Q2 v s₂ → wpAny (model X.prog X.w) A' (eval (.Name x pp) cenv) Q2 E' s₂ :=
      fun {cenv A' E' v s₂ m₂ Q2 pp} e1 hn hm q => wpAny_Name (wpAny_loadName_local (by rw [e1]; exact S.kind) (show cenv.scope.names.lookup x = some .local by rw [e1]; exact S.loc) hn hm q) hd
    refine ⟨fun A' E' i v s₂ m₂ hA hv hn hm hk => ?_, fun A' E' i v s₂ m₂ hA hv hp hn hm hk => ?_⟩
    · obtain ⟨n, t, e1, e2⟩ := ints_vals rv i v (by simpa using hv)
      subst e2
      refine wpAny_tests_one (wpAny_isTrue_Compare1 (nm rfl hn hm (wpAny_Constant_int (PySem.P.ne_int (wpAny_truthy_bool ⟨?_, keeps_tok _ _⟩)))))
      exact (nzAt_of e1).symm
    · obtain ⟨n, t, e1, e2⟩ := ints_vals rv i v (by simpa using hv)
      exact nm rfl hn hm ⟨⟨n, t, e1, e2⟩, keeps_refl _⟩
  · intro g h5 tk5 gs hgb hag hsz5 hk5 W5 hat
    rw [hsz] at W5 hat
    have W6 := W5.in4_1
    have W7 : WalksS X.prog X.w X.A.in1 g _ _ _ (passing (nzAt ns) ns.length 0).length (fun jj y => ∃ i n t, (passing (nzAt ns) ns.length 0)[jj]? = some i ∧ ns[i]? = some n ∧ y = .int n t) _ :=
      { W6 with item := fun i s Q E hi st hq => W6.item i s Q E hi st fun v s' hv => hq v s' (by
          obtain ⟨i2, e3, n, t, e4, e5⟩ := hv
          exact ⟨i2, n, t, e3, e4, e5⟩) }
    refine hQ a ns H1 g _ q1 ⟨_, _, _, _, W7, hat, hat.1.typeIs, fun s' mv => made_inv (t2 := s1.toks) (tk := tk) I1 hP e tr k12 xt sz (by rw [sz2]; exact Nat.le_succ _) hP3 (fun b hb => ?_) hk5 hgb s' mv⟩
    rw [List.mem_singleton.mp hb]
    exact Nat.le_refl _
/-- the first of ints that is not 0, its place; 0 where there is none -/
def fstN (ns : List Int) : Int := (ns.find? fun n => n != 0).getD 0
def fstI (ns : List Int) : Nat := (ns.findIdx? fun n => n != 0).getD 0
theorem pass_head (pz : Nat → Bool) : ∀ (m n : Nat), (((List.range (m + n)).drop m).filter pz)[0]? = ((List.range n).find? fun i => pz (m + i)).map fun i => m + i := by
  intro m n
  have e : (List.range (m + n)).drop m = (List.range n).map (fun i => m + i) := by
    apply List.ext_getElem
    · simp
    · intro i h1 h2
      simp
  rw [e, List.filter_map, List.getElem?_map]
  have e2 : ((List.range n).filter (pz ∘ fun i => m + i))[0]? = (List.range n).find? fun i => pz (m + i) := by
    rw [← List.head?_eq_getElem?, List.head?_filter]
    rfl
  rw [e2]
theorem pass_nz (ns : List Int) : (passing (nzAt ns) ns.length 0)[0]? = ns.findIdx? fun n => n != 0 := by
  have h := pass_head (nzAt ns) 0 ns.length
  rw [Nat.zero_add] at h
  unfold passing
  rw [h]
  simp only [Nat.zero_add, Option.map_id']
  clear h
  induction ns with
  | nil => rfl
  | cons a r ih =>
    rw [List.length_cons, List.range_succ_eq_map, List.find?_cons, List.findIdx?_cons]
    have e0 : nzAt (a :: r) 0 = (a != 0) := rfl
    rw [e0]
    cases ha : (a != 0) with
    | true => rfl
    | false =>
      simp only [Bool.false_eq_true, if_false]
      rw [← ih, List.find?_map]
      rfl
theorem idx_nz {ns : List Int} {i : Nat} (h : ns.findIdx? (fun n => n != 0) = some i) : ∃ n, ns[i]? = some n ∧ ns.find? (fun n => n != 0) = some n := by
  induction ns generalizing i with
  | nil => cases h
  | cons a r ih =>
    rw [List.findIdx?_cons] at h
    rw [List.find?_cons]
    cases ha : (a != 0) with
    | true =>
      rw [ha, if_pos rfl] at h
      cases h
      exact ⟨a, rfl, rfl⟩
    | false =>
      rw [ha, if_neg Bool.false_ne_true, Option.map_eq_some_iff] at h
      obtain ⟨j, e1, e2⟩ := h
      obtain ⟨n, e3, e4⟩ := ih e1
      subst e2
      exact ⟨n, by simpa using e3, e4⟩
theorem idx_none {ns : List Int} (h : ns.findIdx? (fun n => n != 0) = none) : ns.find? (fun n => n != 0) = none := by
  rw [List.findIdx?_eq_none_iff] at h
  rw [List.find?_eq_none]
  intro x hx
  rw [h x hx]
  exact Bool.false_ne_true
/-- next((x for x in t if x != 0), 0) -/
def tNextV (K : PySem.W.Frag) (P : Addr) (te : TE) : TE := fun σ H Q => te σ H fun v H1 => ∃ a ns, v = .ref a ∧ SqT K H1 a (ns.map V.int) ∧ TabG H1 P ∧ ∀ H2, Tabbed P H1 H2 → Q (.int (fstN ns)) H2
theorem Made.tok {g : Addr} {n : Nat} {F : Nat → Value → Prop} {s5 : Shared} (M : Made X pins σ H1 P g n F s5) (tk : Nat) (h : s5.toks ≤ tk) : Made X pins σ H1 P g n F { s5 with toks := tk } := by
  obtain ⟨fp, wr, G, St, W, st, hT, back⟩ := M
  refine ⟨fp, wr, G, St, W, W.frame 0 s5 s5.heap tk st h fun _ _ _ e => e, hT, fun s' mv => back s' ?_⟩
  exact ⟨mv.heap, mv.gens, mv.drawn, mv.os, Nat.le_trans h mv.toks⟩
theorem next_made {Qd : V → Hp → Prop} {g : Addr} {n : Nat} {F : Nat → Value → Prop} {s5 : Shared} {t : Tok} (M : Made X pins σ H1 P g n F s5) (h0 : n = 0 → ∀ H2, Tabbed P H1 H2 → Qd (.int 0) H2) (h1 : 0 < n → ∀ y, F 0 y → ∃ v, RelV v y ∧ ∀ H2, Tabbed P H1 H2 → Qd v H2) :
    wpAny (model X.prog X.w) X.A (call (.builtin "next") [.ref g, .int 0 t]) (EP X pins σ Qd) X.xe s5 := by
  obtain ⟨fp, wr, G, St, W, st, hT, back⟩ := M
  refine next_gen hT ?_
  by_cases hn : n = 0
  · subst hn
    refine W.done s5 _ _ st fun s' mv => ?_
    obtain ⟨H2, T, J⟩ := back s' mv
    exact ⟨.int 0, H2, J, ⟨t, rfl⟩, h0 rfl H2 T⟩
  · refine W.item 0 s5 _ _ (Nat.pos_of_ne_zero hn) st fun y s' hy _ mv => ?_
    obtain ⟨H2, T, J⟩ := back s' mv
    obtain ⟨v, rv, q⟩ := h1 (Nat.pos_of_ne_zero hn) y hy
    exact ⟨v, H2, J, rv, q H2 T⟩
theorem pe_nextV {iter : Expr} {x : Str} {px p1 p2 p3 p4 p5 p pos : Pos} {j j2 : Nat} {te : TE} (hr : Room k X.A) (hg : Gl X "next") (hm : X.mg "next" = none) (TB : TabB X.base X.mg c P) (hcode : X.env.code = .ref c) (S : GenS X.env scope x) (hi : PE X iter te)
    (hs : ∀ v, genFold iter X.env v = pure v) (hd : (x == ("__debug__" : Str)) = false := by decide)
    (he : ∀ e2 : Expr, starEach [.GeneratorExp (.Name x p1) [⟨.Name x px, iter, [.Compare (.Name x p2) [.NotEq] [.Constant (.int 0) j p3] p4], 0⟩] scope gpos, e2] X.env =
      (false, eval (.GeneratorExp (.Name x p1) [⟨.Name x px, iter, [.Compare (.Name x p2) [.NotEq] [.Constant (.int 0) j p3] p4], 0⟩] scope gpos) X.env) :: starEach [e2] X.env := by intro _; rfl) :
    PE X (.Call (.Name "next" p) [.GeneratorExp (.Name x p1) [⟨.Name x px, iter, [.Compare (.Name x p2) [.NotEq] [.Constant (.int 0) j p3] p4], 0⟩] scope gpos, .Constant (.int 0) j2 p5] [] pos) (tNextV X.K P te) := by
  refine ⟨fun pins s σ H Q I h => ?_⟩
  refine wpAny_Call_Name_kw (ld_blt (u := .builtin "next") I hg hm (by first | rfl | decide +kernel) ?_ (by decide) (by decide))
  refine PyProof.Rows.callWith_builtin1 ?_ (he _) (by rfl)
  rw [he]
  show wpAny _ _ (spliced ((false, eval (.GeneratorExp (.Name x p1) [⟨.Name x px, iter, [.Compare (.Name x p2) [.NotEq] [.Constant (.int 0) j p3] p4], 0⟩] scope gpos) X.env) :: backTo pos (starEach [.Constant (.int 0) j2 p5] X.env))) _ _ s
  refine Calls.spliced_cons (gen_nz (R := fun a ns H1 => ∀ H2, Tabbed P H1 H2 → Q (.int (fstN ns)) H2) hr TB hcode S hi hd hs I h fun a ns H1 g s5 hR M => ?_)
  refine Calls.spliced_cons (wpAny_Constant_int (pos := p5) (k := j2) (Calls.spliced_nil ?_))
  refine next_made (M.tok _ (Nat.le_succ _)) (fun z H2 T => ?_) fun z y hy => ?_
  · have e := pass_nz ns
    rw [List.length_eq_zero_iff.mp z] at e
    have e2 : fstN ns = 0 := by
      unfold fstN
      rw [idx_none e.symm]
      rfl
    rw [← e2]
    exact hR H2 T
  · obtain ⟨i, n, t, e1, e2, e3⟩ := hy
    rw [pass_nz] at e1
    obtain ⟨m, e4, e5⟩ := idx_nz e1
    have e6 : m = n := Option.some.inj (e4.symm.trans e2)
    subst e6
    refine ⟨.int m, ⟨t, e3⟩, fun H2 T => ?_⟩
    have e7 : fstN ns = m := by
      unfold fstN
      rw [e5]
      rfl
    rw [← e7]
    exact hR H2 T
/-- (i for i, x in enumerate(t) if x != 0) -/
structure GenS2 (env : PySem.Env) (scope : Scope) (x y : Str) : Prop where
  one : GenS env scope x
  two : scope.names.lookup y = some .local
  ne : x ≠ y
theorem gen_ix {arg : Expr} {x y : Str} {px py p1 p2 p3 p4 pt pe pe2 : Pos} {j kt : Nat} {te : TE} {Q' : Value → Shared → Prop} {R : Addr → List Int → Hp → Prop}
    (hr : Room k X.A) (TB : TabB X.base X.mg c P) (hcode : X.env.code = .ref c) (S2 : GenS2 X.env scope x y) (hg : Gl X "enumerate") (hm : X.mg "enumerate" = none) (hi : PE X arg te) (hd : (x == ("__debug__" : Str)) = false) (hd2 : (y == ("__debug__" : Str)) = false)
    (ha : starEach [arg] X.env = [(false, eval arg X.env)])
    (hs : ∀ v, genFold (.Call (.Name "enumerate" pe) [arg] [] pe2) X.env v = pure v) (I : Inv X pins σ H s) (h : te σ H fun v H1 => ∃ a ns, v = .ref a ∧ SqT X.K H1 a (ns.map V.int) ∧ TabG H1 P ∧ R a ns H1)
    (hQ : ∀ a ns H1 g s5, R a ns H1 → Made X pins σ H1 P g (passing (nzAt ns) ns.length 0).length (fun jj v => ∃ i : Nat, ∃ t, (passing (nzAt ns) ns.length 0)[jj]? = some i ∧ v = .int (i : Nat) t) s5 → Q' (.ref g) s5) :
    wpAny (model X.prog X.w) X.A (eval (.GeneratorExp (.Name x p1) [⟨.Tuple [.Name x px, .Name y py] kt pt, .Call (.Name "enumerate" pe) [arg] [] pe2, [.Compare (.Name y p2) [.NotEq] [.Constant (.int 0) j p3] p4], 0⟩] scope gpos) X.env) Q' X.xe s := by
  have S := S2.one
  refine wpAny_GeneratorExp_walksQT hr.hd S.co (closure_ok S.free) S.cell S.dot S.loc S2.two S2.ne S.kind (by have := hr.dp; omega) ?_ hs
  refine Call_ (ld_blt I hg hm boot_enumerate (PyProof.Rows.callWith_type1 ?_ ha rfl))
  rw [ha]
  show wpAny _ _ (spliced ((false, eval arg X.env) :: backTo pe2 [])) _ _ s
  refine Calls.spliced_cons (thn (hi.run pins s σ H _ I h) fun xv s1 ⟨v, H1, I1, r1, a, ns, ev, hq, ⟨ps, hP, ht⟩, q1⟩ => ?_)
  subst ev
  obtain rfl : xv = Value.ref a := r1
  refine Calls.spliced_nil ?_
  obtain ⟨its, rv, p, hz⟩ := I1.tuple hq
  have hT : s1.heap.IsTuple a its.toArray := p
  have hlt : a < s1.heap.objs.size := by obtain ⟨_, z, _⟩ := hT; exact Heap.lt_size z
  refine ket_call hT fun h2 he hit sz2 k12 => wpAny_pyIter_enum he ?_
  have lim2 : h2.NoLimit := I1.nolimit.keeps k12
  refine ⟨lim2, gen_code (t2 := s1.toks) I1 TB hcode hP ht k12 lim2 fun code h3 tk ps' more e tr xt sz hP3 hl3 => ?_⟩
  have hPs : s1.heap.get? P = some { cls := .none, data := .fields ps } := I1.hok P _ hP
  have ltP := Heap.lt_size hPs
  have naP : a ≠ P := fun z => by
    obtain ⟨o, ho, _, _, hd⟩ := hT
    rw [z, hPs] at ho
    cases ho
    cases hd
  have niP : s1.heap.objs.size ≠ P := Nat.ne_of_gt ltP
  have neP : s1.heap.objs.size + 1 ≠ P := Nat.ne_of_gt (Nat.lt_succ_of_lt ltP)
  have hsz : its.toArray.size = ns.length := by rw [List.size_toArray, ← rv.length, List.length_map]
  have up : s1.heap.objs.size + 1 < h3.objs.size := Nat.lt_of_lt_of_le (by rw [sz2]; exact Nat.lt_succ_self _) sz
  have ne1 : s1.heap.objs.size + 1 ≠ s1.heap.objs.size := Nat.succ_ne_self _
  have ne2 : s1.heap.objs.size + 1 ≠ a := Nat.ne_of_gt (Nat.lt_succ_of_lt hlt)
  refine ⟨s1.heap.objs.size + 1, [s1.heap.objs.size + 1, s1.heap.objs.size, a], [s1.heap.objs.size + 1, s1.heap.objs.size], its.toArray.size, (fun i vals => ∃ t x, its.toArray[i]? = some x ∧ vals = #[.int i t, x]), _, _, nzAt ns, (fun i v => ∃ t, v = .int (i : Nat) t), rfl,
    fun A' hA => (WalksT.enumerateD (A := A') (Draws.tuple (A := A'.in1) hA s1.heap.objs.size a (Nat.ne_of_lt hlt) its.toArray) (s1.heap.objs.size + 1) ne1 (fun z => ?_) List.mem_cons_self).toU, fun i vals hv => ?_, ⟨⟨.none, xt _ _ neP he⟩, hit.at fun o z => xt _ o niP z, hT.at fun o z => xt a o naP (k12 a o z)⟩, ?_, hl3, ?_, fun href hhref => ?_, ?_⟩
  · rcases List.mem_cons.mp z with z | z
    · exact ne1 z
    · exact ne2 (List.mem_singleton.mp z)
  · obtain ⟨t, u, _, e2⟩ := hv
    exact ⟨_, _, e2⟩
  · intro b hb
    show b < h3.objs.size
    rcases List.mem_cons.mp hb with z | z
    · rw [z]; exact up
    · rcases List.mem_cons.mp z with z | z
      · rw [z]; exact Nat.lt_trans (Nat.lt_succ_self _) up
      · rw [List.mem_singleton.mp z]; exact Nat.lt_trans hlt (Nat.lt_trans (Nat.lt_succ_self _) up)
  · intro z
    have hcl : cStatics < s1.heap.objs.size := by obtain ⟨_, hns, _⟩ := I1.nolimit; exact hns.lt
    rcases List.mem_cons.mp z with z | z
    · rw [z] at hcl
      exact absurd (Nat.lt_trans (Nat.lt_succ_self _) hcl) (Nat.lt_irrefl _)
    · rw [List.mem_singleton.mp z] at hcl
      exact Nat.lt_irrefl _ hcl
  · have nm : ∀ {z : Str} {cenv : PySem.Env} {A' : Around} {E' : Value → Shared → Prop} {v : Value} {s₂ : Shared} {m₂ : Str → Option Value} {Q2 : Value → Shared → Prop} {pp : Pos}, scope.names.lookup z = some .local → (z == ("__debug__" : Str)) = false → cenv.scope = scope → s₂.heap.Ns cenv.locals m₂ → m₂ z = some v → Q2 v s₂ → wpAny (model X.prog X.w) A' (eval (.Name z pp) cenv) Q2 E' s₂ :=
      fun {z cenv A' E' v s₂ m₂ Q2 pp} hl hdz e1 hn hm q => wpAny_Name (wpAny_loadName_local (by rw [e1]; exact S.kind) (show cenv.scope.names.lookup z = some .local by rw [e1]; exact hl) hn hm q) hdz
    refine ⟨fun A' E' i va vb s₂ m₂ hA hv hn hma hmb hk => ?_, fun A' E' i va vb s₂ m₂ hA hv hp hn hma hmb hk => ?_⟩
    · obtain ⟨t, u, e1, e2⟩ := hv
      obtain ⟨n, t2, e3, e4⟩ := ints_vals rv i u (by simpa using e1)
      have e5 : vb = u := by
        have := congrArg (fun z => z[1]?) e2
        simpa using this
      subst e5
      subst e4
      refine wpAny_tests_one (wpAny_isTrue_Compare1 (nm S2.two hd2 rfl hn hmb (wpAny_Constant_int (PySem.P.ne_int (wpAny_truthy_bool ⟨?_, keeps_tok _ _⟩)))))
      exact (nzAt_of e3).symm
    · obtain ⟨t, u, e1, e2⟩ := hv
      have e5 : va = .int i t := by
        have := congrArg (fun z => z[0]?) e2
        simpa using this
      exact nm S.loc hd rfl hn hma ⟨⟨t, e5⟩, keeps_refl _⟩
  · intro g h5 tk5 gs hgb hag hsz5 hk5 W5 hat
    rw [hsz] at W5 hat
    have W6 := W5.in4_1
    have W7 : WalksS X.prog X.w X.A.in1 g _ _ _ (passing (nzAt ns) ns.length 0).length (fun jj v => ∃ i : Nat, ∃ t, (passing (nzAt ns) ns.length 0)[jj]? = some i ∧ v = .int (i : Nat) t) _ :=
      { W6 with item := fun i s Q E hi st hq => W6.item i s Q E hi st fun v s' hv => hq v s' (by
          obtain ⟨i2, e3, t, e4⟩ := hv
          exact ⟨i2, t, e3, e4⟩) }
    refine hQ a ns H1 g _ q1 ⟨_, _, _, _, W7, hat, hat.1.typeIs, fun s' mv => made_inv (t2 := s1.toks) (tk := tk) I1 hP e tr k12 xt sz (by rw [sz2]; exact Nat.le_add_right _ _) hP3 (fun b hb => ?_) hk5 hgb s' mv⟩
    rcases List.mem_cons.mp hb with z | z
    · rw [z]; exact Nat.le_succ _
    · rw [List.mem_singleton.mp z]
      exact Nat.le_refl _
/-- next((i for i, x in enumerate(t) if x != 0), 0) -/
def tNextI (K : PySem.W.Frag) (P : Addr) (te : TE) : TE := fun σ H Q => te σ H fun v H1 => ∃ a ns, v = .ref a ∧ SqT K H1 a (ns.map V.int) ∧ TabG H1 P ∧ ∀ H2, Tabbed P H1 H2 → Q (.int (fstI ns : Nat)) H2
theorem pe_nextI {arg : Expr} {x y : Str} {px py p1 p2 p3 p4 pt pe pe2 p5 p pos : Pos} {j kt j2 : Nat} {te : TE} (hr : Room k X.A) (hg : Gl X "next") (hm : X.mg "next" = none) (hg2 : Gl X "enumerate") (hm2 : X.mg "enumerate" = none) (TB : TabB X.base X.mg c P) (hcode : X.env.code = .ref c) (S : GenS2 X.env scope x y) (hi : PE X arg te)
    (ha : starEach [arg] X.env = [(false, eval arg X.env)] := by rfl) (hs : ∀ v, genFold (.Call (.Name "enumerate" pe) [arg] [] pe2) X.env v = pure v := by intro _; rfl) (hd : (x == ("__debug__" : Str)) = false := by decide) (hd2 : (y == ("__debug__" : Str)) = false := by decide)
    (he : ∀ e2 : Expr, starEach [.GeneratorExp (.Name x p1) [⟨.Tuple [.Name x px, .Name y py] kt pt, .Call (.Name "enumerate" pe) [arg] [] pe2, [.Compare (.Name y p2) [.NotEq] [.Constant (.int 0) j p3] p4], 0⟩] scope gpos, e2] X.env =
      (false, eval (.GeneratorExp (.Name x p1) [⟨.Tuple [.Name x px, .Name y py] kt pt, .Call (.Name "enumerate" pe) [arg] [] pe2, [.Compare (.Name y p2) [.NotEq] [.Constant (.int 0) j p3] p4], 0⟩] scope gpos) X.env) :: starEach [e2] X.env := by intro _; rfl) :
    PE X (.Call (.Name "next" p) [.GeneratorExp (.Name x p1) [⟨.Tuple [.Name x px, .Name y py] kt pt, .Call (.Name "enumerate" pe) [arg] [] pe2, [.Compare (.Name y p2) [.NotEq] [.Constant (.int 0) j p3] p4], 0⟩] scope gpos, .Constant (.int 0) j2 p5] [] pos) (tNextI X.K P te) := by
  refine ⟨fun pins s σ H Q I h => ?_⟩
  refine wpAny_Call_Name_kw (ld_blt (u := .builtin "next") I hg hm (by first | rfl | decide +kernel) ?_ (by decide) (by decide))
  refine PyProof.Rows.callWith_builtin1 ?_ (he _) (by rfl)
  rw [he]
  show wpAny _ _ (spliced ((false, eval (.GeneratorExp (.Name x p1) [⟨.Tuple [.Name x px, .Name y py] kt pt, .Call (.Name "enumerate" pe) [arg] [] pe2, [.Compare (.Name y p2) [.NotEq] [.Constant (.int 0) j p3] p4], 0⟩] scope gpos) X.env) :: backTo pos (starEach [.Constant (.int 0) j2 p5] X.env))) _ _ s
  refine Calls.spliced_cons (gen_ix (R := fun a ns H1 => ∀ H2, Tabbed P H1 H2 → Q (.int (fstI ns : Nat)) H2) hr TB hcode S hg2 hm2 hi hd hd2 ha hs I h fun a ns H1 g s5 hR M => ?_)
  refine Calls.spliced_cons (wpAny_Constant_int (pos := p5) (k := j2) (Calls.spliced_nil ?_))
  refine next_made (M.tok _ (Nat.le_succ _)) (fun z H2 T => ?_) fun z v hv => ?_
  · have e := pass_nz ns
    rw [List.length_eq_zero_iff.mp z] at e
    have e2 : fstI ns = 0 := by
      unfold fstI
      rw [← e]
      rfl
    have q := hR H2 T
    rw [e2] at q
    exact q
  · obtain ⟨i, t, e1, e3⟩ := hv
    rw [pass_nz] at e1
    refine ⟨.int (i : Nat), ⟨t, e3⟩, fun H2 T => ?_⟩
    have e7 : fstI ns = i := by
      unfold fstI
      rw [e1]
      rfl
    rw [← e7]
    exact hR H2 T
end
end KD
set_option Elab.async false
set_option linter.all false
set_option maxRecDepth 100000
set_option maxHeartbeats 2000000
/-! The D layer, 4: a rule and its soundness as one word, over families of contexts. -/
namespace KD
open PySem PySem.Spec PyProof.Rows L2

/-- what all contexts of a family share -/
structure Fm (P : Program) (w : World) (K : PySem.W.Frag) (mg : Str → Option Value) (base : Heap) (k : Nat) {ι : Type} (F : ι → Cx) : Prop where
  prog : ∀ i, (F i).prog = P
  w : ∀ i, (F i).w = w
  K : ∀ i, (F i).K = K
  mg : ∀ i, (F i).mg = mg
  base : ∀ i, (F i).base = base
  calm : ∀ i, (F i).calm = true
  nd : ∀ i, (F i).N.Nodup
  room : ∀ i, Room k (F i).A
/-- a comprehension's block -/
structure Blk where
  s : Shared
  H : Hp
  C : Addr
  cl : List (Str × Addr)
  fp : List Addr
abbrev inB {ι : Type} (F : ι → Cx) (scope : Scope) : ι × Blk → Cx := fun p => (F p.1).blk p.2.s p.2.H scope (compEnvC scope p.2.cl p.2.C (F p.1).env) p.2.fp

section
variable {P : Program} {w : World} {K : PySem.W.Frag} {mg : Str → Option Value} {base : Heap} {k : Nat} {ι : Type} {F : ι → Cx} {C : Cfg} {bi : Option Nat}
theorem Fm.blk (m : Fm P w K mg base k F) (scope : Scope) : Fm P w K mg base k (inB F scope) := ⟨fun p => m.prog p.1, fun p => m.w p.1, fun p => m.K p.1, fun p => m.mg p.1, fun p => m.base p.1, fun p => m.calm p.1, fun p => m.nd p.1, fun p => m.room p.1⟩

variable (K F C bi) in
def CE (e : Expr) (r : DE) : Prop := ∃ t, (∀ i, PE (F i) e t) ∧ SE K C bi t r
variable (K F C bi) in
def CL (e : Expr) (r : DA) : Prop := ∃ t, (∀ i, PE (F i) e t) ∧ SL K C bi t r
variable (K F C bi) in
def CT (e : Expr) (r : DT) : Prop := ∃ t, (∀ i, PT (F i) e t) ∧ ST K C bi t r
variable (K F C bi) in
def CW (e : Expr) (r : DT) : Prop := ∃ t, (∀ i, PW (F i) e t) ∧ ST K C bi t r
variable (K F C bi) in
def CTs (es : List Expr) (r : DT) : Prop := ∃ t, (∀ i, PTs (F i) es t) ∧ ST K C bi t r
variable (K F C bi) in
def CA (es : List Expr) (r : DA) : Prop := ∃ t, (∀ i, PA (F i) es t) ∧ SA K C bi t r
variable (K F C bi) in
def CO (e : Option Expr) (r : DO) : Prop := ∃ t, (∀ i, PO (F i) e t) ∧ SO K C bi t r
variable (K F C bi) in
def CI (tg e : Expr) (g : TG) (js : List Nat) (r : DI) : Prop := ∃ t, (∀ i, PI (F i) tg e t) ∧ SI K C bi t g js r
variable (K F C bi) in
def CS (st : Stmt) (r : DS) : Prop := ∃ t, (∀ i, PS (F i) st t) ∧ SS K C bi t r
variable (K F C bi) in
def CSs (sts : List Stmt) (r : DS) : Prop := ∃ t, (∀ i, PSs (F i) sts t) ∧ SS K C bi t r

variable {a b c e : Expr} {es : List Expr} {ra rb rc re : DE} {rt ru : DT} {rr rs : DA} {pos p : Pos} {x : Str}
/-! names, constants -/
theorem cv (j : Nat) (hN : ∀ i, (F i).N[j]? = some x := by intro _; rfl) (hv : ∀ i, Vis (F i).env.scope x := by intro _; first | exact Or.inl rfl | exact Or.inr (Or.inl rfl) | exact Or.inr (Or.inr rfl))
    (hd : (x == ("__debug__" : Str)) = false := by decide) (hc : (x == ("__classdict__" : Str)) = false := by decide) : CE K F C bi (.Name x pos) (eVar j) := ⟨_, fun i => pe_var (hN i) (hv i) hd hc, se_var⟩
theorem ci {n : Int} {j : Nat} : CE K F C bi (.Constant (.int n) j pos) (eC (.int n)) := ⟨_, fun _ => pe_int, se_c fun _ => .int n⟩
theorem cb {n : Bool} {j : Nat} : CE K F C bi (.Constant (.bool n) j pos) (eC (.bl n)) := ⟨_, fun _ => pe_bl, se_c fun _ => .bl n⟩
theorem cn {j : Nat} : CE K F C bi (.Constant .none j pos) (eC .non) := ⟨_, fun _ => pe_non, se_c fun _ => .non⟩
theorem cs {n : Str} {j : Nat} : CE K F C bi (.Constant (.str n) j pos) (eC (.str n)) := ⟨_, fun _ => pe_str, se_c fun _ => .str n⟩
theorem cgi (m : Fm P w K mg base k F) {n : Int} (h : ∃ u, mg x = some u ∧ RelV (.int n) u) (hg : ∀ i, Gl (F i) x := by intro _; rfl) (hd : (x == ("__debug__" : Str)) = false := by decide) : CE K F C bi (.Name x pos) (eC (.int n)) := by
  obtain ⟨u, e, r⟩ := h
  exact ⟨_, fun i => pe_glob (hg i) (by rw [m.mg i]; exact e) r hd, se_c fun _ => .int n⟩
theorem cgs (m : Fm P w K mg base k F) {n : Str} (h : ∃ u, mg x = some u ∧ RelV (.str n) u) (hg : ∀ i, Gl (F i) x := by intro _; rfl) (hd : (x == ("__debug__" : Str)) = false := by decide) : CE K F C bi (.Name x pos) (eC (.str n)) := by
  obtain ⟨u, e, r⟩ := h
  exact ⟨_, fun i => pe_glob (hg i) (by rw [m.mg i]; exact e) r hd, se_c fun _ => .str n⟩
/-! operations -/
theorem c_op {op : Operator} {r : R2} {d : DR} (ho : ∀ i, OpR (F i) (binaryOp op) r) (hk : OpOk K C r d) (ha : CE K F C bi a ra) (hb : CE K F C bi b rb) : CE K F C bi (.BinOp a op b pos) (eOp d ra rb) := by
  obtain ⟨ta, pa, sa⟩ := ha
  obtain ⟨tb, pb, sb⟩ := hb
  exact ⟨_, fun i => pe_op (ho i) (pa i) (pb i), se_op hk sa sb⟩
theorem c_un {op : UnaryOp} {r : V → Hp → VK → Prop} {d : DU} (ho : ∀ i, UnR (F i) (unaryOp op) r) (hk : UnOk K C r d) (ha : CE K F C bi a ra) : CE K F C bi (.UnaryOp op a pos) (eUn d ra) := by
  obtain ⟨ta, pa, sa⟩ := ha
  exact ⟨_, fun i => pe_un (ho i) (pa i), se_un hk sa⟩
def CMulA (i j : Int) : Prop := CMul i j ∨ CMulW i j
theorem op_mulA {X : Cx} : OpR X (binaryOp .Mult) (rI CMulA fun i j => .int (i * j)) := opI fun _ _ _ _ _ _ _ hc q => mul_int q (hc.elim CMul.ok CMulW.ok)
theorem c_add (ha : CE K F C bi a ra) (hb : CE K F C bi b rb) : CE K F C bi (.BinOp a .Add b pos) (eOp (oI0 fun i j => .int (i + j)) ra rb) := c_op (fun _ => op_add) (ok_rI0 fun _ _ _ => .int _) ha hb
theorem c_sub (ha : CE K F C bi a ra) (hb : CE K F C bi b rb) : CE K F C bi (.BinOp a .Sub b pos) (eOp (oI0 fun i j => .int (i - j)) ra rb) := c_op (fun _ => op_sub) (ok_rI0 fun _ _ _ => .int _) ha hb
theorem c_mul (ha : CE K F C bi a ra) (hb : CE K F C bi b rb) : CE K F C bi (.BinOp a .Mult b pos) (eOp (oI CMulA fun i j => .int (i * j)) ra rb) := c_op (fun _ => op_mulA) (ok_rI fun _ _ _ => .int _) ha hb
theorem c_div (ha : CE K F C bi a ra) (hb : CE K F C bi b rb) : CE K F C bi (.BinOp a .FloorDiv b pos) (eOp (oI CDivZ fun i j => .int (i.fdiv j)) ra rb) := c_op (fun _ => op_fdivZ) (ok_rI fun _ _ _ => .int _) ha hb
theorem c_mod (ha : CE K F C bi a ra) (hb : CE K F C bi b rb) : CE K F C bi (.BinOp a .Mod b pos) (eOp (oI (fun _ j => 0 < j) fun i j => .int (i % j)) ra rb) := c_op (fun _ => op_mod) (ok_rI fun _ _ _ => .int _) ha hb
theorem c_pow (ha : CE K F C bi a ra) (hb : CE K F C bi b rb) : CE K F C bi (.BinOp a .Pow b pos) (eOp (oI CPow fun i j => .int (i ^ j.toNat)) ra rb) := c_op (fun _ => op_pow) (ok_rI fun _ _ _ => .int _) ha hb
theorem c_neg (ha : CE K F C bi a ra) : CE K F C bi (.UnaryOp .USub a pos) (eUn (oU fun i => .int (-i)) ra) := c_un (fun _ => un_neg) (ok_rU fun _ _ => .int _) ha
theorem c_catT (m : Fm P w K mg base k F) (ha : CE K F C bi a ra) (hb : CE K F C bi b rb) : CE K F C bi (.BinOp a .Add b pos) (eOp oCatT ra rb) := c_op (r := rCatA K) (fun i => by have h := op_catA (X := F i); rw [m.K i] at h; exact h) ok_catT ha hb
theorem c_catL (ha : CE K F C bi a ra) (hb : CE K F C bi b rb) : CE K F C bi (.BinOp a .Add b pos) (eOp oCatL ra rb) := c_op (fun _ => op_cat) ok_catL ha hb
theorem cl_rep (ha : CE K F C bi a ra) (hb : CE K F C bi b rb) : CL K F C bi (.BinOp a .Mult b pos) (lRep ra rb) := by
  obtain ⟨ta, pa, sa⟩ := ha
  obtain ⟨tb, pb, sb⟩ := hb
  exact ⟨_, fun i => pe_op op_rep (pa i) (pb i), sl_rep sa sb⟩
theorem c_not (ha : CE K F C bi a ra) : CE K F C bi (.UnaryOp .Not a pos) (eNotV ra) := by
  obtain ⟨ta, pa, sa⟩ := ha
  exact ⟨_, fun i => pe_not (pa i), se_notV sa⟩
/-! comparisons -/
theorem c_cmp {op : CmpOp} {r : R2} {d : DR} (ho : ∀ i, OpR (F i) (compareOp op) r) (hk : OpOk K C r d) (ha : CE K F C bi a ra) (hb : CE K F C bi b rb) (hm : behindInMarks op b = false := by with_unfolding_all rfl) : CE K F C bi (.Compare a [op] [b] pos) (eOp d ra rb) := by
  obtain ⟨ta, pa, sa⟩ := ha
  obtain ⟨tb, pb, sb⟩ := hb
  exact ⟨_, fun i => pe_cmpR (ho i) (pa i) (pb i) hm, se_op hk sa sb⟩
theorem ct_cmp {op : CmpOp} {r : R2} {d : DR} (ho : ∀ i, OpR (F i) (compareOp op) r) (hk : OpOk K C r d) (ha : CE K F C bi a ra) (hb : CE K F C bi b rb) (hm : behindInMarks op b = false := by with_unfolding_all rfl) : CT K F C bi (.Compare a [op] [b] pos) (tstE (eOp d ra rb)) := by
  obtain ⟨ta, pa, sa⟩ := ha
  obtain ⟨tb, pb, sb⟩ := hb
  exact ⟨_, fun i => pt_cmpR (ho i) (pa i) (pb i) hm, st_Test (se_op hk sa sb)⟩
theorem c_chain {op op' : CmpOp} {r r' : R2} {d d' : DR} (ho : ∀ i, OpR (F i) (compareOp op) r) (ho' : ∀ i, OpR (F i) (compareOp op') r') (hk : OpOk K C r d) (hk' : OpOk K C r' d') (ha : CE K F C bi a ra) (hb : CE K F C bi b rb) (hc : CE K F C bi c rc)
    (hm : lastMarks [op, op'] [b, c] = false := by with_unfolding_all rfl) : CE K F C bi (.Compare a [op, op'] [b, c] pos) (eChain d d' ra rb rc) := by
  obtain ⟨ta, pa, sa⟩ := ha
  obtain ⟨tb, pb, sb⟩ := hb
  obtain ⟨tc, pc, sc⟩ := hc
  exact ⟨_, fun i => pe_chain (ho i) (ho' i) (pa i) (pb i) (pc i) hm, se_chain hk hk' sa sb sc⟩
theorem h_eqD (m : Fm P w K mg base k F) : ∀ i, OpR (F i) (compareOp .Eq) (rEqD K) := fun i => by
  have h := op_eqD (X := F i) (Nat.lt_of_le_of_lt (Nat.le_refl _) (m.room i).units)
  rw [m.K i] at h
  exact h
theorem h_neD (m : Fm P w K mg base k F) : ∀ i, OpR (F i) (compareOp .NotEq) (rNeD K) := fun i => by
  have h := op_neD (X := F i) (Nat.lt_of_le_of_lt (Nat.le_refl _) (m.room i).units)
  rw [m.K i] at h
  exact h
theorem h_notIn (m : Fm P w K mg base k F) : ∀ i, OpR (F i) (compareOp .NotIn) (rIn K true) := fun i => by
  have h := op_notIn_seq (X := F i)
  rw [m.K i] at h
  exact h
/-! tests -/
theorem ct_val (h : CE K F C bi e re) (he : ∀ i whole, isTrue e (F i).env whole = (do let v ← whole; standAt e.pos; holding [v] (truthy v)) := by intro _ _; rfl) : CT K F C bi e (tstE re) := by
  obtain ⟨t, p1, s1⟩ := h
  exact ⟨_, fun i => pt_val (p1 i) (he i), st_B s1⟩
theorem ct_not (h : CT K F C bi a rt) : CT K F C bi (.UnaryOp .Not a pos) (tstNot rt) := by
  obtain ⟨t, p1, s1⟩ := h
  exact ⟨_, fun i => pt_not (p1 i), st_not s1⟩
theorem cw_and1 (h : CT K F C bi a rt) : CW K F C bi (.BoolOp .And [a] pos) rt := by
  obtain ⟨t, p1, s1⟩ := h
  exact ⟨_, fun i => pw_and1 (p1 i), s1⟩
theorem cw_or1 (h : CT K F C bi a rt) : CW K F C bi (.BoolOp .Or [a] pos) rt := by
  obtain ⟨t, p1, s1⟩ := h
  exact ⟨_, fun i => pw_or1 (p1 i), s1⟩
theorem cw_and (h : CT K F C bi a rt) (h2 : CW K F C bi (.BoolOp .And (b :: es) pos) ru) : CW K F C bi (.BoolOp .And (a :: b :: es) pos) (tstAnd rt ru) := by
  obtain ⟨t, p1, s1⟩ := h
  obtain ⟨u, p2, s2⟩ := h2
  exact ⟨_, fun i => pw_and (p1 i) (p2 i), st_and s1 s2⟩
theorem cw_or (h : CT K F C bi a rt) (h2 : CW K F C bi (.BoolOp .Or (b :: es) pos) ru) : CW K F C bi (.BoolOp .Or (a :: b :: es) pos) (tstOr rt ru) := by
  obtain ⟨t, p1, s1⟩ := h
  obtain ⟨u, p2, s2⟩ := h2
  exact ⟨_, fun i => pw_or (p1 i) (p2 i), st_or s1 s2⟩
theorem ct_w (h : CW K F C bi a rt) : CT K F C bi a rt := by
  obtain ⟨t, p1, s1⟩ := h
  exact ⟨_, fun i => (p1 i).pt, s1⟩
theorem c_one {op : BoolOp} (h : CE K F C bi a ra) : CE K F C bi (.BoolOp op [a] pos) ra := by
  obtain ⟨t, p1, s1⟩ := h
  exact ⟨_, fun i => pe_one (p1 i), s1⟩
theorem c_and (h : CE K F C bi a ra) (h2 : CE K F C bi (.BoolOp .And (b :: es) pos) rb) : CE K F C bi (.BoolOp .And (a :: b :: es) pos) (eAndV ra rb) := by
  obtain ⟨t, p1, s1⟩ := h
  obtain ⟨u, p2, s2⟩ := h2
  exact ⟨_, fun i => pe_and (p1 i) (p2 i), se_andV s1 s2⟩
theorem c_or (h : CE K F C bi a ra) (h2 : CE K F C bi (.BoolOp .Or (b :: es) pos) rb) : CE K F C bi (.BoolOp .Or (a :: b :: es) pos) (eOrV ra rb) := by
  obtain ⟨t, p1, s1⟩ := h
  obtain ⟨u, p2, s2⟩ := h2
  exact ⟨_, fun i => pe_or (p1 i) (p2 i), se_orV s1 s2⟩
theorem c_if (h : CT K F C bi c rt) (h1 : CE K F C bi a ra) (h2 : CE K F C bi b rb) : CE K F C bi (.IfExp c a b pos) (eIf rt ra rb) := by
  obtain ⟨t, p0, s0⟩ := h
  obtain ⟨t1, p1, s1⟩ := h1
  obtain ⟨t2, p2, s2⟩ := h2
  exact ⟨_, fun i => pe_ifExp (p0 i) (p1 i) (p2 i), se_if s0 s1 s2⟩
/-! argument lists, displays -/
theorem ca_nil : CA K F C bi [] aNil := ⟨_, fun _ => pa_nil, sa_nil⟩
theorem ca_cons (h : CE K F C bi e re) (h2 : CA K F C bi es rr) (hs : ∀ i, starEach (e :: es) (F i).env = (false, eval e (F i).env) :: starEach es (F i).env := by intro _; rfl) : CA K F C bi (e :: es) (aCons re rr) := by
  obtain ⟨t, p1, s1⟩ := h
  obtain ⟨u, p2, s2⟩ := h2
  exact ⟨_, fun i => pa_cons (p1 i) (p2 i) (hs i), sa_cons s1 s2⟩
theorem ca_star (m : Fm P w K mg base k F) (h : CE K F C bi e re) (h2 : CA K F C bi es rr) (hs : ∀ i, starEach (.Starred e p :: es) (F i).env = (true, eval e (F i).env) :: starEach es (F i).env := by intro _; rfl) : CA K F C bi (.Starred e p :: es) (aStar re rr) := by
  obtain ⟨t, p1, s1⟩ := h
  obtain ⟨u, p2, s2⟩ := h2
  exact ⟨StX.tStar K t u, fun i => by have z := StX.pa_star (p := p) (p1 i) (p2 i) (hs i); rw [m.K i] at z; exact z, sa_star s1 s2⟩
theorem c_tup {x1 : Nat} (h : CA K F C bi es rr) : CE K F C bi (.Tuple es x1 pos) (eTup rr) := by
  obtain ⟨t, p1, s1⟩ := h
  exact ⟨_, fun i => pe_tup (p1 i), se_tup s1⟩
theorem cl_lst (h : CA K F C bi es rr) : CL K F C bi (.List es pos) (lDisp rr) := by
  obtain ⟨t, p1, s1⟩ := h
  exact ⟨_, fun i => pe_lst (p1 i), sl_lst s1⟩
theorem c_ofL (h : CL K F C bi e rr) : CE K F C bi e (eOfL rr) := by
  obtain ⟨t, p1, s1⟩ := h
  exact ⟨_, p1, se_ofL s1⟩
theorem c_dic : CE K F C bi (.Dict [] [] pos) (eC .dic) := ⟨_, fun _ => pe_dnewK, se_dic fun σ H Q h => h⟩
/-! subscripts -/
theorem c_ixT (m : Fm P w K mg base k F) (ha : CE K F C bi a ra) (hb : CE K F C bi b rb) (hs : PlainIx b := by intro _ _; rfl) : CE K F C bi (.Subscript a b pos) (eOp oIxT ra rb) := by
  obtain ⟨ta, pa, sa⟩ := ha
  obtain ⟨tb, pb, sb⟩ := hb
  exact ⟨tOp (rIxT K) ta tb, fun i => by have z := pe_ix (pos := pos) ix_tup (pa i) (pb i) hs; rw [m.K i] at z; exact z, se_op ok_ixT sa sb⟩
theorem c_ixL (m : Fm P w K mg base k F) (ha : CE K F C bi a ra) (hb : CE K F C bi b rb) (hs : PlainIx b := by intro _ _; rfl) : CE K F C bi (.Subscript a b pos) (eOp oIxL ra rb) := by
  obtain ⟨ta, pa, sa⟩ := ha
  obtain ⟨tb, pb, sb⟩ := hb
  exact ⟨tOp (rIxL K) ta tb, fun i => by have z := pe_ix (pos := pos) ix_list (pa i) (pb i) hs; rw [m.K i] at z; exact z, se_op ok_ixL sa sb⟩
theorem c_ixC (m : Fm P w K mg base k F) (ha : CE K F C bi a ra) (hb : CE K F C bi b rb) (hs : PlainIx b := by intro _ _; rfl) : CE K F C bi (.Subscript a b pos) (eOp oIxC ra rb) := by
  obtain ⟨ta, pa, sa⟩ := ha
  obtain ⟨tb, pb, sb⟩ := hb
  exact ⟨tOp (rIxL K) ta tb, fun i => by have z := pe_ix (pos := pos) ix_list (pa i) (pb i) hs; rw [m.K i] at z; exact z, se_op ok_ixC sa sb⟩
theorem c_ixB {j : Nat} (m : Fm P w K mg base k F) (hb : CE K F C (some j) b rb) (hN : ∀ i, (F i).N[j]? = some x := by intro _; rfl) (hv : ∀ i, Vis (F i).env.scope x := by intro _; first | exact Or.inl rfl | exact Or.inr (Or.inl rfl) | exact Or.inr (Or.inr rfl))
    (hd : (x == ("__debug__" : Str)) = false := by decide) (hc : (x == ("__classdict__" : Str)) = false := by decide) (hs : PlainIx b := by intro _ _; rfl) : CE K F C (some j) (.Subscript (.Name x p) b pos) (eIxB rb) := by
  obtain ⟨tb, pb, sb⟩ := hb
  exact ⟨tOp (rIxL K) (tVar j) tb, fun i => by have z := pe_ix (pos := pos) ix_list (pe_var (pos := p) (hN i) (hv i) hd hc) (pb i) hs; rw [m.K i] at z; exact z, se_ixB sb⟩
theorem co_none : CO K F C bi none pNone := ⟨_, fun _ => po_none, so_none⟩
theorem co_some (h : CE K F C bi e re) : CO K F C bi (some e) (pSome re) := by
  obtain ⟨t, p1, s1⟩ := h
  exact ⟨_, fun i => po_some (p1 i), so_some s1⟩
variable {lo hi : Option Expr} {rl rh : DO} {p2 : Pos}
theorem c_slT (m : Fm P w K mg base k F) (ha : CE K F C bi a ra) (hl : CO K F C bi lo rl) (hh : CO K F C bi hi rh) : CE K F C bi (.Subscript a (.Slice lo hi none p2) pos) (eSlT ra rl rh) := by
  obtain ⟨ta, pa, sa⟩ := ha
  obtain ⟨tl, pl, sl⟩ := hl
  obtain ⟨th, ph, sh⟩ := hh
  exact ⟨tSl (rSlA K) ta tl th, fun i => by have z := pe_slice (pos := pos) (p2 := p2) sl_tupA (pa i) (pl i) (ph i); rw [m.K i] at z; exact z, se_slT sa sl sh⟩
theorem cl_sl (m : Fm P w K mg base k F) (ha : CE K F C bi a ra) (hl : CO K F C bi lo rl) (hh : CO K F C bi hi rh) : CL K F C bi (.Subscript a (.Slice lo hi none p2) pos) (lSl ra rl rh) := by
  obtain ⟨ta, pa, sa⟩ := ha
  obtain ⟨tl, pl, sl⟩ := hl
  obtain ⟨th, ph, sh⟩ := hh
  exact ⟨tSl (rSlL K) ta tl th, fun i => by have z := pe_slice (pos := pos) (p2 := p2) L2.sl_list (pa i) (pl i) (ph i); rw [m.K i] at z; exact z, sl_sl sa sl sh⟩
end
end KD
set_option Elab.async false
set_option linter.all false
set_option maxRecDepth 100000
set_option maxHeartbeats 2000000
/-! The D layer, 5: calls, rows, comprehensions, statements, defs. -/
namespace KD
open PySem PySem.Spec PyProof.Rows L2 GxR

/-- a def of the module that may be called by its name -/
structure Ca (P : Program) (w : World) (K : PySem.W.Frag) (mg : Str → Option Value) (base : Heap) (k : Nat) (x : Str) (sp : Sp) : Prop where
  ex : ∃ (f : Addr) (fd : FuncData) (ps : List Str), FnOk P w K mg base L2.CX0 k f fd ps sp ∧ mg x = some (.ref f) ∧ PySem.W.keepIn K (.ref f) = true ∧ Binds K fd ps []

section
variable {P : Program} {w : World} {K : PySem.W.Frag} {mg : Str → Option Value} {base : Heap} {k j : Nat} {ι : Type} {F : ι → Cx} {C : Cfg} {bi : Option Nat}
variable {a b c e : Expr} {es : List Expr} {ra rb rc re : DE} {rt ru : DT} {rr rs : DA} {pos p : Pos} {x : Str}
/-! calls of built-ins -/
theorem c_b1 {id : String} {r : List V → Hp → VK → Prop} {d : DU} (m : Fm P w K mg base k F) (hc : ∀ i, CallR (F i) (.builtin id) r) (ho : UnOk K C (rOne r) d) (hm : mg x = none) (ha : CE K F C bi a ra) (hv : bootBuiltins x = some (.builtin id) := by first | rfl | decide +kernel)
    (hg : ∀ i, Gl (F i) x := by intro _; rfl) (hn : x ≠ "__name__" := by decide) (hdb : (x == ("__debug__" : Str)) = false := by decide)
    (he : ∀ i, starEach [a] (F i).env = (false, eval a (F i).env) :: starEach [] (F i).env := by intro _; rfl) (hpl : ∀ i, (backTo pos (starEach [] (F i).env)).any (·.1) = false := by intro _; rfl) : CE K F C bi (.Call (.Name x p) [a] [] pos) (eUn d ra) := by
  obtain ⟨t, p1, s1⟩ := ha
  exact ⟨_, fun i => pe_callB (hc i) (hg i) (by rw [m.mg i]; exact hm) hv (pa_cons (p1 i) pa_nil (he i)) hn hdb (he i) (hpl i), se_cb1 ho s1⟩
theorem c_t1 {T : String} {r : List V → Hp → VK → Prop} {d : DU} (m : Fm P w K mg base k F) (hc : ∀ i, CallR (F i) (.type T) r) (ho : UnOk K C (rOne r) d) (hm : mg x = none) (ha : CE K F C bi a ra) (hv : bootBuiltins x = some (.type T) := by first | rfl | decide +kernel)
    (hg : ∀ i, Gl (F i) x := by intro _; rfl) (hn : x ≠ "__name__" := by decide) (hdb : (x == ("__debug__" : Str)) = false := by decide)
    (he : ∀ i, starEach [a] (F i).env = (false, eval a (F i).env) :: starEach [] (F i).env := by intro _; rfl) (hpl : ∀ i, (backTo pos (starEach [] (F i).env)).any (·.1) = false := by intro _; rfl) : CE K F C bi (.Call (.Name x p) [a] [] pos) (eUn d ra) := by
  obtain ⟨t, p1, s1⟩ := ha
  exact ⟨_, fun i => pe_callTy (hc i) (hg i) (by rw [m.mg i]; exact hm) hv (pa_cons (p1 i) pa_nil (he i)) hn hdb (he i) (hpl i), se_cb1 ho s1⟩
theorem c_b2 {id : String} {r : List V → Hp → VK → Prop} {d : DR} (m : Fm P w K mg base k F) (hc : ∀ i, CallR (F i) (.builtin id) r) (ho : OpOk K C (rTwo r) d) (hm : mg x = none) (ha : CE K F C bi a ra) (hb : CE K F C bi b rb) (hv : bootBuiltins x = some (.builtin id) := by first | rfl | decide +kernel)
    (hg : ∀ i, Gl (F i) x := by intro _; rfl) (hn : x ≠ "__name__" := by decide) (hdb : (x == ("__debug__" : Str)) = false := by decide)
    (he : ∀ i, starEach [a, b] (F i).env = (false, eval a (F i).env) :: starEach [b] (F i).env := by intro _; rfl) (he2 : ∀ i, starEach [b] (F i).env = (false, eval b (F i).env) :: starEach [] (F i).env := by intro _; rfl)
    (hpl : ∀ i, (backTo pos (starEach [b] (F i).env)).any (·.1) = false := by intro _; rfl) : CE K F C bi (.Call (.Name x p) [a, b] [] pos) (eOp d ra rb) := by
  obtain ⟨t, p1, s1⟩ := ha
  obtain ⟨u, p2, s2⟩ := hb
  exact ⟨_, fun i => pe_callB (hc i) (hg i) (by rw [m.mg i]; exact hm) hv (pa_cons (p1 i) (pa_cons (p2 i) pa_nil (he2 i)) (he i)) hn hdb (he i) (hpl i), se_cb2 ho s1 s2⟩
/-- math.gcd by the module's name -/
theorem c_gcd (m : Fm P w K mg base k F) (hm : mg x = some (.builtin "math.gcd")) (ha : CE K F C bi a ra) (hb : CE K F C bi b rb)
    (hg : ∀ i, Gl (F i) x := by intro _; rfl) (hdb : (x == ("__debug__" : Str)) = false := by decide)
    (he : ∀ i, starEach [a, b] (F i).env = (false, eval a (F i).env) :: starEach [b] (F i).env := by intro _; rfl) (he2 : ∀ i, starEach [b] (F i).env = (false, eval b (F i).env) :: starEach [] (F i).env := by intro _; rfl)
    (hpl : ∀ i, (backTo pos (starEach [b] (F i).env)).any (·.1) = false := by intro _; rfl) : CE K F C bi (.Call (.Name x p) [a, b] [] pos) (eOp (oI0 fun i j => .int ((Nat.gcd i.natAbs j.natAbs : Nat) : Int)) ra rb) := by
  obtain ⟨t, p1, s1⟩ := ha
  obtain ⟨u, p2, s2⟩ := hb
  exact ⟨_, fun i => pe_callBfun cr_gcd (hg i) (by rw [m.mg i]; exact hm) (pa_cons (p1 i) (pa_cons (p2 i) pa_nil (he2 i)) (he i)) hdb (he i) (hpl i), se_cb2 (ok_two rfl) s1 s2⟩
theorem c_len (m : Fm P w K mg base k F) (hm : mg "len" = none) (ha : CE K F C bi a ra) (hg : ∀ i, Gl (F i) "len" := by intro _; rfl)
    (he : ∀ i, starEach [a] (F i).env = (false, eval a (F i).env) :: starEach [] (F i).env := by intro _; rfl) (hpl : ∀ i, (backTo pos (starEach [] (F i).env)).any (·.1) = false := by intro _; rfl) : CE K F C bi (.Call (.Name "len" p) [a] [] pos) (eUn oLen ra) :=
  c_b1 (r := fun xs H Q => ∃ x n, xs = [x] ∧ LenV K x H n ∧ Q (.int n) H) m (fun i => by have z := call_len (X := F i); rw [m.K i] at z; exact z) (ok_len rfl) hm ha (hg := hg) (he := he) (hpl := hpl)
theorem c_tuple (m : Fm P w K mg base k F) (hm : mg "tuple" = none) (ha : CE K F C bi a ra) (hg : ∀ i, Gl (F i) "tuple" := by intro _; rfl)
    (he : ∀ i, starEach [a] (F i).env = (false, eval a (F i).env) :: starEach [] (F i).env := by intro _; rfl) (hpl : ∀ i, (backTo pos (starEach [] (F i).env)).any (·.1) = false := by intro _; rfl) : CE K F C bi (.Call (.Name "tuple" p) [a] [] pos) (eUn oTuple ra) :=
  c_t1 (r := fun xs H Q => ∃ p ys, xs = [.ref p] ∧ ((SqL K H p ys ∧ ∀ l, H l = none → Q (.ref l) (upd H l (.tup ys))) ∨ (SqT K H p ys ∧ Q (.ref p) H))) m (fun i => by have z := call_tuple_of (X := F i); rw [m.K i] at z; exact z) (ok_tuple rfl) hm ha (hg := hg) (he := he) (hpl := hpl)
/-- tuple(box) -/
theorem c_tupB (m : Fm P w K mg base k F) (hm : mg "tuple" = none) {y : Str} {p3 : Pos} (hN : ∀ i, (F i).N[j]? = some y := by intro _; rfl) (hv : ∀ i, Vis (F i).env.scope y := by intro _; first | exact Or.inl rfl | exact Or.inr (Or.inl rfl) | exact Or.inr (Or.inr rfl))
    (hd : (y == ("__debug__" : Str)) = false := by decide) (hc : (y == ("__classdict__" : Str)) = false := by decide) (hg : ∀ i, Gl (F i) "tuple" := by intro _; rfl)
    (he : ∀ i, starEach [.Name y p3] (F i).env = (false, eval (.Name y p3) (F i).env) :: starEach [] (F i).env := by intro _; rfl) (hpl : ∀ i, (backTo pos (starEach [] (F i).env)).any (·.1) = false := by intro _; rfl) : CE K F C (some j) (.Call (.Name "tuple" p) [.Name y p3] [] pos) eTupB := by
  refine ⟨tCB (fun xs H Q => ∃ p ys, xs = [.ref p] ∧ ((SqL K H p ys ∧ ∀ l, H l = none → Q (.ref l) (upd H l (.tup ys))) ∨ (SqT K H p ys ∧ Q (.ref p) H))) (tCons (tVar j) tNil), fun i => ?_, se_tupB rfl⟩
  have z := call_tuple_of (X := F i)
  rw [m.K i] at z
  exact pe_callTy z (hg i) (by rw [m.mg i]; exact hm) (by first | rfl | decide +kernel) (pa_cons (pe_var (hN i) (hv i) hd hc) pa_nil (he i)) (by decide) (by decide) (he i) (hpl i)
theorem cl_list (m : Fm P w K mg base k F) (hm : mg "list" = none) (ha : CE K F C bi a ra) (hg : ∀ i, Gl (F i) "list" := by intro _; rfl)
    (he : ∀ i, starEach [a] (F i).env = (false, eval a (F i).env) :: starEach [] (F i).env := by intro _; rfl) (hpl : ∀ i, (backTo pos (starEach [] (F i).env)).any (·.1) = false := by intro _; rfl) : CL K F C bi (.Call (.Name "list" p) [a] [] pos) (lList ra) := by
  obtain ⟨t, p1, s1⟩ := ha
  refine ⟨tCB (fun xs H Q => ∃ p ys, xs = [.ref p] ∧ (SqL K H p ys ∨ SqT K H p ys) ∧ ∀ l, H l = none → Q (.ref l) (upd H l (.lst ys))) (tCons t tNil), fun i => ?_, KD.sl_list rfl s1⟩
  have z := call_list_of (X := F i)
  rw [m.K i] at z
  exact pe_callTy z (hg i) (by rw [m.mg i]; exact hm) (by first | rfl | decide +kernel) (pa_cons (p1 i) pa_nil (he i)) (by decide) (by decide) (he i) (hpl i)
theorem h_all (m : Fm P w K mg base k F) : ∀ i, CallR (F i) (.builtin "all") (rAll K) := fun i => by
  have z := cr_all (X := F i) (m.calm i)
  rw [m.K i] at z
  exact z
theorem h_anyI (m : Fm P w K mg base k F) : ∀ i, CallR (F i) (.builtin "any") (rAnyI K) := fun i => by
  have z := cr_anyI (X := F i) (m.calm i)
  rw [m.K i] at z
  exact z
/-- isinstance(x, T), T a built-in class -/
theorem c_isi {y : Str} {T : String} {f : D → Bool} {p3 : Pos} (m : Fm P w K mg base k F) (hm : mg "isinstance" = none) (hy : mg y = none) (hf : ∀ d n, tyD d = some n → PySem.W.kitOne K (.type n) (.type T) = some (f d)) (ha : CE K F C bi a ra)
    (hv : bootBuiltins y = some (.type T) := by first | rfl | decide +kernel) (hg : ∀ i, Gl (F i) "isinstance" := by intro _; rfl) (hg2 : ∀ i, Gl (F i) y := by intro _; rfl) (hn : y ≠ "__name__" := by decide) (hd : (y == ("__debug__" : Str)) = false := by decide)
    (he : ∀ i, starEach [a, .Name y p3] (F i).env = (false, eval a (F i).env) :: starEach [.Name y p3] (F i).env := by intro _; rfl) (he2 : ∀ i, starEach [.Name y p3] (F i).env = (false, eval (.Name y p3) (F i).env) :: starEach [] (F i).env := by intro _; rfl)
    (hpl : ∀ i, (backTo pos (starEach [.Name y p3] (F i).env)).any (·.1) = false := by intro _; rfl) : CE K F C bi (.Call (.Name "isinstance" p) [a, .Name y p3] [] pos) (eIsi f ra) := by
  obtain ⟨t, p1, s1⟩ := ha
  refine ⟨tCB (rIsi K) (tCons t (tCons (tC (.ty T)) tNil)), fun i => ?_, se_isi (u := .type T) (.ty T) hf s1⟩
  have z := call_isi (X := F i)
  rw [m.K i] at z
  exact pe_callB z (hg i) (by rw [m.mg i]; exact hm) (by first | rfl | decide +kernel) (pa_cons (p1 i) (pa_cons (pe_bltn (v := .ty T) (hg2 i) (by rw [m.mg i]; exact hy) hv rfl hn hd) pa_nil (he2 i)) (he i)) (by decide) (by decide) (he i) (hpl i)
/-- isinstance(form, Form) -/
theorem c_isF {y : Str} {p3 : Pos} (m : Fm P w K mg base k F) (hm : mg "isinstance" = none) (hy : mg y = some (.ref C.cF)) (hk : PySem.W.kitOne K (.ref C.cF) (.ref C.cF) = some true) (sc : SlX.SCls K C.cF) (si : SlX.SIsi K C.cF) (ha : CE K F C bi a ra)
    (hg : ∀ i, Gl (F i) "isinstance" := by intro _; rfl) (hg2 : ∀ i, Gl (F i) y := by intro _; rfl) (hd : (y == ("__debug__" : Str)) = false := by decide)
    (he : ∀ i, starEach [a, .Name y p3] (F i).env = (false, eval a (F i).env) :: starEach [.Name y p3] (F i).env := by intro _; rfl) (he2 : ∀ i, starEach [.Name y p3] (F i).env = (false, eval (.Name y p3) (F i).env) :: starEach [] (F i).env := by intro _; rfl)
    (hpl : ∀ i, (backTo pos (starEach [.Name y p3] (F i).env)).any (·.1) = false := by intro _; rfl) : CE K F C bi (.Call (.Name "isinstance" p) [a, .Name y p3] [] pos) (eIsF ra) := by
  obtain ⟨t, p1, s1⟩ := ha
  refine ⟨tCB (SlX.rIsiSl K (.ref C.cF)) (tCons t (tCons (tC (.ref C.cF)) tNil)), fun i => ?_, se_isF hk sc si s1⟩
  have z := SlX.call_isiSl (X := F i) (.ref C.cF)
  rw [m.K i] at z
  exact pe_callB z (hg i) (by rw [m.mg i]; exact hm) (by first | rfl | decide +kernel) (pa_cons (p1 i) (pa_cons (pe_glob (v := .ref C.cF) (hg2 i) (by rw [m.mg i]; exact hy) rfl hd) pa_nil (he2 i)) (he i)) (by decide) (by decide) (he i) (hpl i)
/-! next of a generator expression -/
theorem step_tab {P' : Addr} {bx : Option Addr} {H1 H2 : Hp} (t : TabG H1 P') (T : Tabbed P' H1 H2) : Step bx H1 H2 := fun a o h n => by
  by_cases e : a = P'
  · subst e
    obtain ⟨ps, e1, _⟩ := t
    rw [h] at e1
    cases e1
    obtain ⟨qs, e2, _⟩ := T.1
    exact ⟨fun z => (nomatch z), fun _ => ⟨qs, e2⟩⟩
  · rw [T.2 a e]
    refine ⟨fun _ => h, fun z => ?_⟩
    cases o <;> first
      | exact ⟨_, h⟩
      | cases z
theorem tabs_tab {P' : Addr} {H1 H2 : Hp} (t : TabsOk C H1) (T : Tabbed P' H1 H2) : TabsOk C H2 := fun q hq => by
  by_cases e : q = P'
  · subst e
    exact T.1
  · obtain ⟨ps, e1, e2⟩ := t q hq
    exact ⟨ps, by rw [T.2 q e]; exact e1, e2⟩
def eNext (f : List Int → Int) (ra : DE) : DE := fun ρ B Q => ra ρ B fun x B1 => ∃ ds ns, x = .tup ds ∧ intsD ds = some ns ∧ Q (.int (f ns)) B1
theorem se_next {P' : Addr} {f : List Int → Int} {ta : TE} (hP : P' ∈ C.tabs) (ha : SE K C bi ta ra) :
    SE K C bi (fun σ H Q => ta σ H fun v H1 => ∃ a ns, v = .ref a ∧ SqT K H1 a (ns.map V.int) ∧ TabG H1 P' ∧ ∀ H2, Tabbed P' H1 H2 → Q (.int (f ns)) H2) (eNext f ra) := by
  intro hid bx ρ B σ H QD Q c h k
  refine ha hid bx ρ B σ H _ _ c h fun x B1 v H1 q1 s1 h1 r1 => ?_
  obtain ⟨ds, ns, e1, e2, q1⟩ := q1
  subst e1
  cases r1 with
  | tup hp r =>
    have ev := ints_rep r ns e2
    subst ev
    have tP := h1.tabs P' hP
    refine ⟨_, ns, rfl, (out_keep hid H1).sqT hp, tP, fun H2 T => ?_⟩
    exact k _ B1 _ H2 q1 (s1.trans (step_tab tP T)) (h1.after (step_tab tP T) (tabs_tab h1.tabs T)) (.int _)
section
variable {P' c' : Addr} {scope : Scope} {gpos px py p1 p2 p3 p4 p5 pt pe pe2 : Pos} {j1 j2 kt : Nat} {iter arg : Expr} {y z : Str}
theorem c_nextV (m : Fm P w K mg base k F) (hm : mg "next" = none) (hP : P' ∈ C.tabs) (TB : TabB base mg c' P') (hcode : ∀ i, (F i).env.code = .ref c') (S : ∀ i, GenS (F i).env scope y) (ha : CE K F C bi iter ra)
    (hs : ∀ i v, genFold iter (F i).env v = pure v := by intro _ _; rfl) (hd : (y == ("__debug__" : Str)) = false := by decide) (hg : ∀ i, Gl (F i) "next" := by intro _; rfl)
    (he : ∀ i (e2 : Expr), starEach [.GeneratorExp (.Name y p1) [⟨.Name y px, iter, [.Compare (.Name y p2) [.NotEq] [.Constant (.int 0) j1 p3] p4], 0⟩] scope gpos, e2] (F i).env =
      (false, eval (.GeneratorExp (.Name y p1) [⟨.Name y px, iter, [.Compare (.Name y p2) [.NotEq] [.Constant (.int 0) j1 p3] p4], 0⟩] scope gpos) (F i).env) :: starEach [e2] (F i).env := by intro _ _; rfl) :
    CE K F C bi (.Call (.Name "next" p) [.GeneratorExp (.Name y p1) [⟨.Name y px, iter, [.Compare (.Name y p2) [.NotEq] [.Constant (.int 0) j1 p3] p4], 0⟩] scope gpos, .Constant (.int 0) j2 p5] [] pos) (eNext fstN ra) := by
  obtain ⟨t, q1, s1⟩ := ha
  refine ⟨tNextV K P' t, fun i => ?_, se_next hP s1⟩
  have h := pe_nextV (p := p) (pos := pos) (px := px) (p1 := p1) (p2 := p2) (p3 := p3) (p4 := p4) (p5 := p5) (j := j1) (j2 := j2) (gpos := gpos) (m.room i) (hg i) (by rw [m.mg i]; exact hm) (by rw [m.base i, m.mg i]; exact TB) (hcode i) (S i) (q1 i) (hs i) hd (he i)
  rw [m.K i] at h
  exact h
theorem c_nextI (m : Fm P w K mg base k F) (hm : mg "next" = none) (hm2 : mg "enumerate" = none) (hP : P' ∈ C.tabs) (TB : TabB base mg c' P') (hcode : ∀ i, (F i).env.code = .ref c') (S : ∀ i, GenS2 (F i).env scope y z) (ha : CE K F C bi arg ra)
    (ha2 : ∀ i, starEach [arg] (F i).env = [(false, eval arg (F i).env)] := by intro _; rfl) (hs : ∀ i v, genFold (.Call (.Name "enumerate" pe) [arg] [] pe2) (F i).env v = pure v := by intro _ _; rfl) (hd : (y == ("__debug__" : Str)) = false := by decide) (hd2 : (z == ("__debug__" : Str)) = false := by decide)
    (hg : ∀ i, Gl (F i) "next" := by intro _; rfl) (hg2 : ∀ i, Gl (F i) "enumerate" := by intro _; rfl)
    (he : ∀ i (e2 : Expr), starEach [.GeneratorExp (.Name y p1) [⟨.Tuple [.Name y px, .Name z py] kt pt, .Call (.Name "enumerate" pe) [arg] [] pe2, [.Compare (.Name z p2) [.NotEq] [.Constant (.int 0) j1 p3] p4], 0⟩] scope gpos, e2] (F i).env =
      (false, eval (.GeneratorExp (.Name y p1) [⟨.Tuple [.Name y px, .Name z py] kt pt, .Call (.Name "enumerate" pe) [arg] [] pe2, [.Compare (.Name z p2) [.NotEq] [.Constant (.int 0) j1 p3] p4], 0⟩] scope gpos) (F i).env) :: starEach [e2] (F i).env := by intro _ _; rfl) :
    CE K F C bi (.Call (.Name "next" p) [.GeneratorExp (.Name y p1) [⟨.Tuple [.Name y px, .Name z py] kt pt, .Call (.Name "enumerate" pe) [arg] [] pe2, [.Compare (.Name z p2) [.NotEq] [.Constant (.int 0) j1 p3] p4], 0⟩] scope gpos, .Constant (.int 0) j2 p5] [] pos) (eNext (fun ns => (fstI ns : Nat)) ra) := by
  obtain ⟨t, q1, s1⟩ := ha
  refine ⟨tNextI K P' t, fun i => ?_, se_next hP s1⟩
  have h := pe_nextI (p := p) (pos := pos) (px := px) (py := py) (pt := pt) (pe := pe) (pe2 := pe2) (kt := kt) (p1 := p1) (p2 := p2) (p3 := p3) (p4 := p4) (p5 := p5) (j := j1) (j2 := j2) (gpos := gpos) (m.room i) (hg i) (by rw [m.mg i]; exact hm) (hg2 i) (by rw [m.mg i]; exact hm2) (by rw [m.base i, m.mg i]; exact TB) (hcode i) (S i) (q1 i) (ha2 i) (hs i) hd hd2 (he i)
  rw [m.K i] at h
  exact h
end
/-! calls of defs -/
theorem c_call {sd : List D → (D → Prop) → Prop} (m : Fm P w K mg base k F) (c : Ca P w K mg base j x (spP K C sd)) (hk : j ≤ k) (ha : CA K F C bi (e :: es) rr) (hg : ∀ i, Gl (F i) x := by intro _; rfl) (hdb : (x == ("__debug__" : Str)) = false := by decide)
    (he : ∀ i, starEach (e :: es) (F i).env = (false, eval e (F i).env) :: starEach es (F i).env := by intro _; rfl) (hpl : ∀ i, (backTo pos (starEach es (F i).env)).any (·.1) = false := by intro _; rfl) : CE K F C bi (.Call (.Name x p) (e :: es) [] pos) (eCall sd rr) := by
  obtain ⟨t, p1, s1⟩ := ha
  obtain ⟨f, fd, ps, G, hm, kp, b⟩ := c.ex
  refine ⟨tCall (spP K C sd) [] L2.E0 t, fun i => ?_, se_call s1⟩
  refine pe_call (CX := L2.CX0) (k := j) (f := f) (fd := fd) (ps := ps) (ds := []) ?_ ((m.room i).mono hk) (hg i) (by rw [m.mg i]; exact hm) (by rw [m.K i]; exact kp) (by rw [m.K i]; exact b) .nil L2.pass0 (p1 i) hdb (he i) (hpl i)
  rw [m.prog i, m.w i, m.K i, m.mg i, m.base i]
  exact G
theorem c_callB {jb : Nat} {y : Str} {p3 : Pos} {sd : List D → List D → (D → List D → Prop) → Prop} (m : Fm P w K mg base k F) (c : Ca P w K mg base j x (spB K C sd)) (hk : j ≤ k) (ha : CA K F C (some jb) es rr)
    (hN : ∀ i, (F i).N[jb]? = some y := by intro _; rfl) (hv : ∀ i, Vis (F i).env.scope y := by intro _; first | exact Or.inl rfl | exact Or.inr (Or.inl rfl) | exact Or.inr (Or.inr rfl))
    (hd : (y == ("__debug__" : Str)) = false := by decide) (hc : (y == ("__classdict__" : Str)) = false := by decide) (hg : ∀ i, Gl (F i) x := by intro _; rfl) (hdb : (x == ("__debug__" : Str)) = false := by decide)
    (he : ∀ i, starEach (.Name y p3 :: es) (F i).env = (false, eval (.Name y p3) (F i).env) :: starEach es (F i).env := by intro _; rfl) (hpl : ∀ i, (backTo pos (starEach es (F i).env)).any (·.1) = false := by intro _; rfl) : CE K F C (some jb) (.Call (.Name x p) (.Name y p3 :: es) [] pos) (eCallB sd rr) := by
  obtain ⟨t, p1, s1⟩ := ha
  obtain ⟨f, fd, ps, G, hm, kp, b⟩ := c.ex
  refine ⟨tCall (spB K C sd) [] L2.E0 (tCons (tVar jb) t), fun i => ?_, se_callB s1⟩
  refine pe_call (CX := L2.CX0) (k := j) (f := f) (fd := fd) (ps := ps) (ds := []) ?_ ((m.room i).mono hk) (hg i) (by rw [m.mg i]; exact hm) (by rw [m.K i]; exact kp) (by rw [m.K i]; exact b) .nil L2.pass0 (pa_cons (pe_var (hN i) (hv i) hd hc) (p1 i) (he i)) hdb (he i) (hpl i)
  rw [m.prog i, m.w i, m.K i, m.mg i, m.base i]
  exact G
theorem cl_callN {sd : List D → (List D → Prop) → Prop} (m : Fm P w K mg base k F) (c : Ca P w K mg base j x (spN K C sd)) (hk : j ≤ k) (ha : CA K F C bi (e :: es) rr) (hg : ∀ i, Gl (F i) x := by intro _; rfl) (hdb : (x == ("__debug__" : Str)) = false := by decide)
    (he : ∀ i, starEach (e :: es) (F i).env = (false, eval e (F i).env) :: starEach es (F i).env := by intro _; rfl) (hpl : ∀ i, (backTo pos (starEach es (F i).env)).any (·.1) = false := by intro _; rfl) : CL K F C bi (.Call (.Name x p) (e :: es) [] pos) (lCallN sd rr) := by
  obtain ⟨t, p1, s1⟩ := ha
  obtain ⟨f, fd, ps, G, hm, kp, b⟩ := c.ex
  refine ⟨tCall (spN K C sd) [] L2.E0 t, fun i => ?_, sl_callN s1⟩
  refine pe_call (CX := L2.CX0) (k := j) (f := f) (fd := fd) (ps := ps) (ds := []) ?_ ((m.room i).mono hk) (hg i) (by rw [m.mg i]; exact hm) (by rw [m.K i]; exact kp) (by rw [m.K i]; exact b) .nil L2.pass0 (p1 i) hdb (he i) (hpl i)
  rw [m.prog i, m.w i, m.K i, m.mg i, m.base i]
  exact G
/-! rows -/
variable {tg : Expr} {g : TG} {js : List Nat} {ri : DI}
theorem i_tup {y : Nat} (m : Fm P w K mg base k F) (ha : CE K F C bi a ra) : CI K F C bi tg a (gName y) [y] (iTupD ra) := by
  obtain ⟨t, p1, s1⟩ := ha
  exact ⟨iTup K t, fun i => by have z := pi_tup (tg := tg) (p1 i); rw [m.K i] at z; exact z, si_tup s1⟩
theorem i_lst {y : Nat} (m : Fm P w K mg base k F) (ha : CE K F C bi a ra) : CI K F C bi tg a (gName y) [y] (iLstD ra) := by
  obtain ⟨t, p1, s1⟩ := ha
  exact ⟨iList K t, fun i => by have z := pi_list (tg := tg) (p1 i); rw [m.K i] at z; exact z, si_lst s1⟩
theorem i_rng {y : Nat} (m : Fm P w K mg base k F) (hm : mg "range" = none) (ha : CE K F C bi a ra) (hg : ∀ i, Gl (F i) "range" := by intro _; rfl) (hs : ∀ i, starEach [a] (F i).env = [(false, eval a (F i).env)] := by intro _; rfl)
    (hs2 : ∀ i, starEach [] (F i).env = [] := by intro _; rfl) : CI K F C bi tg (.Call (.Name "range" p) [a] [] pos) (gName y) [y] (iRngD ra) := by
  obtain ⟨t, p1, s1⟩ := ha
  exact ⟨_, fun i => pi_range1 (hg i) (by rw [m.mg i]; exact hm) (pa_cons (p1 i) pa_nil (by rw [hs i, hs2 i])) (hs i), si_rng s1⟩
theorem i_enmL {elts : List Expr} {kk y z : Nat} {tpos : Pos} (m : Fm P w K mg base k F) (hm : mg "enumerate" = none) (ha : CE K F C bi a ra) (hg : ∀ i, Gl (F i) "enumerate" := by intro _; rfl) (hs : ∀ i, starEach [a] (F i).env = [(false, eval a (F i).env)] := by intro _; rfl)
    (hs2 : ∀ i, starEach [] (F i).env = [] := by intro _; rfl) : CI K F C bi (.Tuple elts kk tpos) (.Call (.Name "enumerate" p) [a] [] pos) (gTup K 2 (gCons (gName y) (gCons (gName z) gNil))) [y, z] (iEnmL ra) := by
  obtain ⟨t, p1, s1⟩ := ha
  exact ⟨iEnum K (tCons t tNil), fun i => by have q := pi_enum (p := p) (pos := pos) (elts := elts) (kk := kk) (tpos := tpos) (hg i) (by rw [m.mg i]; exact hm) (pa_cons (p1 i) pa_nil (by rw [hs i, hs2 i])) (hs i); rw [m.K i] at q; exact q, si_enmL s1⟩
theorem i_enmT {elts : List Expr} {kk y z : Nat} {tpos : Pos} (m : Fm P w K mg base k F) (hm : mg "enumerate" = none) (ha : CE K F C bi a ra) (hg : ∀ i, Gl (F i) "enumerate" := by intro _; rfl) (hs : ∀ i, starEach [a] (F i).env = [(false, eval a (F i).env)] := by intro _; rfl)
    (hs2 : ∀ i, starEach [] (F i).env = [] := by intro _; rfl) : CI K F C bi (.Tuple elts kk tpos) (.Call (.Name "enumerate" p) [a] [] pos) (gTup K 2 (gCons (gName y) (gCons (gName z) gNil))) [y, z] (iEnmT ra) := by
  obtain ⟨t, p1, s1⟩ := ha
  exact ⟨iEnumT K (tCons t tNil), fun i => by have q := pi_enumT (p := p) (pos := pos) (elts := elts) (kk := kk) (tpos := tpos) (hg i) (by rw [m.mg i]; exact hm) (pa_cons (p1 i) pa_nil (by rw [hs i, hs2 i])) (hs i); rw [m.K i] at q; exact q, si_enmT s1⟩
theorem i_zipT {elts : List Expr} {kk y z : Nat} {tpos : Pos} (m : Fm P w K mg base k F) (hm : mg "zip" = none) (ha : CE K F C bi a ra) (hb : CE K F C bi b rb) (hg : ∀ i, Gl (F i) "zip" := by intro _; rfl) (hs : ∀ i, starEach [a, b] (F i).env = (false, eval a (F i).env) :: starEach [b] (F i).env := by intro _; rfl)
    (hs2 : ∀ i, starEach [b] (F i).env = (false, eval b (F i).env) :: starEach [] (F i).env := by intro _; rfl) (hpl : ∀ i, (backTo pos (starEach [b] (F i).env)).any (·.1) = false := by intro _; rfl) :
    CI K F C bi (.Tuple elts kk tpos) (.Call (.Name "zip" p) [a, b] [] pos) (gTup K 2 (gCons (gName y) (gCons (gName z) gNil))) [y, z] (iZipD ra rb) := by
  obtain ⟨t, p1, s1⟩ := ha
  obtain ⟨u, p2, s2⟩ := hb
  exact ⟨RZ.iZipA K (tCons t (tCons u tNil)), fun i => by have q := RZ.pi_zipA (p := p) (pos := pos) (elts := elts) (kk := kk) (tpos := tpos) (hg i) (by rw [m.mg i]; exact hm) (pa_cons (p1 i) (pa_cons (p2 i) pa_nil (hs2 i)) (hs i)) (hs i) (hpl i); rw [m.K i] at q; exact q, si_zipT s1 s2⟩
/-! comprehensions -/
theorem cts_nil : CTs K F C bi [] tstYes := ⟨_, fun _ => pts_nil, st_yes⟩
theorem cts_one (h : CT K F C bi a rt) : CTs K F C bi [a] rt := by
  obtain ⟨t, p1, s1⟩ := h
  exact ⟨_, fun i => pts_one (p1 i), s1⟩
theorem cl_lc {elt iter : Expr} {ifs : List Expr} {scope : Scope} (own : List (Str × Nat)) (m : Fm P w K mg base k F) (hi : CI K F C bi tg iter g js ri) (hg : ∀ q, PG (inB F scope q) tg g) (ht : CTs K (inB F scope) C bi ifs rt) (he : CE K (inB F scope) C bi elt re)
    (ok : ∀ i, blkC (F i).N (F i).env.scope scope own = true := by intro _; first | rfl | decide +kernel) (hjv : ∀ q ∈ js, q ∈ own.map (·.2) := by decide) (hv : ∀ q ∈ own.map (·.2), bi ≠ some q := by decide) (hs : ∀ i v, foldedSetIterable iter (F i).env v = pure v := by intro _ _; rfl) :
    CL K F C bi (.ListComp elt [⟨tg, iter, ifs, 0⟩] scope pos) (lLc ri js (own.map (·.2)) rt re) := by
  obtain ⟨wi, p0, s0⟩ := hi
  obtain ⟨t, p1, s1⟩ := ht
  obtain ⟨u, p2, s2⟩ := he
  exact ⟨_, fun i => pe_lc (m.calm i) (m.nd i) (p0 i) (blkOk_by (ok i)) (fun s H C cl fp => hg (i, ⟨s, H, C, cl, fp⟩)) (fun s H C cl fp => p1 (i, ⟨s, H, C, cl, fp⟩)) (fun s H C cl fp => p2 (i, ⟨s, H, C, cl, fp⟩)) (hs i), sl_lc s0 hjv hv s1 s2⟩
/-- a name's slot, a pair's slots -/
theorem g1 (m : Fm P w K mg base k F) (y : Nat) (hN : ∀ i, (F i).N[y]? = some x := by intro _; rfl) (hx : ∀ i, Loc (F i).env.scope x := by intro _; first | exact Or.inl rfl | exact Or.inr rfl)
    (hf : ∀ i, (F i).fn x = true ∨ (F i).env.scope.names.lookup x = some .local := by intro _; first | exact .inl rfl | exact .inr rfl) : ∀ i, PG (F i) (.Name x pos) (gName y) := fun i => pg_name (m.nd i) (hN i) (hx i) (hf i)
theorem g2 {x1 x2 : Str} {p1 p2 : Pos} {kk : Nat} (m : Fm P w K mg base k F) (y z : Nat) (h1 : ∀ i, PG (F i) (.Name x1 p1) (gName y)) (h2 : ∀ i, PG (F i) (.Name x2 p2) (gName z))
    (hs1 : ∀ i, (assignEach [.Name x1 p1, .Name x2 p2] (F i).env).map (·.2) = assign (.Name x1 p1) (F i).env :: (assignEach [.Name x2 p2] (F i).env).map (·.2) := by intro _; rfl)
    (hs2 : ∀ i, (assignEach [.Name x2 p2] (F i).env).map (·.2) = assign (.Name x2 p2) (F i).env :: (assignEach [] (F i).env).map (·.2) := by intro _; rfl)
    (hn : ∀ i, (assignEach [.Name x1 p1, .Name x2 p2] (F i).env).length = 2 := by intro _; rfl) (hst : ∀ i, (assignEach [.Name x1 p1, .Name x2 p2] (F i).env).findIdx? (·.1) = none := by intro _; rfl) :
    ∀ i, PG (F i) (.Tuple [.Name x1 p1, .Name x2 p2] kk pos) (gTup K 2 (gCons (gName y) (gCons (gName z) gNil))) := fun i => by
  have q := pg_tup (pos := pos) (k := kk) (m.calm i) (pgs_cons (h1 i) (pgs_cons (h2 i) pgs_nil (hs2 i)) (hs1 i)) (hn i) (hst i)
  rw [m.K i] at q
  exact q
/-! statements -/
variable {st : Stmt} {sts body orelse : List Stmt} {rS rU : DS}
theorem s_nil : CSs K F C bi [] dNext := ⟨_, fun _ => pss_nil, ss_next⟩
theorem s_cons (h1 : CS K F C bi st rS) (h2 : CSs K F C bi sts rU) : CSs K F C bi (st :: sts) (dSeq rS rU) := by
  obtain ⟨t, p1, s1⟩ := h1
  obtain ⟨u, p2, s2⟩ := h2
  exact ⟨_, fun i => pss_cons (p1 i) (p2 i), ss_seq s1 s2⟩
theorem s_one (h1 : CS K F C bi st rS) : CSs K F C bi [st] rS := by
  obtain ⟨t, p1, s1⟩ := h1
  exact ⟨_, fun i => pss_one (p1 i), s1⟩
theorem s_never : CS K F C bi st dNever := ⟨_, fun _ => ps_never, ss_never⟩
theorem s_set {p3 : Pos} (m : Fm P w K mg base k F) (y : Nat) (he : CE K F C bi e re) (hN : ∀ i, (F i).N[y]? = some x := by intro _; rfl) (hx : ∀ i, Loc (F i).env.scope x := by intro _; first | exact Or.inl rfl | exact Or.inr rfl)
    (hs : ∀ i, swapsWith e (some (.Name x p3)) pos.line (F i).env = pure false := by intro _; rfl) (hb : bi ≠ some y := by decide) (hf : ∀ i, (F i).fn x = true ∨ (F i).env.scope.names.lookup x = some .local := by intro _; first | exact .inl rfl | exact .inr rfl) :
    CS K F C bi (.Assign [.Name x p3] e pos) (dAsg y re) := by
  obtain ⟨t, p1, s1⟩ := he
  exact ⟨_, fun i => ps_set (m.nd i) (hN i) (hx i) (p1 i) (hs i) (hf i), ss_asg hb s1⟩
/-- name = [.. for ..] -/
theorem s_setLc {p3 : Pos} {elt iter : Expr} {ifs : List Expr} {scope : Scope} (own : List (Str × Nat)) (m : Fm P w K mg base k F) (y : Nat) (hi : CI K F C bi tg iter g js ri) (hg : ∀ q, PG (inB F scope q) tg g) (ht : CTs K (inB F scope) C bi ifs rt) (he : CE K (inB F scope) C bi elt re)
    (hN : ∀ i, (F i).N[y]? = some x := by intro _; rfl) (hx : ∀ i, (F i).env.scope.names.lookup x = some .local := by intro _; rfl)
    (hsw : ∀ i, swapsWith (.ListComp elt [⟨tg, iter, ifs, 0⟩] scope p) (some (.Name x p3)) pos.line (F i).env = pure true := by intro _; rfl)
    (ok : ∀ i, blkC (F i).N (F i).env.scope scope own = true := by intro _; first | rfl | decide +kernel) (hjv : ∀ q ∈ js, q ∈ own.map (·.2) := by decide) (hv : ∀ q ∈ own.map (·.2), bi ≠ some q := by decide) (hs : ∀ i v, foldedSetIterable iter (F i).env v = pure v := by intro _ _; rfl) (hb : bi ≠ some y := by decide) :
    CS K F C bi (.Assign [.Name x p3] (.ListComp elt [⟨tg, iter, ifs, 0⟩] scope p) pos) (dAsg y (eOfL (lLc ri js (own.map (·.2)) rt re))) := by
  obtain ⟨wi, p0, s0⟩ := hi
  obtain ⟨t, p1, s1⟩ := ht
  obtain ⟨u, p2, s2⟩ := he
  exact ⟨_, fun i => ps_setLc (m.calm i) (m.nd i) (hN i) (hx i) (hsw i) (p0 i) (blkOk_by (ok i)) (fun s H C cl fp => hg (i, ⟨s, H, C, cl, fp⟩)) (fun s H C cl fp => p1 (i, ⟨s, H, C, cl, fp⟩)) (fun s H C cl fp => p2 (i, ⟨s, H, C, cl, fp⟩)) (hs i), ss_asg hb (se_ofL (sl_lc s0 hjv hv s1 s2))⟩
/-- name = [.. for ..], the box of what follows -/
theorem s_boxLc {p3 : Pos} {elt iter : Expr} {ifs : List Expr} {scope : Scope} (own : List (Str × Nat)) (m : Fm P w K mg base k F) (y : Nat) (hi : CI K F C none tg iter g js ri) (hg : ∀ q, PG (inB F scope q) tg g) (ht : CTs K (inB F scope) C none ifs rt) (he : CE K (inB F scope) C none elt re) (h2 : CSs K F C (some y) sts rU)
    (hN : ∀ i, (F i).N[y]? = some x := by intro _; rfl) (hx : ∀ i, (F i).env.scope.names.lookup x = some .local := by intro _; rfl)
    (hsw : ∀ i, swapsWith (.ListComp elt [⟨tg, iter, ifs, 0⟩] scope p) (some (.Name x p3)) pos.line (F i).env = pure true := by intro _; rfl)
    (ok : ∀ i, blkC (F i).N (F i).env.scope scope own = true := by intro _; first | rfl | decide +kernel) (hjv : ∀ q ∈ js, q ∈ own.map (·.2) := by decide) (hs : ∀ i v, foldedSetIterable iter (F i).env v = pure v := by intro _ _; rfl) :
    CSs K F C none (.Assign [.Name x p3] (.ListComp elt [⟨tg, iter, ifs, 0⟩] scope p) pos :: sts) (dBox y (lLc ri js (own.map (·.2)) rt re) rU) := by
  obtain ⟨wi, p0, s0⟩ := hi
  obtain ⟨t, p1, s1⟩ := ht
  obtain ⟨u, p2, s2⟩ := he
  obtain ⟨v, p4, s4⟩ := h2
  exact ⟨_, fun i => pss_cons (ps_setLc (m.calm i) (m.nd i) (hN i) (hx i) (hsw i) (p0 i) (blkOk_by (ok i)) (fun s H C cl fp => hg (i, ⟨s, H, C, cl, fp⟩)) (fun s H C cl fp => p1 (i, ⟨s, H, C, cl, fp⟩)) (fun s H C cl fp => p2 (i, ⟨s, H, C, cl, fp⟩)) (hs i)) (p4 i), ss_box (sl_lc s0 hjv (fun _ _ => by simp) s1 s2) s4⟩
/-- name = a new list, the box of what follows -/
theorem s_box {p3 : Pos} (m : Fm P w K mg base k F) (y : Nat) (he : CL K F C none e rr) (h2 : CSs K F C (some y) sts rU) (hN : ∀ i, (F i).N[y]? = some x := by intro _; rfl) (hx : ∀ i, Loc (F i).env.scope x := by intro _; first | exact Or.inl rfl | exact Or.inr rfl)
    (hs : ∀ i, swapsWith e (some (.Name x p3)) pos.line (F i).env = pure false := by intro _; rfl) (hf : ∀ i, (F i).fn x = true ∨ (F i).env.scope.names.lookup x = some .local := by intro _; first | exact .inl rfl | exact .inr rfl) :
    CSs K F C none (.Assign [.Name x p3] e pos :: sts) (dBox y rr rU) := by
  obtain ⟨t, p1, s1⟩ := he
  obtain ⟨v, p4, s4⟩ := h2
  exact ⟨_, fun i => pss_cons (ps_set (m.nd i) (hN i) (hx i) (p1 i) (hs i) (hf i)) (p4 i), ss_box s1 s4⟩
theorem s_asg2 {tp : Pos} {x1 x2 : Str} {q1 q2 : Pos} {kk : Nat} (y z : Nat) (he : CE K F C bi e re) (hg : ∀ i, PG (F i) (.Tuple [.Name x1 q1, .Name x2 q2] kk tp) (gTup K 2 (gCons (gName y) (gCons (gName z) gNil))))
    (hs : ∀ i, swapsWithSole [.Tuple [.Name x1 q1, .Name x2 q2] kk tp] e pos.line (F i).env = pure false := by intro _; rfl) (hw : ∀ i, swappedStores [.Tuple [.Name x1 q1, .Name x2 q2] kk tp] e (F i).env = pure none := by intro _; rfl)
    (h1 : ∀ i, (assignEach [.Tuple [.Name x1 q1, .Name x2 q2] kk tp] (F i).env).map (·.2) = [assign (.Tuple [.Name x1 q1, .Name x2 q2] kk tp) (F i).env] := by intro _; rfl) (b1 : bi ≠ some y := by decide) (b2 : bi ≠ some z := by decide) :
    CS K F C bi (.Assign [.Tuple [.Name x1 q1, .Name x2 q2] kk tp] e pos) (dAsg2 y z re) := by
  obtain ⟨t, p1, s1⟩ := he
  exact ⟨_, fun i => ps_asg (p1 i) (hg i) (hs i) (hw i) (h1 i), ss_asg2 b1 b2 s1⟩
theorem s_par {tp tp2 : Pos} {x1 x2 : Str} {q1 q2 : Pos} {kk k2 : Nat} (m : Fm P w K mg base k F) (y z : Nat) (ha : CA K F C bi [a, b] rr) (hN : ∀ i, (F i).N[y]? = some x1 := by intro _; rfl) (hN2 : ∀ i, (F i).N[z]? = some x2 := by intro _; rfl) (hx : ∀ i, (F i).env.scope.names.lookup x1 = some .local := by intro _; rfl) (hx2 : ∀ i, (F i).env.scope.names.lookup x2 = some .local := by intro _; rfl)
    (hw : ∀ i, swappedStores [.Tuple [.Name x1 q1, .Name x2 q2] kk tp] (.Tuple [a, b] k2 tp2) (F i).env = pure (some [x1, x2]) := by intro _; rfl) (hs : ∀ i, swapsWithSole [.Tuple [.Name x1 q1, .Name x2 q2] kk tp] (.Tuple [a, b] k2 tp2) pos.line (F i).env = pure false := by intro _; rfl)
    (hyz : y ≠ z := by decide) (b1 : bi ≠ some y := by decide) (b2 : bi ≠ some z := by decide) : CS K F C bi (.Assign [.Tuple [.Name x1 q1, .Name x2 q2] kk tp] (.Tuple [a, b] k2 tp2) pos) (dPar y z rr) := by
  obtain ⟨t, p1, s1⟩ := ha
  exact ⟨_, fun i => ps_par (m.calm i) (m.nd i) (hN i) (hN2 i) hyz (hx i) (hx2 i) (p1 i) (hw i) (hs i), ss_par b1 b2 s1⟩
theorem s_ret (he : CE K F C bi e re) : CS K F C bi (.Return (some e) pos) (dRet re) := by
  obtain ⟨t, p1, s1⟩ := he
  exact ⟨_, fun i => ps_ret (p1 i), ss_ret s1⟩
theorem s_if (hc : CT K F C bi c rt) (ha : CSs K F C bi body rS) (hb : CSs K F C bi orelse rU) : CS K F C bi (.If c body orelse pos) (dIf rt rS rU) := by
  obtain ⟨t, p0, s0⟩ := hc
  obtain ⟨u, p1, s1⟩ := ha
  obtain ⟨v, p2, s2⟩ := hb
  exact ⟨_, fun i => ps_if (p0 i) (p1 i) (p2 i), ss_if s0 s1 s2⟩
theorem s_expr (he : CE K F C bi e re) (hs : ∀ i, swapsWith e none pos.line (F i).env = pure false := by intro _; rfl) : CS K F C bi (.Expr e pos) (dDrop re) := by
  obtain ⟨t, p1, s1⟩ := he
  exact ⟨_, fun i => ps_expr (p1 i) (hs i), ss_drop s1⟩
theorem s_while (hc : CT K F C bi c rt) (hb : CSs K F C bi body rS) (hp : ∀ i, PassesOwn (model (F i).prog (F i).w) (F i).A (F i).env (F i).xe := by intro _; exact PassesOwn.never) : CS K F C bi (.While c body [] pos) (dWhile rt rS) := by
  obtain ⟨t, p0, s0⟩ := hc
  obtain ⟨u, p1, s1⟩ := hb
  exact ⟨_, fun i => ps_while (hp i) (p0 i) (p1 i), ss_while s0 s1⟩
theorem s_for {iter : Expr} (m : Fm P w K mg base k F) (hi : CI K F C bi tg iter g js ri) (hg : ∀ i, PG (F i) tg g) (hb : CSs K F C bi body rS) (hp : ∀ i, PassesOwn (model (F i).prog (F i).w) (F i).A (F i).env (F i).xe := by intro _; exact PassesOwn.never)
    (hs : ∀ i v, foldedSetIterable iter (F i).env v = pure v := by intro _ _; rfl) (hj : ∀ q ∈ js, bi ≠ some q := by decide) : CS K F C bi (.For tg iter body [] pos) (dFor js ri rS) := by
  obtain ⟨wi, p0, s0⟩ := hi
  obtain ⟨u, p1, s1⟩ := hb
  exact ⟨_, fun i => ps_for (hp i) (m.calm i) (p0 i) (hg i) (p1 i) (hs i), ss_for s0 hj s1⟩
/-- box[i] = e, box[i] += e -/
theorem s_setB {jb : Nat} {p3 p4 : Pos} (hi : CE K F C (some jb) a ra) (he : CE K F C (some jb) e re) (hN : ∀ i, (F i).N[jb]? = some x := by intro _; rfl) (hv : ∀ i, Vis (F i).env.scope x := by intro _; first | exact Or.inl rfl | exact Or.inr (Or.inl rfl) | exact Or.inr (Or.inr rfl))
    (hd : (x == ("__debug__" : Str)) = false := by decide) (hc : (x == ("__classdict__" : Str)) = false := by decide)
    (ha : ∀ i v, assign (.Subscript (.Name x p3) a p4) (F i).env v = (do
      let ov ← holding [v] (eval (.Name x p3) (F i).env)
      let iv ← holding [v, ov] (eval a (F i).env)
      standAt p4
      holding [v, ov, iv] (setItem ov iv v)
      release [v, ov, iv] []) := by intro _ _; rfl)
    (hs : ∀ i, swapsWithSole [.Subscript (.Name x p3) a p4] e pos.line (F i).env = pure false := by intro _; rfl) (hw : ∀ i, swappedStores [.Subscript (.Name x p3) a p4] e (F i).env = pure none := by intro _; rfl)
    (h1 : ∀ i, (assignEach [.Subscript (.Name x p3) a p4] (F i).env).map (·.2) = [assign (.Subscript (.Name x p3) a p4) (F i).env] := by intro _; rfl) :
    CS K F C (some jb) (.Assign [.Subscript (.Name x p3) a p4] e pos) (dSetB ra re) := by
  obtain ⟨t, p0, s0⟩ := hi
  obtain ⟨u, p1, s1⟩ := he
  exact ⟨_, fun i => ps_asg (p1 i) (pg_sub (pe_var (hN i) (hv i) hd hc) (p0 i) set_list (ha i)) (hs i) (hw i) (h1 i), ss_setB s0 s1⟩
theorem s_augB {jb : Nat} {p3 p4 : Pos} (m : Fm P w K mg base k F) (hi : CE K F C (some jb) a ra) (he : CE K F C (some jb) e re) (hN : ∀ i, (F i).N[jb]? = some x := by intro _; rfl) (hv : ∀ i, Vis (F i).env.scope x := by intro _; first | exact Or.inl rfl | exact Or.inr (Or.inl rfl) | exact Or.inr (Or.inr rfl))
    (hd : (x == ("__debug__" : Str)) = false := by decide) (hc : (x == ("__classdict__" : Str)) = false := by decide)
    (ha : ∀ ov iv new, augStore a ov iv new = (do holding [new, ov, iv] (setItem ov iv new); release [new, ov, iv] []; pure .next) := by intros; rfl) : CS K F C (some jb) (.AugAssign (.Subscript (.Name x p3) a p4) .Add e pos) (dAugB ra re) := by
  obtain ⟨t, p0, s0⟩ := hi
  obtain ⟨u, p1, s1⟩ := he
  exact ⟨_, fun i => ps_augS (pe_var (hN i) (hv i) hd hc) (p0 i) (by have z := pget_list (X := F i); rw [m.K i] at z; exact z) (p1 i) ip_add set_list ha, ss_augB s0 s1⟩
end
end KD
set_option Elab.async false
set_option linter.all false
set_option maxRecDepth 100000
set_option maxHeartbeats 2000000
/-! The D layer, 6: defs by their bodies. -/
namespace KD
open PySem PySem.Spec PyProof.Rows L2 GxR

abbrev top (P : Program) (w : World) (K : PySem.W.Frag) (mg : Str → Option Value) (base : Heap) (N : List Str) (qual : Str) (scope : Scope) (f : Addr) (cd : Value) (A : Around) (outer : List PySem.Env) (s : Shared) (H : Hp) (E : XK) : Unit → Cx :=
  fun _ => (cxOf L2.CX0 P w K mg base N qual scope f cd A outer s H E).nox
/-- a def of the module as it stands behind the top -/
structure Df (K : PySem.W.Frag) (mg : Str → Option Value) (x : Str) (st : Stmt) : Prop where
  ex : ∃ fd : FuncData, L2.Fun K x x st (He.ga K x) fd ∧ mg x = some (.ref (He.ga K x))

section
variable {P : Program} {w : World} {K : PySem.W.Frag} {mg : Str → Option Value} {base : Heap} {k : Nat} {C : Cfg} {x : Str} {st : Stmt} {N ps : List Str}
theorem fm_top {qual : Str} {scope : Scope} {f : Addr} {cd : Value} {A : Around} {outer : List PySem.Env} {s : Shared} {H : Hp} {E : XK} (nd : N.Nodup) (hr : Room k (A.deeper (envOfC qual scope s.heap.objs.size f cd))) : Fm P w K mg base k (top P w K mg base N qual scope f cd A outer s H E) :=
  ⟨fun _ => rfl, fun _ => rfl, fun _ => rfl, fun _ => rfl, fun _ => rfl, fun _ => rfl, fun _ => nd, fun _ => hr⟩
def rho (N : List Str) (ds : List D) : Env := ds.map some ++ List.replicate (N.length - ds.length) none
theorem start_get {N : List Str} {hid : List Addr} {H : Hp} {vs : List V} {ds : List D} (r : RepL K C (out hid H) vs ds) (i : Nat) (d : D) (h : (rho N ds)[i]? = some (some d)) : ∃ v, (start N vs)[i]? = some (some v) ∧ Rep K C (out hid H) v d := by
  unfold rho at h
  unfold L2.start
  have hl := r.length
  by_cases hi : i < ds.length
  · rw [List.getElem?_append_left (by rw [List.length_map]; exact hi), List.getElem?_map, Option.map_eq_some_iff] at h
    obtain ⟨e, h1, h2⟩ := h
    have h3 : e = d := Option.some.inj h2
    subst h3
    obtain ⟨v, h4, h5⟩ := r.get h1
    exact ⟨v, by rw [List.getElem?_append_left (by rw [List.length_map, hl]; exact hi), List.getElem?_map, h4]; rfl, h5⟩
  · rw [List.getElem?_append_right (by rw [List.length_map]; omega), List.getElem?_replicate] at h
    split at h <;> cases h
theorem start_len {N : List Str} {hid : List Addr} {H : Hp} {vs : List V} {ds : List D} (r : RepL K C (out hid H) vs ds) : (rho N ds).length = (start N vs).length := by
  unfold rho L2.start
  rw [List.length_append, List.length_append, List.length_map, List.length_map, List.length_replicate, List.length_replicate, r.length]
abbrev BodyOk (P : Program) (w : World) (K : PySem.W.Frag) (mg : Str → Option Value) (base : Heap) (k : Nat) (C : Cfg) (x : Str) (st : Stmt) (N : List Str) (bi : Option Nat) (r : DS) : Prop :=
  ∀ (f : Addr) (cdv : Value) (A : Around) (outer : List PySem.Env) (s : Shared) (H : Hp) (E : XK), cdv = .ref (He.codeOf K (x, none)) → Fm P w K mg base k (top P w K mg base N x (defScope st) f cdv A outer s H E) →
    CSs K (top P w K mg base N x (defScope st) f cdv A outer s H E) C bi (defBody st) r
/-- THE RULE for a def: nothing that stood changes -/
theorem ca_of {sd : List D → (D → Prop) → Prop} {r : DS} (d : Df K mg x st) (S : C8.scC N ps (defScope st) = true)
    (hb : ∀ (kV doc pm : Value) (an : Option Addr) (cdv ct : Value) (us : List Value), us.length = ps.length → bindArgs (PySem.W.fnOf x x (defArgs st) (defBody st) (defScope st) .none kV doc pm an cdv ct) ⟨us, []⟩ = pure (ps.zip us))
    (hbody : BodyOk P w K mg base k C x st N none r) (hD : ∀ ds QD, sd ds QD → ds.length = ps.length ∧ r { nx := fun _ _ => QD .non, rt := fun v _ => QD v } (rho N ds) []) : Ca P w K mg base (k + 1) x (spP K C sd) := by
  obtain ⟨fd, F, hm⟩ := d.ex
  have S' := C8.fnScope_by S
  refine ⟨He.ga K x, fd, ps, ?_, hm, F.kp, F.binds hb⟩
  obtain ⟨oc, od, kV, doc, pm, an, cdv, ct, osl, rfl, lk, hcd⟩ := F.ex
  obtain ⟨c', ec⟩ := He.codeIn_ref hcd
  have hc : cdv = .ref (He.codeOf K (x, none)) := by rw [He.codeOf_eq (p := (x, none)) lk ec, ec]
  refine fn_of lk hcd S' (fun vs H Q E q => ?_) fun A outer s H vs Q E hr q => ?_
  · obtain ⟨hid, ds, QD, rl, _, _, h, _⟩ := q
    rw [rl.length]
    exact (hD ds QD h).1
  · obtain ⟨hid, ds, QD, rl, tb, lv, h, hk⟩ := q
    obtain ⟨t, pt, st'⟩ := hbody (He.ga K x) cdv A outer s H E hc (fm_top S'.nd hr)
    refine ⟨t, (pt ()).nox, ?_⟩
    have hs : Hs K C hid none [] H := ⟨tb, lv, (fun _ z => nomatch z), (fun _ z => nomatch z)⟩
    refine st' hid none (rho N ds) [] (start N vs) H _ _ ⟨hs, start_len rl, start_get rl, (fun _ z => nomatch z), fun _ => rfl⟩ (hD ds QD h).2 (fun ρ' B' σ' H' q s c => ?_) fun d B' v H' q s h r => ?_
    · exact hk .non .non H' q s c.hs.tabs .non
    · exact hk d v H' q s h.tabs r
/-- .. whose first argument is the box -/
theorem ca_ofB {sd : List D → List D → (D → List D → Prop) → Prop} {r : DS} (d : Df K mg x st) (S : C8.scC N ps (defScope st) = true)
    (hb : ∀ (kV doc pm : Value) (an : Option Addr) (cdv ct : Value) (us : List Value), us.length = ps.length → bindArgs (PySem.W.fnOf x x (defArgs st) (defBody st) (defScope st) .none kV doc pm an cdv ct) ⟨us, []⟩ = pure (ps.zip us))
    (hbody : BodyOk P w K mg base k C x st N (some 0) r) (hD : ∀ ds B QD, sd ds B QD → ds.length + 1 = ps.length ∧ r { nx := fun _ B => QD .non B, rt := fun v B => QD v B } (none :: rho N.tail ds) B) : Ca P w K mg base (k + 1) x (spB K C sd) := by
  obtain ⟨fd, F, hm⟩ := d.ex
  have S' := C8.fnScope_by S
  refine ⟨He.ga K x, fd, ps, ?_, hm, F.kp, F.binds hb⟩
  obtain ⟨oc, od, kV, doc, pm, an, cdv, ct, osl, rfl, lk, hcd⟩ := F.ex
  obtain ⟨c', ec⟩ := He.codeIn_ref hcd
  have hc : cdv = .ref (He.codeOf K (x, none)) := by rw [He.codeOf_eq (p := (x, none)) lk ec, ec]
  refine fn_of lk hcd S' (fun vs H Q E q => ?_) fun A outer s H vs Q E hr q => ?_
  · obtain ⟨a, ws, hid, ds, B, QD, e, rl, _, h, _⟩ := q
    rw [e, List.length_cons, rl.length]
    exact (hD ds B QD h).1
  · obtain ⟨a, ws, hid, ds, B, QD, e, rl, hs, h, hk⟩ := q
    obtain ⟨t, pt, st'⟩ := hbody (He.ga K x) cdv A outer s H E hc (fm_top S'.nd hr)
    refine ⟨t, (pt ()).nox, ?_⟩
    subst e
    have ll := (hD ds B QD h).1
    have hN : N = N.headD x :: N.tail := by
      cases N with
      | nil =>
        have := S'.pre
        simp only [List.take_nil] at this
        rw [← this] at ll
        cases ll
      | cons n r => rfl
    have es : start N (V.ref a :: ws) = some (V.ref a) :: start N.tail ws := by
      unfold L2.start
      rw [hN]
      simp
    rw [es]
    refine st' hid (some a) (none :: rho N.tail ds) B (some (V.ref a) :: start N.tail ws) H _ _ ⟨hs, by rw [List.length_cons, List.length_cons, start_len rl], fun i d hd => ?_, fun j hj => ?_, (fun z => nomatch z)⟩ (hD ds B QD h).2 (fun ρ' B' σ' H' q s c => ?_) fun d B' v H' q s h r => ?_
    · cases i with
      | zero => cases hd
      | succ i => exact start_get rl i d hd
    · cases hj
      exact ⟨a, rfl, rfl⟩
    · exact hk .non B' .non H' q s c.hs .non
    · exact hk d B' v H' q s h r
/-! a new list comes back -/
def SN (K : PySem.W.Frag) (C : Cfg) (bi : Option Nat) (t : TS) (r : DA) : Prop := ∀ (hid : List Addr) (bx : Option Addr) (ρ : Env) (B : List D) (σ : L2.St) (H : Hp) (QD : List D → List D → Prop) (D' : Ends),
  Ctx K C hid bx bi ρ B σ H → r ρ B QD → (∀ ds B' p vs H', QD ds B' → Step bx H H' → Hs K C hid bx B' H' → H p = none → H' p = some (.lst vs) → RepL K C (out hid H') vs ds → D'.rt (.ref p) H') → t D' σ H
theorem sn_ret {bi : Option Nat} {t : TE} {r : DA} (h : SL K C bi t r) : SN K C bi (tRet t) r := by
  intro hid bx ρ B σ H QD D' c q kr
  exact h hid bx ρ B σ H QD _ c q kr
def nSeq (a : DS) (b : DA) : DA := fun ρ B Q => a { nx := fun ρ' B' => b ρ' B' Q, rt := fun _ _ => False } ρ B
theorem sn_seq {bi : Option Nat} {t u : TS} {ra : DS} {rb : DA} (ha : SS K C bi t ra) (hb : SN K C bi u rb) : SN K C bi (tSeq t u) (nSeq ra rb) := by
  intro hid bx ρ B σ H QD D' c h kr
  refine ha hid bx ρ B σ H _ _ c h (fun ρ' B' σ' H' q s c' => ?_) fun d B' v H' q _ _ _ => q.elim
  exact hb hid bx ρ' B' σ' H' QD _ c' q fun ds B2 p vs H2 q2 s2 h2 n e r => kr ds B2 p vs H2 q2 (s.trans s2) h2 (Step.fresh c'.hs s n) e r
variable {ι : Type} {F : ι → Cx} {bi : Option Nat}
def CN (K : PySem.W.Frag) (F : ι → Cx) (C : Cfg) (bi : Option Nat) (sts : List Stmt) (r : DA) : Prop := ∃ t, (∀ i, PSs (F i) sts t) ∧ SN K C bi t r
theorem n_ret {e : Expr} {pos : Pos} {r : DA} (h : CL K F C bi e r) : CN K F C bi [.Return (some e) pos] r := by
  obtain ⟨t, p1, s1⟩ := h
  exact ⟨_, fun i => pss_one (ps_ret (p1 i)), sn_ret s1⟩
theorem n_cons {s1 : Stmt} {sts : List Stmt} {ra : DS} {rb : DA} (h1 : CS K F C bi s1 ra) (h2 : CN K F C bi sts rb) : CN K F C bi (s1 :: sts) (nSeq ra rb) := by
  obtain ⟨t, p1, q1⟩ := h1
  obtain ⟨u, p2, q2⟩ := h2
  exact ⟨_, fun i => pss_cons (p1 i) (p2 i), sn_seq q1 q2⟩
abbrev BodyOkN (P : Program) (w : World) (K : PySem.W.Frag) (mg : Str → Option Value) (base : Heap) (k : Nat) (C : Cfg) (x : Str) (st : Stmt) (N : List Str) (r : DA) : Prop :=
  ∀ (f : Addr) (cdv : Value) (A : Around) (outer : List PySem.Env) (s : Shared) (H : Hp) (E : XK), cdv = .ref (He.codeOf K (x, none)) → Fm P w K mg base k (top P w K mg base N x (defScope st) f cdv A outer s H E) →
    CN K (top P w K mg base N x (defScope st) f cdv A outer s H E) C none (defBody st) r
theorem ca_ofN {sd : List D → (List D → Prop) → Prop} {r : DA} (d : Df K mg x st) (S : C8.scC N ps (defScope st) = true)
    (hb : ∀ (kV doc pm : Value) (an : Option Addr) (cdv ct : Value) (us : List Value), us.length = ps.length → bindArgs (PySem.W.fnOf x x (defArgs st) (defBody st) (defScope st) .none kV doc pm an cdv ct) ⟨us, []⟩ = pure (ps.zip us))
    (hbody : BodyOkN P w K mg base k C x st N r) (hD : ∀ ds QD, sd ds QD → ds.length = ps.length ∧ r (rho N ds) [] fun v _ => QD v) : Ca P w K mg base (k + 1) x (spN K C sd) := by
  obtain ⟨fd, F, hm⟩ := d.ex
  have S' := C8.fnScope_by S
  refine ⟨He.ga K x, fd, ps, ?_, hm, F.kp, F.binds hb⟩
  obtain ⟨oc, od, kV, doc, pm, an, cdv, ct, osl, rfl, lk, hcd⟩ := F.ex
  obtain ⟨c', ec⟩ := He.codeIn_ref hcd
  have hc : cdv = .ref (He.codeOf K (x, none)) := by rw [He.codeOf_eq (p := (x, none)) lk ec, ec]
  refine fn_of lk hcd S' (fun vs H Q E q => ?_) fun A outer s H vs Q E hr q => ?_
  · obtain ⟨hid, ds, QD, rl, _, _, h, _⟩ := q
    rw [rl.length]
    exact (hD ds QD h).1
  · obtain ⟨hid, ds, QD, rl, tb, lv, h, hk⟩ := q
    obtain ⟨t, pt, st'⟩ := hbody (He.ga K x) cdv A outer s H E hc (fm_top S'.nd hr)
    refine ⟨t, (pt ()).nox, ?_⟩
    have hs : Hs K C hid none [] H := ⟨tb, lv, (fun _ z => nomatch z), (fun _ z => nomatch z)⟩
    refine st' hid none (rho N ds) [] (start N vs) H _ _ ⟨hs, start_len rl, start_get rl, (fun _ z => nomatch z), fun _ => rfl⟩ (hD ds QD h).2 fun es B' p us H' q s h n e r => ?_
    exact hk es p us H' q s h.tabs n e r
end
end KD
set_option Elab.async false
set_option linter.all false
set_option maxRecDepth 100000
set_option maxHeartbeats 2000000
/-! What each def promises, over data. -/
namespace KD
open PySem PySem.Spec PyProof.Rows L2 Km

def tI (ns : List Int) : D := .tup (ns.map D.int)
def lI (ns : List Int) : D := .lst (ns.map D.int)
abbrev Ty (d : D) : Prop := ∃ n, tyD d = some n
def wholeD : D → Bool
  | .int _ => true
  | _ => false
def shortI (i : Int) : Bool := decide (-(10 ^ 60 : Int) < i) && decide (i < (10 ^ 60 : Int))
def shortD : D → Bool
  | .int i => shortI i
  | _ => false
def fromD (a b : Int) : D → Bool
  | .int i => decide (a ≤ i) && decide (i ≤ b)
  | _ => false
abbrev Sp1 : Type := List D → (D → Prop) → Prop
abbrev Sp2 : Type := List D → List D → (D → List D → Prop) → Prop
def sd_is_whole : Sp1 := fun ds Q => ∃ v, ds = [v] ∧ Ty v ∧ Q (.bl (wholeD v))
def sd__law_is_whole : Sp1 := sd_is_whole
def sd_is_short : Sp1 := fun ds Q => ∃ v, ds = [v] ∧ Ty v ∧ Q (.bl (shortD v))
def sd_is_from : Sp1 := fun ds Q => ∃ v a b, ds = [v, .int a, .int b] ∧ Ty v ∧ Q (.bl (fromD a b v))
/-- what stands as a point in a paper -/
def PVal (d : D) : Prop := Ty d ∧ ∀ xs, d = .tup xs → ∃ a b, xs = [.int a, .int b]
def wholesD : D → Bool
  | .tup xs => xs.all wholeD
  | _ => false
def sd_are_wholes : Sp1 := fun ds Q => ∃ v, ds = [v] ∧ PVal v ∧ Q (.bl (wholesD v))
def sd_are_short : Sp1 := fun ds Q => ∃ ns, ds = [tI ns] ∧ ns.length ≤ 1000 ∧ Q (.bl (ns.all shortI))
def gcdI (a b : Int) : Int := ((Nat.gcd a.natAbs b.natAbs : Nat) : Int)
def gcdL (ns : List Int) : Int := ns.foldl gcdI 0
def sd_shared_of : Sp1 := fun ds Q => ∃ ns, ds = [tI ns] ∧ Q (.int (gcdL ns))
def sd_first_of : Sp1 := fun ds Q => ∃ ns, ds = [tI ns] ∧ Q (.int (fstN ns))
def sd_first_index : Sp1 := fun ds Q => ∃ ns, ds = [tI ns] ∧ Q (.int (fstI ns : Nat))
def two (k : Nat) : Int := if k = 1 then 2 else 1
def sd_lots_of : Sp1 := fun ds Q => ∃ k : Nat, ds = [.int 2, .int k] ∧ k ≤ 2 ∧ Q (.int (two k))
def sd__law_choose : Sp1 := sd_lots_of
def ptOk (a b : Int) : Bool := decide (Nat.gcd a.natAbs b.natAbs = 1) && decide (0 < fstN [a, b])
def pointD : D → Bool
  | .tup [.int a, .int b] => ptOk a b
  | _ => false
def sd_is_point_any : Sp1 := fun ds Q => ∃ v, ds = [v] ∧ PVal v ∧ Q (.bl (pointD v))
/-- entries that may be multiplied -/
def Sm (ns : List Int) : Prop := ∀ n ∈ ns, n.natAbs < 2 ^ 300000
def sd_product_in : Sp1 := fun ds Q => ∃ xs ys, ds = [tI xs, tI ys] ∧ xs ≠ [] ∧ ys ≠ [] ∧ xs.length ≤ 1000 ∧ ys.length ≤ 1000 ∧ Sm xs ∧ Sm ys ∧ Q (tI (mul xs ys))
def sd_joined_entries : Sp1 := sd_product_in
def sd__law_product : Sp1 := sd_product_in
def sd_power_in : Sp1 := fun ds Q => ∃ a b : Int, ∃ n : Nat, ds = [tI [a, b], .int n] ∧ n ≤ 60 ∧ a.natAbs < 2 ^ 3000 ∧ b.natAbs < 2 ^ 3000 ∧ Q (tI (pw [a, b] n))
def sd__law_power : Sp1 := sd_power_in
def sd_line_in : Sp1 := fun ds Q => ∃ a b, ds = [tI [a, b]] ∧ Q (tI [b, -a])
def sd__law_line : Sp1 := sd_line_in
def nzL (ns : List Int) : Bool := ns.any fun n => n != 0
def sd_is_zero_in : Sp1 := fun ds Q => ∃ ns, ds = [tI ns] ∧ Q (.bl (!nzL ns))
def entOk (ns : List Int) : Bool := ns.all shortI && (decide (1 ≤ ns.length) && decide (ns.length ≤ 41))
def sd_are_entries : Sp1 := fun ds Q => ∃ ns, ds = [tI ns] ∧ ns.length ≤ 1000 ∧ Q (.bl (entOk ns))
def sd_require_form : Sp1 := fun ds Q => ∃ es, ds = [.frm es] ∧ Q .non
def sd_entries : Sp1 := fun ds Q => ∃ es, ds = [.frm es] ∧ Q (tI es)
def sd_degree : Sp1 := fun ds Q => ∃ es, ds = [.frm es] ∧ Q (.int ((es.length : Int) - 1))
def sd_is_zero : Sp1 := fun ds Q => ∃ es, ds = [.frm es] ∧ Q (.bl (!nzL es))
def sd_Form : Sp1 := fun ds Q => ∃ es, ds = [tI es] ∧ es.length ≤ 1000 ∧ entOk es = true ∧ Q (.frm es)
/-- the two slopes -/
def dX (es : List Int) : List Int := tab (es.length - 1) fun i => co es i * ((es.length - 1 - i : Nat) : Int)
def dY (es : List Int) : List Int := tab (es.length - 1) fun i => co es (i + 1) * ((i + 1 : Nat) : Int)
def sd_laying_slope : Sp1 := fun ds Q => ∃ es b, ds = [lI es, .bl b] ∧ es ≠ [] ∧ es.length ≤ 1000 ∧ Q (lI (if b then dY es else dX es))
def sd_laying_slopes : Sp1 := fun ds Q => ∃ es, ds = [tI es, .int 2] ∧ 3 ≤ es.length ∧ es.length ≤ 1000 ∧ Q (.lst [lI (dX (dX es)), lI (dX (dY es)), lI (dY (dY es))])
def addP (bs : List Int) (f : Int) (xs ys : List Int) : List Int := tab bs.length fun m => co bs m + f * co (mul xs ys) m
def sd_add_product : Sp2 := fun ds B Q => ∃ xs ys f bs, ds = [lI xs, lI ys, .int f] ∧ B = bs.map D.int ∧ xs ≠ [] ∧ ys ≠ [] ∧ bs.length + 1 = xs.length + ys.length ∧ bs.length ≤ 1000 ∧ Sm xs ∧ Sm ys ∧ f.natAbs < 4 ∧ Q .non ((addP bs f xs ys).map D.int)
/-- the second laying of a form over itself -/
def hess (es : List Int) : List Int := tab (2 * es.length - 5) fun m => 2 * hh es m
def Mid (es : List Int) : Prop := ∀ n ∈ es, n.natAbs < 2 ^ 400
def sd_laid_in : Sp1 := fun ds Q => ∃ es, ds = [tI es, tI es, .int 2] ∧ 3 ≤ es.length ∧ es.length ≤ 100 ∧ Mid es ∧ Q (tI (hess es))
def sd__law_laid : Sp1 := sd_laid_in
/-- the point of a line -/
def pol (a b : Int) : Int × Int :=
  let x := (-b).fdiv (gcdI a b)
  let y := a.fdiv (gcdI a b)
  if 0 < x ∨ (x = 0 ∧ 0 < y) then (x, y) else (-x, -y)
def sd_point_of_line : Sp1 := fun ds Q => ∃ a b : Int, ds = [.int a, .int b] ∧ (a ≠ 0 ∨ b ≠ 0) ∧ a.natAbs < 2 ^ 2000 ∧ b.natAbs < 2 ^ 2000 ∧ Q (tI [(pol a b).1, (pol a b).2])
/-- entries of 1 to 11 not too great ints -/
def Good (es : List Int) : Prop := 1 ≤ es.length ∧ es.length ≤ 11 ∧ ∀ n ∈ es, n.natAbs < 10 ^ 50
def ptT (es : List Int) : Int × Int := if co es 0 = 0 then (1, 0) else pol (((es.length : Int) - 1) * co es 0) (co es 1)
def lnT (es : List Int) : List Int := pw [(ptT es).2, -(ptT es).1] (es.length - 1)
def nrT (es : List Int) : Int := (co es (fstI (lnT es))).fdiv (co (lnT es) (fstI (lnT es)))
def sd_power_told : Sp1 := fun ds Q => ∃ es, ds = [tI es] ∧ 2 ≤ es.length ∧ Good es ∧ Q (.tup [.int (nrT es), tI [(ptT es).1, (ptT es).2]])
def isPw (es : List Int) : Bool := decide (es.length < 3) || !nzL (hess es)
def sd_is_power_in : Sp1 := fun ds Q => ∃ es, ds = [tI es] ∧ Good es ∧ Q (.bl (isPw es))
def entP (es : List Int) : D := .tup [.str "entry", .int (fstI (hess es) : Nat), .int (co (hess es) (fstI (hess es)))]
def sd_entry_paper : Sp1 := fun ds Q => ∃ es, ds = [tI es, .int 2] ∧ 3 ≤ es.length ∧ Good es ∧ Q (entP es)
def sd_times_power : Sp1 := fun ds Q => ∃ k a b : Int, ∃ n : Nat, ds = [.int k, tI [a, b], .int n] ∧ n ≤ 12 ∧ k.natAbs < 2 ^ 2000 ∧ a.natAbs < 2 ^ 2000 ∧ b.natAbs < 2 ^ 2000 ∧ Q (tI ((pw [b, -a] n).map fun e => k * e))
/-- what stands in a paper -/
inductive Val : D → Prop where
  | int {i : Int} : i.natAbs < 2 ^ 1000 → Val (.int i)
  | bl {b : Bool} : Val (.bl b)
  | tup {a b : Int} : a.natAbs < 2 ^ 1000 → b.natAbs < 2 ^ 1000 → Val (.tup [.int a, .int b])
  | lst {a b : Int} : Val (.lst [.int a, .int b])
inductive Vals' : List D → Prop where
  | nil : Vals' []
  | cons {d : D} {ds : List D} : Val d → Vals' ds → Vals' (d :: ds)
/-- a value that is judged -/
def Jv (d : D) : Prop := Ty d ∧ ∀ xs, d = .tup xs → xs = [] ∨ ∃ z r, xs = .str z :: r ∧ (z = "power" ∨ z = "entry" ∨ z = "line") ∧ Vals' r ∧ r.length ≤ 10
def entJ (es : List Int) (x y : D) : Bool := fromD 0 (((hess es).length : Int) - 1) x && (wholeD y && (match x, y with
  | .int i, .int e => decide (e ≠ 0) && decide (co (hess es) i.toNat = e)
  | _, _ => false))
def sd_is_entry_of : Sp1 := fun ds Q => ∃ es x y, ds = [tI es, .int 2, .tup [x, y]] ∧ 3 ≤ es.length ∧ Good es ∧ Val x ∧ Val y ∧ Q (.bl (entJ es x y))
def word : D → Str
  | .tup (.str z :: _) => z
  | _ => ""
def sd_paper_word : Sp1 := fun ds Q => ∃ v, ds = [v] ∧ Jv v ∧ Q (.str (word v))
def paper (es : List Int) : D := if isPw es = true then (if es.length = 1 ∨ nzL es = false then .tup [.str "power", .int (co es 0), tI [1, 0]] else .tup [.str "power", .int (nrT es), tI [(ptT es).1, (ptT es).2]]) else entP es
def sd_power_paper : Sp1 := fun ds Q => ∃ es, ds = [.frm es] ∧ Good es ∧ Q (paper es)
def powJ (es : List Int) (k a b : Int) : Bool := decide ((pw [b, -a] (es.length - 1)).map (fun e => k * e) = es)
/-- a power's paper, by the program -/
def toldA (es : List Int) : D → Bool
  | .tup [_, .int k, .tup [.int a, .int b]] => ptOk a b && powJ es k a b
  | _ => false
def sd_is_told_power : Sp1 := fun ds Q => ∃ es v, ds = [tI es, v] ∧ Good es ∧ Jv v ∧ (∃ xs, v = .tup xs) ∧ Q (.bl (toldA es v))
def judgeA (es : List Int) (v : D) : Bool := if word v = "power" then toldA es v else if word v = "entry" then (match v with
  | .tup [_, x, y] => decide (3 ≤ es.length) && entJ es x y
  | _ => false) else false
def sd_is_power_paper : Sp1 := fun ds Q => ∃ es v, ds = [.frm es, v] ∧ Good es ∧ Jv v ∧ Q (.bl (judgeA es v))
/-! ### the law's side -/
def Dice (B : List D) : Prop := ∃ a b c : Int, B = [.int a, .int b, .int c]
def sd__law_dice : List D → (List D → Prop) → Prop := fun ds Q => ∃ ns, ∃ k : Nat, ds = [.scr ns, .int k] ∧ k ≤ 4 ∧ ∀ a b c : Int, Q [.int a, .int b, .int c]
def sd__law_roll : Sp2 := fun ds B Q => ∃ t : Int, ds = [.int t] ∧ 0 < t ∧ t < 2 ^ 200 ∧ Dice B ∧ ∀ r B', 0 ≤ r → r < t → Dice B' → Q (.int r) B'
def sd__law_pick : Sp2 := fun ds B Q => ∃ xs, ds = [.lst xs] ∧ 0 < xs.length ∧ xs.length ≤ 1000 ∧ Dice B ∧ ∀ d ∈ xs, ∀ B', Dice B' → Q d B'
def sd__law_near : Sp2 := fun ds B Q => ∃ m : Int, ds = [.int m] ∧ 0 ≤ m ∧ m < 2 ^ 100 ∧ Dice B ∧ ∀ r B', -m ≤ r → r ≤ m → Dice B' → Q (.int r) B'
def sd__law_gcd : Sp1 := fun ds Q => ∃ a b, ds = [.int a, .int b] ∧ Q (.int (gcdI a b))
def sd__law_shared : Sp1 := sd_shared_of
def sd__law_plus : Sp1 := fun ds Q => ∃ xs ys, ds = [tI xs, tI ys] ∧ xs.length = ys.length ∧ xs.length ≤ 1000 ∧ Q (tI (tab xs.length fun i => co xs i + co ys i))
def sd__law_scaled : Sp1 := fun ds Q => ∃ xs f, ds = [tI xs, .int f] ∧ xs.length ≤ 1000 ∧ Sm xs ∧ f.natAbs < 2 ^ 300000 ∧ Q (tI (xs.map fun e => f * e))
def allM (ls : List (List Int)) : List Int := ls.foldl mul [1]
def sd__law_all_product : Sp1 := fun ds Q => ∃ ls : List (List Int), ds = [.lst (ls.map tI)] ∧ ls.length ≤ 8 ∧ (∀ l ∈ ls, l.length = 2 ∧ ∀ n ∈ l, n.natAbs ≤ 100) ∧ Q (tI (allM ls))
def sd__law_by_x : Sp1 := fun ds Q => ∃ es, ds = [tI es] ∧ es ≠ [] ∧ es.length ≤ 1000 ∧ Q (tI (dX es))
def sd__law_by_y : Sp1 := fun ds Q => ∃ es, ds = [tI es] ∧ es ≠ [] ∧ es.length ≤ 1000 ∧ Q (tI (dY es))
def dXY (es : List Int) (i : Nat) : List Int := if i = 2 then dX (dX es) else if i = 1 then dY (dX es) else dY (dY es)
def sd__law_derived : Sp1 := fun ds Q => ∃ es, ∃ i j : Nat, ds = [tI es, .int i, .int j] ∧ i + j = 2 ∧ 3 ≤ es.length ∧ es.length ≤ 1000 ∧ Q (tI (dXY es i))
def pl2 (a b : Int) : List Int := if gcdI a b = 0 then [a, b] else if 0 < fstN [a, b] then [a.fdiv (gcdI a b), b.fdiv (gcdI a b)] else [a.fdiv (0 - gcdI a b), b.fdiv (0 - gcdI a b)]
def sd__law_plain : Sp1 := fun ds Q => ∃ a b : Int, ds = [tI [a, b]] ∧ a.natAbs < 2 ^ 2000 ∧ b.natAbs < 2 ^ 2000 ∧ Q (tI (pl2 a b))
def sd__law_point : Sp2 := fun ds B Q => ∃ m : Int, ds = [.int m] ∧ 1 ≤ m ∧ m ≤ 50 ∧ Dice B ∧ ∀ a b : Int, ∀ B', a.natAbs ≤ 100 → b.natAbs ≤ 100 → Dice B' → Q (tI [a, b]) B'
def sd__law_small_form : Sp2 := fun ds B Q => ∃ n : Nat, ∃ m : Int, ds = [.int n, .int m] ∧ n ≤ 100 ∧ 0 ≤ m ∧ m < 2 ^ 100 ∧ Dice B ∧ ∀ es B', es.length = n + 1 → (∀ e ∈ es, -m ≤ e ∧ e ≤ m) → Dice B' → Q (tI es) B'
def sd__law_form : Sp2 := fun ds B Q => ∃ n : Nat, ds = [.int n] ∧ n ≤ 8 ∧ Dice B ∧ ∀ es B', Good es → Dice B' → Q (tI es) B'
def ptL (a b : Int) : Bool := decide (gcdI a b = 1) && decide (pl2 a b = [a, b])
def pointL : D → Bool
  | .tup [.int a, .int b] => ptL a b
  | _ => false
def sd__law_is_point : Sp1 := fun ds Q => ∃ v, ds = [v] ∧ Val v ∧ Q (.bl (pointL v))
def powB (es : List Int) : D → D → Bool
  | .int k, .tup [.int a, .int b] => ptL a b && powJ es k a b
  | _, _ => false
def entB (es : List Int) : D → D → Bool
  | .int i, .int e => decide (3 ≤ es.length) && ((decide (0 ≤ i) && decide (i < ((hess es).length : Int))) && (decide (co (hess es) i.toNat = e) && decide (e ≠ 0)))
  | _, _ => false
def judgeB (es : List Int) : D → Bool
  | .tup [.str z, x, y] => if z = "power" then powB es x y else if z = "entry" then entB es x y else false
  | _ => false
def sd__law_is_right : Sp1 := fun ds Q => ∃ es v, ds = [tI es, v] ∧ Good es ∧ Jv v ∧ Q (.bl (judgeB es v))
/-- a paper -/
inductive Pap : D → Prop where
  | pow {k a b : Int} : k.natAbs < 2 ^ 900 → a.natAbs < 2 ^ 900 → b.natAbs < 2 ^ 900 → Pap (.tup [.str "power", .int k, .tup [.int a, .int b]])
  | ent {i e : Int} : i.natAbs < 2 ^ 900 → e.natAbs < 2 ^ 900 → Pap (.tup [.str "entry", .int i, .int e])
def sd__law_near_values : Sp2 := fun ds B Q => ∃ v, ds = [v] ∧ Pap v ∧ Dice B ∧ ∀ ys B', (∀ y ∈ ys, Jv y) → ys.length ≤ 100 → Dice B' → Q (.lst ys) B'
def sd__law_right : Sp2 := fun ds B Q => ∃ es, ds = [tI es] ∧ Good es ∧ Dice B ∧ ∀ B', Dice B' → Q (.bl true) B'
def sd__law_power_form : Sp2 := fun ds B Q => ds = [] ∧ Dice B ∧ ∀ es B', Good es → Dice B' → Q (tI es) B'
def sd_law : Sp1 := fun ds Q => ∃ ns, ds = [.scr ns] ∧ Q (.bl true)
end KD
set_option Elab.async false
set_option linter.all false
set_option maxRecDepth 100000
set_option maxHeartbeats 4000000
/-! The readings of the defs over data (printed by gen.py). -/
namespace KD
open PySem PySem.Spec PyProof.Rows L2 GxR
def eProp (sd : Sp1) (ra : DE) : DE := fun ρ B Q => ra ρ B fun d B1 => (∃ es, d = .frm es) ∧ sd [d] fun v => Q v B1
def r_is_whole : DS := dSeq (dRet (eAndV (eIsi isInt (eVar 0)) (eNotV (eIsi isBool (eVar 0))))) (dNext)
def r_is_short : DS := dSeq (dRet (eAndV (eCall sd_is_whole (aCons (eVar 0) (aNil))) (eChain (oI0 fun i j => .bl (decide (i < j))) (oI0 fun i j => .bl (decide (i < j))) (eUn (oU fun i => .int (-i)) (eC (.int (10 ^ 60)))) (eVar 0) (eC (.int (10 ^ 60)))))) (dNext)
def r_is_from : DS := dSeq (dRet (eAndV (eCall sd_is_whole (aCons (eVar 0) (aNil))) (eChain (oI0 fun i j => .bl (decide (i ≤ j))) (oI0 fun i j => .bl (decide (i ≤ j))) (eVar 1) (eVar 0) (eVar 2)))) (dNext)
def r_are_wholes : DS := dSeq (dRet (eAndV (eIsi isTup (eVar 0)) (eUn oAll (eOfL (lLc (iTupD (eVar 0)) [1] ([(("entry" : Str), 1)].map (·.2)) (tstYes) (eCall sd_is_whole (aCons (eVar 1) (aNil)))))))) (dNext)
def r_are_short : DS := dSeq (dRet (eAndV (eIsi isTup (eVar 0)) (eUn oAll (eOfL (lLc (iTupD (eVar 0)) [1] ([(("entry" : Str), 1)].map (·.2)) (tstYes) (eCall sd_is_short (aCons (eVar 1) (aNil)))))))) (dNext)
def r_shared_of : DS := dSeq (dAsg 1 (eC (.int 0))) (dSeq (dFor [2] (iTupD (eVar 0)) (dSeq (dAsg 1 (eOp (oI0 fun i j => .int ((Nat.gcd i.natAbs j.natAbs : Nat) : Int)) (eVar 1) (eVar 2))) (dNext))) (dSeq (dRet (eVar 1)) (dNext)))
def r_first_of : DS := dSeq (dRet (eNext fstN (eVar 0))) (dNext)
def r_lots_of : DS := dSeq (dAsg 2 (eC (.int 1))) (dSeq (dFor [3] (iRngD (eVar 1)) (dSeq (dAsg 2 (eOp (oI CDivZ fun i j => .int (i.fdiv j)) (eOp (oI CMulA fun i j => .int (i * j)) (eVar 2) (eOp (oI0 fun i j => .int (i - j)) (eVar 0) (eVar 3))) (eOp (oI0 fun i j => .int (i + j)) (eVar 3) (eC (.int 1))))) (dNext))) (dSeq (dRet (eVar 2)) (dNext)))
def r_is_point_any : DS := dSeq (dIf (tstOr (tstNot (tstE (eCall sd_are_wholes (aCons (eVar 0) (aNil))))) (tstOr (tstE (eOp oNeI (eUn oLen (eVar 0)) (eC (.int 2)))) (tstE (eOp oEqD (eVar 0) (eTup (aCons (eC (.int 0)) (aCons (eC (.int 0)) (aNil)))))))) (dSeq (dRet (eC (.bl false))) (dNext)) (dNext)) (dSeq (dRet (eAndV (eOp oEqI (eOp (oI0 fun i j => .int ((Nat.gcd i.natAbs j.natAbs : Nat) : Int)) (eOp oIxT (eVar 0) (eC (.int 0))) (eOp oIxT (eVar 0) (eC (.int 1)))) (eC (.int 1))) (eOp (oI0 fun i j => .bl (decide (j < i))) (eCall sd_first_of (aCons (eVar 0) (aNil))) (eC (.int 0))))) (dNext))
def r_joined_entries : DS := dBox 2 (lLc (iRngD (eOp (oI0 fun i j => .int (i - j)) (eOp (oI0 fun i j => .int (i + j)) (eUn oLen (eVar 0)) (eUn oLen (eVar 1))) (eC (.int 1)))) [3] ([(("place" : Str), 3)].map (·.2)) (tstYes) (eC (.int 0))) (dSeq (dFor [4] (iRngD (eUn oLen (eVar 0))) (dSeq (dFor [3] (iRngD (eUn oLen (eVar 1))) (dSeq (dSetB (eOp (oI0 fun i j => .int (i + j)) (eVar 4) (eVar 3)) (eOp (oI0 fun i j => .int (i + j)) (eIxB (eOp (oI0 fun i j => .int (i + j)) (eVar 4) (eVar 3))) (eOp (oI CMulA fun i j => .int (i * j)) (eOp oIxT (eVar 0) (eVar 4)) (eOp oIxT (eVar 1) (eVar 3))))) (dNext))) (dNext))) (dSeq (dRet (eTupB)) (dNext)))
def r_product_in : DS := dSeq (dRet (eCall sd_joined_entries (aCons (eVar 0) (aCons (eVar 1) (aNil))))) (dNext)
def r_power_in : DS := dSeq (dAsg 2 (eTup (aCons (eC (.int 1)) (aNil)))) (dSeq (dFor [3] (iRngD (eVar 1)) (dSeq (dAsg 2 (eCall sd_product_in (aCons (eVar 2) (aCons (eVar 0) (aNil))))) (dNext))) (dSeq (dRet (eVar 2)) (dNext)))
def r_line_in : DS := dSeq (dRet (eTup (aCons (eOp oIxT (eVar 0) (eC (.int 1))) (aCons (eUn (oU fun i => .int (-i)) (eOp oIxT (eVar 0) (eC (.int 0)))) (aNil))))) (dNext)
def r_is_zero_in : DS := dSeq (dRet (eNotV (eUn oAnyI (eVar 0)))) (dNext)
def r_first_index : DS := dSeq (dRet (eNext (fun ns => (fstI ns : Nat)) (eVar 0))) (dNext)
def r_are_entries : DS := dSeq (dRet (eAndV (eCall sd_are_short (aCons (eVar 0) (aNil))) (eChain (oI0 fun i j => .bl (decide (i ≤ j))) (oI0 fun i j => .bl (decide (i ≤ j))) (eC (.int 1)) (eUn oLen (eVar 0)) (eOp (oI0 fun i j => .int (i + j)) (eC (.int (40))) (eC (.int 1)))))) (dNext)
def r_require_form : DS := dSeq (dIf (tstNot (tstE (eIsF (eVar 0)))) (dSeq (dNever) (dNext)) (dNext)) (dNext)
def r_laying_slope : DS := dSeq (dIf (tstE (eVar 1)) (dSeq (dRet (eOfL (lLc (iEnmL (eOfL (lSl (eVar 0) (pSome (eC (.int 1))) (pNone)))) [2, 3] ([(("at" : Str), 2), (("entry" : Str), 3)].map (·.2)) (tstYes) (eOp (oI CMulA fun i j => .int (i * j)) (eVar 3) (eOp (oI0 fun i j => .int (i + j)) (eVar 2) (eC (.int 1))))))) (dNext)) (dNext)) (dSeq (dRet (eOfL (lLc (iEnmL (eOfL (lSl (eVar 0) (pNone) (pSome (eUn (oU fun i => .int (-i)) (eC (.int 1))))))) [2, 3] ([(("at" : Str), 2), (("entry" : Str), 3)].map (·.2)) (tstYes) (eOp (oI CMulA fun i j => .int (i * j)) (eVar 3) (eOp (oI0 fun i j => .int (i - j)) (eOp (oI0 fun i j => .int (i - j)) (eUn oLen (eVar 0)) (eC (.int 1))) (eVar 2)))))) (dNext))
def r_laying_slopes : DS := dSeq (dAsg 2 (eOfL (lDisp (aCons (eOfL (lList (eVar 0))) (aNil))))) (dSeq (dFor [3] (iRngD (eVar 1)) (dSeq (dAsg 2 (eOfL (lDisp (aStar (eOfL (lLc (iLstD (eVar 2)) [4] ([(("one" : Str), 4)].map (·.2)) (tstYes) (eCall sd_laying_slope (aCons (eVar 4) (aCons (eC (.bl false)) (aNil)))))) (aCons (eCall sd_laying_slope (aCons (eOp oIxL (eVar 2) (eUn (oU fun i => .int (-i)) (eC (.int 1)))) (aCons (eC (.bl true)) (aNil)))) (aNil)))))) (dNext))) (dSeq (dRet (eVar 2)) (dNext)))
def r_add_product : DS := dSeq (dFor [4, 5] (iEnmL (eVar 1)) (dSeq (dFor [6, 7] (iEnmL (eVar 2)) (dSeq (dAugB (eOp (oI0 fun i j => .int (i + j)) (eVar 4) (eVar 6)) (eOp (oI CMulA fun i j => .int (i * j)) (eOp (oI CMulA fun i j => .int (i * j)) (eVar 3) (eVar 5)) (eVar 7))) (dNext))) (dNext))) (dNext)
def r_laid_in : DS := dBox 3 (lRep (eOfL (lDisp (aCons (eC (.int 0)) (aNil)))) (eOp (oI0 fun i j => .int (i - j)) (eOp (oI0 fun i j => .int (i - j)) (eOp (oI0 fun i j => .int (i + j)) (eUn oLen (eVar 0)) (eUn oLen (eVar 1))) (eC (.int 1))) (eOp (oI CMulA fun i j => .int (i * j)) (eC (.int 2)) (eVar 2)))) (dSeq (dPar 4 5 (aCons (eCall sd_laying_slopes (aCons (eVar 0) (aCons (eVar 2) (aNil)))) (aCons (eCall sd_laying_slopes (aCons (eVar 1) (aCons (eVar 2) (aNil)))) (aNil)))) (dSeq (dFor [6] (iRngD (eOp (oI0 fun i j => .int (i + j)) (eVar 2) (eC (.int 1)))) (dSeq (dDrop (eCallB sd_add_product (aCons (eOp oIxL (eVar 4) (eVar 6)) (aCons (eOp oIxL (eVar 5) (eOp (oI0 fun i j => .int (i - j)) (eVar 2) (eVar 6))) (aCons (eOp (oI CMulA fun i j => .int (i * j)) (eCall sd_lots_of (aCons (eVar 2) (aCons (eVar 6) (aNil)))) (eIf (tstE (eOp oEqI (eOp (oI (fun _ j => 0 < j) fun i j => .int (i % j)) (eVar 6) (eC (.int 2))) (eC (.int 0)))) (eC (.int 1)) (eUn (oU fun i => .int (-i)) (eC (.int 1))))) (aNil)))))) (dNext))) (dSeq (dRet (eTupB)) (dNext))))
def r_point_of_line : DS := dSeq (dAsg 2 (eCall sd_shared_of (aCons (eTup (aCons (eVar 0) (aCons (eVar 1) (aNil)))) (aNil)))) (dSeq (dPar 3 4 (aCons (eOp (oI CDivZ fun i j => .int (i.fdiv j)) (eUn (oU fun i => .int (-i)) (eVar 1)) (eVar 2)) (aCons (eOp (oI CDivZ fun i j => .int (i.fdiv j)) (eVar 0) (eVar 2)) (aNil)))) (dSeq (dRet (eIf (tstOr (tstE (eOp (oI0 fun i j => .bl (decide (j < i))) (eVar 3) (eC (.int 0)))) (tstAnd (tstE (eOp oEqI (eVar 3) (eC (.int 0)))) (tstE (eOp (oI0 fun i j => .bl (decide (j < i))) (eVar 4) (eC (.int 0)))))) (eTup (aCons (eVar 3) (aCons (eVar 4) (aNil)))) (eTup (aCons (eUn (oU fun i => .int (-i)) (eVar 3)) (aCons (eUn (oU fun i => .int (-i)) (eVar 4)) (aNil)))))) (dNext)))
def r_power_told : DS := dSeq (dPar 1 2 (aCons (eOp (oI0 fun i j => .int (i - j)) (eUn oLen (eVar 0)) (eC (.int 1))) (aCons (eOp oIxT (eVar 0) (eC (.int 0))) (aNil)))) (dSeq (dAsg 3 (eIf (tstE (eOp oEqI (eVar 2) (eC (.int 0)))) (eTup (aCons (eC (.int 1)) (aCons (eC (.int 0)) (aNil)))) (eCall sd_point_of_line (aCons (eOp (oI CMulA fun i j => .int (i * j)) (eVar 1) (eVar 2)) (aCons (eOp oIxT (eVar 0) (eC (.int 1))) (aNil)))))) (dSeq (dAsg 4 (eCall sd_power_in (aCons (eCall sd_line_in (aCons (eVar 3) (aNil))) (aCons (eVar 1) (aNil))))) (dSeq (dAsg 5 (eCall sd_first_index (aCons (eVar 4) (aNil)))) (dSeq (dRet (eTup (aCons (eOp (oI CDivZ fun i j => .int (i.fdiv j)) (eOp oIxT (eVar 0) (eVar 5)) (eOp oIxT (eVar 4) (eVar 5))) (aCons (eVar 3) (aNil))))) (dNext)))))
def r_is_power_in : DS := dSeq (dRet (eOrV (eOp (oI0 fun i j => .bl (decide (i < j))) (eUn oLen (eVar 0)) (eC (.int 3))) (eCall sd_is_zero_in (aCons (eCall sd_laid_in (aCons (eVar 0) (aCons (eVar 0) (aCons (eC (.int 2)) (aNil))))) (aNil))))) (dNext)
def r_entry_paper : DS := dSeq (dAsg 2 (eCall sd_laid_in (aCons (eVar 0) (aCons (eVar 0) (aCons (eVar 1) (aNil)))))) (dSeq (dAsg 3 (eCall sd_first_index (aCons (eVar 2) (aNil)))) (dSeq (dRet (eTup (aCons (eC (.str "entry")) (aCons (eVar 3) (aCons (eOp oIxT (eVar 2) (eVar 3)) (aNil)))))) (dNext)))
def r_times_power : DS := dSeq (dRet (eUn oTuple (eOfL (lLc (iTupD (eCall sd_power_in (aCons (eCall sd_line_in (aCons (eVar 1) (aNil))) (aCons (eVar 2) (aNil))))) [3] ([(("entry" : Str), 3)].map (·.2)) (tstYes) (eOp (oI CMulA fun i j => .int (i * j)) (eVar 0) (eVar 3)))))) (dNext)
def r_is_entry_of : DS := dSeq (dAsg2 3 4 (eVar 2)) (dSeq (dAsg 5 (eCall sd_laid_in (aCons (eVar 0) (aCons (eVar 0) (aCons (eVar 1) (aNil)))))) (dSeq (dRet (eAndV (eCall sd_is_from (aCons (eVar 3) (aCons (eC (.int 0)) (aCons (eOp (oI0 fun i j => .int (i - j)) (eUn oLen (eVar 5)) (eC (.int 1))) (aNil))))) (eAndV (eCall sd_is_whole (aCons (eVar 4) (aNil))) (eAndV (eOp oNeI (eVar 4) (eC (.int 0))) (eOp oEqI (eOp oIxT (eVar 5) (eVar 3)) (eVar 4)))))) (dNext)))
def r_paper_word : DS := dSeq (dRet (eIf (tstAnd (tstE (eIsi isTup (eVar 0))) (tstAnd (tstE (eOp oNeD (eVar 0) (eTup (aNil)))) (tstE (eIsi isStr (eOp oIxT (eVar 0) (eC (.int 0))))))) (eOp oIxT (eVar 0) (eC (.int 0))) (eC (.str "")))) (dNext)
def r_power_paper : DS := dSeq (dDrop (eCall sd_require_form (aCons (eVar 0) (aNil)))) (dSeq (dAsg 1 (eProp sd_entries (eVar 0))) (dSeq (dIf (tstNot (tstE (eCall sd_is_power_in (aCons (eVar 1) (aNil))))) (dSeq (dRet (eCall sd_entry_paper (aCons (eVar 1) (aCons (eC (.int 2)) (aNil))))) (dNext)) (dNext)) (dSeq (dIf (tstOr (tstE (eOp oEqI (eProp sd_degree (eVar 0)) (eC (.int 0)))) (tstE (eProp sd_is_zero (eVar 0)))) (dSeq (dRet (eTup (aCons (eC (.str "power")) (aCons (eOp oIxT (eVar 1) (eC (.int 0))) (aCons (eTup (aCons (eC (.int 1)) (aCons (eC (.int 0)) (aNil)))) (aNil)))))) (dNext)) (dNext)) (dSeq (dRet (eTup (aCons (eC (.str "power")) (aStar (eCall sd_power_told (aCons (eVar 1) (aNil))) (aNil))))) (dNext)))))
def r_is_told_power : DS := dSeq (dIf (tstOr (tstE (eOp oNeI (eUn oLen (eVar 1)) (eC (.int (3))))) (tstOr (tstNot (tstE (eCall sd_is_whole (aCons (eOp oIxT (eVar 1) (eC (.int 1))) (aNil))))) (tstNot (tstE (eCall sd_is_point_any (aCons (eOp oIxT (eVar 1) (eC (.int 2))) (aNil))))))) (dSeq (dRet (eC (.bl false))) (dNext)) (dNext)) (dSeq (dRet (eOp oEqD (eCall sd_times_power (aCons (eOp oIxT (eVar 1) (eC (.int 1))) (aCons (eOp oIxT (eVar 1) (eC (.int 2))) (aCons (eOp (oI0 fun i j => .int (i - j)) (eUn oLen (eVar 0)) (eC (.int 1))) (aNil))))) (eVar 0))) (dNext))
def r_is_power_paper : DS := dSeq (dDrop (eCall sd_require_form (aCons (eVar 0) (aNil)))) (dSeq (dAsg 2 (eCall sd_paper_word (aCons (eVar 1) (aNil)))) (dSeq (dIf (tstE (eOp oEqS (eVar 2) (eC (.str "power")))) (dSeq (dRet (eCall sd_is_told_power (aCons (eProp sd_entries (eVar 0)) (aCons (eVar 1) (aNil))))) (dNext)) (dNext)) (dSeq (dIf (tstOr (tstE (eOp oNeS (eVar 2) (eC (.str "entry")))) (tstOr (tstE (eOp oNeI (eUn oLen (eVar 1)) (eC (.int (3))))) (tstE (eOp (oI0 fun i j => .bl (decide (i < j))) (eProp sd_degree (eVar 0)) (eC (.int 2)))))) (dSeq (dRet (eC (.bl false))) (dNext)) (dNext)) (dSeq (dRet (eCall sd_is_entry_of (aCons (eProp sd_entries (eVar 0)) (aCons (eC (.int 2)) (aCons (eSlT (eVar 1) (pSome (eC (.int 1))) (pNone)) (aNil)))))) (dNext)))))
def r__law_dice : DA := nSeq (dAsg 2 (eIf (tstE (eOp (oI0 fun i j => .bl (decide (i < j))) (eVar 1) (eUn oLen (eVar 0)))) (eUn oInt (eOp oIxC (eVar 0) (eVar 1))) (eOp (oI0 fun i j => .int (i + j)) (eOp (oI CMulA fun i j => .int (i * j)) (eC (.int 89)) (eVar 1)) (eC (.int 37))))) (nSeq (dAsg 3 (eOp (oI (fun _ j => 0 < j) fun i j => .int (i % j)) (eOp (oI0 fun i j => .int (if j > i then j else i)) (eC (.int 0)) (eOp (oI0 fun i j => .int (i - j)) (eUn oAbs (eVar 2)) (eOp (oI CPow fun i j => .int (i ^ j.toNat)) (eC (.int 10)) (eC (.int 16))))) (eOp (oI CMulA fun i j => .int (i * j)) (eOp (oI CPow fun i j => .int (i ^ j.toNat)) (eC (.int 10)) (eC (.int 60))) (eOp (oI CPow fun i j => .int (i ^ j.toNat)) (eC (.int 10)) (eC (.int 60)))))) (lDisp (aCons (eVar 3) (aCons (eOp (oI0 fun i j => .int (i + j)) (eOp (oI0 fun i j => .int (i + j)) (eOp (oI0 fun i j => .int (i + j)) (eOp (oI CMulA fun i j => .int (i * j)) (eOp (oI (fun _ j => 0 < j) fun i j => .int (i % j)) (eUn oAbs (eVar 2)) (eC (.int 1152921504606846697))) (eC (.int 83))) (eOp (oI CMulA fun i j => .int (i * j)) (eC (.int 883)) (eVar 1))) (eOp (oI CMulA fun i j => .int (i * j)) (eC (.int 43)) (eUn oInt (eOp (oI0 fun i j => .bl (decide (i < j))) (eVar 2) (eC (.int 0)))))) (eC (.int 19))) (aCons (eC (.int 0)) (aNil))))))
def r__law_roll : DS := dSeq (dIf (tstE (eOp (oI0 fun i j => .bl (decide (j < i))) (eIxB (eC (.int 0))) (eC (.int 0)))) (dSeq (dAsg 2 (eOp (oI (fun _ j => 0 < j) fun i j => .int (i % j)) (eUn oInt (eIxB (eC (.int 0)))) (eVar 1))) (dSeq (dSetB (eC (.int 0)) (eOp (oI CDivZ fun i j => .int (i.fdiv j)) (eIxB (eC (.int 0))) (eVar 1))) (dSeq (dRet (eVar 2)) (dNext)))) (dNext)) (dSeq (dSetB (eC (.int 2)) (eOp (oI0 fun i j => .int (i + j)) (eIxB (eC (.int 2))) (eC (.int 1)))) (dSeq (dAsg 3 (eOp (oI (fun _ j => 0 < j) fun i j => .int (i % j)) (eUn oInt (eOp (oI0 fun i j => .int (i + j)) (eIxB (eC (.int 1))) (eOp (oI CMulA fun i j => .int (i * j)) (eC (.int 92821991)) (eIxB (eC (.int 2)))))) (eC (.int 2305843009213691579)))) (dSeq (dAsg 4 (eOp (oI0 fun i j => .int (i + j)) (eOp (oI CMulA fun i j => .int (i * j)) (eOp (oI (fun _ j => 0 < j) fun i j => .int (i % j)) (eUn oInt (eOp (oI0 fun i j => .int (i + j)) (eOp (oI CMulA fun i j => .int (i * j)) (eVar 3) (eVar 3)) (eOp (oI CMulA fun i j => .int (i * j)) (eC (.int 101)) (eIxB (eC (.int 2)))))) (eC (.int 2305843009213692227))) (eC (.int 5915587))) (eVar 3))) (dSeq (dRet (eOp (oI (fun _ j => 0 < j) fun i j => .int (i % j)) (eUn oInt (eOp (oI CDivZ fun i j => .int (i.fdiv j)) (eVar 4) (eC (.int 65536)))) (eVar 1))) (dNext)))))
def r__law_pick : DS := dSeq (dRet (eOp oIxL (eVar 1) (eCallB sd__law_roll (aCons (eUn oLen (eVar 1)) (aNil))))) (dNext)
def r__law_near : DS := dSeq (dRet (eOp (oI0 fun i j => .int (i - j)) (eCallB sd__law_roll (aCons (eOp (oI0 fun i j => .int (i + j)) (eOp (oI CMulA fun i j => .int (i * j)) (eC (.int 2)) (eVar 1)) (eC (.int 1))) (aNil))) (eVar 1))) (dNext)
def r__law_gcd : DS := dSeq (dPar 0 1 (aCons (eUn oAbs (eVar 0)) (aCons (eUn oAbs (eVar 1)) (aNil)))) (dSeq (dWhile (tstE (eOp (oI0 fun i j => .bl (decide (j < i))) (eVar 1) (eC (.int 0)))) (dSeq (dPar 0 1 (aCons (eVar 1) (aCons (eOp (oI (fun _ j => 0 < j) fun i j => .int (i % j)) (eUn oInt (eVar 0)) (eVar 1)) (aNil)))) (dNext))) (dSeq (dRet (eVar 0)) (dNext)))
def r__law_shared : DS := dSeq (dAsg 1 (eC (.int 0))) (dSeq (dFor [2] (iTupD (eVar 0)) (dSeq (dAsg 1 (eCall sd__law_gcd (aCons (eVar 1) (aCons (eVar 2) (aNil))))) (dNext))) (dSeq (dRet (eVar 1)) (dNext)))
def r__law_choose : DS := dSeq (dAsg 2 (eC (.int 1))) (dSeq (dFor [3] (iRngD (eVar 1)) (dSeq (dAsg 2 (eOp (oI CDivZ fun i j => .int (i.fdiv j)) (eOp (oI CMulA fun i j => .int (i * j)) (eVar 2) (eOp (oI0 fun i j => .int (i - j)) (eVar 0) (eVar 3))) (eOp (oI0 fun i j => .int (i + j)) (eVar 3) (eC (.int 1))))) (dNext))) (dSeq (dRet (eVar 2)) (dNext)))
def r__law_plus : DS := dSeq (dRet (eUn oTuple (eOfL (lLc (iZipD (eVar 0) (eVar 1)) [2, 3] ([(("_law_first" : Str), 2), (("_law_second" : Str), 3)].map (·.2)) (tstYes) (eOp (oI0 fun i j => .int (i + j)) (eVar 2) (eVar 3)))))) (dNext)
def r__law_scaled : DS := dSeq (dRet (eUn oTuple (eOfL (lLc (iTupD (eVar 0)) [2] ([(("_law_entry" : Str), 2)].map (·.2)) (tstYes) (eOp (oI CMulA fun i j => .int (i * j)) (eVar 1) (eVar 2)))))) (dNext)
def r__law_product : DS := dBox 2 (lLc (iRngD (eOp (oI0 fun i j => .int (i - j)) (eOp (oI0 fun i j => .int (i + j)) (eUn oLen (eVar 0)) (eUn oLen (eVar 1))) (eC (.int 1)))) [3] ([(("_law_place" : Str), 3)].map (·.2)) (tstYes) (eC (.int 0))) (dSeq (dFor [4, 5] (iEnmT (eVar 0)) (dSeq (dFor [3, 6] (iEnmT (eVar 1)) (dSeq (dSetB (eOp (oI0 fun i j => .int (i + j)) (eVar 4) (eVar 3)) (eOp (oI0 fun i j => .int (i + j)) (eIxB (eOp (oI0 fun i j => .int (i + j)) (eVar 4) (eVar 3))) (eOp (oI CMulA fun i j => .int (i * j)) (eVar 5) (eVar 6)))) (dNext))) (dNext))) (dSeq (dRet (eTupB)) (dNext)))
def r__law_all_product : DS := dSeq (dAsg 1 (eTup (aCons (eC (.int 1)) (aNil)))) (dSeq (dFor [2] (iLstD (eVar 0)) (dSeq (dAsg 1 (eCall sd__law_product (aCons (eVar 1) (aCons (eVar 2) (aNil))))) (dNext))) (dSeq (dRet (eVar 1)) (dNext)))
def r__law_power : DS := dSeq (dAsg 2 (eTup (aCons (eC (.int 1)) (aNil)))) (dSeq (dFor [3] (iRngD (eVar 1)) (dSeq (dAsg 2 (eCall sd__law_product (aCons (eVar 2) (aCons (eVar 0) (aNil))))) (dNext))) (dSeq (dRet (eVar 2)) (dNext)))
def r__law_by_x : DS := dSeq (dRet (eUn oTuple (eOfL (lLc (iEnmT (eSlT (eVar 0) (pNone) (pSome (eUn (oU fun i => .int (-i)) (eC (.int 1)))))) [1, 2] ([(("_law_at" : Str), 1), (("_law_entry" : Str), 2)].map (·.2)) (tstYes) (eOp (oI CMulA fun i j => .int (i * j)) (eVar 2) (eOp (oI0 fun i j => .int (i - j)) (eOp (oI0 fun i j => .int (i - j)) (eUn oLen (eVar 0)) (eC (.int 1))) (eVar 1))))))) (dNext)
def r__law_by_y : DS := dSeq (dRet (eUn oTuple (eOfL (lLc (iEnmT (eSlT (eVar 0) (pSome (eC (.int 1))) (pNone))) [1, 2] ([(("_law_at" : Str), 1), (("_law_entry" : Str), 2)].map (·.2)) (tstYes) (eOp (oI CMulA fun i j => .int (i * j)) (eVar 2) (eOp (oI0 fun i j => .int (i + j)) (eVar 1) (eC (.int 1)))))))) (dNext)
def r__law_derived : DS := dSeq (dFor [3] (iRngD (eVar 1)) (dSeq (dAsg 0 (eCall sd__law_by_x (aCons (eVar 0) (aNil)))) (dNext))) (dSeq (dFor [3] (iRngD (eVar 2)) (dSeq (dAsg 0 (eCall sd__law_by_y (aCons (eVar 0) (aNil)))) (dNext))) (dSeq (dRet (eVar 0)) (dNext)))
def r__law_laid : DS := dSeq (dAsg 3 (eUn oTuple (eOfL (lLc (iRngD (eOp (oI0 fun i j => .int (i - j)) (eOp (oI0 fun i j => .int (i - j)) (eOp (oI0 fun i j => .int (i + j)) (eUn oLen (eVar 0)) (eUn oLen (eVar 1))) (eC (.int 1))) (eOp (oI CMulA fun i j => .int (i * j)) (eC (.int 2)) (eVar 2)))) [4] ([(("_law_place" : Str), 4)].map (·.2)) (tstYes) (eC (.int 0)))))) (dSeq (dFor [5] (iRngD (eOp (oI0 fun i j => .int (i + j)) (eVar 2) (eC (.int 1)))) (dSeq (dAsg 6 (eCall sd__law_product (aCons (eCall sd__law_derived (aCons (eVar 0) (aCons (eOp (oI0 fun i j => .int (i - j)) (eVar 2) (eVar 5)) (aCons (eVar 5) (aNil))))) (aCons (eCall sd__law_derived (aCons (eVar 1) (aCons (eVar 5) (aCons (eOp (oI0 fun i j => .int (i - j)) (eVar 2) (eVar 5)) (aNil))))) (aNil))))) (dSeq (dAsg 7 (eCall sd__law_choose (aCons (eVar 2) (aCons (eVar 5) (aNil))))) (dSeq (dAsg 3 (eCall sd__law_plus (aCons (eVar 3) (aCons (eCall sd__law_scaled (aCons (eVar 6) (aCons (eIf (tstE (eOp oEqI (eOp (oI (fun _ j => 0 < j) fun i j => .int (i % j)) (eVar 5) (eC (.int 2))) (eC (.int 0)))) (eVar 7) (eOp (oI0 fun i j => .int (i - j)) (eC (.int 0)) (eVar 7))) (aNil)))) (aNil))))) (dNext))))) (dSeq (dRet (eVar 3)) (dNext)))
def r__law_plain : DS := dSeq (dAsg 1 (eCall sd__law_shared (aCons (eVar 0) (aNil)))) (dSeq (dIf (tstE (eOp oEqI (eVar 1) (eC (.int 0)))) (dSeq (dRet (eVar 0)) (dNext)) (dNext)) (dSeq (dAsg 2 (eOp oIxL (eOfL (lLc (iTupD (eVar 0)) [3] ([(("_law_entry" : Str), 3)].map (·.2)) (tstE (eOp oNeI (eVar 3) (eC (.int 0)))) (eVar 3))) (eC (.int 0)))) (dSeq (dRet (eUn oTuple (eOfL (lLc (iTupD (eVar 0)) [3] ([(("_law_entry" : Str), 3)].map (·.2)) (tstYes) (eOp (oI CDivZ fun i j => .int (i.fdiv j)) (eVar 3) (eIf (tstE (eOp (oI0 fun i j => .bl (decide (j < i))) (eVar 2) (eC (.int 0)))) (eVar 1) (eOp (oI0 fun i j => .int (i - j)) (eC (.int 0)) (eVar 1)))))))) (dNext))))
def r__law_line : DS := dSeq (dRet (eTup (aCons (eOp oIxT (eVar 0) (eC (.int 1))) (aCons (eOp (oI0 fun i j => .int (i - j)) (eC (.int 0)) (eOp oIxT (eVar 0) (eC (.int 0)))) (aNil))))) (dNext)
def r__law_point : DS := dSeq (dPar 2 3 (aCons (eCallB sd__law_near (aCons (eVar 1) (aNil))) (aCons (eCallB sd__law_near (aCons (eVar 1) (aNil))) (aNil)))) (dSeq (dRet (eIf (tstE (eOp oNeD (eTup (aCons (eVar 2) (aCons (eVar 3) (aNil)))) (eTup (aCons (eC (.int 0)) (aCons (eC (.int 0)) (aNil)))))) (eCall sd__law_plain (aCons (eTup (aCons (eVar 2) (aCons (eVar 3) (aNil)))) (aNil))) (eTup (aCons (eC (.int 1)) (aCons (eC (.int 0)) (aNil)))))) (dNext))
def r__law_small_form : DS := dSeq (dRet (eUn oTuple (eOfL (lLc (iRngD (eOp (oI0 fun i j => .int (i + j)) (eVar 1) (eC (.int 1)))) [3] ([(("_law_place" : Str), 3)].map (·.2)) (tstYes) (eCallB sd__law_near (aCons (eVar 2) (aNil))))))) (dNext)
def r__law_form : DS := dSeq (dAsg 2 (eCallB sd__law_roll (aCons (eC (.int 6)) (aNil)))) (dSeq (dIf (tstE (eOp oEqI (eVar 2) (eC (.int 0)))) (dSeq (dRet (eCall sd__law_all_product (aCons (eOfL (lLc (iRngD (eVar 1)) [3] ([(("_law_turn" : Str), 3)].map (·.2)) (tstYes) (eCall sd__law_line (aCons (eCallB sd__law_point (aCons (eC (.int 3)) (aNil))) (aNil))))) (aNil)))) (dNext)) (dNext)) (dSeq (dIf (tstE (eOp oEqI (eVar 2) (eC (.int 1)))) (dSeq (dPar 4 5 (aCons (eCall sd__law_line (aCons (eCallB sd__law_point (aCons (eC (.int 3)) (aNil))) (aNil))) (aCons (eCallB sd__law_roll (aCons (eOp (oI0 fun i j => .int (i + j)) (eVar 1) (eC (.int 1))) (aNil))) (aNil)))) (dSeq (dRet (eCall sd__law_product (aCons (eCall sd__law_power (aCons (eVar 4) (aCons (eVar 5) (aNil)))) (aCons (eCallB sd__law_small_form (aCons (eOp (oI0 fun i j => .int (i - j)) (eVar 1) (eVar 5)) (aCons (eC (.int 4)) (aNil)))) (aNil))))) (dNext))) (dNext)) (dSeq (dIf (tstE (eOp oEqI (eVar 2) (eC (.int 2)))) (dSeq (dAsg 6 (eUn oTuple (eOfL (lLc (iRngD (eOp (oI0 fun i j => .int (i + j)) (eVar 1) (eC (.int 1)))) [7] ([(("_law_place" : Str), 7)].map (·.2)) (tstYes) (eC (.int 0)))))) (dSeq (dFor [3] (iRngD (eOp (oI0 fun i j => .int (i + j)) (eC (.int 1)) (eCallB sd__law_roll (aCons (eC (.int 3)) (aNil))))) (dSeq (dAsg 6 (eCall sd__law_plus (aCons (eVar 6) (aCons (eCall sd__law_scaled (aCons (eCall sd__law_power (aCons (eCallB sd__law_point (aCons (eC (.int 3)) (aNil))) (aCons (eVar 1) (aNil)))) (aCons (eCallB sd__law_near (aCons (eC (.int 4)) (aNil))) (aNil)))) (aNil))))) (dNext))) (dSeq (dRet (eVar 6)) (dNext)))) (dNext)) (dSeq (dIf (tstE (eOp oEqI (eVar 2) (eC (.int 3)))) (dSeq (dRet (eUn oTuple (eOfL (lLc (iRngD (eOp (oI0 fun i j => .int (i + j)) (eVar 1) (eC (.int 1)))) [7] ([(("_law_place" : Str), 7)].map (·.2)) (tstYes) (eOp (oI CMulA fun i j => .int (i * j)) (eCallB sd__law_near (aCons (eC (.int 3)) (aNil))) (eCallB sd__law_roll (aCons (eC (.int 2)) (aNil)))))))) (dNext)) (dNext)) (dSeq (dIf (tstAnd (tstE (eOp oEqI (eVar 2) (eC (.int 4)))) (tstE (eOp oEqI (eCallB sd__law_roll (aCons (eC (.int 4)) (aNil))) (eC (.int 0))))) (dSeq (dRet (eUn oTuple (eOfL (lLc (iRngD (eOp (oI0 fun i j => .int (i + j)) (eVar 1) (eC (.int 1)))) [7] ([(("_law_place" : Str), 7)].map (·.2)) (tstYes) (eCallB sd__law_near (aCons (eOp (oI CPow fun i j => .int (i ^ j.toNat)) (eC (.int 10)) (eC (.int 12))) (aNil))))))) (dNext)) (dNext)) (dSeq (dRet (eCallB sd__law_small_form (aCons (eVar 1) (aCons (eC (.int 6)) (aNil))))) (dNext)))))))
def r__law_is_whole : DS := dSeq (dRet (eAndV (eIsi isInt (eVar 0)) (eNotV (eIsi isBool (eVar 0))))) (dNext)
def r__law_is_point : DS := dSeq (dIf (tstOr (tstNot (tstE (eIsi isTup (eVar 0)))) (tstOr (tstE (eOp oNeI (eUn oLen (eVar 0)) (eC (.int 2)))) (tstOr (tstNot (tstE (eCall sd__law_is_whole (aCons (eOp oIxT (eVar 0) (eC (.int 0))) (aNil))))) (tstNot (tstE (eCall sd__law_is_whole (aCons (eOp oIxT (eVar 0) (eC (.int 1))) (aNil)))))))) (dSeq (dRet (eC (.bl false))) (dNext)) (dNext)) (dSeq (dRet (eAndV (eOp oEqI (eCall sd__law_gcd (aCons (eOp oIxT (eVar 0) (eC (.int 0))) (aCons (eOp oIxT (eVar 0) (eC (.int 1))) (aNil)))) (eC (.int 1))) (eOp oEqD (eCall sd__law_plain (aCons (eVar 0) (aNil))) (eVar 0)))) (dNext))
def r__law_is_right : DS := dSeq (dAsg 2 (eOp (oI0 fun i j => .int (i - j)) (eUn oLen (eVar 0)) (eC (.int 1)))) (dSeq (dIf (tstOr (tstNot (tstE (eIsi isTup (eVar 1)))) (tstOr (tstE (eOp oNeI (eUn oLen (eVar 1)) (eC (.int 3)))) (tstE (eOp oNotIn (eOp oIxT (eVar 1) (eC (.int 0))) (eTup (aCons (eC (.str "power")) (aCons (eC (.str "entry")) (aNil)))))))) (dSeq (dRet (eC (.bl false))) (dNext)) (dNext)) (dSeq (dIf (tstE (eOp oEqS (eOp oIxT (eVar 1) (eC (.int 0))) (eC (.str "power")))) (dSeq (dIf (tstOr (tstNot (tstE (eCall sd__law_is_whole (aCons (eOp oIxT (eVar 1) (eC (.int 1))) (aNil))))) (tstNot (tstE (eCall sd__law_is_point (aCons (eOp oIxT (eVar 1) (eC (.int 2))) (aNil)))))) (dSeq (dRet (eC (.bl false))) (dNext)) (dNext)) (dSeq (dRet (eOp oEqD (eCall sd__law_scaled (aCons (eCall sd__law_power (aCons (eCall sd__law_line (aCons (eOp oIxT (eVar 1) (eC (.int 2))) (aNil))) (aCons (eVar 2) (aNil)))) (aCons (eOp oIxT (eVar 1) (eC (.int 1))) (aNil)))) (eVar 0))) (dNext))) (dNext)) (dSeq (dIf (tstOr (tstE (eOp (oI0 fun i j => .bl (decide (i < j))) (eVar 2) (eC (.int 2)))) (tstOr (tstNot (tstE (eCall sd__law_is_whole (aCons (eOp oIxT (eVar 1) (eC (.int 1))) (aNil))))) (tstNot (tstE (eCall sd__law_is_whole (aCons (eOp oIxT (eVar 1) (eC (.int 2))) (aNil))))))) (dSeq (dRet (eC (.bl false))) (dNext)) (dNext)) (dSeq (dAsg 3 (eCall sd__law_laid (aCons (eVar 0) (aCons (eVar 0) (aCons (eC (.int 2)) (aNil)))))) (dSeq (dRet (eAndV (eChain (oI0 fun i j => .bl (decide (i ≤ j))) (oI0 fun i j => .bl (decide (i < j))) (eC (.int 0)) (eOp oIxT (eVar 1) (eC (.int 1))) (eUn oLen (eVar 3))) (eAndV (eOp oEqI (eOp oIxT (eVar 3) (eOp oIxT (eVar 1) (eC (.int 1)))) (eOp oIxT (eVar 1) (eC (.int 2)))) (eOp oNeI (eOp oIxT (eVar 1) (eC (.int 2))) (eC (.int 0)))))) (dNext))))))
def r__law_near_values : DS := dSeq (dAsg 2 (eCallB sd__law_point (aCons (eC (.int 4)) (aNil)))) (dSeq (dAsg 3 (eOfL (lDisp (aCons (eVar 1) (aCons (eOfL (lList (eVar 1))) (aCons (eOp oCatT (eVar 1) (eTup (aCons (eC (.int 0)) (aNil)))) (aCons (eSlT (eVar 1) (pNone) (pSome (eC (.int 2)))) (aCons (eC .non) (aCons (eC (.str "power")) (aCons (eTup (aNil)) (aCons (eC .dic) (aCons (eTup (aCons (eC (.str "power")) (aNil))) (aCons (eOp oCatT (eTup (aCons (eC (.str "line")) (aNil))) (eSlT (eVar 1) (pSome (eC (.int 1))) (pNone))) (aNil)))))))))))))) (dSeq (dAsg 3 (eOp oCatL (eVar 3) (eOfL (lDisp (aCons (eTup (aCons (eC (.str "power")) (aCons (eC (.int 1)) (aCons (eVar 2) (aNil))))) (aCons (eTup (aCons (eC (.str "power")) (aCons (eC (.int 0)) (aCons (eVar 2) (aNil))))) (aCons (eTup (aCons (eC (.str "power")) (aCons (eUn (oU fun i => .int (-i)) (eC (.int 1))) (aCons (eTup (aCons (eC (.int 1)) (aCons (eC (.int 0)) (aNil)))) (aNil))))) (aCons (eTup (aCons (eC (.str "entry")) (aCons (eC (.int 0)) (aCons (eC (.int 0)) (aNil))))) (aCons (eTup (aCons (eC (.str "entry")) (aCons (eC (.int 0)) (aCons (eC (.int 1)) (aNil))))) (aCons (eTup (aCons (eC (.str "entry")) (aCons (eOp (oI CPow fun i j => .int (i ^ j.toNat)) (eC (.int 10)) (eC (.int 60))) (aCons (eC (.int 1)) (aNil))))) (aNil))))))))))) (dSeq (dAsg 3 (eOp oCatL (eVar 3) (eOfL (lDisp (aCons (eTup (aCons (eC (.str "power")) (aCons (eOp oIxT (eVar 1) (eC (.int 1))) (aCons (eVar 2) (aNil))))) (aCons (eTup (aCons (eC (.str "entry")) (aCons (eOp oIxT (eVar 1) (eC (.int 1))) (aCons (eOp oIxT (eVar 1) (eC (.int 2))) (aNil))))) (aCons (eTup (aCons (eOp oIxT (eVar 1) (eC (.int 0))) (aCons (eOp oIxT (eVar 1) (eC (.int 2))) (aCons (eOp oIxT (eVar 1) (eC (.int 1))) (aNil))))) (aCons (eTup (aCons (eC (.str "power")) (aCons (eC (.bl true)) (aCons (eTup (aCons (eC (.int 1)) (aCons (eC (.int 0)) (aNil)))) (aNil))))) (aNil))))))))) (dSeq (dIf (tstE (eOp oEqS (eOp oIxT (eVar 1) (eC (.int 0))) (eC (.str "power")))) (dSeq (dAsg2 4 5 (eOp oIxT (eVar 1) (eC (.int 2)))) (dSeq (dAsg 3 (eOp oCatL (eVar 3) (eOfL (lDisp (aCons (eTup (aCons (eC (.str "power")) (aCons (eOp (oI0 fun i j => .int (i - j)) (eC (.int 0)) (eOp oIxT (eVar 1) (eC (.int 1)))) (aCons (eOp oIxT (eVar 1) (eC (.int 2))) (aNil))))) (aCons (eTup (aCons (eC (.str "power")) (aCons (eOp oIxT (eVar 1) (eC (.int 1))) (aCons (eTup (aCons (eVar 5) (aCons (eVar 4) (aNil)))) (aNil))))) (aCons (eTup (aCons (eC (.str "power")) (aCons (eOp oIxT (eVar 1) (eC (.int 1))) (aCons (eTup (aCons (eOp (oI0 fun i j => .int (i - j)) (eC (.int 0)) (eVar 4)) (aCons (eOp (oI0 fun i j => .int (i - j)) (eC (.int 0)) (eVar 5)) (aNil)))) (aNil))))) (aNil)))))))) (dSeq (dRet (eOp oCatL (eVar 3) (eOfL (lDisp (aCons (eTup (aCons (eC (.str "power")) (aCons (eOp (oI CMulA fun i j => .int (i * j)) (eC (.int 2)) (eOp oIxT (eVar 1) (eC (.int 1)))) (aCons (eOp oIxT (eVar 1) (eC (.int 2))) (aNil))))) (aCons (eTup (aCons (eC (.str "power")) (aCons (eOp oIxT (eVar 1) (eC (.int 1))) (aCons (eOfL (lDisp (aCons (eVar 4) (aCons (eVar 5) (aNil))))) (aNil))))) (aCons (eTup (aCons (eC (.str "power")) (aCons (eOp oIxT (eVar 1) (eC (.int 1))) (aCons (eTup (aCons (eVar 4) (aCons (eOp (oI0 fun i j => .int (i - j)) (eC (.int 0)) (eVar 5)) (aNil)))) (aNil))))) (aNil)))))))) (dNext)))) (dNext)) (dSeq (dRet (eOp oCatL (eVar 3) (eOfL (lDisp (aCons (eTup (aCons (eC (.str "entry")) (aCons (eOp oIxT (eVar 1) (eC (.int 1))) (aCons (eOp (oI0 fun i j => .int (i + j)) (eOp oIxT (eVar 1) (eC (.int 2))) (eC (.int 1))) (aNil))))) (aCons (eTup (aCons (eC (.str "entry")) (aCons (eOp (oI0 fun i j => .int (i + j)) (eOp oIxT (eVar 1) (eC (.int 1))) (eC (.int 1))) (aCons (eOp oIxT (eVar 1) (eC (.int 2))) (aNil))))) (aCons (eTup (aCons (eC (.str "entry")) (aCons (eOp (oI0 fun i j => .int (i - j)) (eOp oIxT (eVar 1) (eC (.int 1))) (eC (.int 1))) (aCons (eOp oIxT (eVar 1) (eC (.int 2))) (aNil))))) (aCons (eTup (aCons (eC (.str "entry")) (aCons (eUn (oU fun i => .int (-i)) (eC (.int 1))) (aCons (eOp oIxT (eVar 1) (eC (.int 2))) (aNil))))) (aNil))))))))) (dNext))))))
def r__law_right : DS := dSeq (dAsg2 2 3 (eTup (aCons (eCall sd_Form (aCons (eVar 1) (aNil))) (aCons (eOp (oI0 fun i j => .int (i - j)) (eUn oLen (eVar 1)) (eC (.int 1))) (aNil))))) (dSeq (dAsg 4 (eCall sd_power_paper (aCons (eVar 2) (aNil)))) (dSeq (dAsg 5 (eOrV (eOp (oI0 fun i j => .bl (decide (i < j))) (eVar 3) (eC (.int 2))) (eOp oEqI (eCall sd__law_shared (aCons (eCall sd__law_laid (aCons (eVar 1) (aCons (eVar 1) (aCons (eC (.int 2)) (aNil))))) (aNil))) (eC (.int 0))))) (dSeq (dIf (tstOr (tstNot (tstE (eCall sd__law_is_right (aCons (eVar 1) (aCons (eVar 4) (aNil)))))) (tstE (eOp oNeS (eOp oIxT (eVar 4) (eC (.int 0))) (eIf (tstE (eVar 5)) (eC (.str "power")) (eC (.str "entry")))))) (dSeq (dRet (eC (.bl false))) (dNext)) (dNext)) (dSeq (dAsg 6 (eCallB sd__law_near_values (aCons (eVar 4) (aNil)))) (dSeq (dRet (eOp oEqD (eOfL (lLc (iLstD (eVar 6)) [7] ([(("_law_value" : Str), 7)].map (·.2)) (tstE (eOp oNeS (eUn oRepr (eCall sd_is_power_paper (aCons (eVar 2) (aCons (eVar 7) (aNil))))) (eUn oRepr (eCall sd__law_is_right (aCons (eVar 1) (aCons (eVar 7) (aNil))))))) (eVar 7))) (eOfL (lDisp (aNil))))) (dNext))))))
def r__law_power_form : DS := dSeq (dPar 1 2 (aCons (eCall sd__law_line (aCons (eCallB sd__law_point (aCons (eC (.int 6)) (aNil))) (aNil))) (aCons (eCallB sd__law_pick (aCons (eOfL (lDisp (aCons (eC (.int 1)) (aCons (eUn (oU fun i => .int (-i)) (eC (.int 1))) (aCons (eC (.int 2)) (aCons (eUn (oU fun i => .int (-i)) (eC (.int 12))) (aCons (eOp (oI0 fun i j => .int (i + j)) (eOp (oI CPow fun i j => .int (i ^ j.toNat)) (eC (.int 10)) (eC (.int 20))) (eC (.int 7))) (aCons (eC (.int 0)) (aNil))))))))) (aNil))) (aNil)))) (dSeq (dRet (eCall sd__law_scaled (aCons (eCall sd__law_power (aCons (eVar 1) (aCons (eCallB sd__law_roll (aCons (eC (.int 10)) (aNil))) (aNil)))) (aCons (eVar 2) (aNil))))) (dNext))
def r_law : DS := dSeq (dFor [1] (iRngD (eOp (oI0 fun i j => .int (if j > i then j else i)) (eC (.int 1)) (eOp (oI0 fun i j => .int (if j < i then j else i)) (eC (.int 4)) (eUn oLen (eVar 0))))) (dBox 2 (lCallN sd__law_dice (aCons (eVar 0) (aCons (eVar 1) (aNil)))) (dSeq (dIf (tstOr (tstNot (tstE (eCallB sd__law_right (aCons (eCallB sd__law_power_form (aNil)) (aNil))))) (tstNot (tstE (eCallB sd__law_right (aCons (eCallB sd__law_form (aCons (eCallB sd__law_roll (aCons (eC (.int 9)) (aNil))) (aNil))) (aNil)))))) (dSeq (dRet (eC (.bl false))) (dNext)) (dNext)) (dSeq (dPar 3 4 (aCons (eCall sd__law_line (aCons (eCallB sd__law_point (aCons (eC (.int 3)) (aNil))) (aNil))) (aCons (eOp (oI0 fun i j => .int (i + j)) (eC (.int 1)) (eCallB sd__law_roll (aCons (eC (.int 5)) (aNil)))) (aNil)))) (dSeq (dIf (tstNot (tstE (eCallB sd__law_right (aCons (eCall sd__law_product (aCons (eCall sd__law_power (aCons (eVar 3) (aCons (eVar 4) (aNil)))) (aCons (eCallB sd__law_small_form (aCons (eOp (oI0 fun i j => .int (i + j)) (eC (.int 1)) (eCallB sd__law_roll (aCons (eC (.int 2)) (aNil)))) (aCons (eC (.int 2)) (aNil)))) (aNil)))) (aNil))))) (dSeq (dRet (eC (.bl false))) (dNext)) (dNext)) (dNext)))))) (dSeq (dAsg 5 (eOfL (lDisp (aCons (eCall sd_power_paper (aCons (eCall sd_Form (aCons (eTup (aCons (eC (.int 1)) (aCons (eC (.int 8)) (aCons (eC (.int 24)) (aCons (eC (.int 32)) (aCons (eC (.int 16)) (aNil))))))) (aNil))) (aNil))) (aCons (eCall sd_power_paper (aCons (eCall sd_Form (aCons (eTup (aCons (eC (.int 1)) (aCons (eC (.int 0)) (aCons (eUn (oU fun i => .int (-i)) (eC (.int 2))) (aNil))))) (aNil))) (aNil))) (aCons (eCall sd_power_paper (aCons (eCall sd_Form (aCons (eTup (aCons (eC (.int 4)) (aCons (eUn (oU fun i => .int (-i)) (eC (.int 6))) (aNil)))) (aNil))) (aNil))) (aNil))))))) (dSeq (dRet (eOp oEqD (eVar 5) (eOfL (lDisp (aCons (eTup (aCons (eC (.str "power")) (aCons (eC (.int 1)) (aCons (eTup (aCons (eC (.int 2)) (aCons (eUn (oU fun i => .int (-i)) (eC (.int 1))) (aNil)))) (aNil))))) (aCons (eTup (aCons (eC (.str "entry")) (aCons (eC (.int 0)) (aCons (eUn (oU fun i => .int (-i)) (eC (.int 16))) (aNil))))) (aCons (eTup (aCons (eC (.str "power")) (aCons (eC (.int 2)) (aCons (eTup (aCons (eC (.int 3)) (aCons (eC (.int 2)) (aNil)))) (aNil))))) (aNil)))))))) (dNext)))
end KD
set_option Elab.async false
set_option linter.all false
set_option maxRecDepth 100000
set_option maxHeartbeats 2000000
/-! The D layer, 7: what the defs lean on; the class of the forms. -/
namespace KD
open PySem PySem.Spec PyProof.Rows L2 GxR

/-- what the defs lean on -/
structure Tp (K : PySem.W.Frag) (mg : Str → Option Value) (base : Heap) (C : Cfg) : Prop where
  isinstance : mg "isinstance" = none
  int : mg "int" = none
  bool : mg "bool" = none
  tuple : mg "tuple" = none
  str : mg "str" = none
  all : mg "all" = none
  any : mg "any" = none
  len : mg "len" = none
  range : mg "range" = none
  next : mg "next" = none
  enumerate : mg "enumerate" = none
  list : mg "list" = none
  abs : mg "abs" = none
  max : mg "max" = none
  min : mg "min" = none
  zip : mg "zip" = none
  repr : mg "repr" = none
  gcd : mg "gcd" = some (.builtin "math.gcd")
  SHORT_PAPER : ∃ u, mg "SHORT_PAPER" = some u ∧ RelV (.int (3)) u
  MAX_DEGREE : ∃ u, mg "MAX_DEGREE" = some u ∧ RelV (.int (40)) u
  GREATEST : ∃ u, mg "GREATEST" = some u ∧ RelV (.int (10 ^ 60)) u
  POWER : ∃ u, mg "POWER" = some u ∧ RelV (.str "power") u
  ENTRY : ∃ u, mg "ENTRY" = some u ∧ RelV (.str "entry") u
  Form : mg "Form" = some (.ref C.cF)
  kit : PySem.W.kitOne K (.ref C.cF) (.ref C.cF) = some true
  scl : SlX.SCls K C.cF
  sis : SlX.SIsi K C.cF
  Told : mg "Told" = some (.ref (He.ga K "Told"))
  kitT : PySem.W.kitOne K (.type "tuple") (.ref (He.ga K "Told")) = some false
  slot : ∃ p, SlX.Slot1 K C.cF "own_entries" p 0
  t_first_of : He.tabOf K (He.codeOf K ("first_of", none)) ∈ C.tabs
  tb1 : TabB base mg (He.codeOf K ("first_of", none)) (He.tabOf K (He.codeOf K ("first_of", none)))
  t_first_index : He.tabOf K (He.codeOf K ("first_index", none)) ∈ C.tabs
  tb2 : TabB base mg (He.codeOf K ("first_index", none)) (He.tabOf K (He.codeOf K ("first_index", none)))

section
variable {K : PySem.W.Frag}
theorem k_isInt : ∀ d n, tyD d = some n → PySem.W.kitOne K (.type n) (.type "int") = some (isInt d) := fun d n h => by
  cases d <;> cases h <;> first
    | exact kit_ty (r := true) (by decide +kernel)
    | exact kit_ty (r := false) (by decide +kernel)
theorem k_isBool : ∀ d n, tyD d = some n → PySem.W.kitOne K (.type n) (.type "bool") = some (isBool d) := fun d n h => by
  cases d <;> cases h <;> first
    | exact kit_ty (r := true) (by decide +kernel)
    | exact kit_ty (r := false) (by decide +kernel)
theorem k_isTup : ∀ d n, tyD d = some n → PySem.W.kitOne K (.type n) (.type "tuple") = some (isTup d) := fun d n h => by
  cases d <;> cases h <;> first
    | exact kit_ty (r := true) (by decide +kernel)
    | exact kit_ty (r := false) (by decide +kernel)
theorem k_isStr : ∀ d n, tyD d = some n → PySem.W.kitOne K (.type n) (.type "str") = some (isStr d) := fun d n h => by
  cases d <;> cases h <;> first
    | exact kit_ty (r := true) (by decide +kernel)
    | exact kit_ty (r := false) (by decide +kernel)
end
/-- a property of the forms -/
structure Pr1 (P : Program) (w : World) (K : PySem.W.Frag) (mg : Str → Option Value) (base : Heap) (C : Cfg) (n : Nat) (f : Str) (sd : Sp1) : Prop where
  ex : ∃ p g, PySem.W.findIn K (.ref C.cF) f = some (some (.ref p)) ∧ PySem.W.specialIn K (.ref p) "__get__" = some (some (.builtin "property.__get__")) ∧ PySem.W.takesIn K (.ref p) = some true ∧
    (∃ rest, PySem.W.recIn K p "property" = some (.ref g :: rest)) ∧ FnR P w K mg base L2.CX0 n g (spP K C sd)
  sc : SlX.SCls K C.cF
/-- what a form's __init__ promises -/
def spI (K : PySem.W.Frag) (C : Cfg) : Sp := fun vs H Q _ => ∃ hid x dx t es, vs = [V.ref x, V.ref t] ∧ dx ≠ x ∧ H x = some (.ins C.cF dx []) ∧ H dx = some (.own x) ∧ SqT K (out hid H) t (es.map V.int) ∧ TabsOk C H ∧ (∀ a ∈ hid, ∃ o, H a = some o) ∧ es.length ≤ 1000 ∧ entOk es = true ∧
  ∀ H1 t1, Step none H H1 → TabsOk C H1 → SqT K (out hid H1) t1 (es.map V.int) → Q .non (SlX.slH H1 x C.cF dx (SlX.putS 0 (V.ref t1) []))
structure Mk1 (P : Program) (w : World) (K : PySem.W.Frag) (mg : Str → Option Value) (base : Heap) (C : Cfg) (n : Nat) : Prop where
  ex : ∃ f fd ps, Mk K C.cF f ∧ FnOk P w K mg base L2.CX0 n f fd ps (spI K C) ∧ mg "Form" = some (.ref C.cF) ∧ Binds K fd ps []
section
variable {P : Program} {w : World} {K : PySem.W.Frag} {mg : Str → Option Value} {base : Heap} {k n : Nat} {ι : Type} {F : ι → Cx} {C : Cfg} {bi : Option Nat} {a e : Expr} {es : List Expr} {ra : DE} {rr : DA} {pos p : Pos} {f : Str} {sd : Sp1} {ta : TE} {t : TA}
theorem se_prop {E : XK} (ha : SE K C bi ta ra) : SE K C bi (SlX.tPropSl C.cF (spP K C sd) E ta) (eProp sd ra) := by
  intro hid bx ρ B σ H QD Q c h k
  refine ha hid bx ρ B σ H _ _ c h fun d B1 v H1 q1 s1 h1 r1 => ?_
  obtain ⟨⟨es, e⟩, q1⟩ := q1
  subst e
  have r2 := r1
  cases r1 with
  | @frm a dx t vs _ hs e1 e2 =>
    refine ⟨a, dx, vs, rfl, (out_keep hid H1).slt hs, hid, [.frm es], _, .cons r2 .nil, h1.tabs, h1.live, q1, fun d v H2 q2 s2 t2 r => ?_⟩
    exact k d B1 v H2 q2 (s1.trans s2.weak) (h1.after s2 t2) r
theorem c_prop (m : Fm P w K mg base k F) (h : Pr1 P w K mg base C n f sd) (hk : n + 1 ≤ k) (ha : CE K F C bi a ra) (hb : ∀ i, attributeBase a f (F i).env (eval a (F i).env) = eval a (F i).env := by intro _; rfl) : CE K F C bi (.Attribute a f pos) (eProp sd ra) := by
  obtain ⟨ta, p1, s1⟩ := ha
  obtain ⟨p, g, e1, e2, e3, e4, G⟩ := h.ex
  refine ⟨SlX.tPropSl C.cF (spP K C sd) L2.E0 ta, fun i => ?_, se_prop s1⟩
  have mk := m.K i
  refine SlX.pe_propSl (CX := L2.CX0) (p := p) (g := g) (n := n) (p1 i) (by rw [mk]; exact h.sc) (by rw [mk]; exact e1) (by rw [mk]; exact e2) (by rw [mk]; exact e3) (by rw [mk]; exact e4) ?_ ((m.room i).mono hk) (fun _ _ _ _ z => z) (hb i)
  rw [m.prog i, m.w i, mk, m.mg i, m.base i]
  exact G
theorem sqT_slH {hid : List Addr} {H : Hp} {x dx c t : Addr} {vs : List (Option V)} {xs : List V} (hx : ∀ ys, ¬ Rd H x (.tup ys)) (hd : ∀ ys, ¬ Rd H dx (.tup ys)) (h : SqT K (out hid H) t xs) : SqT K (out hid (SlX.slH H x c dx vs)) t xs := by
  rcases h with h | h
  · refine .inl ?_
    rcases h with h | ⟨o, h⟩
    · obtain ⟨n0, e⟩ := out_some h
      have n1 : t ≠ x := fun z => hx xs (z ▸ .inl e)
      have n2 : t ≠ dx := fun z => hd xs (z ▸ .inl e)
      exact .inl (out_of (by rw [SlX.slH_ne n1 n2]; exact e) n0)
    · obtain ⟨n0, e⟩ := out_some h
      have n1 : t ≠ x := fun z => hx xs (z ▸ .inr ⟨o, e⟩)
      have n2 : t ≠ dx := fun z => hd xs (z ▸ .inr ⟨o, e⟩)
      exact .inr ⟨o, out_of (by rw [SlX.slH_ne n1 n2]; exact e) n0⟩
  · exact .inr h
theorem se_make {E : XK} (ha : SA K C bi t rr) : SE K C bi (tMake C.cF (spI K C) [] E t) (eCall sd_Form rr) := by
  intro hid bx ρ B σ H QD Q c h k
  refine ha hid bx ρ B σ H _ _ c h fun ds B1 vs H1 q1 s1 h1 r1 => ?_
  obtain ⟨es, e, hl, ok, q1⟩ := q1
  subst e
  cases r1 with
  | cons r0 rr0 =>
    cases rr0
    cases r0 with
    | @tup t us _ hp rl =>
      have eu := rl.ints
      subst eu
      intro x dx nx nd hne
      have up1 : Same H1 (upd (upd H1 dx (.own x)) x (.ins C.cF dx [])) := fun b o eb => by
        rw [upd_ne (ne_of_none eb nx), upd_ne (ne_of_none eb nd)]
        exact eb
      refine ⟨hid, x, dx, t, es, by rw [List.append_nil], hne, upd_same, by rw [upd_ne hne, upd_same], ?_, h1.tabs.same up1, fun b hb => (h1.live b hb).imp fun o eb => up1 b o eb, hl, ok, fun H2 t1 s2 tb2 ht2 => ⟨rfl, ?_⟩⟩
      · exact Keep.sqT ((Step.same (bx := none) up1).keep fun _ z => nomatch z) hp
      · have ex : H2 x = some (.ins C.cF dx []) := (s2 x _ upd_same fun z => nomatch z).1 rfl
        have ed : H2 dx = some (.own x) := (s2 dx _ (by rw [upd_ne hne, upd_same]) fun z => nomatch z).1 rfl
        have noX : ∀ ys, ¬ Rd H2 x (.tup ys) := fun ys z => by
          rcases z with z | ⟨o, z⟩ <;> (rw [ex] at z; cases z)
        have noD : ∀ ys, ¬ Rd H2 dx (.tup ys) := fun ys z => by
          rcases z with z | ⟨o, z⟩ <;> (rw [ed] at z; cases z)
        have st : Step none H1 (SlX.slH H2 x C.cF dx (SlX.putS 0 (V.ref t1) [])) := fun b o eb _ => by
          have nb1 : b ≠ x := ne_of_none eb nx
          have nb2 : b ≠ dx := ne_of_none eb nd
          rw [SlX.slH_ne nb1 nb2]
          exact s2 b o (up1 b o eb) fun z => nomatch z
        have tb3 : TabsOk C (SlX.slH H2 x C.cF dx (SlX.putS 0 (V.ref t1) [])) := fun q hq => by
          obtain ⟨ps, e1, e2⟩ := tb2 q hq
          refine ⟨ps, ?_, e2⟩
          rw [SlX.slH_ne (fun z => by rw [z, ex] at e1; cases e1) (fun z => by rw [z, ed] at e1; cases e1)]
          exact e1
        have nxh : x ∉ hid := h1.fresh nx
        have ndh : dx ∉ hid := h1.fresh nd
        refine k (.frm es) B1 _ _ q1 (s1.trans st.weak) (h1.after st tb3) (.frm (a := x) (dx := dx) (t := t1) (vs := SlX.putS 0 (V.ref t1) []) ?_ (SlX.putS_get 0 _ []) ?_)
        · refine .inr ⟨out_of upd_same nxh, out_of ?_ ndh⟩
          show SlX.slH H2 x C.cF dx (SlX.putS 0 (V.ref t1) []) dx = some (.xd [])
          unfold SlX.slH
          rw [upd_ne hne, upd_same]
        · exact sqT_slH noX noD ht2
theorem c_make (m : Fm P w K mg base k F) (h : Mk1 P w K mg base C n) (hk : n + 1 ≤ k) (ha : CA K F C bi (e :: es) rr) (hg : ∀ i, Gl (F i) "Form" := by intro _; rfl)
    (he : ∀ i, starEach (e :: es) (F i).env = (false, eval e (F i).env) :: starEach es (F i).env := by intro _; rfl) (hpl : ∀ i, (backTo pos (starEach es (F i).env)).any (·.1) = false := by intro _; rfl) : CE K F C bi (.Call (.Name "Form" p) (e :: es) [] pos) (eCall sd_Form rr) := by
  obtain ⟨t, p1, s1⟩ := ha
  obtain ⟨f, fd, ps, M, G, hm, b⟩ := h.ex
  refine ⟨tMake C.cF (spI K C) [] L2.E0 t, fun i => ?_, se_make s1⟩
  refine pe_make (CX := L2.CX0) (k := n) (f := f) (fd := fd) (ps := ps) (ds := []) (by rw [m.K i]; exact M) ?_ ((m.room i).mono hk) (hg i) (by rw [m.mg i]; exact hm) (by rw [m.K i]; exact b) .nil L2.pass0 (p1 i) (by decide) (he i) (hpl i)
  rw [m.prog i, m.w i, m.K i, m.mg i, m.base i]
  exact G
end
end KD
set_option Elab.async false
set_option linter.all false
set_option maxRecDepth 100000
set_option maxHeartbeats 4000000
/-! The bodies of the defs by rules (printed by gen.py). -/
namespace KD
open PySem PySem.Spec PyProof.Rows L2 GxR
/-- a generator expression's scope that captures nothing -/
def genC (scope : Scope) (x : Str) : Bool := decide (scope.kind = .function) && (!scope.isCoroutine && (decide (scope.names.lookup (".0" : Str) = some NameKind.local) && (decide (scope.names.lookup x = some .local) && scope.names.all fun y => decide (y.2 ≠ .cell) && decide (y.2 ≠ .free))))
theorem gens_by {env : PySem.Env} {scope : Scope} {x : Str} (h : genC scope x = true) : GenS env scope x := by
  unfold genC at h
  simp only [Bool.and_eq_true, Bool.not_eq_true', decide_eq_true_eq, List.all_eq_true] at h
  obtain ⟨h1, h2, h3, h4, h5⟩ := h
  exact ⟨h1, h2, fun y hy => (h5 y hy).1, h3, h4, fun y hy e => absurd e (h5 y hy).2⟩
theorem gens_by2 {env : PySem.Env} {scope : Scope} {x y : Str} (h : genC scope x = true) (h2 : genC scope y = true) (hn : x ≠ y) : GenS2 env scope x y := ⟨gens_by h, (gens_by (env := env) h2).loc, hn⟩
theorem b_is_whole {P : Program} {w : World} {K : PySem.W.Frag} {mg : Str → Option Value} {base : Heap} {C : Cfg} (T : Tp K mg base C)  : BodyOk P w K mg base 0 C "is_whole" K9.s_is_whole ["value"] none r_is_whole := fun f cdv A outer s H E hc m =>
  s_cons (s_ret (c_and (c_isi m T.isinstance T.int k_isInt (cv 0)) (c_one (c_not (c_isi m T.isinstance T.bool k_isBool (cv 0)))))) (s_nil)
theorem b_is_short {P : Program} {w : World} {K : PySem.W.Frag} {mg : Str → Option Value} {base : Heap} {C : Cfg} (T : Tp K mg base C) (h_is_whole : Ca P w K mg base 1 "is_whole" (spP K C sd_is_whole)) : BodyOk P w K mg base 1 C "is_short" K9.s_is_short ["value"] none r_is_short := fun f cdv A outer s H E hc m =>
  s_cons (s_ret (c_and (c_call m h_is_whole (by decide) (ca_cons (cv 0) (ca_nil))) (c_one (c_chain (fun _ => op_lt) (fun _ => op_lt) (ok_rI0 fun _ _ _ => .bl _) (ok_rI0 fun _ _ _ => .bl _) (c_neg (cgi m T.GREATEST)) (cv 0) (cgi m T.GREATEST))))) (s_nil)
theorem b_is_from {P : Program} {w : World} {K : PySem.W.Frag} {mg : Str → Option Value} {base : Heap} {C : Cfg} (T : Tp K mg base C) (h_is_whole : Ca P w K mg base 1 "is_whole" (spP K C sd_is_whole)) : BodyOk P w K mg base 1 C "is_from" K9.s_is_from ["value", "least", "most"] none r_is_from := fun f cdv A outer s H E hc m =>
  s_cons (s_ret (c_and (c_call m h_is_whole (by decide) (ca_cons (cv 0) (ca_nil))) (c_one (c_chain (fun _ => op_le) (fun _ => op_le) (ok_rI0 fun _ _ _ => .bl _) (ok_rI0 fun _ _ _ => .bl _) (cv 1) (cv 0) (cv 2))))) (s_nil)
theorem b_are_wholes {P : Program} {w : World} {K : PySem.W.Frag} {mg : Str → Option Value} {base : Heap} {C : Cfg} (T : Tp K mg base C) (h_is_whole : Ca P w K mg base 1 "is_whole" (spP K C sd_is_whole)) : BodyOk P w K mg base 1 C "are_wholes" K9.s_are_wholes ["value", "entry"] none r_are_wholes := fun f cdv A outer s H E hc m =>
  s_cons (s_ret (c_and (c_isi m T.isinstance T.tuple k_isTup (cv 0)) (c_one (c_b1 m (h_all m) ok_all T.all (c_ofL (cl_lc [(("entry" : Str), 1)] m (i_tup m (cv 0)) (g1 (m.blk _) 1) (cts_nil) (c_call (m.blk _) h_is_whole (by decide) (ca_cons (cv 1) (ca_nil))))))))) (s_nil)
theorem b_are_short {P : Program} {w : World} {K : PySem.W.Frag} {mg : Str → Option Value} {base : Heap} {C : Cfg} (T : Tp K mg base C) (h_is_short : Ca P w K mg base 2 "is_short" (spP K C sd_is_short)) : BodyOk P w K mg base 2 C "are_short" K9.s_are_short ["value", "entry"] none r_are_short := fun f cdv A outer s H E hc m =>
  s_cons (s_ret (c_and (c_isi m T.isinstance T.tuple k_isTup (cv 0)) (c_one (c_b1 m (h_all m) ok_all T.all (c_ofL (cl_lc [(("entry" : Str), 1)] m (i_tup m (cv 0)) (g1 (m.blk _) 1) (cts_nil) (c_call (m.blk _) h_is_short (by decide) (ca_cons (cv 1) (ca_nil))))))))) (s_nil)
theorem b_shared_of {P : Program} {w : World} {K : PySem.W.Frag} {mg : Str → Option Value} {base : Heap} {C : Cfg} (T : Tp K mg base C)  : BodyOk P w K mg base 0 C "shared_of" K9.s_shared_of ["numbers", "found", "number"] none r_shared_of := fun f cdv A outer s H E hc m =>
  s_cons (s_set m 1 (ci)) (s_cons (s_for m (i_tup m (cv 0)) (g1 m 2) (s_cons (s_set m 1 (c_gcd m T.gcd (cv 1) (cv 2))) (s_nil))) (s_cons (s_ret (cv 1)) (s_nil)))
theorem b_first_of {P : Program} {w : World} {K : PySem.W.Frag} {mg : Str → Option Value} {base : Heap} {C : Cfg} (T : Tp K mg base C)  : BodyOk P w K mg base 0 C "first_of" K9.s_first_of ["numbers"] none r_first_of := fun f cdv A outer s H E hc m =>
  s_cons (s_ret (c_nextV m T.next T.t_first_of T.tb1 (fun _ => hc) (fun _ => gens_by (by first | rfl | decide +kernel)) (cv 0))) (s_nil)
theorem b_lots_of {P : Program} {w : World} {K : PySem.W.Frag} {mg : Str → Option Value} {base : Heap} {C : Cfg} (T : Tp K mg base C)  : BodyOk P w K mg base 0 C "lots_of" K9.s_lots_of ["many", "few", "found", "at"] none r_lots_of := fun f cdv A outer s H E hc m =>
  s_cons (s_set m 2 (ci)) (s_cons (s_for m (i_rng m T.range (cv 1)) (g1 m 3) (s_cons (s_set m 2 (c_div (c_mul (cv 2) (c_sub (cv 0) (cv 3))) (c_add (cv 3) (ci)))) (s_nil))) (s_cons (s_ret (cv 2)) (s_nil)))
theorem b_is_point_any {P : Program} {w : World} {K : PySem.W.Frag} {mg : Str → Option Value} {base : Heap} {C : Cfg} (T : Tp K mg base C) (h_are_wholes : Ca P w K mg base 2 "are_wholes" (spP K C sd_are_wholes)) (h_first_of : Ca P w K mg base 1 "first_of" (spP K C sd_first_of)) : BodyOk P w K mg base 2 C "is_point_any" K9.s_is_point_any ["value"] none r_is_point_any := fun f cdv A outer s H E hc m =>
  s_cons (s_if (ct_w (cw_or (ct_not (ct_val (c_call m h_are_wholes (by decide) (ca_cons (cv 0) (ca_nil))))) (cw_or (ct_cmp (fun _ => op_ne) ok_neI (c_len m T.len (cv 0)) (ci)) (cw_or1 (ct_cmp (h_eqD m) ok_eqD (cv 0) (c_tup (ca_cons (ci) (ca_cons (ci) (ca_nil))))))))) (s_cons (s_ret (cb)) (s_nil)) (s_nil)) (s_cons (s_ret (c_and (c_cmp (fun _ => op_eq) ok_eqI (c_gcd m T.gcd (c_ixT m (cv 0) (ci)) (c_ixT m (cv 0) (ci))) (ci)) (c_one (c_cmp (fun _ => op_gt) (ok_rI0 fun _ _ _ => .bl _) (c_call m h_first_of (by decide) (ca_cons (cv 0) (ca_nil))) (ci))))) (s_nil))
theorem b_joined_entries {P : Program} {w : World} {K : PySem.W.Frag} {mg : Str → Option Value} {base : Heap} {C : Cfg} (T : Tp K mg base C)  : BodyOk P w K mg base 0 C "joined_entries" K9.s_joined_entries ["one", "other", "found", "place", "at"] none r_joined_entries := fun f cdv A outer s H E hc m =>
  s_boxLc [(("place" : Str), 3)] m 2 (i_rng m T.range (c_sub (c_add (c_len m T.len (cv 0)) (c_len m T.len (cv 1))) (ci))) (g1 (m.blk _) 3) (cts_nil) (ci) (s_cons (s_for m (i_rng m T.range (c_len m T.len (cv 0))) (g1 m 4) (s_cons (s_for m (i_rng m T.range (c_len m T.len (cv 1))) (g1 m 3) (s_cons (s_setB (c_add (cv 4) (cv 3)) (c_add (c_ixB m (c_add (cv 4) (cv 3))) (c_mul (c_ixT m (cv 0) (cv 4)) (c_ixT m (cv 1) (cv 3))))) (s_nil))) (s_nil))) (s_cons (s_ret (c_tupB m T.tuple)) (s_nil)))
theorem b_product_in {P : Program} {w : World} {K : PySem.W.Frag} {mg : Str → Option Value} {base : Heap} {C : Cfg} (T : Tp K mg base C) (h_joined_entries : Ca P w K mg base 1 "joined_entries" (spP K C sd_joined_entries)) : BodyOk P w K mg base 1 C "product_in" K9.s_product_in ["one", "other"] none r_product_in := fun f cdv A outer s H E hc m =>
  s_cons (s_ret (c_call m h_joined_entries (by decide) (ca_cons (cv 0) (ca_cons (cv 1) (ca_nil))))) (s_nil)
theorem b_power_in {P : Program} {w : World} {K : PySem.W.Frag} {mg : Str → Option Value} {base : Heap} {C : Cfg} (T : Tp K mg base C) (h_product_in : Ca P w K mg base 2 "product_in" (spP K C sd_product_in)) : BodyOk P w K mg base 2 C "power_in" K9.s_power_in ["pair", "degree", "found", "turn"] none r_power_in := fun f cdv A outer s H E hc m =>
  s_cons (s_set m 2 (c_tup (ca_cons (ci) (ca_nil)))) (s_cons (s_for m (i_rng m T.range (cv 1)) (g1 m 3) (s_cons (s_set m 2 (c_call m h_product_in (by decide) (ca_cons (cv 2) (ca_cons (cv 0) (ca_nil))))) (s_nil))) (s_cons (s_ret (cv 2)) (s_nil)))
theorem b_line_in {P : Program} {w : World} {K : PySem.W.Frag} {mg : Str → Option Value} {base : Heap} {C : Cfg} (T : Tp K mg base C)  : BodyOk P w K mg base 0 C "line_in" K9.s_line_in ["point"] none r_line_in := fun f cdv A outer s H E hc m =>
  s_cons (s_ret (c_tup (ca_cons (c_ixT m (cv 0) (ci)) (ca_cons (c_neg (c_ixT m (cv 0) (ci))) (ca_nil))))) (s_nil)
theorem b_is_zero_in {P : Program} {w : World} {K : PySem.W.Frag} {mg : Str → Option Value} {base : Heap} {C : Cfg} (T : Tp K mg base C)  : BodyOk P w K mg base 0 C "is_zero_in" K9.s_is_zero_in ["entries"] none r_is_zero_in := fun f cdv A outer s H E hc m =>
  s_cons (s_ret (c_not (c_b1 m (h_anyI m) ok_anyI T.any (cv 0)))) (s_nil)
theorem b_first_index {P : Program} {w : World} {K : PySem.W.Frag} {mg : Str → Option Value} {base : Heap} {C : Cfg} (T : Tp K mg base C)  : BodyOk P w K mg base 0 C "first_index" K9.s_first_index ["entries"] none r_first_index := fun f cdv A outer s H E hc m =>
  s_cons (s_ret (c_nextI m T.next T.enumerate T.t_first_index T.tb2 (fun _ => hc) (fun _ => gens_by2 (by first | rfl | decide +kernel) (by first | rfl | decide +kernel) (by decide)) (cv 0))) (s_nil)
theorem b_are_entries {P : Program} {w : World} {K : PySem.W.Frag} {mg : Str → Option Value} {base : Heap} {C : Cfg} (T : Tp K mg base C) (h_are_short : Ca P w K mg base 3 "are_short" (spP K C sd_are_short)) : BodyOk P w K mg base 3 C "are_entries" K9.s_are_entries ["value"] none r_are_entries := fun f cdv A outer s H E hc m =>
  s_cons (s_ret (c_and (c_call m h_are_short (by decide) (ca_cons (cv 0) (ca_nil))) (c_one (c_chain (fun _ => op_le) (fun _ => op_le) (ok_rI0 fun _ _ _ => .bl _) (ok_rI0 fun _ _ _ => .bl _) (ci) (c_len m T.len (cv 0)) (c_add (cgi m T.MAX_DEGREE) (ci)))))) (s_nil)
theorem b_require_form {P : Program} {w : World} {K : PySem.W.Frag} {mg : Str → Option Value} {base : Heap} {C : Cfg} (T : Tp K mg base C) (h_Form : Mk1 P w K mg base C 5) : BodyOk P w K mg base 6 C "require_form" K9.s_require_form ["value"] none r_require_form := fun f cdv A outer s H E hc m =>
  s_cons (s_if (ct_not (ct_val (c_isF m T.isinstance T.Form T.kit T.scl T.sis (cv 0)))) (s_cons (s_never) (s_nil)) (s_nil)) (s_nil)
theorem b_laying_slope {P : Program} {w : World} {K : PySem.W.Frag} {mg : Str → Option Value} {base : Heap} {C : Cfg} (T : Tp K mg base C)  : BodyOk P w K mg base 0 C "laying_slope" K9.s_laying_slope ["entries", "by_y", "at", "entry"] none r_laying_slope := fun f cdv A outer s H E hc m =>
  s_cons (s_if (ct_val (cv 1)) (s_cons (s_ret (c_ofL (cl_lc [(("at" : Str), 2), (("entry" : Str), 3)] m (i_enmL m T.enumerate (c_ofL (cl_sl m (cv 0) (co_some (ci)) (co_none)))) (g2 (m.blk _) 2 3 (g1 (m.blk _) 2) (g1 (m.blk _) 3)) (cts_nil) (c_mul (cv 3) (c_add (cv 2) (ci)))))) (s_nil)) (s_nil)) (s_cons (s_ret (c_ofL (cl_lc [(("at" : Str), 2), (("entry" : Str), 3)] m (i_enmL m T.enumerate (c_ofL (cl_sl m (cv 0) (co_none) (co_some (c_neg (ci)))))) (g2 (m.blk _) 2 3 (g1 (m.blk _) 2) (g1 (m.blk _) 3)) (cts_nil) (c_mul (cv 3) (c_sub (c_sub (c_len (m.blk _) T.len (cv 0)) (ci)) (cv 2)))))) (s_nil))
theorem b_laying_slopes {P : Program} {w : World} {K : PySem.W.Frag} {mg : Str → Option Value} {base : Heap} {C : Cfg} (T : Tp K mg base C) (h_laying_slope : Ca P w K mg base 1 "laying_slope" (spP K C sd_laying_slope)) : BodyOk P w K mg base 1 C "laying_slopes" K9.s_laying_slopes ["entries", "times", "found", "turn", "one"] none r_laying_slopes := fun f cdv A outer s H E hc m =>
  s_cons (s_set m 2 (c_ofL (cl_lst (ca_cons (c_ofL (cl_list m T.list (cv 0))) (ca_nil))))) (s_cons (s_for m (i_rng m T.range (cv 1)) (g1 m 3) (s_cons (s_set m 2 (c_ofL (cl_lst (ca_star m (c_ofL (cl_lc [(("one" : Str), 4)] m (i_lst m (cv 2)) (g1 (m.blk _) 4) (cts_nil) (c_call (m.blk _) h_laying_slope (by decide) (ca_cons (cv 4) (ca_cons (cb) (ca_nil)))))) (ca_cons (c_call m h_laying_slope (by decide) (ca_cons (c_ixL m (cv 2) (c_neg (ci))) (ca_cons (cb) (ca_nil)))) (ca_nil)))))) (s_nil))) (s_cons (s_ret (cv 2)) (s_nil)))
theorem b_add_product {P : Program} {w : World} {K : PySem.W.Frag} {mg : Str → Option Value} {base : Heap} {C : Cfg} (T : Tp K mg base C)  : BodyOk P w K mg base 0 C "add_product" K9.s_add_product ["found", "one", "other", "factor", "at", "first", "place", "second"] (some 0) r_add_product := fun f cdv A outer s H E hc m =>
  s_cons (s_for m (i_enmL m T.enumerate (cv 1)) (g2 m 4 5 (g1 m 4) (g1 m 5)) (s_cons (s_for m (i_enmL m T.enumerate (cv 2)) (g2 m 6 7 (g1 m 6) (g1 m 7)) (s_cons (s_augB m (c_add (cv 4) (cv 6)) (c_mul (c_mul (cv 3) (cv 5)) (cv 7))) (s_nil))) (s_nil))) (s_nil)
theorem b_laid_in {P : Program} {w : World} {K : PySem.W.Frag} {mg : Str → Option Value} {base : Heap} {C : Cfg} (T : Tp K mg base C) (h_laying_slopes : Ca P w K mg base 2 "laying_slopes" (spP K C sd_laying_slopes)) (h_add_product : Ca P w K mg base 1 "add_product" (spB K C sd_add_product)) (h_lots_of : Ca P w K mg base 1 "lots_of" (spP K C sd_lots_of)) : BodyOk P w K mg base 2 C "laid_in" K9.s_laid_in ["one", "other", "times", "found", "first", "second", "at"] none r_laid_in := fun f cdv A outer s H E hc m =>
  s_box m 3 (cl_rep (c_ofL (cl_lst (ca_cons (ci) (ca_nil)))) (c_sub (c_sub (c_add (c_len m T.len (cv 0)) (c_len m T.len (cv 1))) (ci)) (c_mul (ci) (cv 2)))) (s_cons (s_par m 4 5 (ca_cons (c_call m h_laying_slopes (by decide) (ca_cons (cv 0) (ca_cons (cv 2) (ca_nil)))) (ca_cons (c_call m h_laying_slopes (by decide) (ca_cons (cv 1) (ca_cons (cv 2) (ca_nil)))) (ca_nil)))) (s_cons (s_for m (i_rng m T.range (c_add (cv 2) (ci))) (g1 m 6) (s_cons (s_expr (c_callB m h_add_product (by decide) (ca_cons (c_ixL m (cv 4) (cv 6)) (ca_cons (c_ixL m (cv 5) (c_sub (cv 2) (cv 6))) (ca_cons (c_mul (c_call m h_lots_of (by decide) (ca_cons (cv 2) (ca_cons (cv 6) (ca_nil)))) (c_if (ct_cmp (fun _ => op_eq) ok_eqI (c_mod (cv 6) (ci)) (ci)) (ci) (c_neg (ci)))) (ca_nil)))))) (s_nil))) (s_cons (s_ret (c_tupB m T.tuple)) (s_nil))))
theorem b_point_of_line {P : Program} {w : World} {K : PySem.W.Frag} {mg : Str → Option Value} {base : Heap} {C : Cfg} (T : Tp K mg base C) (h_shared_of : Ca P w K mg base 1 "shared_of" (spP K C sd_shared_of)) : BodyOk P w K mg base 1 C "point_of_line" K9.s_point_of_line ["one", "other", "part", "a", "b"] none r_point_of_line := fun f cdv A outer s H E hc m =>
  s_cons (s_set m 2 (c_call m h_shared_of (by decide) (ca_cons (c_tup (ca_cons (cv 0) (ca_cons (cv 1) (ca_nil)))) (ca_nil)))) (s_cons (s_par m 3 4 (ca_cons (c_div (c_neg (cv 1)) (cv 2)) (ca_cons (c_div (cv 0) (cv 2)) (ca_nil)))) (s_cons (s_ret (c_if (ct_w (cw_or (ct_cmp (fun _ => op_gt) (ok_rI0 fun _ _ _ => .bl _) (cv 3) (ci)) (cw_or1 (ct_w (cw_and (ct_cmp (fun _ => op_eq) ok_eqI (cv 3) (ci)) (cw_and1 (ct_cmp (fun _ => op_gt) (ok_rI0 fun _ _ _ => .bl _) (cv 4) (ci)))))))) (c_tup (ca_cons (cv 3) (ca_cons (cv 4) (ca_nil)))) (c_tup (ca_cons (c_neg (cv 3)) (ca_cons (c_neg (cv 4)) (ca_nil)))))) (s_nil)))
theorem b_power_told {P : Program} {w : World} {K : PySem.W.Frag} {mg : Str → Option Value} {base : Heap} {C : Cfg} (T : Tp K mg base C) (h_point_of_line : Ca P w K mg base 2 "point_of_line" (spP K C sd_point_of_line)) (h_power_in : Ca P w K mg base 3 "power_in" (spP K C sd_power_in)) (h_line_in : Ca P w K mg base 1 "line_in" (spP K C sd_line_in)) (h_first_index : Ca P w K mg base 1 "first_index" (spP K C sd_first_index)) : BodyOk P w K mg base 3 C "power_told" K9.s_power_told ["entries", "degree", "first", "point", "line", "at"] none r_power_told := fun f cdv A outer s H E hc m =>
  s_cons (s_par m 1 2 (ca_cons (c_sub (c_len m T.len (cv 0)) (ci)) (ca_cons (c_ixT m (cv 0) (ci)) (ca_nil)))) (s_cons (s_set m 3 (c_if (ct_cmp (fun _ => op_eq) ok_eqI (cv 2) (ci)) (c_tup (ca_cons (ci) (ca_cons (ci) (ca_nil)))) (c_call m h_point_of_line (by decide) (ca_cons (c_mul (cv 1) (cv 2)) (ca_cons (c_ixT m (cv 0) (ci)) (ca_nil)))))) (s_cons (s_set m 4 (c_call m h_power_in (by decide) (ca_cons (c_call m h_line_in (by decide) (ca_cons (cv 3) (ca_nil))) (ca_cons (cv 1) (ca_nil))))) (s_cons (s_set m 5 (c_call m h_first_index (by decide) (ca_cons (cv 4) (ca_nil)))) (s_cons (s_ret (c_tup (ca_cons (c_div (c_ixT m (cv 0) (cv 5)) (c_ixT m (cv 4) (cv 5))) (ca_cons (cv 3) (ca_nil))))) (s_nil)))))
theorem b_is_power_in {P : Program} {w : World} {K : PySem.W.Frag} {mg : Str → Option Value} {base : Heap} {C : Cfg} (T : Tp K mg base C) (h_is_zero_in : Ca P w K mg base 1 "is_zero_in" (spP K C sd_is_zero_in)) (h_laid_in : Ca P w K mg base 3 "laid_in" (spP K C sd_laid_in)) : BodyOk P w K mg base 3 C "is_power_in" K9.s_is_power_in ["entries"] none r_is_power_in := fun f cdv A outer s H E hc m =>
  s_cons (s_ret (c_or (c_cmp (fun _ => op_lt) (ok_rI0 fun _ _ _ => .bl _) (c_len m T.len (cv 0)) (ci)) (c_one (c_call m h_is_zero_in (by decide) (ca_cons (c_call m h_laid_in (by decide) (ca_cons (cv 0) (ca_cons (cv 0) (ca_cons (ci) (ca_nil))))) (ca_nil)))))) (s_nil)
theorem b_entry_paper {P : Program} {w : World} {K : PySem.W.Frag} {mg : Str → Option Value} {base : Heap} {C : Cfg} (T : Tp K mg base C) (h_laid_in : Ca P w K mg base 3 "laid_in" (spP K C sd_laid_in)) (h_first_index : Ca P w K mg base 1 "first_index" (spP K C sd_first_index)) : BodyOk P w K mg base 3 C "entry_paper" K9.s_entry_paper ["entries", "times", "told", "at"] none r_entry_paper := fun f cdv A outer s H E hc m =>
  s_cons (s_set m 2 (c_call m h_laid_in (by decide) (ca_cons (cv 0) (ca_cons (cv 0) (ca_cons (cv 1) (ca_nil)))))) (s_cons (s_set m 3 (c_call m h_first_index (by decide) (ca_cons (cv 2) (ca_nil)))) (s_cons (s_ret (c_tup (ca_cons (cgs m T.ENTRY) (ca_cons (cv 3) (ca_cons (c_ixT m (cv 2) (cv 3)) (ca_nil)))))) (s_nil)))
theorem b_times_power {P : Program} {w : World} {K : PySem.W.Frag} {mg : Str → Option Value} {base : Heap} {C : Cfg} (T : Tp K mg base C) (h_power_in : Ca P w K mg base 3 "power_in" (spP K C sd_power_in)) (h_line_in : Ca P w K mg base 1 "line_in" (spP K C sd_line_in)) : BodyOk P w K mg base 3 C "times_power" K9.s_times_power ["number", "point", "degree", "entry"] none r_times_power := fun f cdv A outer s H E hc m =>
  s_cons (s_ret (c_tuple m T.tuple (c_ofL (cl_lc [(("entry" : Str), 3)] m (i_tup m (c_call m h_power_in (by decide) (ca_cons (c_call m h_line_in (by decide) (ca_cons (cv 1) (ca_nil))) (ca_cons (cv 2) (ca_nil))))) (g1 (m.blk _) 3) (cts_nil) (c_mul (cv 0) (cv 3)))))) (s_nil)
theorem b_is_entry_of {P : Program} {w : World} {K : PySem.W.Frag} {mg : Str → Option Value} {base : Heap} {C : Cfg} (T : Tp K mg base C) (h_laid_in : Ca P w K mg base 3 "laid_in" (spP K C sd_laid_in)) (h_is_from : Ca P w K mg base 2 "is_from" (spP K C sd_is_from)) (h_is_whole : Ca P w K mg base 1 "is_whole" (spP K C sd_is_whole)) : BodyOk P w K mg base 3 C "is_entry_of" K9.s_is_entry_of ["entries", "times", "value", "index", "entry", "told"] none r_is_entry_of := fun f cdv A outer s H E hc m =>
  s_cons (s_asg2 3 4 (cv 2) (g2 m 3 4 (g1 m 3) (g1 m 4))) (s_cons (s_set m 5 (c_call m h_laid_in (by decide) (ca_cons (cv 0) (ca_cons (cv 0) (ca_cons (cv 1) (ca_nil)))))) (s_cons (s_ret (c_and (c_call m h_is_from (by decide) (ca_cons (cv 3) (ca_cons (ci) (ca_cons (c_sub (c_len m T.len (cv 5)) (ci)) (ca_nil))))) (c_and (c_call m h_is_whole (by decide) (ca_cons (cv 4) (ca_nil))) (c_and (c_cmp (fun _ => op_ne) ok_neI (cv 4) (ci)) (c_one (c_cmp (fun _ => op_eq) ok_eqI (c_ixT m (cv 5) (cv 3)) (cv 4))))))) (s_nil)))
theorem b_paper_word {P : Program} {w : World} {K : PySem.W.Frag} {mg : Str → Option Value} {base : Heap} {C : Cfg} (T : Tp K mg base C)  : BodyOk P w K mg base 0 C "paper_word" K9.s_paper_word ["value"] none r_paper_word := fun f cdv A outer s H E hc m =>
  s_cons (s_ret (c_if (ct_w (cw_and (ct_val (c_isi m T.isinstance T.tuple k_isTup (cv 0))) (cw_and (ct_cmp (h_neD m) ok_neD (cv 0) (c_tup (ca_nil))) (cw_and1 (ct_val (c_isi m T.isinstance T.str k_isStr (c_ixT m (cv 0) (ci)))))))) (c_ixT m (cv 0) (ci)) (cs))) (s_nil)
theorem b_power_paper {P : Program} {w : World} {K : PySem.W.Frag} {mg : Str → Option Value} {base : Heap} {C : Cfg} (T : Tp K mg base C) (h_require_form : Ca P w K mg base 7 "require_form" (spP K C sd_require_form)) (h_is_power_in : Ca P w K mg base 4 "is_power_in" (spP K C sd_is_power_in)) (h_entry_paper : Ca P w K mg base 4 "entry_paper" (spP K C sd_entry_paper)) (h_power_told : Ca P w K mg base 4 "power_told" (spP K C sd_power_told)) (h_entries : Pr1 P w K mg base C 1 "entries" sd_entries) (h_degree : Pr1 P w K mg base C 1 "degree" sd_degree) (h_is_zero : Pr1 P w K mg base C 2 "is_zero" sd_is_zero) : BodyOk P w K mg base 7 C "power_paper" K9.s_power_paper ["form", "entries"] none r_power_paper := fun f cdv A outer s H E hc m =>
  s_cons (s_expr (c_call m h_require_form (by decide) (ca_cons (cv 0) (ca_nil)))) (s_cons (s_set m 1 (c_prop m h_entries (by decide) (cv 0))) (s_cons (s_if (ct_not (ct_val (c_call m h_is_power_in (by decide) (ca_cons (cv 1) (ca_nil))))) (s_cons (s_ret (c_call m h_entry_paper (by decide) (ca_cons (cv 1) (ca_cons (ci) (ca_nil))))) (s_nil)) (s_nil)) (s_cons (s_if (ct_w (cw_or (ct_cmp (fun _ => op_eq) ok_eqI (c_prop m h_degree (by decide) (cv 0)) (ci)) (cw_or1 (ct_val (c_prop m h_is_zero (by decide) (cv 0)))))) (s_cons (s_ret (c_tup (ca_cons (cgs m T.POWER) (ca_cons (c_ixT m (cv 1) (ci)) (ca_cons (c_tup (ca_cons (ci) (ca_cons (ci) (ca_nil)))) (ca_nil)))))) (s_nil)) (s_nil)) (s_cons (s_ret (c_tup (ca_cons (cgs m T.POWER) (ca_star m (c_call m h_power_told (by decide) (ca_cons (cv 1) (ca_nil))) (ca_nil))))) (s_nil)))))
theorem b_is_told_power {P : Program} {w : World} {K : PySem.W.Frag} {mg : Str → Option Value} {base : Heap} {C : Cfg} (T : Tp K mg base C) (h_is_whole : Ca P w K mg base 1 "is_whole" (spP K C sd_is_whole)) (h_is_point_any : Ca P w K mg base 3 "is_point_any" (spP K C sd_is_point_any)) (h_times_power : Ca P w K mg base 4 "times_power" (spP K C sd_times_power)) : BodyOk P w K mg base 4 C "is_told_power" K9.s_is_told_power ["entries", "value"] none r_is_told_power := fun f cdv A outer s H E hc m =>
  s_cons (s_if (ct_w (cw_or (ct_cmp (fun _ => op_ne) ok_neI (c_len m T.len (cv 1)) (cgi m T.SHORT_PAPER)) (cw_or (ct_not (ct_val (c_call m h_is_whole (by decide) (ca_cons (c_ixT m (cv 1) (ci)) (ca_nil))))) (cw_or1 (ct_not (ct_val (c_call m h_is_point_any (by decide) (ca_cons (c_ixT m (cv 1) (ci)) (ca_nil))))))))) (s_cons (s_ret (cb)) (s_nil)) (s_nil)) (s_cons (s_ret (c_cmp (h_eqD m) ok_eqD (c_call m h_times_power (by decide) (ca_cons (c_ixT m (cv 1) (ci)) (ca_cons (c_ixT m (cv 1) (ci)) (ca_cons (c_sub (c_len m T.len (cv 0)) (ci)) (ca_nil))))) (cv 0))) (s_nil))
theorem b_is_power_paper {P : Program} {w : World} {K : PySem.W.Frag} {mg : Str → Option Value} {base : Heap} {C : Cfg} (T : Tp K mg base C) (h_require_form : Ca P w K mg base 7 "require_form" (spP K C sd_require_form)) (h_paper_word : Ca P w K mg base 1 "paper_word" (spP K C sd_paper_word)) (h_is_told_power : Ca P w K mg base 5 "is_told_power" (spP K C sd_is_told_power)) (h_is_entry_of : Ca P w K mg base 4 "is_entry_of" (spP K C sd_is_entry_of)) (h_entries : Pr1 P w K mg base C 1 "entries" sd_entries) (h_degree : Pr1 P w K mg base C 1 "degree" sd_degree) : BodyOk P w K mg base 7 C "is_power_paper" K9.s_is_power_paper ["form", "value", "word"] none r_is_power_paper := fun f cdv A outer s H E hc m =>
  s_cons (s_expr (c_call m h_require_form (by decide) (ca_cons (cv 0) (ca_nil)))) (s_cons (s_set m 2 (c_call m h_paper_word (by decide) (ca_cons (cv 1) (ca_nil)))) (s_cons (s_if (ct_cmp (fun _ => op_eq) ok_eqS (cv 2) (cgs m T.POWER)) (s_cons (s_ret (c_call m h_is_told_power (by decide) (ca_cons (c_prop m h_entries (by decide) (cv 0)) (ca_cons (cv 1) (ca_nil))))) (s_nil)) (s_nil)) (s_cons (s_if (ct_w (cw_or (ct_cmp (fun _ => op_ne) ok_neS (cv 2) (cgs m T.ENTRY)) (cw_or (ct_cmp (fun _ => op_ne) ok_neI (c_len m T.len (cv 1)) (cgi m T.SHORT_PAPER)) (cw_or1 (ct_cmp (fun _ => op_lt) (ok_rI0 fun _ _ _ => .bl _) (c_prop m h_degree (by decide) (cv 0)) (ci)))))) (s_cons (s_ret (cb)) (s_nil)) (s_nil)) (s_cons (s_ret (c_call m h_is_entry_of (by decide) (ca_cons (c_prop m h_entries (by decide) (cv 0)) (ca_cons (ci) (ca_cons (c_slT m (cv 1) (co_some (ci)) (co_none)) (ca_nil)))))) (s_nil)))))
theorem b__law_dice {P : Program} {w : World} {K : PySem.W.Frag} {mg : Str → Option Value} {base : Heap} {C : Cfg} (T : Tp K mg base C)  : BodyOkN P w K mg base 0 C "_law_dice" K9.s__law_dice ["_law_script", "_law_spot", "_law_cell", "_law_left"] r__law_dice := fun f cdv A outer s H E hc m =>
  n_cons (s_set m 2 (c_if (ct_cmp (fun _ => op_lt) (ok_rI0 fun _ _ _ => .bl _) (cv 1) (c_len m T.len (cv 0))) (c_t1 m (fun _ => call_int1) (ok_int rfl) T.int (c_ixC m (cv 0) (cv 1))) (c_add (c_mul (ci) (cv 1)) (ci)))) (n_cons (s_set m 3 (c_mod (c_b2 m (fun i => call_max2 (m.calm i)) (ok_two rfl) T.max (ci) (c_sub (c_b1 m (fun _ => call_abs) (ok_abs rfl) T.abs (cv 2)) (c_pow (ci) (ci)))) (c_mul (c_pow (ci) (ci)) (c_pow (ci) (ci))))) (n_ret (cl_lst (ca_cons (cv 3) (ca_cons (c_add (c_add (c_add (c_mul (c_mod (c_b1 m (fun _ => call_abs) (ok_abs rfl) T.abs (cv 2)) (ci)) (ci)) (c_mul (ci) (cv 1))) (c_mul (ci) (c_t1 m (fun _ => call_int1) (ok_int rfl) T.int (c_cmp (fun _ => op_lt) (ok_rI0 fun _ _ _ => .bl _) (cv 2) (ci))))) (ci)) (ca_cons (ci) (ca_nil)))))))
theorem b__law_roll {P : Program} {w : World} {K : PySem.W.Frag} {mg : Str → Option Value} {base : Heap} {C : Cfg} (T : Tp K mg base C)  : BodyOk P w K mg base 0 C "_law_roll" K9.s__law_roll ["_law_dice_here", "_law_total", "_law_found", "_law_one", "_law_two"] (some 0) r__law_roll := fun f cdv A outer s H E hc m =>
  s_cons (s_if (ct_cmp (fun _ => op_gt) (ok_rI0 fun _ _ _ => .bl _) (c_ixB m (ci)) (ci)) (s_cons (s_set m 2 (c_mod (c_t1 m (fun _ => call_int1) (ok_int rfl) T.int (c_ixB m (ci))) (cv 1))) (s_cons (s_setB (ci) (c_div (c_ixB m (ci)) (cv 1))) (s_cons (s_ret (cv 2)) (s_nil)))) (s_nil)) (s_cons (s_setB (ci) (c_add (c_ixB m (ci)) (ci))) (s_cons (s_set m 3 (c_mod (c_t1 m (fun _ => call_int1) (ok_int rfl) T.int (c_add (c_ixB m (ci)) (c_mul (ci) (c_ixB m (ci))))) (ci))) (s_cons (s_set m 4 (c_add (c_mul (c_mod (c_t1 m (fun _ => call_int1) (ok_int rfl) T.int (c_add (c_mul (cv 3) (cv 3)) (c_mul (ci) (c_ixB m (ci))))) (ci)) (ci)) (cv 3))) (s_cons (s_ret (c_mod (c_t1 m (fun _ => call_int1) (ok_int rfl) T.int (c_div (cv 4) (ci))) (cv 1))) (s_nil)))))
theorem b__law_pick {P : Program} {w : World} {K : PySem.W.Frag} {mg : Str → Option Value} {base : Heap} {C : Cfg} (T : Tp K mg base C) (h__law_roll : Ca P w K mg base 1 "_law_roll" (spB K C sd__law_roll)) : BodyOk P w K mg base 1 C "_law_pick" K9.s__law_pick ["_law_dice_here", "_law_items"] (some 0) r__law_pick := fun f cdv A outer s H E hc m =>
  s_cons (s_ret (c_ixL m (cv 1) (c_callB m h__law_roll (by decide) (ca_cons (c_len m T.len (cv 1)) (ca_nil))))) (s_nil)
theorem b__law_near {P : Program} {w : World} {K : PySem.W.Frag} {mg : Str → Option Value} {base : Heap} {C : Cfg} (T : Tp K mg base C) (h__law_roll : Ca P w K mg base 1 "_law_roll" (spB K C sd__law_roll)) : BodyOk P w K mg base 1 C "_law_near" K9.s__law_near ["_law_dice_here", "_law_most"] (some 0) r__law_near := fun f cdv A outer s H E hc m =>
  s_cons (s_ret (c_sub (c_callB m h__law_roll (by decide) (ca_cons (c_add (c_mul (ci) (cv 1)) (ci)) (ca_nil))) (cv 1))) (s_nil)
theorem b__law_gcd {P : Program} {w : World} {K : PySem.W.Frag} {mg : Str → Option Value} {base : Heap} {C : Cfg} (T : Tp K mg base C)  : BodyOk P w K mg base 0 C "_law_gcd" K9.s__law_gcd ["_law_one", "_law_other"] none r__law_gcd := fun f cdv A outer s H E hc m =>
  s_cons (s_par m 0 1 (ca_cons (c_b1 m (fun _ => call_abs) (ok_abs rfl) T.abs (cv 0)) (ca_cons (c_b1 m (fun _ => call_abs) (ok_abs rfl) T.abs (cv 1)) (ca_nil)))) (s_cons (s_while (ct_cmp (fun _ => op_gt) (ok_rI0 fun _ _ _ => .bl _) (cv 1) (ci)) (s_cons (s_par m 0 1 (ca_cons (cv 1) (ca_cons (c_mod (c_t1 m (fun _ => call_int1) (ok_int rfl) T.int (cv 0)) (cv 1)) (ca_nil)))) (s_nil))) (s_cons (s_ret (cv 0)) (s_nil)))
theorem b__law_shared {P : Program} {w : World} {K : PySem.W.Frag} {mg : Str → Option Value} {base : Heap} {C : Cfg} (T : Tp K mg base C) (h__law_gcd : Ca P w K mg base 1 "_law_gcd" (spP K C sd__law_gcd)) : BodyOk P w K mg base 1 C "_law_shared" K9.s__law_shared ["_law_numbers", "_law_found", "_law_number"] none r__law_shared := fun f cdv A outer s H E hc m =>
  s_cons (s_set m 1 (ci)) (s_cons (s_for m (i_tup m (cv 0)) (g1 m 2) (s_cons (s_set m 1 (c_call m h__law_gcd (by decide) (ca_cons (cv 1) (ca_cons (cv 2) (ca_nil))))) (s_nil))) (s_cons (s_ret (cv 1)) (s_nil)))
theorem b__law_choose {P : Program} {w : World} {K : PySem.W.Frag} {mg : Str → Option Value} {base : Heap} {C : Cfg} (T : Tp K mg base C)  : BodyOk P w K mg base 0 C "_law_choose" K9.s__law_choose ["_law_many", "_law_few", "_law_found", "_law_at"] none r__law_choose := fun f cdv A outer s H E hc m =>
  s_cons (s_set m 2 (ci)) (s_cons (s_for m (i_rng m T.range (cv 1)) (g1 m 3) (s_cons (s_set m 2 (c_div (c_mul (cv 2) (c_sub (cv 0) (cv 3))) (c_add (cv 3) (ci)))) (s_nil))) (s_cons (s_ret (cv 2)) (s_nil)))
theorem b__law_plus {P : Program} {w : World} {K : PySem.W.Frag} {mg : Str → Option Value} {base : Heap} {C : Cfg} (T : Tp K mg base C)  : BodyOk P w K mg base 0 C "_law_plus" K9.s__law_plus ["_law_one", "_law_other", "_law_first", "_law_second"] none r__law_plus := fun f cdv A outer s H E hc m =>
  s_cons (s_ret (c_tuple m T.tuple (c_ofL (cl_lc [(("_law_first" : Str), 2), (("_law_second" : Str), 3)] m (i_zipT m T.zip (cv 0) (cv 1)) (g2 (m.blk _) 2 3 (g1 (m.blk _) 2) (g1 (m.blk _) 3)) (cts_nil) (c_add (cv 2) (cv 3)))))) (s_nil)
theorem b__law_scaled {P : Program} {w : World} {K : PySem.W.Frag} {mg : Str → Option Value} {base : Heap} {C : Cfg} (T : Tp K mg base C)  : BodyOk P w K mg base 0 C "_law_scaled" K9.s__law_scaled ["_law_form_here", "_law_factor", "_law_entry"] none r__law_scaled := fun f cdv A outer s H E hc m =>
  s_cons (s_ret (c_tuple m T.tuple (c_ofL (cl_lc [(("_law_entry" : Str), 2)] m (i_tup m (cv 0)) (g1 (m.blk _) 2) (cts_nil) (c_mul (cv 1) (cv 2)))))) (s_nil)
theorem b__law_product {P : Program} {w : World} {K : PySem.W.Frag} {mg : Str → Option Value} {base : Heap} {C : Cfg} (T : Tp K mg base C)  : BodyOk P w K mg base 0 C "_law_product" K9.s__law_product ["_law_one", "_law_other", "_law_found", "_law_place", "_law_at", "_law_first", "_law_second"] none r__law_product := fun f cdv A outer s H E hc m =>
  s_boxLc [(("_law_place" : Str), 3)] m 2 (i_rng m T.range (c_sub (c_add (c_len m T.len (cv 0)) (c_len m T.len (cv 1))) (ci))) (g1 (m.blk _) 3) (cts_nil) (ci) (s_cons (s_for m (i_enmT m T.enumerate (cv 0)) (g2 m 4 5 (g1 m 4) (g1 m 5)) (s_cons (s_for m (i_enmT m T.enumerate (cv 1)) (g2 m 3 6 (g1 m 3) (g1 m 6)) (s_cons (s_setB (c_add (cv 4) (cv 3)) (c_add (c_ixB m (c_add (cv 4) (cv 3))) (c_mul (cv 5) (cv 6)))) (s_nil))) (s_nil))) (s_cons (s_ret (c_tupB m T.tuple)) (s_nil)))
theorem b__law_all_product {P : Program} {w : World} {K : PySem.W.Frag} {mg : Str → Option Value} {base : Heap} {C : Cfg} (T : Tp K mg base C) (h__law_product : Ca P w K mg base 1 "_law_product" (spP K C sd__law_product)) : BodyOk P w K mg base 1 C "_law_all_product" K9.s__law_all_product ["_law_forms", "_law_found", "_law_form_here"] none r__law_all_product := fun f cdv A outer s H E hc m =>
  s_cons (s_set m 1 (c_tup (ca_cons (ci) (ca_nil)))) (s_cons (s_for m (i_lst m (cv 0)) (g1 m 2) (s_cons (s_set m 1 (c_call m h__law_product (by decide) (ca_cons (cv 1) (ca_cons (cv 2) (ca_nil))))) (s_nil))) (s_cons (s_ret (cv 1)) (s_nil)))
theorem b__law_power {P : Program} {w : World} {K : PySem.W.Frag} {mg : Str → Option Value} {base : Heap} {C : Cfg} (T : Tp K mg base C) (h__law_product : Ca P w K mg base 1 "_law_product" (spP K C sd__law_product)) : BodyOk P w K mg base 1 C "_law_power" K9.s__law_power ["_law_pair", "_law_times", "_law_found", "_law_turn"] none r__law_power := fun f cdv A outer s H E hc m =>
  s_cons (s_set m 2 (c_tup (ca_cons (ci) (ca_nil)))) (s_cons (s_for m (i_rng m T.range (cv 1)) (g1 m 3) (s_cons (s_set m 2 (c_call m h__law_product (by decide) (ca_cons (cv 2) (ca_cons (cv 0) (ca_nil))))) (s_nil))) (s_cons (s_ret (cv 2)) (s_nil)))
theorem b__law_by_x {P : Program} {w : World} {K : PySem.W.Frag} {mg : Str → Option Value} {base : Heap} {C : Cfg} (T : Tp K mg base C)  : BodyOk P w K mg base 0 C "_law_by_x" K9.s__law_by_x ["_law_form_here", "_law_at", "_law_entry"] none r__law_by_x := fun f cdv A outer s H E hc m =>
  s_cons (s_ret (c_tuple m T.tuple (c_ofL (cl_lc [(("_law_at" : Str), 1), (("_law_entry" : Str), 2)] m (i_enmT m T.enumerate (c_slT m (cv 0) (co_none) (co_some (c_neg (ci))))) (g2 (m.blk _) 1 2 (g1 (m.blk _) 1) (g1 (m.blk _) 2)) (cts_nil) (c_mul (cv 2) (c_sub (c_sub (c_len (m.blk _) T.len (cv 0)) (ci)) (cv 1))))))) (s_nil)
theorem b__law_by_y {P : Program} {w : World} {K : PySem.W.Frag} {mg : Str → Option Value} {base : Heap} {C : Cfg} (T : Tp K mg base C)  : BodyOk P w K mg base 0 C "_law_by_y" K9.s__law_by_y ["_law_form_here", "_law_at", "_law_entry"] none r__law_by_y := fun f cdv A outer s H E hc m =>
  s_cons (s_ret (c_tuple m T.tuple (c_ofL (cl_lc [(("_law_at" : Str), 1), (("_law_entry" : Str), 2)] m (i_enmT m T.enumerate (c_slT m (cv 0) (co_some (ci)) (co_none))) (g2 (m.blk _) 1 2 (g1 (m.blk _) 1) (g1 (m.blk _) 2)) (cts_nil) (c_mul (cv 2) (c_add (cv 1) (ci))))))) (s_nil)
theorem b__law_derived {P : Program} {w : World} {K : PySem.W.Frag} {mg : Str → Option Value} {base : Heap} {C : Cfg} (T : Tp K mg base C) (h__law_by_x : Ca P w K mg base 1 "_law_by_x" (spP K C sd__law_by_x)) (h__law_by_y : Ca P w K mg base 1 "_law_by_y" (spP K C sd__law_by_y)) : BodyOk P w K mg base 1 C "_law_derived" K9.s__law_derived ["_law_form_here", "_law_one", "_law_other", "_law_turn"] none r__law_derived := fun f cdv A outer s H E hc m =>
  s_cons (s_for m (i_rng m T.range (cv 1)) (g1 m 3) (s_cons (s_set m 0 (c_call m h__law_by_x (by decide) (ca_cons (cv 0) (ca_nil)))) (s_nil))) (s_cons (s_for m (i_rng m T.range (cv 2)) (g1 m 3) (s_cons (s_set m 0 (c_call m h__law_by_y (by decide) (ca_cons (cv 0) (ca_nil)))) (s_nil))) (s_cons (s_ret (cv 0)) (s_nil)))
theorem b__law_laid {P : Program} {w : World} {K : PySem.W.Frag} {mg : Str → Option Value} {base : Heap} {C : Cfg} (T : Tp K mg base C) (h__law_product : Ca P w K mg base 1 "_law_product" (spP K C sd__law_product)) (h__law_derived : Ca P w K mg base 2 "_law_derived" (spP K C sd__law_derived)) (h__law_choose : Ca P w K mg base 1 "_law_choose" (spP K C sd__law_choose)) (h__law_plus : Ca P w K mg base 1 "_law_plus" (spP K C sd__law_plus)) (h__law_scaled : Ca P w K mg base 1 "_law_scaled" (spP K C sd__law_scaled)) : BodyOk P w K mg base 2 C "_law_laid" K9.s__law_laid ["_law_one", "_law_other", "_law_times", "_law_found", "_law_place", "_law_at", "_law_piece", "_law_number"] none r__law_laid := fun f cdv A outer s H E hc m =>
  s_cons (s_set m 3 (c_tuple m T.tuple (c_ofL (cl_lc [(("_law_place" : Str), 4)] m (i_rng m T.range (c_sub (c_sub (c_add (c_len m T.len (cv 0)) (c_len m T.len (cv 1))) (ci)) (c_mul (ci) (cv 2)))) (g1 (m.blk _) 4) (cts_nil) (ci))))) (s_cons (s_for m (i_rng m T.range (c_add (cv 2) (ci))) (g1 m 5) (s_cons (s_set m 6 (c_call m h__law_product (by decide) (ca_cons (c_call m h__law_derived (by decide) (ca_cons (cv 0) (ca_cons (c_sub (cv 2) (cv 5)) (ca_cons (cv 5) (ca_nil))))) (ca_cons (c_call m h__law_derived (by decide) (ca_cons (cv 1) (ca_cons (cv 5) (ca_cons (c_sub (cv 2) (cv 5)) (ca_nil))))) (ca_nil))))) (s_cons (s_set m 7 (c_call m h__law_choose (by decide) (ca_cons (cv 2) (ca_cons (cv 5) (ca_nil))))) (s_cons (s_set m 3 (c_call m h__law_plus (by decide) (ca_cons (cv 3) (ca_cons (c_call m h__law_scaled (by decide) (ca_cons (cv 6) (ca_cons (c_if (ct_cmp (fun _ => op_eq) ok_eqI (c_mod (cv 5) (ci)) (ci)) (cv 7) (c_sub (ci) (cv 7))) (ca_nil)))) (ca_nil))))) (s_nil))))) (s_cons (s_ret (cv 3)) (s_nil)))
theorem b__law_plain {P : Program} {w : World} {K : PySem.W.Frag} {mg : Str → Option Value} {base : Heap} {C : Cfg} (T : Tp K mg base C) (h__law_shared : Ca P w K mg base 2 "_law_shared" (spP K C sd__law_shared)) : BodyOk P w K mg base 2 C "_law_plain" K9.s__law_plain ["_law_form_here", "_law_part", "_law_first", "_law_entry"] none r__law_plain := fun f cdv A outer s H E hc m =>
  s_cons (s_set m 1 (c_call m h__law_shared (by decide) (ca_cons (cv 0) (ca_nil)))) (s_cons (s_if (ct_cmp (fun _ => op_eq) ok_eqI (cv 1) (ci)) (s_cons (s_ret (cv 0)) (s_nil)) (s_nil)) (s_cons (s_set m 2 (c_ixL m (c_ofL (cl_lc [(("_law_entry" : Str), 3)] m (i_tup m (cv 0)) (g1 (m.blk _) 3) (cts_one (ct_cmp (fun _ => op_ne) ok_neI (cv 3) (ci))) (cv 3))) (ci))) (s_cons (s_ret (c_tuple m T.tuple (c_ofL (cl_lc [(("_law_entry" : Str), 3)] m (i_tup m (cv 0)) (g1 (m.blk _) 3) (cts_nil) (c_div (cv 3) (c_if (ct_cmp (fun _ => op_gt) (ok_rI0 fun _ _ _ => .bl _) (cv 2) (ci)) (cv 1) (c_sub (ci) (cv 1)))))))) (s_nil))))
theorem b__law_line {P : Program} {w : World} {K : PySem.W.Frag} {mg : Str → Option Value} {base : Heap} {C : Cfg} (T : Tp K mg base C)  : BodyOk P w K mg base 0 C "_law_line" K9.s__law_line ["_law_point_here"] none r__law_line := fun f cdv A outer s H E hc m =>
  s_cons (s_ret (c_tup (ca_cons (c_ixT m (cv 0) (ci)) (ca_cons (c_sub (ci) (c_ixT m (cv 0) (ci))) (ca_nil))))) (s_nil)
theorem b__law_point {P : Program} {w : World} {K : PySem.W.Frag} {mg : Str → Option Value} {base : Heap} {C : Cfg} (T : Tp K mg base C) (h__law_near : Ca P w K mg base 2 "_law_near" (spB K C sd__law_near)) (h__law_plain : Ca P w K mg base 3 "_law_plain" (spP K C sd__law_plain)) : BodyOk P w K mg base 3 C "_law_point" K9.s__law_point ["_law_dice_here", "_law_most", "_law_one", "_law_other"] (some 0) r__law_point := fun f cdv A outer s H E hc m =>
  s_cons (s_par m 2 3 (ca_cons (c_callB m h__law_near (by decide) (ca_cons (cv 1) (ca_nil))) (ca_cons (c_callB m h__law_near (by decide) (ca_cons (cv 1) (ca_nil))) (ca_nil)))) (s_cons (s_ret (c_if (ct_cmp (h_neD m) ok_neD (c_tup (ca_cons (cv 2) (ca_cons (cv 3) (ca_nil)))) (c_tup (ca_cons (ci) (ca_cons (ci) (ca_nil))))) (c_call m h__law_plain (by decide) (ca_cons (c_tup (ca_cons (cv 2) (ca_cons (cv 3) (ca_nil)))) (ca_nil))) (c_tup (ca_cons (ci) (ca_cons (ci) (ca_nil)))))) (s_nil))
theorem b__law_small_form {P : Program} {w : World} {K : PySem.W.Frag} {mg : Str → Option Value} {base : Heap} {C : Cfg} (T : Tp K mg base C) (h__law_near : Ca P w K mg base 2 "_law_near" (spB K C sd__law_near)) : BodyOk P w K mg base 2 C "_law_small_form" K9.s__law_small_form ["_law_dice_here", "_law_degree", "_law_most", "_law_place"] (some 0) r__law_small_form := fun f cdv A outer s H E hc m =>
  s_cons (s_ret (c_tuple m T.tuple (c_ofL (cl_lc [(("_law_place" : Str), 3)] m (i_rng m T.range (c_add (cv 1) (ci))) (g1 (m.blk _) 3) (cts_nil) (c_callB (m.blk _) h__law_near (by decide) (ca_cons (cv 2) (ca_nil))))))) (s_nil)
theorem b__law_form {P : Program} {w : World} {K : PySem.W.Frag} {mg : Str → Option Value} {base : Heap} {C : Cfg} (T : Tp K mg base C) (h__law_roll : Ca P w K mg base 1 "_law_roll" (spB K C sd__law_roll)) (h__law_all_product : Ca P w K mg base 2 "_law_all_product" (spP K C sd__law_all_product)) (h__law_line : Ca P w K mg base 1 "_law_line" (spP K C sd__law_line)) (h__law_point : Ca P w K mg base 4 "_law_point" (spB K C sd__law_point)) (h__law_product : Ca P w K mg base 1 "_law_product" (spP K C sd__law_product)) (h__law_small_form : Ca P w K mg base 3 "_law_small_form" (spB K C sd__law_small_form)) (h__law_power : Ca P w K mg base 2 "_law_power" (spP K C sd__law_power)) (h__law_plus : Ca P w K mg base 1 "_law_plus" (spP K C sd__law_plus)) (h__law_scaled : Ca P w K mg base 1 "_law_scaled" (spP K C sd__law_scaled)) (h__law_near : Ca P w K mg base 2 "_law_near" (spB K C sd__law_near)) : BodyOk P w K mg base 4 C "_law_form" K9.s__law_form ["_law_dice_here", "_law_degree", "_law_way", "_law_turn", "_law_line_here", "_law_often", "_law_found", "_law_place"] (some 0) r__law_form := fun f cdv A outer s H E hc m =>
  s_cons (s_set m 2 (c_callB m h__law_roll (by decide) (ca_cons (ci) (ca_nil)))) (s_cons (s_if (ct_cmp (fun _ => op_eq) ok_eqI (cv 2) (ci)) (s_cons (s_ret (c_call m h__law_all_product (by decide) (ca_cons (c_ofL (cl_lc [(("_law_turn" : Str), 3)] m (i_rng m T.range (cv 1)) (g1 (m.blk _) 3) (cts_nil) (c_call (m.blk _) h__law_line (by decide) (ca_cons (c_callB (m.blk _) h__law_point (by decide) (ca_cons (ci) (ca_nil))) (ca_nil))))) (ca_nil)))) (s_nil)) (s_nil)) (s_cons (s_if (ct_cmp (fun _ => op_eq) ok_eqI (cv 2) (ci)) (s_cons (s_par m 4 5 (ca_cons (c_call m h__law_line (by decide) (ca_cons (c_callB m h__law_point (by decide) (ca_cons (ci) (ca_nil))) (ca_nil))) (ca_cons (c_callB m h__law_roll (by decide) (ca_cons (c_add (cv 1) (ci)) (ca_nil))) (ca_nil)))) (s_cons (s_ret (c_call m h__law_product (by decide) (ca_cons (c_call m h__law_power (by decide) (ca_cons (cv 4) (ca_cons (cv 5) (ca_nil)))) (ca_cons (c_callB m h__law_small_form (by decide) (ca_cons (c_sub (cv 1) (cv 5)) (ca_cons (ci) (ca_nil)))) (ca_nil))))) (s_nil))) (s_nil)) (s_cons (s_if (ct_cmp (fun _ => op_eq) ok_eqI (cv 2) (ci)) (s_cons (s_set m 6 (c_tuple m T.tuple (c_ofL (cl_lc [(("_law_place" : Str), 7)] m (i_rng m T.range (c_add (cv 1) (ci))) (g1 (m.blk _) 7) (cts_nil) (ci))))) (s_cons (s_for m (i_rng m T.range (c_add (ci) (c_callB m h__law_roll (by decide) (ca_cons (ci) (ca_nil))))) (g1 m 3) (s_cons (s_set m 6 (c_call m h__law_plus (by decide) (ca_cons (cv 6) (ca_cons (c_call m h__law_scaled (by decide) (ca_cons (c_call m h__law_power (by decide) (ca_cons (c_callB m h__law_point (by decide) (ca_cons (ci) (ca_nil))) (ca_cons (cv 1) (ca_nil)))) (ca_cons (c_callB m h__law_near (by decide) (ca_cons (ci) (ca_nil))) (ca_nil)))) (ca_nil))))) (s_nil))) (s_cons (s_ret (cv 6)) (s_nil)))) (s_nil)) (s_cons (s_if (ct_cmp (fun _ => op_eq) ok_eqI (cv 2) (ci)) (s_cons (s_ret (c_tuple m T.tuple (c_ofL (cl_lc [(("_law_place" : Str), 7)] m (i_rng m T.range (c_add (cv 1) (ci))) (g1 (m.blk _) 7) (cts_nil) (c_mul (c_callB (m.blk _) h__law_near (by decide) (ca_cons (ci) (ca_nil))) (c_callB (m.blk _) h__law_roll (by decide) (ca_cons (ci) (ca_nil)))))))) (s_nil)) (s_nil)) (s_cons (s_if (ct_w (cw_and (ct_cmp (fun _ => op_eq) ok_eqI (cv 2) (ci)) (cw_and1 (ct_cmp (fun _ => op_eq) ok_eqI (c_callB m h__law_roll (by decide) (ca_cons (ci) (ca_nil))) (ci))))) (s_cons (s_ret (c_tuple m T.tuple (c_ofL (cl_lc [(("_law_place" : Str), 7)] m (i_rng m T.range (c_add (cv 1) (ci))) (g1 (m.blk _) 7) (cts_nil) (c_callB (m.blk _) h__law_near (by decide) (ca_cons (c_pow (ci) (ci)) (ca_nil))))))) (s_nil)) (s_nil)) (s_cons (s_ret (c_callB m h__law_small_form (by decide) (ca_cons (cv 1) (ca_cons (ci) (ca_nil))))) (s_nil)))))))
theorem b__law_is_whole {P : Program} {w : World} {K : PySem.W.Frag} {mg : Str → Option Value} {base : Heap} {C : Cfg} (T : Tp K mg base C)  : BodyOk P w K mg base 0 C "_law_is_whole" K9.s__law_is_whole ["_law_value"] none r__law_is_whole := fun f cdv A outer s H E hc m =>
  s_cons (s_ret (c_and (c_isi m T.isinstance T.int k_isInt (cv 0)) (c_one (c_not (c_isi m T.isinstance T.bool k_isBool (cv 0)))))) (s_nil)
theorem b__law_is_point {P : Program} {w : World} {K : PySem.W.Frag} {mg : Str → Option Value} {base : Heap} {C : Cfg} (T : Tp K mg base C) (h__law_is_whole : Ca P w K mg base 1 "_law_is_whole" (spP K C sd__law_is_whole)) (h__law_gcd : Ca P w K mg base 1 "_law_gcd" (spP K C sd__law_gcd)) (h__law_plain : Ca P w K mg base 3 "_law_plain" (spP K C sd__law_plain)) : BodyOk P w K mg base 3 C "_law_is_point" K9.s__law_is_point ["_law_value"] none r__law_is_point := fun f cdv A outer s H E hc m =>
  s_cons (s_if (ct_w (cw_or (ct_not (ct_val (c_isi m T.isinstance T.tuple k_isTup (cv 0)))) (cw_or (ct_cmp (fun _ => op_ne) ok_neI (c_len m T.len (cv 0)) (ci)) (cw_or (ct_not (ct_val (c_call m h__law_is_whole (by decide) (ca_cons (c_ixT m (cv 0) (ci)) (ca_nil))))) (cw_or1 (ct_not (ct_val (c_call m h__law_is_whole (by decide) (ca_cons (c_ixT m (cv 0) (ci)) (ca_nil)))))))))) (s_cons (s_ret (cb)) (s_nil)) (s_nil)) (s_cons (s_ret (c_and (c_cmp (fun _ => op_eq) ok_eqI (c_call m h__law_gcd (by decide) (ca_cons (c_ixT m (cv 0) (ci)) (ca_cons (c_ixT m (cv 0) (ci)) (ca_nil)))) (ci)) (c_one (c_cmp (h_eqD m) ok_eqD (c_call m h__law_plain (by decide) (ca_cons (cv 0) (ca_nil))) (cv 0))))) (s_nil))
theorem b__law_is_right {P : Program} {w : World} {K : PySem.W.Frag} {mg : Str → Option Value} {base : Heap} {C : Cfg} (T : Tp K mg base C) (h__law_is_whole : Ca P w K mg base 1 "_law_is_whole" (spP K C sd__law_is_whole)) (h__law_is_point : Ca P w K mg base 4 "_law_is_point" (spP K C sd__law_is_point)) (h__law_scaled : Ca P w K mg base 1 "_law_scaled" (spP K C sd__law_scaled)) (h__law_power : Ca P w K mg base 2 "_law_power" (spP K C sd__law_power)) (h__law_line : Ca P w K mg base 1 "_law_line" (spP K C sd__law_line)) (h__law_laid : Ca P w K mg base 3 "_law_laid" (spP K C sd__law_laid)) : BodyOk P w K mg base 4 C "_law_is_right" K9.s__law_is_right ["_law_entries", "_law_value", "_law_degree", "_law_hesse"] none r__law_is_right := fun f cdv A outer s H E hc m =>
  s_cons (s_set m 2 (c_sub (c_len m T.len (cv 0)) (ci))) (s_cons (s_if (ct_w (cw_or (ct_not (ct_val (c_isi m T.isinstance T.tuple k_isTup (cv 1)))) (cw_or (ct_cmp (fun _ => op_ne) ok_neI (c_len m T.len (cv 1)) (ci)) (cw_or1 (ct_cmp (h_notIn m) ok_notIn (c_ixT m (cv 1) (ci)) (c_tup (ca_cons (cs) (ca_cons (cs) (ca_nil))))))))) (s_cons (s_ret (cb)) (s_nil)) (s_nil)) (s_cons (s_if (ct_cmp (fun _ => op_eq) ok_eqS (c_ixT m (cv 1) (ci)) (cs)) (s_cons (s_if (ct_w (cw_or (ct_not (ct_val (c_call m h__law_is_whole (by decide) (ca_cons (c_ixT m (cv 1) (ci)) (ca_nil))))) (cw_or1 (ct_not (ct_val (c_call m h__law_is_point (by decide) (ca_cons (c_ixT m (cv 1) (ci)) (ca_nil)))))))) (s_cons (s_ret (cb)) (s_nil)) (s_nil)) (s_cons (s_ret (c_cmp (h_eqD m) ok_eqD (c_call m h__law_scaled (by decide) (ca_cons (c_call m h__law_power (by decide) (ca_cons (c_call m h__law_line (by decide) (ca_cons (c_ixT m (cv 1) (ci)) (ca_nil))) (ca_cons (cv 2) (ca_nil)))) (ca_cons (c_ixT m (cv 1) (ci)) (ca_nil)))) (cv 0))) (s_nil))) (s_nil)) (s_cons (s_if (ct_w (cw_or (ct_cmp (fun _ => op_lt) (ok_rI0 fun _ _ _ => .bl _) (cv 2) (ci)) (cw_or (ct_not (ct_val (c_call m h__law_is_whole (by decide) (ca_cons (c_ixT m (cv 1) (ci)) (ca_nil))))) (cw_or1 (ct_not (ct_val (c_call m h__law_is_whole (by decide) (ca_cons (c_ixT m (cv 1) (ci)) (ca_nil))))))))) (s_cons (s_ret (cb)) (s_nil)) (s_nil)) (s_cons (s_set m 3 (c_call m h__law_laid (by decide) (ca_cons (cv 0) (ca_cons (cv 0) (ca_cons (ci) (ca_nil)))))) (s_cons (s_ret (c_and (c_chain (fun _ => op_le) (fun _ => op_lt) (ok_rI0 fun _ _ _ => .bl _) (ok_rI0 fun _ _ _ => .bl _) (ci) (c_ixT m (cv 1) (ci)) (c_len m T.len (cv 3))) (c_and (c_cmp (fun _ => op_eq) ok_eqI (c_ixT m (cv 3) (c_ixT m (cv 1) (ci))) (c_ixT m (cv 1) (ci))) (c_one (c_cmp (fun _ => op_ne) ok_neI (c_ixT m (cv 1) (ci)) (ci)))))) (s_nil))))))
theorem b__law_near_values {P : Program} {w : World} {K : PySem.W.Frag} {mg : Str → Option Value} {base : Heap} {C : Cfg} (T : Tp K mg base C) (h__law_point : Ca P w K mg base 4 "_law_point" (spB K C sd__law_point)) : BodyOk P w K mg base 4 C "_law_near_values" K9.s__law_near_values ["_law_dice_here", "_law_paper", "_law_point_here", "_law_found", "_law_one", "_law_other"] (some 0) r__law_near_values := fun f cdv A outer s H E hc m =>
  s_cons (s_set m 2 (c_callB m h__law_point (by decide) (ca_cons (ci) (ca_nil)))) (s_cons (s_set m 3 (c_ofL (cl_lst (ca_cons (cv 1) (ca_cons (c_ofL (cl_list m T.list (cv 1))) (ca_cons (c_catT m (cv 1) (c_tup (ca_cons (ci) (ca_nil)))) (ca_cons (c_slT m (cv 1) (co_none) (co_some (ci))) (ca_cons (cn) (ca_cons (cs) (ca_cons (c_tup (ca_nil)) (ca_cons (c_dic) (ca_cons (c_tup (ca_cons (cs) (ca_nil))) (ca_cons (c_catT m (c_tup (ca_cons (cs) (ca_nil))) (c_slT m (cv 1) (co_some (ci)) (co_none))) (ca_nil)))))))))))))) (s_cons (s_set m 3 (c_catL (cv 3) (c_ofL (cl_lst (ca_cons (c_tup (ca_cons (cs) (ca_cons (ci) (ca_cons (cv 2) (ca_nil))))) (ca_cons (c_tup (ca_cons (cs) (ca_cons (ci) (ca_cons (cv 2) (ca_nil))))) (ca_cons (c_tup (ca_cons (cs) (ca_cons (c_neg (ci)) (ca_cons (c_tup (ca_cons (ci) (ca_cons (ci) (ca_nil)))) (ca_nil))))) (ca_cons (c_tup (ca_cons (cs) (ca_cons (ci) (ca_cons (ci) (ca_nil))))) (ca_cons (c_tup (ca_cons (cs) (ca_cons (ci) (ca_cons (ci) (ca_nil))))) (ca_cons (c_tup (ca_cons (cs) (ca_cons (c_pow (ci) (ci)) (ca_cons (ci) (ca_nil))))) (ca_nil))))))))))) (s_cons (s_set m 3 (c_catL (cv 3) (c_ofL (cl_lst (ca_cons (c_tup (ca_cons (cs) (ca_cons (c_ixT m (cv 1) (ci)) (ca_cons (cv 2) (ca_nil))))) (ca_cons (c_tup (ca_cons (cs) (ca_cons (c_ixT m (cv 1) (ci)) (ca_cons (c_ixT m (cv 1) (ci)) (ca_nil))))) (ca_cons (c_tup (ca_cons (c_ixT m (cv 1) (ci)) (ca_cons (c_ixT m (cv 1) (ci)) (ca_cons (c_ixT m (cv 1) (ci)) (ca_nil))))) (ca_cons (c_tup (ca_cons (cs) (ca_cons (cb) (ca_cons (c_tup (ca_cons (ci) (ca_cons (ci) (ca_nil)))) (ca_nil))))) (ca_nil))))))))) (s_cons (s_if (ct_cmp (fun _ => op_eq) ok_eqS (c_ixT m (cv 1) (ci)) (cs)) (s_cons (s_asg2 4 5 (c_ixT m (cv 1) (ci)) (g2 m 4 5 (g1 m 4) (g1 m 5))) (s_cons (s_set m 3 (c_catL (cv 3) (c_ofL (cl_lst (ca_cons (c_tup (ca_cons (cs) (ca_cons (c_sub (ci) (c_ixT m (cv 1) (ci))) (ca_cons (c_ixT m (cv 1) (ci)) (ca_nil))))) (ca_cons (c_tup (ca_cons (cs) (ca_cons (c_ixT m (cv 1) (ci)) (ca_cons (c_tup (ca_cons (cv 5) (ca_cons (cv 4) (ca_nil)))) (ca_nil))))) (ca_cons (c_tup (ca_cons (cs) (ca_cons (c_ixT m (cv 1) (ci)) (ca_cons (c_tup (ca_cons (c_sub (ci) (cv 4)) (ca_cons (c_sub (ci) (cv 5)) (ca_nil)))) (ca_nil))))) (ca_nil)))))))) (s_cons (s_ret (c_catL (cv 3) (c_ofL (cl_lst (ca_cons (c_tup (ca_cons (cs) (ca_cons (c_mul (ci) (c_ixT m (cv 1) (ci))) (ca_cons (c_ixT m (cv 1) (ci)) (ca_nil))))) (ca_cons (c_tup (ca_cons (cs) (ca_cons (c_ixT m (cv 1) (ci)) (ca_cons (c_ofL (cl_lst (ca_cons (cv 4) (ca_cons (cv 5) (ca_nil))))) (ca_nil))))) (ca_cons (c_tup (ca_cons (cs) (ca_cons (c_ixT m (cv 1) (ci)) (ca_cons (c_tup (ca_cons (cv 4) (ca_cons (c_sub (ci) (cv 5)) (ca_nil)))) (ca_nil))))) (ca_nil)))))))) (s_nil)))) (s_nil)) (s_cons (s_ret (c_catL (cv 3) (c_ofL (cl_lst (ca_cons (c_tup (ca_cons (cs) (ca_cons (c_ixT m (cv 1) (ci)) (ca_cons (c_add (c_ixT m (cv 1) (ci)) (ci)) (ca_nil))))) (ca_cons (c_tup (ca_cons (cs) (ca_cons (c_add (c_ixT m (cv 1) (ci)) (ci)) (ca_cons (c_ixT m (cv 1) (ci)) (ca_nil))))) (ca_cons (c_tup (ca_cons (cs) (ca_cons (c_sub (c_ixT m (cv 1) (ci)) (ci)) (ca_cons (c_ixT m (cv 1) (ci)) (ca_nil))))) (ca_cons (c_tup (ca_cons (cs) (ca_cons (c_neg (ci)) (ca_cons (c_ixT m (cv 1) (ci)) (ca_nil))))) (ca_nil))))))))) (s_nil))))))
theorem b__law_right {P : Program} {w : World} {K : PySem.W.Frag} {mg : Str → Option Value} {base : Heap} {C : Cfg} (T : Tp K mg base C) (h_power_paper : Ca P w K mg base 8 "power_paper" (spP K C sd_power_paper)) (h__law_shared : Ca P w K mg base 2 "_law_shared" (spP K C sd__law_shared)) (h__law_laid : Ca P w K mg base 3 "_law_laid" (spP K C sd__law_laid)) (h__law_is_right : Ca P w K mg base 5 "_law_is_right" (spP K C sd__law_is_right)) (h__law_near_values : Ca P w K mg base 5 "_law_near_values" (spB K C sd__law_near_values)) (h_is_power_paper : Ca P w K mg base 8 "is_power_paper" (spP K C sd_is_power_paper)) (h_Form : Mk1 P w K mg base C 5) : BodyOk P w K mg base 8 C "_law_right" K9.s__law_right ["_law_dice_here", "_law_entries", "_law_form_here", "_law_degree", "_law_paper", "_law_is_power", "_law_some", "_law_value"] (some 0) r__law_right := fun f cdv A outer s H E hc m =>
  s_cons (s_asg2 2 3 (c_tup (ca_cons (c_make m h_Form (by decide) (ca_cons (cv 1) (ca_nil))) (ca_cons (c_sub (c_len m T.len (cv 1)) (ci)) (ca_nil)))) (g2 m 2 3 (g1 m 2) (g1 m 3))) (s_cons (s_set m 4 (c_call m h_power_paper (by decide) (ca_cons (cv 2) (ca_nil)))) (s_cons (s_set m 5 (c_or (c_cmp (fun _ => op_lt) (ok_rI0 fun _ _ _ => .bl _) (cv 3) (ci)) (c_one (c_cmp (fun _ => op_eq) ok_eqI (c_call m h__law_shared (by decide) (ca_cons (c_call m h__law_laid (by decide) (ca_cons (cv 1) (ca_cons (cv 1) (ca_cons (ci) (ca_nil))))) (ca_nil))) (ci))))) (s_cons (s_if (ct_w (cw_or (ct_not (ct_val (c_call m h__law_is_right (by decide) (ca_cons (cv 1) (ca_cons (cv 4) (ca_nil)))))) (cw_or1 (ct_cmp (fun _ => op_ne) ok_neS (c_ixT m (cv 4) (ci)) (c_if (ct_val (cv 5)) (cs) (cs)))))) (s_cons (s_ret (cb)) (s_nil)) (s_nil)) (s_cons (s_set m 6 (c_callB m h__law_near_values (by decide) (ca_cons (cv 4) (ca_nil)))) (s_cons (s_ret (c_cmp (h_eqD m) ok_eqD (c_ofL (cl_lc [(("_law_value" : Str), 7)] m (i_lst m (cv 6)) (g1 (m.blk _) 7) (cts_one (ct_cmp (fun _ => op_ne) ok_neS (c_b1 (m.blk _) (fun _ => cr_repr) ok_repr T.repr (c_call (m.blk _) h_is_power_paper (by decide) (ca_cons (cv 2) (ca_cons (cv 7) (ca_nil))))) (c_b1 (m.blk _) (fun _ => cr_repr) ok_repr T.repr (c_call (m.blk _) h__law_is_right (by decide) (ca_cons (cv 1) (ca_cons (cv 7) (ca_nil))))))) (cv 7))) (c_ofL (cl_lst (ca_nil))))) (s_nil))))))
theorem b__law_power_form {P : Program} {w : World} {K : PySem.W.Frag} {mg : Str → Option Value} {base : Heap} {C : Cfg} (T : Tp K mg base C) (h__law_pick : Ca P w K mg base 2 "_law_pick" (spB K C sd__law_pick)) (h__law_line : Ca P w K mg base 1 "_law_line" (spP K C sd__law_line)) (h__law_point : Ca P w K mg base 4 "_law_point" (spB K C sd__law_point)) (h__law_scaled : Ca P w K mg base 1 "_law_scaled" (spP K C sd__law_scaled)) (h__law_power : Ca P w K mg base 2 "_law_power" (spP K C sd__law_power)) (h__law_roll : Ca P w K mg base 1 "_law_roll" (spB K C sd__law_roll)) : BodyOk P w K mg base 4 C "_law_power_form" K9.s__law_power_form ["_law_dice_here", "_law_line_here", "_law_number"] (some 0) r__law_power_form := fun f cdv A outer s H E hc m =>
  s_cons (s_par m 1 2 (ca_cons (c_call m h__law_line (by decide) (ca_cons (c_callB m h__law_point (by decide) (ca_cons (ci) (ca_nil))) (ca_nil))) (ca_cons (c_callB m h__law_pick (by decide) (ca_cons (c_ofL (cl_lst (ca_cons (ci) (ca_cons (c_neg (ci)) (ca_cons (ci) (ca_cons (c_neg (ci)) (ca_cons (c_add (c_pow (ci) (ci)) (ci)) (ca_cons (ci) (ca_nil))))))))) (ca_nil))) (ca_nil)))) (s_cons (s_ret (c_call m h__law_scaled (by decide) (ca_cons (c_call m h__law_power (by decide) (ca_cons (cv 1) (ca_cons (c_callB m h__law_roll (by decide) (ca_cons (ci) (ca_nil))) (ca_nil)))) (ca_cons (cv 2) (ca_nil))))) (s_nil))
theorem b_law {P : Program} {w : World} {K : PySem.W.Frag} {mg : Str → Option Value} {base : Heap} {C : Cfg} (T : Tp K mg base C) (h__law_dice : Ca P w K mg base 1 "_law_dice" (spN K C sd__law_dice)) (h__law_right : Ca P w K mg base 9 "_law_right" (spB K C sd__law_right)) (h__law_power_form : Ca P w K mg base 5 "_law_power_form" (spB K C sd__law_power_form)) (h__law_form : Ca P w K mg base 5 "_law_form" (spB K C sd__law_form)) (h__law_roll : Ca P w K mg base 1 "_law_roll" (spB K C sd__law_roll)) (h__law_line : Ca P w K mg base 1 "_law_line" (spP K C sd__law_line)) (h__law_point : Ca P w K mg base 4 "_law_point" (spB K C sd__law_point)) (h__law_product : Ca P w K mg base 1 "_law_product" (spP K C sd__law_product)) (h__law_small_form : Ca P w K mg base 3 "_law_small_form" (spB K C sd__law_small_form)) (h__law_power : Ca P w K mg base 2 "_law_power" (spP K C sd__law_power)) (h_power_paper : Ca P w K mg base 8 "power_paper" (spP K C sd_power_paper)) (h_Form : Mk1 P w K mg base C 5) : BodyOk P w K mg base 9 C "law" K9.s_law ["_law_script", "_law_spot", "_law_dice_here", "_law_line_here", "_law_often", "_law_told"] none r_law := fun f cdv A outer s H E hc m =>
  s_cons (s_for m (i_rng m T.range (c_b2 m (fun i => call_max2 (m.calm i)) (ok_two rfl) T.max (ci) (c_b2 m (fun i => call_min2 (m.calm i)) (ok_two rfl) T.min (ci) (c_len m T.len (cv 0))))) (g1 m 1) (s_box m 2 (cl_callN m h__law_dice (by decide) (ca_cons (cv 0) (ca_cons (cv 1) (ca_nil)))) (s_cons (s_if (ct_w (cw_or (ct_not (ct_val (c_callB m h__law_right (by decide) (ca_cons (c_callB m h__law_power_form (by decide) (ca_nil)) (ca_nil))))) (cw_or1 (ct_not (ct_val (c_callB m h__law_right (by decide) (ca_cons (c_callB m h__law_form (by decide) (ca_cons (c_callB m h__law_roll (by decide) (ca_cons (ci) (ca_nil))) (ca_nil))) (ca_nil)))))))) (s_cons (s_ret (cb)) (s_nil)) (s_nil)) (s_cons (s_par m 3 4 (ca_cons (c_call m h__law_line (by decide) (ca_cons (c_callB m h__law_point (by decide) (ca_cons (ci) (ca_nil))) (ca_nil))) (ca_cons (c_add (ci) (c_callB m h__law_roll (by decide) (ca_cons (ci) (ca_nil)))) (ca_nil)))) (s_cons (s_if (ct_not (ct_val (c_callB m h__law_right (by decide) (ca_cons (c_call m h__law_product (by decide) (ca_cons (c_call m h__law_power (by decide) (ca_cons (cv 3) (ca_cons (cv 4) (ca_nil)))) (ca_cons (c_callB m h__law_small_form (by decide) (ca_cons (c_add (ci) (c_callB m h__law_roll (by decide) (ca_cons (ci) (ca_nil)))) (ca_cons (ci) (ca_nil)))) (ca_nil)))) (ca_nil))))) (s_cons (s_ret (cb)) (s_nil)) (s_nil)) (s_nil)))))) (s_cons (s_set m 5 (c_ofL (cl_lst (ca_cons (c_call m h_power_paper (by decide) (ca_cons (c_make m h_Form (by decide) (ca_cons (c_tup (ca_cons (ci) (ca_cons (ci) (ca_cons (ci) (ca_cons (ci) (ca_cons (ci) (ca_nil))))))) (ca_nil))) (ca_nil))) (ca_cons (c_call m h_power_paper (by decide) (ca_cons (c_make m h_Form (by decide) (ca_cons (c_tup (ca_cons (ci) (ca_cons (ci) (ca_cons (c_neg (ci)) (ca_nil))))) (ca_nil))) (ca_nil))) (ca_cons (c_call m h_power_paper (by decide) (ca_cons (c_make m h_Form (by decide) (ca_cons (c_tup (ca_cons (ci) (ca_cons (c_neg (ci)) (ca_nil)))) (ca_nil))) (ca_nil))) (ca_nil))))))) (s_cons (s_ret (c_cmp (h_eqD m) ok_eqD (cv 5) (c_ofL (cl_lst (ca_cons (c_tup (ca_cons (cs) (ca_cons (ci) (ca_cons (c_tup (ca_cons (ci) (ca_cons (c_neg (ci)) (ca_nil)))) (ca_nil))))) (ca_cons (c_tup (ca_cons (cs) (ca_cons (ci) (ca_cons (c_neg (ci)) (ca_nil))))) (ca_cons (c_tup (ca_cons (cs) (ca_cons (ci) (ca_cons (c_tup (ca_cons (ci) (ca_cons (ci) (ca_nil)))) (ca_nil))))) (ca_nil)))))))) (s_nil)))
end KD
set_option Elab.async false
set_option linter.all false
set_option maxRecDepth 100000
set_option maxHeartbeats 2000000
/-! Walks, 0: loops and comprehensions over data; small defs. -/
namespace KD
open PySem PySem.Spec PyProof.Rows L2 Km

theorem at_ints {ns : List Int} {i : Nat} (h : i < ns.length) : atI (ns.map D.int) (i : Int) = some (.int (co ns i)) := by
  have e : (ns.map D.int)[i]? = some (.int (co ns i)) := by
    rw [List.getElem?_map, List.getElem?_eq_getElem h, co_lt h]
    rfl
  exact atI_nat e
theorem setD_nil (ρ : Env) : setD ρ [] [] = ρ := rfl
/-- a for: the invariant by the turn -/
theorem for_ok {js : List Nat} {b : DS} {E : DEnds} {rows : List (List D)} (J : Nat → Env → List D → Prop) (step : ∀ i row, rows[i]? = some row → ∀ ρ B, J i ρ B → ∀ N : Env → List D → Prop, (∀ ρ' B', J (i + 1) ρ' B' → N ρ' B') → b { nx := N, rt := E.rt } (setD ρ js row) B)
    (fin : ∀ ρ B, J rows.length ρ B → E.nx ρ B) {ρ : Env} {B : List D} (h0 : J 0 ρ B) : dForGo js b E rows ρ B := by
  have go : ∀ (k i : Nat) (ρ : Env) (B : List D), rows.length - i = k → i ≤ rows.length → J i ρ B → dForGo js b E (rows.drop i) ρ B := by
    intro k
    induction k with
    | zero =>
      intro i ρ B hk hi h
      have e : i = rows.length := by omega
      subst e
      rw [List.drop_length]
      exact fin ρ B h
    | succ k ih =>
      intro i ρ B hk hi h
      have hlt : i < rows.length := by omega
      rw [List.drop_eq_getElem_cons hlt]
      exact step i rows[i] (List.getElem?_eq_getElem hlt) ρ B h _ fun ρ' B' h' => ih (i + 1) ρ' B' (by omega) hlt h'
  have h := go rows.length 0 ρ B (by omega) (Nat.zero_le _) h0
  rw [List.drop_zero] at h
  exact h
/-- a comprehension whose element is f of the row -/
theorem lc_map {js : List Nat} {re : DE} {ρ : Env} {B : List D} {Q : List D → List D → Prop} (f : List D → D) : ∀ {rows : List (List D)} {acc : List D}, (∀ row ∈ rows, ∀ N : D → List D → Prop, N (f row) B → re (setD ρ js row) B N) → Q (acc ++ rows.map f) B → dLcGo js tstYes re ρ rows acc B Q
  | [], acc, _, q => by
    rw [List.map_nil, List.append_nil] at q
    exact q
  | row :: rest, acc, h, q => by
    show (if true = true then re (setD ρ js row) B fun d B2 => dLcGo js tstYes re ρ rest (acc ++ [d]) B2 Q else dLcGo js tstYes re ρ rest acc B Q)
    rw [if_pos rfl]
    refine h row List.mem_cons_self _ (lc_map f (fun r hr => h r (List.mem_cons_of_mem _ hr)) ?_)
    rw [List.append_assoc]
    exact q
/-- .. under a test -/
theorem lc_filter {js : List Nat} {rt : DT} {re : DE} {ρ : Env} {B : List D} {Q : List D → List D → Prop} (t : List D → Bool) (f : List D → D) : ∀ {rows : List (List D)} {acc : List D}, (∀ row ∈ rows, ∀ N : Bool → List D → Prop, N (t row) B → rt (setD ρ js row) B N) →
    (∀ row ∈ rows, t row = true → ∀ N : D → List D → Prop, N (f row) B → re (setD ρ js row) B N) → Q (acc ++ (rows.filter t).map f) B → dLcGo js rt re ρ rows acc B Q
  | [], acc, _, _, q => by
    rw [List.filter_nil, List.map_nil, List.append_nil] at q
    exact q
  | row :: rest, acc, h, h2, q => by
    show rt (setD ρ js row) B _
    refine h row List.mem_cons_self _ ?_
    rw [List.filter_cons] at q
    cases e : t row with
    | true =>
      rw [if_pos rfl]
      rw [e, if_pos rfl] at q
      refine h2 row List.mem_cons_self e _ (lc_filter t f (fun r hr => h r (List.mem_cons_of_mem _ hr)) (fun r hr => h2 r (List.mem_cons_of_mem _ hr)) ?_)
      rw [List.append_assoc]
      exact q
    | false =>
      rw [if_neg Bool.false_ne_true]
      rw [e, if_neg Bool.false_ne_true] at q
      exact lc_filter t f (fun r hr => h r (List.mem_cons_of_mem _ hr)) (fun r hr => h2 r (List.mem_cons_of_mem _ hr)) q
/-- .. whose element is drawn: P of each, J of the box -/
theorem lc_draw {js : List Nat} {re : DE} {ρ : Env} (P : D → Prop) (J : List D → Prop) {Q : List D → List D → Prop} : ∀ {rows : List (List D)} {acc : List D} {B : List D}, (∀ row ∈ rows, ∀ B, J B → ∀ N : D → List D → Prop, (∀ d B', P d → J B' → N d B') → re (setD ρ js row) B N) → J B →
    (∀ ds B', ds.length = rows.length → (∀ d ∈ ds, P d) → J B' → Q (acc ++ ds) B') → dLcGo js tstYes re ρ rows acc B Q
  | [], acc, B, _, j, q => by
    have h := q [] B rfl (fun _ h => by cases h) j
    rw [List.append_nil] at h
    exact h
  | row :: rest, acc, B, h, j, q => by
    show (if true = true then re (setD ρ js row) B fun d B2 => dLcGo js tstYes re ρ rest (acc ++ [d]) B2 Q else dLcGo js tstYes re ρ rest acc B Q)
    rw [if_pos rfl]
    refine h row List.mem_cons_self B j _ fun d B' pd j' => lc_draw P J (fun r hr => h r (List.mem_cons_of_mem _ hr)) j' fun ds B2 hl hp j2 => ?_
    rw [List.append_assoc]
    refine q (d :: ds) B2 (by rw [List.length_cons, List.length_cons, hl]) (fun x hx => ?_) j2
    rcases List.mem_cons.mp hx with e | e
    · rw [e]; exact pd
    · exact hp x e

/-! ### small defs -/
theorem w_is_whole : ∀ ds QD, sd_is_whole ds QD → ds.length = 1 ∧ r_is_whole { nx := fun _ _ => QD .non, rt := fun v _ => QD v } (rho ["value"] ds) [] := by
  rintro ds QD ⟨v, rfl, ty, q⟩
  refine ⟨rfl, ?_⟩
  simp [r_is_whole, rho, Ty, dSeq, dRet, dAsg, dAsg2, dPar, dIf, dNext, dNever, dDrop, dSetB, dAugB, dBox, dFor, nSeq, eVar, eC, eOp, eUn, oI, oI0, oU, eAndV, eOrV, eNotV, eIf, eChain, tstE, tstAnd, tstOr, tstNot, tstYes, eIsi, eIsF, isInt, isBool, isTup, isStr, tyD, eTup, aNil, aCons, aStar, eCall, eCallB, lCallN, eOfL, lDisp, lList, lRep, lSl, eSlT, pNone, pSome, oLen, lenD, oTuple, oIxT, oIxL, oIxC, eIxB, eTupB, oAbs, oInt, intD, oRepr, oEqI, oNeI, oEqS, oNeS, eProp, eNext, iTupD, iLstD, iRngD, iEnmL, iEnmT, iZipD, lLc, wipeD, setD, tI, lI]
  refine ⟨ty, ?_⟩
  cases v <;> simp_all [wholeD]
theorem w__law_is_whole : ∀ ds QD, sd__law_is_whole ds QD → ds.length = 1 ∧ r__law_is_whole { nx := fun _ _ => QD .non, rt := fun v _ => QD v } (rho ["_law_value"] ds) [] := by
  rintro ds QD ⟨v, rfl, ty, q⟩
  refine ⟨rfl, ?_⟩
  simp [r__law_is_whole, rho, Ty, dSeq, dRet, dAsg, dAsg2, dPar, dIf, dNext, dNever, dDrop, dSetB, dAugB, dBox, dFor, nSeq, eVar, eC, eOp, eUn, oI, oI0, oU, eAndV, eOrV, eNotV, eIf, eChain, tstE, tstAnd, tstOr, tstNot, tstYes, eIsi, eIsF, isInt, isBool, isTup, isStr, tyD, eTup, aNil, aCons, aStar, eCall, eCallB, lCallN, eOfL, lDisp, lList, lRep, lSl, eSlT, pNone, pSome, oLen, lenD, oTuple, oIxT, oIxL, oIxC, eIxB, eTupB, oAbs, oInt, intD, oRepr, oEqI, oNeI, oEqS, oNeS, eProp, eNext, iTupD, iLstD, iRngD, iEnmL, iEnmT, iZipD, lLc, wipeD, setD, tI, lI]
  refine ⟨ty, ?_⟩
  cases v <;> simp_all [wholeD]
theorem w_is_short : ∀ ds QD, sd_is_short ds QD → ds.length = 1 ∧ r_is_short { nx := fun _ _ => QD .non, rt := fun v _ => QD v } (rho ["value"] ds) [] := by
  rintro ds QD ⟨v, rfl, ty, q⟩
  refine ⟨rfl, ?_⟩
  simp [r_is_short, sd_is_whole, rho, Ty, dSeq, dRet, dAsg, dAsg2, dPar, dIf, dNext, dNever, dDrop, dSetB, dAugB, dBox, dFor, nSeq, eVar, eC, eOp, eUn, oI, oI0, oU, eAndV, eOrV, eNotV, eIf, eChain, tstE, tstAnd, tstOr, tstNot, tstYes, eIsi, eIsF, isInt, isBool, isTup, isStr, tyD, eTup, aNil, aCons, aStar, eCall, eCallB, lCallN, eOfL, lDisp, lList, lRep, lSl, eSlT, pNone, pSome, oLen, lenD, oTuple, oIxT, oIxL, oIxC, eIxB, eTupB, oAbs, oInt, intD, oRepr, oEqI, oNeI, oEqS, oNeS, eProp, eNext, iTupD, iLstD, iRngD, iEnmL, iEnmT, iZipD, lLc, wipeD, setD, tI, lI]
  refine ⟨ty, ?_⟩
  cases v <;> simp_all [wholeD, shortD, shortI]
  split <;> simp_all
theorem w_is_from : ∀ ds QD, sd_is_from ds QD → ds.length = 3 ∧ r_is_from { nx := fun _ _ => QD .non, rt := fun v _ => QD v } (rho ["value", "least", "most"] ds) [] := by
  rintro ds QD ⟨v, a, b, rfl, ty, q⟩
  refine ⟨rfl, ?_⟩
  simp [r_is_from, sd_is_whole, rho, Ty, dSeq, dRet, dAsg, dAsg2, dPar, dIf, dNext, dNever, dDrop, dSetB, dAugB, dBox, dFor, nSeq, eVar, eC, eOp, eUn, oI, oI0, oU, eAndV, eOrV, eNotV, eIf, eChain, tstE, tstAnd, tstOr, tstNot, tstYes, eIsi, eIsF, isInt, isBool, isTup, isStr, tyD, eTup, aNil, aCons, aStar, eCall, eCallB, lCallN, eOfL, lDisp, lList, lRep, lSl, eSlT, pNone, pSome, oLen, lenD, oTuple, oIxT, oIxL, oIxC, eIxB, eTupB, oAbs, oInt, intD, oRepr, oEqI, oNeI, oEqS, oNeS, eProp, eNext, iTupD, iLstD, iRngD, iEnmL, iEnmT, iZipD, lLc, wipeD, setD, tI, lI]
  refine ⟨ty, ?_⟩
  cases v <;> simp_all [wholeD, fromD]
  split <;> simp_all
theorem bls_map (ds : List D) (f : D → Bool) : blsD (ds.map fun d => .bl (f d)) = some (ds.map f) := by
  induction ds with
  | nil => rfl
  | cons a r ih =>
    show (blsD (r.map fun d => .bl (f d))).map _ = _
    rw [ih]
    rfl
theorem w_are_wholes : ∀ ds QD, sd_are_wholes ds QD → ds.length = 1 ∧ r_are_wholes { nx := fun _ _ => QD .non, rt := fun v _ => QD v } (rho ["value", "entry"] ds) [] := by
  rintro ds QD ⟨v, rfl, ⟨ty, pv⟩, q⟩
  refine ⟨rfl, ?_⟩
  simp [r_are_wholes, sd_is_whole, oAll, rho, Ty, dSeq, dRet, dAsg, dAsg2, dPar, dIf, dNext, dNever, dDrop, dSetB, dAugB, dBox, dFor, nSeq, eVar, eC, eOp, eUn, oI, oI0, oU, eAndV, eOrV, eNotV, eIf, eChain, tstE, tstAnd, tstOr, tstNot, tstYes, eIsi, eIsF, isInt, isBool, isTup, isStr, tyD, eTup, aNil, aCons, aStar, eCall, eCallB, lCallN, eOfL, lDisp, lList, lRep, lSl, eSlT, pNone, pSome, oLen, lenD, oTuple, oIxT, oIxL, oIxC, eIxB, eTupB, oAbs, oInt, intD, oRepr, oEqI, oNeI, oEqS, oNeS, eProp, eNext, iTupD, iLstD, iRngD, iEnmL, iEnmT, iZipD, lLc, wipeD, setD, tI, lI]
  refine ⟨ty, ?_⟩
  cases v with
  | tup xs =>
    obtain ⟨a, b, e⟩ := pv xs rfl
    subst e
    simpa [dLcGo, blsD, wholesD, wholeD, sd_is_whole, rho, Ty, dSeq, dRet, dAsg, dAsg2, dPar, dIf, dNext, dNever, dDrop, dSetB, dAugB, dBox, dFor, nSeq, eVar, eC, eOp, eUn, oI, oI0, oU, eAndV, eOrV, eNotV, eIf, eChain, tstE, tstAnd, tstOr, tstNot, tstYes, eIsi, eIsF, isInt, isBool, isTup, isStr, tyD, eTup, aNil, aCons, aStar, eCall, eCallB, lCallN, eOfL, lDisp, lList, lRep, lSl, eSlT, pNone, pSome, oLen, lenD, oTuple, oIxT, oIxL, oIxC, eIxB, eTupB, oAbs, oInt, intD, oRepr, oEqI, oNeI, oEqS, oNeS, eProp, eNext, iTupD, iLstD, iRngD, iEnmL, iEnmT, iZipD, lLc, wipeD, setD, tI, lI] using q
  | _ => simpa [wholesD] using q
theorem w_are_short : ∀ ds QD, sd_are_short ds QD → ds.length = 1 ∧ r_are_short { nx := fun _ _ => QD .non, rt := fun v _ => QD v } (rho ["value", "entry"] ds) [] := by
  rintro ds QD ⟨ns, rfl, hl, q⟩
  refine ⟨rfl, ?_⟩
  simp [r_are_short, oAll, sd_is_short, rho, Ty, dSeq, dRet, dAsg, dAsg2, dPar, dIf, dNext, dNever, dDrop, dSetB, dAugB, dBox, dFor, nSeq, eVar, eC, eOp, eUn, oI, oI0, oU, eAndV, eOrV, eNotV, eIf, eChain, tstE, tstAnd, tstOr, tstNot, tstYes, eIsi, eIsF, isInt, isBool, isTup, isStr, tyD, eTup, aNil, aCons, aStar, eCall, eCallB, lCallN, eOfL, lDisp, lList, lRep, lSl, eSlT, pNone, pSome, oLen, lenD, oTuple, oIxT, oIxL, oIxC, eIxB, eTupB, oAbs, oInt, intD, oRepr, oEqI, oNeI, oEqS, oNeS, eProp, eNext, iTupD, iLstD, iRngD, iEnmL, iEnmT, iZipD, lLc, wipeD, setD, tI, lI]
  refine ⟨by omega, ?_⟩
  refine lc_map (fun row => .bl (shortD (row.getD 0 .non))) (fun row hr N hN => ?_) ?_
  · simp at hr
    obtain ⟨n, _, e⟩ := hr
    subst e
    simpa [sd_is_short, rho, Ty, dSeq, dRet, dAsg, dAsg2, dPar, dIf, dNext, dNever, dDrop, dSetB, dAugB, dBox, dFor, nSeq, eVar, eC, eOp, eUn, oI, oI0, oU, eAndV, eOrV, eNotV, eIf, eChain, tstE, tstAnd, tstOr, tstNot, tstYes, eIsi, eIsF, isInt, isBool, isTup, isStr, tyD, eTup, aNil, aCons, aStar, eCall, eCallB, lCallN, eOfL, lDisp, lList, lRep, lSl, eSlT, pNone, pSome, oLen, lenD, oTuple, oIxT, oIxL, oIxC, eIxB, eTupB, oAbs, oInt, intD, oRepr, oEqI, oNeI, oEqS, oNeS, eProp, eNext, iTupD, iLstD, iRngD, iEnmL, iEnmT, iZipD, lLc, wipeD, setD, tI, lI] using hN
  · refine ⟨ns.map shortI, ?_, ?_⟩
    · have e := bls_map (ns.map D.int) shortD
      rw [List.map_map, List.map_map] at e
      rw [List.nil_append, List.map_map]
      exact e
    · simpa [Function.comp_def] using q
theorem w_shared_of : ∀ ds QD, sd_shared_of ds QD → ds.length = 1 ∧ r_shared_of { nx := fun _ _ => QD .non, rt := fun v _ => QD v } (rho ["numbers", "found", "number"] ds) [] := by
  rintro ds QD ⟨ns, rfl, q⟩
  refine ⟨rfl, ?_⟩
  simp [r_shared_of, rho, Ty, dSeq, dRet, dAsg, dAsg2, dPar, dIf, dNext, dNever, dDrop, dSetB, dAugB, dBox, dFor, nSeq, eVar, eC, eOp, eUn, oI, oI0, oU, eAndV, eOrV, eNotV, eIf, eChain, tstE, tstAnd, tstOr, tstNot, tstYes, eIsi, eIsF, isInt, isBool, isTup, isStr, tyD, eTup, aNil, aCons, aStar, eCall, eCallB, lCallN, eOfL, lDisp, lList, lRep, lSl, eSlT, pNone, pSome, oLen, lenD, oTuple, oIxT, oIxL, oIxC, eIxB, eTupB, oAbs, oInt, intD, oRepr, oEqI, oNeI, oEqS, oNeS, eProp, eNext, iTupD, iLstD, iRngD, iEnmL, iEnmT, iZipD, lLc, wipeD, setD, tI, lI]
  refine for_ok (fun i ρ B => ∃ z, ρ = [some (tI ns), some (.int ((ns.take i).foldl gcdI 0)), z]) ?_ ?_ ⟨_, rfl⟩
  · rintro i row hr ρ B ⟨z, rfl⟩ N hN
    simp at hr
    obtain ⟨n, hn, e⟩ := hr
    subst e
    simp [rho, Ty, dSeq, dRet, dAsg, dAsg2, dPar, dIf, dNext, dNever, dDrop, dSetB, dAugB, dBox, dFor, nSeq, eVar, eC, eOp, eUn, oI, oI0, oU, eAndV, eOrV, eNotV, eIf, eChain, tstE, tstAnd, tstOr, tstNot, tstYes, eIsi, eIsF, isInt, isBool, isTup, isStr, tyD, eTup, aNil, aCons, aStar, eCall, eCallB, lCallN, eOfL, lDisp, lList, lRep, lSl, eSlT, pNone, pSome, oLen, lenD, oTuple, oIxT, oIxL, oIxC, eIxB, eTupB, oAbs, oInt, intD, oRepr, oEqI, oNeI, oEqS, oNeS, eProp, eNext, iTupD, iLstD, iRngD, iEnmL, iEnmT, iZipD, lLc, wipeD, setD, tI, lI]
    refine hN _ _ ⟨some (.int n), ?_⟩
    rw [List.take_add_one, hn]
    simp [tI, gcdI]
  · rintro ρ B ⟨z, rfl⟩
    simpa [gcdL, rho, Ty, dSeq, dRet, dAsg, dAsg2, dPar, dIf, dNext, dNever, dDrop, dSetB, dAugB, dBox, dFor, nSeq, eVar, eC, eOp, eUn, oI, oI0, oU, eAndV, eOrV, eNotV, eIf, eChain, tstE, tstAnd, tstOr, tstNot, tstYes, eIsi, eIsF, isInt, isBool, isTup, isStr, tyD, eTup, aNil, aCons, aStar, eCall, eCallB, lCallN, eOfL, lDisp, lList, lRep, lSl, eSlT, pNone, pSome, oLen, lenD, oTuple, oIxT, oIxL, oIxC, eIxB, eTupB, oAbs, oInt, intD, oRepr, oEqI, oNeI, oEqS, oNeS, eProp, eNext, iTupD, iLstD, iRngD, iEnmL, iEnmT, iZipD, lLc, wipeD, setD, tI, lI] using q
theorem w_first_of : ∀ ds QD, sd_first_of ds QD → ds.length = 1 ∧ r_first_of { nx := fun _ _ => QD .non, rt := fun v _ => QD v } (rho ["numbers"] ds) [] := by
  rintro ds QD ⟨ns, rfl, q⟩
  refine ⟨rfl, ?_⟩
  simpa [r_first_of, intsD_map, rho, Ty, dSeq, dRet, dAsg, dAsg2, dPar, dIf, dNext, dNever, dDrop, dSetB, dAugB, dBox, dFor, nSeq, eVar, eC, eOp, eUn, oI, oI0, oU, eAndV, eOrV, eNotV, eIf, eChain, tstE, tstAnd, tstOr, tstNot, tstYes, eIsi, eIsF, isInt, isBool, isTup, isStr, tyD, eTup, aNil, aCons, aStar, eCall, eCallB, lCallN, eOfL, lDisp, lList, lRep, lSl, eSlT, pNone, pSome, oLen, lenD, oTuple, oIxT, oIxL, oIxC, eIxB, eTupB, oAbs, oInt, intD, oRepr, oEqI, oNeI, oEqS, oNeS, eProp, eNext, iTupD, iLstD, iRngD, iEnmL, iEnmT, iZipD, lLc, wipeD, setD, tI, lI] using q
theorem w_first_index : ∀ ds QD, sd_first_index ds QD → ds.length = 1 ∧ r_first_index { nx := fun _ _ => QD .non, rt := fun v _ => QD v } (rho ["entries"] ds) [] := by
  rintro ds QD ⟨ns, rfl, q⟩
  refine ⟨rfl, ?_⟩
  simpa [r_first_index, intsD_map, rho, Ty, dSeq, dRet, dAsg, dAsg2, dPar, dIf, dNext, dNever, dDrop, dSetB, dAugB, dBox, dFor, nSeq, eVar, eC, eOp, eUn, oI, oI0, oU, eAndV, eOrV, eNotV, eIf, eChain, tstE, tstAnd, tstOr, tstNot, tstYes, eIsi, eIsF, isInt, isBool, isTup, isStr, tyD, eTup, aNil, aCons, aStar, eCall, eCallB, lCallN, eOfL, lDisp, lList, lRep, lSl, eSlT, pNone, pSome, oLen, lenD, oTuple, oIxT, oIxL, oIxC, eIxB, eTupB, oAbs, oInt, intD, oRepr, oEqI, oNeI, oEqS, oNeS, eProp, eNext, iTupD, iLstD, iRngD, iEnmL, iEnmT, iZipD, lLc, wipeD, setD, tI, lI] using q
theorem w_is_zero_in : ∀ ds QD, sd_is_zero_in ds QD → ds.length = 1 ∧ r_is_zero_in { nx := fun _ _ => QD .non, rt := fun v _ => QD v } (rho ["entries"] ds) [] := by
  rintro ds QD ⟨ns, rfl, q⟩
  refine ⟨rfl, ?_⟩
  simp only [r_is_zero_in, oAnyI, intsD_map, rho, Ty, dSeq, dRet, dAsg, dAsg2, dPar, dIf, dNext, dNever, dDrop, dSetB, dAugB, dBox, dFor, nSeq, eVar, eC, eOp, eUn, oI, oI0, oU, eAndV, eOrV, eNotV, eIf, eChain, tstE, tstAnd, tstOr, tstNot, tstYes, eIsi, eIsF, isInt, isBool, isTup, isStr, tyD, eTup, aNil, aCons, aStar, eCall, eCallB, lCallN, eOfL, lDisp, lList, lRep, lSl, eSlT, pNone, pSome, oLen, lenD, oTuple, oIxT, oIxL, oIxC, eIxB, eTupB, oAbs, oInt, intD, oRepr, oEqI, oNeI, oEqS, oNeS, eProp, eNext, iTupD, iLstD, iRngD, iEnmL, iEnmT, iZipD, lLc, wipeD, setD, tI, lI]
  exact ⟨_, rfl, _, ns, rfl, intsD_map ns, _, rfl, q⟩
theorem w_line_in : ∀ ds QD, sd_line_in ds QD → ds.length = 1 ∧ r_line_in { nx := fun _ _ => QD .non, rt := fun v _ => QD v } (rho ["point"] ds) [] := by
  rintro ds QD ⟨a, b, rfl, q⟩
  refine ⟨rfl, ?_⟩
  simpa [r_line_in, atI, ixN, rho, Ty, dSeq, dRet, dAsg, dAsg2, dPar, dIf, dNext, dNever, dDrop, dSetB, dAugB, dBox, dFor, nSeq, eVar, eC, eOp, eUn, oI, oI0, oU, eAndV, eOrV, eNotV, eIf, eChain, tstE, tstAnd, tstOr, tstNot, tstYes, eIsi, eIsF, isInt, isBool, isTup, isStr, tyD, eTup, aNil, aCons, aStar, eCall, eCallB, lCallN, eOfL, lDisp, lList, lRep, lSl, eSlT, pNone, pSome, oLen, lenD, oTuple, oIxT, oIxL, oIxC, eIxB, eTupB, oAbs, oInt, intD, oRepr, oEqI, oNeI, oEqS, oNeS, eProp, eNext, iTupD, iLstD, iRngD, iEnmL, iEnmT, iZipD, lLc, wipeD, setD, tI, lI] using q
theorem w__law_line : ∀ ds QD, sd__law_line ds QD → ds.length = 1 ∧ r__law_line { nx := fun _ _ => QD .non, rt := fun v _ => QD v } (rho ["_law_point_here"] ds) [] := by
  rintro ds QD ⟨a, b, rfl, q⟩
  refine ⟨rfl, ?_⟩
  simpa [r__law_line, atI, ixN, rho, Ty, dSeq, dRet, dAsg, dAsg2, dPar, dIf, dNext, dNever, dDrop, dSetB, dAugB, dBox, dFor, nSeq, eVar, eC, eOp, eUn, oI, oI0, oU, eAndV, eOrV, eNotV, eIf, eChain, tstE, tstAnd, tstOr, tstNot, tstYes, eIsi, eIsF, isInt, isBool, isTup, isStr, tyD, eTup, aNil, aCons, aStar, eCall, eCallB, lCallN, eOfL, lDisp, lList, lRep, lSl, eSlT, pNone, pSome, oLen, lenD, oTuple, oIxT, oIxL, oIxC, eIxB, eTupB, oAbs, oInt, intD, oRepr, oEqI, oNeI, oEqS, oNeS, eProp, eNext, iTupD, iLstD, iRngD, iEnmL, iEnmT, iZipD, lLc, wipeD, setD, tI, lI] using q
theorem w_require_form : ∀ ds QD, sd_require_form ds QD → ds.length = 1 ∧ r_require_form { nx := fun _ _ => QD .non, rt := fun v _ => QD v } (rho ["value"] ds) [] := by
  rintro ds QD ⟨es, rfl, q⟩
  refine ⟨rfl, ?_⟩
  simpa [r_require_form, rho, Ty, dSeq, dRet, dAsg, dAsg2, dPar, dIf, dNext, dNever, dDrop, dSetB, dAugB, dBox, dFor, nSeq, eVar, eC, eOp, eUn, oI, oI0, oU, eAndV, eOrV, eNotV, eIf, eChain, tstE, tstAnd, tstOr, tstNot, tstYes, eIsi, eIsF, isInt, isBool, isTup, isStr, tyD, eTup, aNil, aCons, aStar, eCall, eCallB, lCallN, eOfL, lDisp, lList, lRep, lSl, eSlT, pNone, pSome, oLen, lenD, oTuple, oIxT, oIxL, oIxC, eIxB, eTupB, oAbs, oInt, intD, oRepr, oEqI, oNeI, oEqS, oNeS, eProp, eNext, iTupD, iLstD, iRngD, iEnmL, iEnmT, iZipD, lLc, wipeD, setD, tI, lI] using q
theorem w_product_in : ∀ ds QD, sd_product_in ds QD → ds.length = 2 ∧ r_product_in { nx := fun _ _ => QD .non, rt := fun v _ => QD v } (rho ["one", "other"] ds) [] := by
  rintro ds QD ⟨xs, ys, rfl, q⟩
  refine ⟨rfl, ?_⟩
  simp [r_product_in, sd_joined_entries, sd_product_in, rho, Ty, dSeq, dRet, dAsg, dAsg2, dPar, dIf, dNext, dNever, dDrop, dSetB, dAugB, dBox, dFor, nSeq, eVar, eC, eOp, eUn, oI, oI0, oU, eAndV, eOrV, eNotV, eIf, eChain, tstE, tstAnd, tstOr, tstNot, tstYes, eIsi, eIsF, isInt, isBool, isTup, isStr, tyD, eTup, aNil, aCons, aStar, eCall, eCallB, lCallN, eOfL, lDisp, lList, lRep, lSl, eSlT, pNone, pSome, oLen, lenD, oTuple, oIxT, oIxL, oIxC, eIxB, eTupB, oAbs, oInt, intD, oRepr, oEqI, oNeI, oEqS, oNeS, eProp, eNext, iTupD, iLstD, iRngD, iEnmL, iEnmT, iZipD, lLc, wipeD, setD, tI, lI]
  exact ⟨xs, ys, ⟨rfl, rfl⟩, q⟩
theorem w_are_entries : ∀ ds QD, sd_are_entries ds QD → ds.length = 1 ∧ r_are_entries { nx := fun _ _ => QD .non, rt := fun v _ => QD v } (rho ["value"] ds) [] := by
  rintro ds QD ⟨ns, rfl, hl, q⟩
  refine ⟨rfl, ?_⟩
  simp [r_are_entries, sd_are_short, rho, Ty, dSeq, dRet, dAsg, dAsg2, dPar, dIf, dNext, dNever, dDrop, dSetB, dAugB, dBox, dFor, nSeq, eVar, eC, eOp, eUn, oI, oI0, oU, eAndV, eOrV, eNotV, eIf, eChain, tstE, tstAnd, tstOr, tstNot, tstYes, eIsi, eIsF, isInt, isBool, isTup, isStr, tyD, eTup, aNil, aCons, aStar, eCall, eCallB, lCallN, eOfL, lDisp, lList, lRep, lSl, eSlT, pNone, pSome, oLen, lenD, oTuple, oIxT, oIxL, oIxC, eIxB, eTupB, oAbs, oInt, intD, oRepr, oEqI, oNeI, oEqS, oNeS, eProp, eNext, iTupD, iLstD, iRngD, iEnmL, iEnmT, iZipD, lLc, wipeD, setD, tI, lI]
  refine ⟨ns, rfl, hl, ?_⟩
  have e3 : decide ((ns.length : Int) ≤ 41) = decide (ns.length ≤ 41) := dec_iff (by omega)
  have e4 : decide ((1 : Int) ≤ (ns.length : Int)) = decide (1 ≤ ns.length) := dec_iff (by omega)
  unfold entOk at q
  by_cases h : ∀ x ∈ ns, shortI x = true
  · have h1 : ns.all shortI = true := List.all_eq_true.mpr h
    rw [h1, Bool.true_and] at q
    rw [if_pos h]
    by_cases h2 : 1 ≤ ns.length
    · rw [decide_eq_true h2, Bool.true_and, ← e3] at q
      rw [if_pos (by omega)]
      exact q
    · rw [decide_eq_false h2, Bool.false_and] at q
      rw [if_neg (by omega)]
      exact q
  · have h1 : ns.all shortI = false := by
      rw [← Bool.not_eq_true, List.all_eq_true]
      exact h
    rw [h1, Bool.false_and] at q
    rw [if_neg h]
    exact q
end KD
set_option Elab.async false
set_option linter.all false
set_option maxRecDepth 100000
set_option maxHeartbeats 2000000
/-! Walks, 1: products. -/
namespace KD
open PySem PySem.Spec PyProof.Rows L2 Km

/-! ### the product by places -/
/-- a rows and p places of the next are done -/
def cvp (xs ys : List Int) (a p m : Nat) : Int := sm a (fun i => if i ≤ m then co xs i * co ys (m - i) else 0) + (if a ≤ m ∧ m - a < p then co xs a * co ys (m - a) else 0)
theorem cvp_zero (xs ys : List Int) (m : Nat) : cvp xs ys 0 0 m = 0 := by simp [cvp, sm]
theorem cvp_here (xs ys : List Int) (a p : Nat) : cvp xs ys a (p + 1) (a + p) = cvp xs ys a p (a + p) + co xs a * co ys p := by
  unfold cvp
  rw [if_pos (by omega), if_neg (by omega), Nat.add_sub_cancel_left, Int.add_zero]
theorem cvp_away (xs ys : List Int) (a p m : Nat) (h : m ≠ a + p) : cvp xs ys a (p + 1) m = cvp xs ys a p m := by
  unfold cvp
  congr 1
  by_cases h2 : a ≤ m ∧ m - a < p
  · rw [if_pos h2, if_pos (by omega)]
  · rw [if_neg h2, if_neg (by omega)]
theorem cvp_row (xs ys : List Int) (a m : Nat) : cvp xs ys (a + 1) 0 m = cvp xs ys a ys.length m := by
  unfold cvp
  rw [if_neg (show ¬ (a + 1 ≤ m ∧ m - (a + 1) < 0) by omega), Int.add_zero]
  show sm a _ + (if a ≤ m then _ else 0) = _
  congr 1
  by_cases h1 : a ≤ m
  · rw [if_pos h1]
    by_cases h2 : m - a < ys.length
    · rw [if_pos ⟨h1, h2⟩]
    · rw [if_neg (fun z => h2 z.2), co_ge (xs := ys) (by omega), Int.mul_zero]
  · rw [if_neg h1, if_neg (fun z => h1 z.1)]
theorem cvp_all (xs ys : List Int) (m : Nat) (h : m < xs.length + ys.length - 1) : cvp xs ys xs.length 0 m = co (mul xs ys) m := by
  unfold cvp
  rw [if_neg (by omega), Int.add_zero, mul_co xs ys m h]
  have e1 := sm_cut (xs.length + m + 1) xs.length (fun i => if i ≤ m then co xs i * co ys (m - i) else 0) (by omega) fun i h1 _ => by
    rw [co_ge (xs := xs) h1, Int.zero_mul]
    split <;> rfl
  have e2 := sm_cut (xs.length + m + 1) (m + 1) (fun i => if i ≤ m then co xs i * co ys (m - i) else 0) (by omega) fun i h1 _ => if_neg (by omega)
  rw [← e1, e2]
  exact sm_congr _ _ _ fun i hi => if_pos (by omega)
/-- what stands in the list: a base and f times the part that is done -/
def fl (L : Nat) (g : Nat → Int) (f : Int) (xs ys : List Int) (a p : Nat) : List Int := tab L fun m => g m + f * cvp xs ys a p m
theorem fl_len (L : Nat) (g : Nat → Int) (f : Int) (xs ys : List Int) (a p : Nat) : (fl L g f xs ys a p).length = L := tab_len _ _
theorem tab_set {L k : Nat} {g : Nat → Int} {v : Int} (hk : k < L) : (tab L g).set k v = tab L fun m => if m = k then v else g m := by
  refine ext_co (by rw [List.length_set, tab_len, tab_len]) fun i hi => ?_
  rw [List.length_set, tab_len] at hi
  rw [tab_co hi]
  unfold co
  rw [List.getD_eq_getElem?_getD, List.getElem?_set]
  by_cases e : k = i
  · subst e
    rw [if_pos rfl, if_pos (by rw [tab_len]; exact hk), if_pos rfl]
    rfl
  · rw [if_neg e, if_neg (Ne.symm e), ← List.getD_eq_getElem?_getD]
    exact tab_co hi
theorem fl_step (L : Nat) (g : Nat → Int) (f : Int) (xs ys : List Int) (a p : Nat) (h : a + p < L) :
    (fl L g f xs ys a p).set (a + p) (co (fl L g f xs ys a p) (a + p) + f * (co xs a * co ys p)) = fl L g f xs ys a (p + 1) := by
  unfold fl
  rw [tab_set h]
  refine tab_congr fun m hm => ?_
  by_cases e : m = a + p
  · subst e
    rw [if_pos rfl, tab_co hm, cvp_here, Int.mul_add, Int.add_assoc]
  · rw [if_neg e, cvp_away _ _ _ _ _ e]
theorem fl_row (L : Nat) (g : Nat → Int) (f : Int) (xs ys : List Int) (a : Nat) : fl L g f xs ys a ys.length = fl L g f xs ys (a + 1) 0 := tab_congr fun m _ => by rw [cvp_row]
theorem at_sum {ns : List Int} {a p : Nat} (h : a + p < ns.length) : atI (ns.map D.int) ((a : Int) + (p : Int)) = some (.int (co ns (a + p))) := by
  rw [← Int.natCast_add]
  exact at_ints h
theorem ix_sum {n a p : Nat} (h : a + p < n) : ixN n ((a : Int) + (p : Int)) = some (a + p) := by
  rw [← Int.natCast_add]
  unfold ixN
  rw [if_pos (by omega), if_pos (by omega)]
  congr 1
theorem range_row {n i : Nat} {row : List D} (h : ((List.range n).map fun i : Nat => [D.int (i : Nat)])[i]? = some row) : i < n ∧ row = [.int (i : Nat)] := by
  rw [List.getElem?_map, Option.map_eq_some_iff] at h
  obtain ⟨m, e1, e2⟩ := h
  have hi : i < n := by
    have := (List.getElem?_eq_some_iff.mp e1).1
    simpa using this
  rw [List.getElem?_range hi] at e1
  cases e1
  exact ⟨hi, e2.symm⟩
theorem enum_row {ns : List Int} {i : Nat} {row : List D} (h : (numbered (ns.map D.int))[i]? = some row) : i < ns.length ∧ row = [.int (i : Nat), .int (co ns i)] := by
  obtain ⟨d, hd, e⟩ := numbered_get h
  rw [List.getElem?_map, Option.map_eq_some_iff] at hd
  obtain ⟨n, hn, e2⟩ := hd
  rw [Km.co_some hn, e2]
  exact ⟨(List.getElem?_eq_some_iff.mp hn).1, e⟩
theorem const_rows (L : Nat) : List.map (fun _ => D.int 0) (List.map (fun i : Nat => [D.int (i : Nat)]) (List.range L)) = (List.replicate L (0 : Int)).map D.int := by
  rw [List.map_map, List.map_replicate]
  refine List.eq_replicate_iff.mpr ⟨by simp, fun b hb => ?_⟩
  obtain ⟨i, _, e⟩ := List.mem_map.mp hb
  exact e.symm
theorem map_set {ns : List Int} {k : Nat} {v : Int} : (ns.map D.int).set k (.int v) = (ns.set k v).map D.int := by rw [List.map_set]
theorem co_lt2 {ns : List Int} (h : Sm ns) (i : Nat) : (co ns i).natAbs < 2 ^ 300000 := by
  by_cases hi : i < ns.length
  · rw [co_lt hi]
    exact h _ (List.getElem_mem hi)
  · rw [co_ge (by omega)]
    exact Nat.two_pow_pos 300000
theorem mul_ok {xs ys : List Int} (hx : Sm xs) (hy : Sm ys) (i j : Nat) : CMulA (co xs i) (co ys j) := .inr (wide_mul (co_lt2 hx i) (co_lt2 hy j) (by decide) (by decide) (by decide))
theorem zeros_tab (L : Nat) (f : Int) (xs ys : List Int) : List.replicate L (0 : Int) = fl L (fun _ => 0) f xs ys 0 0 := by
  refine ext_co (by rw [List.length_replicate, fl_len]) fun i hi => ?_
  rw [List.length_replicate] at hi
  unfold fl
  rw [tab_co hi, cvp_zero]
  unfold co
  simp [hi]
theorem fl_end (xs ys : List Int) : fl (xs.length + ys.length - 1) (fun _ => 0) 1 xs ys xs.length 0 = mul xs ys := by
  refine ext_co (by rw [fl_len, mul_len]) fun i hi => ?_
  rw [fl_len] at hi
  unfold fl
  rw [tab_co hi, cvp_all _ _ _ hi, Int.zero_add, Int.one_mul]

theorem w_joined_entries : ∀ ds QD, sd_joined_entries ds QD → ds.length = 2 ∧ r_joined_entries { nx := fun _ _ => QD .non, rt := fun v _ => QD v } (rho ["one", "other", "found", "place", "at"] ds) [] := by
  rintro ds QD ⟨xs, ys, rfl, nx, ny, lx, ly, sx, sy, q⟩
  have px : 0 < xs.length := List.length_pos_iff.mpr nx
  have py : 0 < ys.length := List.length_pos_iff.mpr ny
  refine ⟨rfl, ?_⟩
  simp [r_joined_entries, rho, Ty, dSeq, dRet, dAsg, dAsg2, dPar, dIf, dNext, dNever, dDrop, dSetB, dAugB, dBox, dFor, nSeq, eVar, eC, eOp, eUn, oI, oI0, oU, eAndV, eOrV, eNotV, eIf, eChain, tstE, tstAnd, tstOr, tstNot, tstYes, eIsi, eIsF, isInt, isBool, isTup, isStr, tyD, eTup, aNil, aCons, aStar, eCall, eCallB, lCallN, eOfL, lDisp, lList, lRep, lSl, eSlT, pNone, pSome, oLen, lenD, oTuple, oIxT, oIxL, oIxC, eIxB, eTupB, oAbs, oInt, intD, oRepr, oEqI, oNeI, oEqS, oNeS, eProp, eNext, iTupD, iLstD, iRngD, iEnmL, iEnmT, iZipD, lLc, wipeD, setD, tI, lI]
  refine ⟨by omega, by omega, by omega, lc_map (fun _ => .int 0) (fun row hr N hN => ?_) ?_⟩
  · simp at hr
    obtain ⟨n, _, e⟩ := hr
    subst e
    simpa [rho, Ty, dSeq, dRet, dAsg, dAsg2, dPar, dIf, dNext, dNever, dDrop, dSetB, dAugB, dBox, dFor, nSeq, eVar, eC, eOp, eUn, oI, oI0, oU, eAndV, eOrV, eNotV, eIf, eChain, tstE, tstAnd, tstOr, tstNot, tstYes, eIsi, eIsF, isInt, isBool, isTup, isStr, tyD, eTup, aNil, aCons, aStar, eCall, eCallB, lCallN, eOfL, lDisp, lList, lRep, lSl, eSlT, pNone, pSome, oLen, lenD, oTuple, oIxT, oIxL, oIxC, eIxB, eTupB, oAbs, oInt, intD, oRepr, oEqI, oNeI, oEqS, oNeS, eProp, eNext, iTupD, iLstD, iRngD, iEnmL, iEnmT, iZipD, lLc, wipeD, setD, tI, lI] using hN
  · have eL : ((xs.length : Int) + (ys.length : Int)).toNat - 1 = xs.length + ys.length - 1 := by omega
    rw [eL]
    have e0 : (List.map (fun _ => D.int 0) (List.map (fun i : Nat => [D.int ↑i]) (List.range (xs.length + ys.length - 1)))) = (fl (xs.length + ys.length - 1) (fun _ => 0) 1 xs ys 0 0).map D.int := by
      rw [← zeros_tab, const_rows]
    rw [List.nil_append, e0]
    refine ⟨⟨_, rfl⟩, by omega, ?_⟩
    refine for_ok (fun i ρ B => ∃ z1 z2, ρ = [some (tI xs), some (tI ys), none, z1, z2] ∧ B = (fl (xs.length + ys.length - 1) (fun _ => 0) 1 xs ys i 0).map D.int) ?_ ?_ ⟨none, none, rfl, rfl⟩
    · rintro i row hr ρ B ⟨z1, z2, rfl, rfl⟩ N hN
      obtain ⟨hi, e⟩ := range_row hr
      subst e
      simp [rho, Ty, dSeq, dRet, dAsg, dAsg2, dPar, dIf, dNext, dNever, dDrop, dSetB, dAugB, dBox, dFor, nSeq, eVar, eC, eOp, eUn, oI, oI0, oU, eAndV, eOrV, eNotV, eIf, eChain, tstE, tstAnd, tstOr, tstNot, tstYes, eIsi, eIsF, isInt, isBool, isTup, isStr, tyD, eTup, aNil, aCons, aStar, eCall, eCallB, lCallN, eOfL, lDisp, lList, lRep, lSl, eSlT, pNone, pSome, oLen, lenD, oTuple, oIxT, oIxL, oIxC, eIxB, eTupB, oAbs, oInt, intD, oRepr, oEqI, oNeI, oEqS, oNeS, eProp, eNext, iTupD, iLstD, iRngD, iEnmL, iEnmT, iZipD, lLc, wipeD, setD, tI, lI]
      refine ⟨by omega, ?_⟩
      refine for_ok (fun p ρ B => ∃ z1, ρ = [some (tI xs), some (tI ys), none, z1, some (.int (i : Nat))] ∧ B = (fl (xs.length + ys.length - 1) (fun _ => 0) 1 xs ys i p).map D.int) ?_ ?_ ⟨z1, rfl, rfl⟩
      · rintro p row hr ρ B ⟨z1, rfl, rfl⟩ N2 hN2
        obtain ⟨hp, e⟩ := range_row hr
        subst e
        have hb : i + p < xs.length + ys.length - 1 := by omega
        simp [rho, Ty, dSeq, dRet, dAsg, dAsg2, dPar, dIf, dNext, dNever, dDrop, dSetB, dAugB, dBox, dFor, nSeq, eVar, eC, eOp, eUn, oI, oI0, oU, eAndV, eOrV, eNotV, eIf, eChain, tstE, tstAnd, tstOr, tstNot, tstYes, eIsi, eIsF, isInt, isBool, isTup, isStr, tyD, eTup, aNil, aCons, aStar, eCall, eCallB, lCallN, eOfL, lDisp, lList, lRep, lSl, eSlT, pNone, pSome, oLen, lenD, oTuple, oIxT, oIxL, oIxC, eIxB, eTupB, oAbs, oInt, intD, oRepr, oEqI, oNeI, oEqS, oNeS, eProp, eNext, iTupD, iLstD, iRngD, iEnmL, iEnmT, iZipD, lLc, wipeD, setD, tI, lI, at_sum (ns := fl (xs.length + ys.length - 1) (fun _ => 0) 1 xs ys i p) (by rw [fl_len]; exact hb), at_ints (ns := xs) hi, at_ints (ns := ys) hp, fl_len, ix_sum hb]
        refine ⟨mul_ok sx sy i p, hN2 _ _ ⟨some (.int (p : Nat)), rfl, ?_⟩⟩
        rw [← fl_step _ _ _ _ _ _ _ hb, ← map_set, Int.one_mul]
      · rintro ρ B ⟨z1, rfl, rfl⟩
        rw [List.length_map, List.length_range, fl_row]
        exact hN _ _ ⟨z1, some (.int (i : Nat)), rfl, rfl⟩
    · rintro ρ B ⟨z1, z2, rfl, rfl⟩
      rw [List.length_map, List.length_range, fl_end]
      exact q
theorem w__law_product : ∀ ds QD, sd__law_product ds QD → ds.length = 2 ∧ r__law_product { nx := fun _ _ => QD .non, rt := fun v _ => QD v } (rho ["_law_one", "_law_other", "_law_found", "_law_place", "_law_at", "_law_first", "_law_second"] ds) [] := by
  rintro ds QD ⟨xs, ys, rfl, nx, ny, lx, ly, sx, sy, q⟩
  have px : 0 < xs.length := List.length_pos_iff.mpr nx
  have py : 0 < ys.length := List.length_pos_iff.mpr ny
  refine ⟨rfl, ?_⟩
  simp [r__law_product, rho, Ty, dSeq, dRet, dAsg, dAsg2, dPar, dIf, dNext, dNever, dDrop, dSetB, dAugB, dBox, dFor, nSeq, eVar, eC, eOp, eUn, oI, oI0, oU, eAndV, eOrV, eNotV, eIf, eChain, tstE, tstAnd, tstOr, tstNot, tstYes, eIsi, eIsF, isInt, isBool, isTup, isStr, tyD, eTup, aNil, aCons, aStar, eCall, eCallB, lCallN, eOfL, lDisp, lList, lRep, lSl, eSlT, pNone, pSome, oLen, lenD, oTuple, oIxT, oIxL, oIxC, eIxB, eTupB, oAbs, oInt, intD, oRepr, oEqI, oNeI, oEqS, oNeS, eProp, eNext, iTupD, iLstD, iRngD, iEnmL, iEnmT, iZipD, lLc, wipeD, setD, tI, lI]
  refine ⟨by omega, by omega, by omega, lc_map (fun _ => .int 0) (fun row hr N hN => ?_) ?_⟩
  · simp at hr
    obtain ⟨n, _, e⟩ := hr
    subst e
    simpa [rho, Ty, dSeq, dRet, dAsg, dAsg2, dPar, dIf, dNext, dNever, dDrop, dSetB, dAugB, dBox, dFor, nSeq, eVar, eC, eOp, eUn, oI, oI0, oU, eAndV, eOrV, eNotV, eIf, eChain, tstE, tstAnd, tstOr, tstNot, tstYes, eIsi, eIsF, isInt, isBool, isTup, isStr, tyD, eTup, aNil, aCons, aStar, eCall, eCallB, lCallN, eOfL, lDisp, lList, lRep, lSl, eSlT, pNone, pSome, oLen, lenD, oTuple, oIxT, oIxL, oIxC, eIxB, eTupB, oAbs, oInt, intD, oRepr, oEqI, oNeI, oEqS, oNeS, eProp, eNext, iTupD, iLstD, iRngD, iEnmL, iEnmT, iZipD, lLc, wipeD, setD, tI, lI] using hN
  · have eL : ((xs.length : Int) + (ys.length : Int)).toNat - 1 = xs.length + ys.length - 1 := by omega
    rw [eL]
    have e0 : (List.map (fun _ => D.int 0) (List.map (fun i : Nat => [D.int ↑i]) (List.range (xs.length + ys.length - 1)))) = (fl (xs.length + ys.length - 1) (fun _ => 0) 1 xs ys 0 0).map D.int := by
      rw [← zeros_tab, const_rows]
    rw [List.nil_append, e0]
    refine ⟨⟨_, rfl⟩, ?_⟩
    refine for_ok (fun i ρ B => ∃ z1 z2 z3 z4, ρ = [some (tI xs), some (tI ys), none, z1, z2, z3, z4] ∧ B = (fl (xs.length + ys.length - 1) (fun _ => 0) 1 xs ys i 0).map D.int) ?_ ?_ ⟨none, none, none, none, rfl, rfl⟩
    · rintro i row hr ρ B ⟨z1, z2, z3, z4, rfl, rfl⟩ N hN
      obtain ⟨hi, e⟩ := enum_row hr
      subst e
      simp [rho, Ty, dSeq, dRet, dAsg, dAsg2, dPar, dIf, dNext, dNever, dDrop, dSetB, dAugB, dBox, dFor, nSeq, eVar, eC, eOp, eUn, oI, oI0, oU, eAndV, eOrV, eNotV, eIf, eChain, tstE, tstAnd, tstOr, tstNot, tstYes, eIsi, eIsF, isInt, isBool, isTup, isStr, tyD, eTup, aNil, aCons, aStar, eCall, eCallB, lCallN, eOfL, lDisp, lList, lRep, lSl, eSlT, pNone, pSome, oLen, lenD, oTuple, oIxT, oIxL, oIxC, eIxB, eTupB, oAbs, oInt, intD, oRepr, oEqI, oNeI, oEqS, oNeS, eProp, eNext, iTupD, iLstD, iRngD, iEnmL, iEnmT, iZipD, lLc, wipeD, setD, tI, lI]
      refine for_ok (fun p ρ B => ∃ z1 z4, ρ = [some (tI xs), some (tI ys), none, z1, some (.int (i : Nat)), some (.int (co xs i)), z4] ∧ B = (fl (xs.length + ys.length - 1) (fun _ => 0) 1 xs ys i p).map D.int) ?_ ?_ ⟨z1, z4, rfl, rfl⟩
      · rintro p row hr ρ B ⟨z1, z4, rfl, rfl⟩ N2 hN2
        obtain ⟨hp, e⟩ := enum_row hr
        subst e
        have hb : i + p < xs.length + ys.length - 1 := by omega
        simp [rho, Ty, dSeq, dRet, dAsg, dAsg2, dPar, dIf, dNext, dNever, dDrop, dSetB, dAugB, dBox, dFor, nSeq, eVar, eC, eOp, eUn, oI, oI0, oU, eAndV, eOrV, eNotV, eIf, eChain, tstE, tstAnd, tstOr, tstNot, tstYes, eIsi, eIsF, isInt, isBool, isTup, isStr, tyD, eTup, aNil, aCons, aStar, eCall, eCallB, lCallN, eOfL, lDisp, lList, lRep, lSl, eSlT, pNone, pSome, oLen, lenD, oTuple, oIxT, oIxL, oIxC, eIxB, eTupB, oAbs, oInt, intD, oRepr, oEqI, oNeI, oEqS, oNeS, eProp, eNext, iTupD, iLstD, iRngD, iEnmL, iEnmT, iZipD, lLc, wipeD, setD, tI, lI, at_sum (ns := fl (xs.length + ys.length - 1) (fun _ => 0) 1 xs ys i p) (by rw [fl_len]; exact hb), fl_len, ix_sum hb]
        refine ⟨mul_ok sx sy i p, hN2 _ _ ⟨some (.int (p : Nat)), some (.int (co ys p)), rfl, ?_⟩⟩
        rw [← fl_step _ _ _ _ _ _ _ hb, ← map_set, Int.one_mul]
      · rintro ρ B ⟨z1, z4, rfl, rfl⟩
        rw [numbered_len, List.length_map, fl_row]
        exact hN _ _ ⟨z1, some (.int (i : Nat)), some (.int (co xs i)), z4, rfl, rfl⟩
    · rintro ρ B ⟨z1, z2, z3, z4, rfl, rfl⟩
      rw [numbered_len, List.length_map, fl_end]
      simpa [rho, Ty, dSeq, dRet, dAsg, dAsg2, dPar, dIf, dNext, dNever, dDrop, dSetB, dAugB, dBox, dFor, nSeq, eVar, eC, eOp, eUn, oI, oI0, oU, eAndV, eOrV, eNotV, eIf, eChain, tstE, tstAnd, tstOr, tstNot, tstYes, eIsi, eIsF, isInt, isBool, isTup, isStr, tyD, eTup, aNil, aCons, aStar, eCall, eCallB, lCallN, eOfL, lDisp, lList, lRep, lSl, eSlT, pNone, pSome, oLen, lenD, oTuple, oIxT, oIxL, oIxC, eIxB, eTupB, oAbs, oInt, intD, oRepr, oEqI, oNeI, oEqS, oNeS, eProp, eNext, iTupD, iLstD, iRngD, iEnmL, iEnmT, iZipD, lLc, wipeD, setD, tI, lI] using q
theorem w_add_product : ∀ ds B QD, sd_add_product ds B QD → ds.length + 1 = 4 ∧ r_add_product { nx := fun _ B => QD .non B, rt := fun v B => QD v B } (none :: rho (["found", "one", "other", "factor", "at", "first", "place", "second"] : List Str).tail ds) B := by
  rintro ds B QD ⟨xs, ys, f, bs, rfl, rfl, nx, ny, hl, lb, sx, sy, sf, q⟩
  refine ⟨rfl, ?_⟩
  simp [r_add_product, rho, Ty, dSeq, dRet, dAsg, dAsg2, dPar, dIf, dNext, dNever, dDrop, dSetB, dAugB, dBox, dFor, nSeq, eVar, eC, eOp, eUn, oI, oI0, oU, eAndV, eOrV, eNotV, eIf, eChain, tstE, tstAnd, tstOr, tstNot, tstYes, eIsi, eIsF, isInt, isBool, isTup, isStr, tyD, eTup, aNil, aCons, aStar, eCall, eCallB, lCallN, eOfL, lDisp, lList, lRep, lSl, eSlT, pNone, pSome, oLen, lenD, oTuple, oIxT, oIxL, oIxC, eIxB, eTupB, oAbs, oInt, intD, oRepr, oEqI, oNeI, oEqS, oNeS, eProp, eNext, iTupD, iLstD, iRngD, iEnmL, iEnmT, iZipD, lLc, wipeD, setD, tI, lI]
  have hf : f.natAbs < 2 ^ 2 := sf
  refine for_ok (fun i ρ B => ∃ z1 z2 z3 z4, ρ = [none, some (lI xs), some (lI ys), some (.int f), z1, z2, z3, z4] ∧ B = (fl bs.length (co bs) f xs ys i 0).map D.int) ?_ ?_ ⟨none, none, none, none, rfl, ?_⟩
  · rintro i row hr ρ B ⟨z1, z2, z3, z4, rfl, rfl⟩ N hN
    obtain ⟨hi, e⟩ := enum_row hr
    subst e
    simp [rho, Ty, dSeq, dRet, dAsg, dAsg2, dPar, dIf, dNext, dNever, dDrop, dSetB, dAugB, dBox, dFor, nSeq, eVar, eC, eOp, eUn, oI, oI0, oU, eAndV, eOrV, eNotV, eIf, eChain, tstE, tstAnd, tstOr, tstNot, tstYes, eIsi, eIsF, isInt, isBool, isTup, isStr, tyD, eTup, aNil, aCons, aStar, eCall, eCallB, lCallN, eOfL, lDisp, lList, lRep, lSl, eSlT, pNone, pSome, oLen, lenD, oTuple, oIxT, oIxL, oIxC, eIxB, eTupB, oAbs, oInt, intD, oRepr, oEqI, oNeI, oEqS, oNeS, eProp, eNext, iTupD, iLstD, iRngD, iEnmL, iEnmT, iZipD, lLc, wipeD, setD, tI, lI]
    refine for_ok (fun p ρ B => ∃ z3 z4, ρ = [none, some (lI xs), some (lI ys), some (.int f), some (.int (i : Nat)), some (.int (co xs i)), z3, z4] ∧ B = (fl bs.length (co bs) f xs ys i p).map D.int) ?_ ?_ ⟨z3, z4, rfl, rfl⟩
    · rintro p row hr ρ B ⟨z3, z4, rfl, rfl⟩ N2 hN2
      obtain ⟨hp, e⟩ := enum_row hr
      subst e
      have hb : i + p < bs.length := by omega
      have c1 : CMulA f (co xs i) := .inr (wide_mul hf (co_lt2 sx i) (by decide) (by decide) (by decide))
      have c2 : CMulA (f * co xs i) (co ys p) := .inr (wide_mul (wide_lt hf (co_lt2 sx i)) (co_lt2 sy p) (by decide) (by decide) (by decide))
      simp [rho, Ty, dSeq, dRet, dAsg, dAsg2, dPar, dIf, dNext, dNever, dDrop, dSetB, dAugB, dBox, dFor, nSeq, eVar, eC, eOp, eUn, oI, oI0, oU, eAndV, eOrV, eNotV, eIf, eChain, tstE, tstAnd, tstOr, tstNot, tstYes, eIsi, eIsF, isInt, isBool, isTup, isStr, tyD, eTup, aNil, aCons, aStar, eCall, eCallB, lCallN, eOfL, lDisp, lList, lRep, lSl, eSlT, pNone, pSome, oLen, lenD, oTuple, oIxT, oIxL, oIxC, eIxB, eTupB, oAbs, oInt, intD, oRepr, oEqI, oNeI, oEqS, oNeS, eProp, eNext, iTupD, iLstD, iRngD, iEnmL, iEnmT, iZipD, lLc, wipeD, setD, tI, lI, at_sum (ns := fl bs.length (co bs) f xs ys i p) (by rw [fl_len]; exact hb), fl_len, ix_sum hb]
      refine ⟨c1, c2, hN2 _ _ ⟨some (.int (p : Nat)), some (.int (co ys p)), rfl, ?_⟩⟩
      rw [← fl_step _ _ _ _ _ _ _ hb, ← map_set, Int.mul_assoc]
    · rintro ρ B ⟨z3, z4, rfl, rfl⟩
      rw [numbered_len, List.length_map, fl_row]
      exact hN _ _ ⟨some (.int (i : Nat)), some (.int (co xs i)), z3, z4, rfl, rfl⟩
  · rintro ρ B ⟨z1, z2, z3, z4, rfl, rfl⟩
    rw [numbered_len, List.length_map]
    have e : fl bs.length (co bs) f xs ys xs.length 0 = addP bs f xs ys := tab_congr fun m hm => by rw [cvp_all _ _ _ (by omega)]
    rw [e]
    exact q
  · congr 1
    refine ext_co (by rw [fl_len]) fun i hi => ?_
    unfold fl
    rw [tab_co hi, cvp_zero, Int.mul_zero, Int.add_zero]
end KD
set_option Elab.async false
set_option linter.all false
set_option maxRecDepth 100000
set_option maxHeartbeats 2000000
/-! Walks, 2: powers, slopes, layings. -/
namespace KD
open PySem PySem.Spec PyProof.Rows L2 Km

/-! ### comprehensions over ints -/
theorem lc_rows {js : List Nat} {re : DE} {ρ : Env} {B : List D} {Q : List D → List D → Prop} {rows : List (List D)} (g : Nat → Int) (n : Nat) (hl : rows.length = n) (h : ∀ i row, rows[i]? = some row → ∀ N : D → List D → Prop, N (.int (g i)) B → re (setD ρ js row) B N)
    (q : Q ((tab n g).map D.int) B) : dLcGo js tstYes re ρ rows [] B Q := by
  have go : ∀ (k i : Nat), rows.length - i = k → i ≤ rows.length → dLcGo js tstYes re ρ (rows.drop i) ((tab i g).map D.int) B Q := by
    intro k
    induction k with
    | zero =>
      intro i hk hi
      have e : i = rows.length := by omega
      subst e
      rw [List.drop_length, hl]
      exact q
    | succ k ih =>
      intro i hk hi
      have hlt : i < rows.length := by omega
      rw [List.drop_eq_getElem_cons hlt]
      show (if true = true then re (setD ρ js rows[i]) B fun d B2 => dLcGo js tstYes re ρ (rows.drop (i + 1)) ((tab i g).map D.int ++ [d]) B2 Q else dLcGo js tstYes re ρ (rows.drop (i + 1)) ((tab i g).map D.int) B Q)
      rw [if_pos rfl]
      refine h i rows[i] (List.getElem?_eq_getElem hlt) _ ?_
      have e : (tab i g).map D.int ++ [.int (g i)] = (tab (i + 1) g).map D.int := by
        unfold tab
        rw [List.range_succ]
        simp
      rw [e]
      exact ih (i + 1) (by omega) hlt
  have h0 := go rows.length 0 (by omega) (Nat.zero_le _)
  rw [List.drop_zero] at h0
  exact h0
theorem tup_row {ns : List Int} {i : Nat} {row : List D} (h : (List.map ((fun d => [d]) ∘ D.int) ns)[i]? = some row) : i < ns.length ∧ row = [.int (co ns i)] := by
  rw [List.getElem?_map, Option.map_eq_some_iff] at h
  obtain ⟨n, e1, e2⟩ := h
  rw [Km.co_some e1]
  exact ⟨(List.getElem?_eq_some_iff.mp e1).1, e2.symm⟩
theorem map_tab (xs : List Int) (f : Int → Int) : tab xs.length (fun i => f (co xs i)) = xs.map f := by
  refine ext_co (by rw [tab_len, List.length_map]) fun i hi => ?_
  rw [tab_len] at hi
  rw [tab_co hi, co_lt hi, co_lt (by rw [List.length_map]; exact hi), List.getElem_map]
theorem sIx_top (n d : Nat) (h : 1 ≤ n) : HT.sIx n d (some (-1)) = n - 1 := by
  unfold HT.sIx
  simp
  omega
theorem cut_last {xs : List Int} (h : xs ≠ []) : KD.cut (xs.map D.int) none (some (-1)) = (xs.take (xs.length - 1)).map D.int := by
  have hl : 1 ≤ xs.length := List.length_pos_iff.mpr h
  unfold KD.cut
  rw [List.length_map, sIx_top _ _ hl]
  show List.take (xs.length - 1 - 0) (List.drop 0 _) = _
  rw [List.drop_zero, Nat.sub_zero, List.map_take]
theorem cut_first {α : Type} (xs : List α) : KD.cut xs (some 1) none = xs.drop 1 := by
  unfold KD.cut
  have e : HT.sIx xs.length 0 (some 1) = min 1 xs.length := by
    unfold HT.sIx
    simp
    try omega
  have e2 : HT.sIx xs.length xs.length none = xs.length := rfl
  rw [e, e2]
  cases xs with
  | nil => rfl
  | cons x r =>
    rw [List.length_cons, show min 1 (r.length + 1) = 1 by omega]
    simp

/-! ### powers -/
theorem ch_le : ∀ n k : Nat, ch n k ≤ 2 ^ n
  | n, 0 => by rw [ch_zero]; exact Nat.one_le_two_pow
  | 0, k + 1 => by show 0 ≤ _; exact Nat.zero_le _
  | n + 1, k + 1 => by
    show ch n k + ch n (k + 1) ≤ 2 ^ (n + 1)
    have h1 := ch_le n k
    have h2 := ch_le n (k + 1)
    rw [Nat.pow_succ]
    omega
theorem pw_bd {a b : Int} {M : Nat} (ha : a.natAbs ≤ M) (hb : b.natAbs ≤ M) (hM : 1 ≤ M) (n i : Nat) : (co (pw [a, b] n) i).natAbs ≤ (2 * M) ^ n := by
  by_cases hi : i ≤ n
  · rw [pw_co a b n i hi, Int.natAbs_mul, Int.natAbs_mul, Int.natAbs_pow, Int.natAbs_pow, Nat.mul_pow, Nat.mul_assoc]
    have e : (((ch n i : Nat) : Int)).natAbs = ch n i := Int.natAbs_natCast _
    rw [e]
    refine Nat.mul_le_mul (ch_le n i) ?_
    have h1 : a.natAbs ^ (n - i) ≤ M ^ (n - i) := Nat.pow_le_pow_left ha _
    have h2 : b.natAbs ^ i ≤ M ^ i := Nat.pow_le_pow_left hb _
    have h3 := Nat.mul_le_mul h1 h2
    rw [← Nat.pow_add, Nat.sub_add_cancel hi] at h3
    exact h3
  · rw [co_ge (by rw [pw_len _ rfl]; omega)]
    exact Nat.zero_le _
theorem mem_co {xs : List Int} {e : Int} (h : e ∈ xs) : ∃ i, i < xs.length ∧ e = co xs i := by
  obtain ⟨i, hi, e1⟩ := List.getElem_of_mem h
  exact ⟨i, hi, by rw [co_lt hi, e1]⟩
theorem pow_lt_big {s n k : Nat} (h : (s + 1) * n < k) : (2 * 2 ^ s) ^ n < 2 ^ k := by
  rw [show 2 * 2 ^ s = 2 ^ (s + 1) by rw [Nat.pow_succ, Nat.mul_comm], ← Nat.pow_mul]
  exact Nat.pow_lt_pow_right (by decide) h
theorem pw_sm {a b : Int} {s n k : Nat} (ha : a.natAbs < 2 ^ s) (hb : b.natAbs < 2 ^ s) (h : (s + 1) * n < k) : ∀ e ∈ pw [a, b] n, e.natAbs < 2 ^ k := fun e he => by
  obtain ⟨i, _, e1⟩ := mem_co he
  rw [e1]
  exact Nat.lt_of_le_of_lt (pw_bd (Nat.le_of_lt ha) (Nat.le_of_lt hb) Nat.one_le_two_pow n i) (pow_lt_big h)
theorem sm_pair {a b : Int} {s : Nat} (ha : a.natAbs < 2 ^ s) (hb : b.natAbs < 2 ^ s) (h : s ≤ 300000) : Sm [a, b] := fun e he => by
  have up : 2 ^ s ≤ 2 ^ 300000 := Nat.pow_le_pow_right (by decide) h
  rcases List.mem_cons.mp he with z | z
  · rw [z]; exact Nat.lt_of_lt_of_le ha up
  · rw [List.mem_singleton.mp z]; exact Nat.lt_of_lt_of_le hb up
theorem w_power_in : ∀ ds QD, sd_power_in ds QD → ds.length = 2 ∧ r_power_in { nx := fun _ _ => QD .non, rt := fun v _ => QD v } (rho ["pair", "degree", "found", "turn"] ds) [] := by
  rintro ds QD ⟨a, b, n, rfl, hn, ha, hb, q⟩
  refine ⟨rfl, ?_⟩
  simp [r_power_in, rho, Ty, dSeq, dRet, dAsg, dAsg2, dPar, dIf, dNext, dNever, dDrop, dSetB, dAugB, dBox, dFor, nSeq, eVar, eC, eOp, eUn, oI, oI0, oU, eAndV, eOrV, eNotV, eIf, eChain, tstE, tstAnd, tstOr, tstNot, tstYes, eIsi, eIsF, isInt, isBool, isTup, isStr, tyD, eTup, aNil, aCons, aStar, eCall, eCallB, lCallN, eOfL, lDisp, lList, lRep, lSl, eSlT, pNone, pSome, oLen, lenD, oTuple, oIxT, oIxL, oIxC, eIxB, eTupB, oAbs, oInt, intD, oRepr, oEqI, oNeI, oEqS, oNeS, eProp, eNext, iTupD, iLstD, iRngD, iEnmL, iEnmT, iZipD, lLc, wipeD, setD, tI, lI]
  refine ⟨by omega, ?_⟩
  refine for_ok (fun i ρ B => ∃ z, ρ = [some (tI [a, b]), some (.int (n : Nat)), some (tI (pw [a, b] i)), z]) ?_ ?_ ⟨none, rfl⟩
  · rintro i row hr ρ B ⟨z, rfl⟩ N hN
    obtain ⟨hi, e⟩ := range_row hr
    subst e
    simp [sd_product_in, rho, Ty, dSeq, dRet, dAsg, dAsg2, dPar, dIf, dNext, dNever, dDrop, dSetB, dAugB, dBox, dFor, nSeq, eVar, eC, eOp, eUn, oI, oI0, oU, eAndV, eOrV, eNotV, eIf, eChain, tstE, tstAnd, tstOr, tstNot, tstYes, eIsi, eIsF, isInt, isBool, isTup, isStr, tyD, eTup, aNil, aCons, aStar, eCall, eCallB, lCallN, eOfL, lDisp, lList, lRep, lSl, eSlT, pNone, pSome, oLen, lenD, oTuple, oIxT, oIxL, oIxC, eIxB, eTupB, oAbs, oInt, intD, oRepr, oEqI, oNeI, oEqS, oNeS, eProp, eNext, iTupD, iLstD, iRngD, iEnmL, iEnmT, iZipD, lLc, wipeD, setD, tI, lI]
    refine ⟨pw [a, b] i, [a, b], ⟨by simp [tI], by simp [tI]⟩, pw_ne _ rfl i, by simp, by rw [pw_len _ rfl]; omega, by simp, pw_sm ha hb (by omega), sm_pair ha hb (by decide), hN _ _ ⟨some (.int (i : Nat)), rfl⟩⟩
  · rintro ρ B ⟨z, rfl⟩
    rw [List.length_map, List.length_range]
    simpa [rho, Ty, dSeq, dRet, dAsg, dAsg2, dPar, dIf, dNext, dNever, dDrop, dSetB, dAugB, dBox, dFor, nSeq, eVar, eC, eOp, eUn, oI, oI0, oU, eAndV, eOrV, eNotV, eIf, eChain, tstE, tstAnd, tstOr, tstNot, tstYes, eIsi, eIsF, isInt, isBool, isTup, isStr, tyD, eTup, aNil, aCons, aStar, eCall, eCallB, lCallN, eOfL, lDisp, lList, lRep, lSl, eSlT, pNone, pSome, oLen, lenD, oTuple, oIxT, oIxL, oIxC, eIxB, eTupB, oAbs, oInt, intD, oRepr, oEqI, oNeI, oEqS, oNeS, eProp, eNext, iTupD, iLstD, iRngD, iEnmL, iEnmT, iZipD, lLc, wipeD, setD, tI, lI] using q
theorem w__law_power : ∀ ds QD, sd__law_power ds QD → ds.length = 2 ∧ r__law_power { nx := fun _ _ => QD .non, rt := fun v _ => QD v } (rho ["_law_pair", "_law_times", "_law_found", "_law_turn"] ds) [] := by
  rintro ds QD ⟨a, b, n, rfl, hn, ha, hb, q⟩
  refine ⟨rfl, ?_⟩
  simp [r__law_power, rho, Ty, dSeq, dRet, dAsg, dAsg2, dPar, dIf, dNext, dNever, dDrop, dSetB, dAugB, dBox, dFor, nSeq, eVar, eC, eOp, eUn, oI, oI0, oU, eAndV, eOrV, eNotV, eIf, eChain, tstE, tstAnd, tstOr, tstNot, tstYes, eIsi, eIsF, isInt, isBool, isTup, isStr, tyD, eTup, aNil, aCons, aStar, eCall, eCallB, lCallN, eOfL, lDisp, lList, lRep, lSl, eSlT, pNone, pSome, oLen, lenD, oTuple, oIxT, oIxL, oIxC, eIxB, eTupB, oAbs, oInt, intD, oRepr, oEqI, oNeI, oEqS, oNeS, eProp, eNext, iTupD, iLstD, iRngD, iEnmL, iEnmT, iZipD, lLc, wipeD, setD, tI, lI]
  refine ⟨by omega, ?_⟩
  refine for_ok (fun i ρ B => ∃ z, ρ = [some (tI [a, b]), some (.int (n : Nat)), some (tI (pw [a, b] i)), z]) ?_ ?_ ⟨none, rfl⟩
  · rintro i row hr ρ B ⟨z, rfl⟩ N hN
    obtain ⟨hi, e⟩ := range_row hr
    subst e
    simp [sd__law_product, sd_product_in, rho, Ty, dSeq, dRet, dAsg, dAsg2, dPar, dIf, dNext, dNever, dDrop, dSetB, dAugB, dBox, dFor, nSeq, eVar, eC, eOp, eUn, oI, oI0, oU, eAndV, eOrV, eNotV, eIf, eChain, tstE, tstAnd, tstOr, tstNot, tstYes, eIsi, eIsF, isInt, isBool, isTup, isStr, tyD, eTup, aNil, aCons, aStar, eCall, eCallB, lCallN, eOfL, lDisp, lList, lRep, lSl, eSlT, pNone, pSome, oLen, lenD, oTuple, oIxT, oIxL, oIxC, eIxB, eTupB, oAbs, oInt, intD, oRepr, oEqI, oNeI, oEqS, oNeS, eProp, eNext, iTupD, iLstD, iRngD, iEnmL, iEnmT, iZipD, lLc, wipeD, setD, tI, lI]
    refine ⟨pw [a, b] i, [a, b], ⟨by simp [tI], by simp [tI]⟩, pw_ne _ rfl i, by simp, by rw [pw_len _ rfl]; omega, by simp, pw_sm ha hb (by omega), sm_pair ha hb (by decide), hN _ _ ⟨some (.int (i : Nat)), rfl⟩⟩
  · rintro ρ B ⟨z, rfl⟩
    rw [List.length_map, List.length_range]
    simpa [rho, Ty, dSeq, dRet, dAsg, dAsg2, dPar, dIf, dNext, dNever, dDrop, dSetB, dAugB, dBox, dFor, nSeq, eVar, eC, eOp, eUn, oI, oI0, oU, eAndV, eOrV, eNotV, eIf, eChain, tstE, tstAnd, tstOr, tstNot, tstYes, eIsi, eIsF, isInt, isBool, isTup, isStr, tyD, eTup, aNil, aCons, aStar, eCall, eCallB, lCallN, eOfL, lDisp, lList, lRep, lSl, eSlT, pNone, pSome, oLen, lenD, oTuple, oIxT, oIxL, oIxC, eIxB, eTupB, oAbs, oInt, intD, oRepr, oEqI, oNeI, oEqS, oNeS, eProp, eNext, iTupD, iLstD, iRngD, iEnmL, iEnmT, iZipD, lLc, wipeD, setD, tI, lI] using q
/-! ### two over k -/
theorem cdiv_s {i j : Int} (h : j = 1 ∨ j = 2) : CDivZ i j := by
  rcases h with h | h <;> subst h <;> exact ⟨by decide, by decide⟩
theorem w_lots_of : ∀ ds QD, sd_lots_of ds QD → ds.length = 2 ∧ r_lots_of { nx := fun _ _ => QD .non, rt := fun v _ => QD v } (rho ["many", "few", "found", "at"] ds) [] := by
  rintro ds QD ⟨k, rfl, hk, q⟩
  refine ⟨rfl, ?_⟩
  have h3 : k = 0 ∨ k = 1 ∨ k = 2 := by omega
  have l1 : Nat.log2 1 < 9000 := by decide
  have l2 : Nat.log2 2 < 9000 := by decide
  rcases h3 with h | h | h <;> subst h <;> simp [r_lots_of, dForGo, List.range, List.range.loop, two, CMulA, CMul, CDivZ, l1, l2, rho, Ty, dSeq, dRet, dAsg, dAsg2, dPar, dIf, dNext, dNever, dDrop, dSetB, dAugB, dBox, dFor, nSeq, eVar, eC, eOp, eUn, oI, oI0, oU, eAndV, eOrV, eNotV, eIf, eChain, tstE, tstAnd, tstOr, tstNot, tstYes, eIsi, eIsF, isInt, isBool, isTup, isStr, tyD, eTup, aNil, aCons, aStar, eCall, eCallB, lCallN, eOfL, lDisp, lList, lRep, lSl, eSlT, pNone, pSome, oLen, lenD, oTuple, oIxT, oIxL, oIxC, eIxB, eTupB, oAbs, oInt, intD, oRepr, oEqI, oNeI, oEqS, oNeS, eProp, eNext, iTupD, iLstD, iRngD, iEnmL, iEnmT, iZipD, lLc, wipeD, setD, tI, lI] at q ⊢ <;> exact q
theorem w__law_choose : ∀ ds QD, sd__law_choose ds QD → ds.length = 2 ∧ r__law_choose { nx := fun _ _ => QD .non, rt := fun v _ => QD v } (rho ["_law_many", "_law_few", "_law_found", "_law_at"] ds) [] := by
  rintro ds QD ⟨k, rfl, hk, q⟩
  refine ⟨rfl, ?_⟩
  have h3 : k = 0 ∨ k = 1 ∨ k = 2 := by omega
  have l1 : Nat.log2 1 < 9000 := by decide
  have l2 : Nat.log2 2 < 9000 := by decide
  rcases h3 with h | h | h <;> subst h <;> simp [r__law_choose, dForGo, List.range, List.range.loop, two, CMulA, CMul, CDivZ, l1, l2, rho, Ty, dSeq, dRet, dAsg, dAsg2, dPar, dIf, dNext, dNever, dDrop, dSetB, dAugB, dBox, dFor, nSeq, eVar, eC, eOp, eUn, oI, oI0, oU, eAndV, eOrV, eNotV, eIf, eChain, tstE, tstAnd, tstOr, tstNot, tstYes, eIsi, eIsF, isInt, isBool, isTup, isStr, tyD, eTup, aNil, aCons, aStar, eCall, eCallB, lCallN, eOfL, lDisp, lList, lRep, lSl, eSlT, pNone, pSome, oLen, lenD, oTuple, oIxT, oIxL, oIxC, eIxB, eTupB, oAbs, oInt, intD, oRepr, oEqI, oNeI, oEqS, oNeS, eProp, eNext, iTupD, iLstD, iRngD, iEnmL, iEnmT, iZipD, lLc, wipeD, setD, tI, lI] at q ⊢ <;> exact q
/-! ### data -/
theorem toPs_ints : ∀ ns : List Int, toPs (ns.map D.int) = some (ns.map PyData.int)
  | [] => by simp [toPs]
  | n :: ns => by
    rw [List.map_cons, List.map_cons]
    simp [toPs, toP, toPs_ints ns]
theorem toP_tI (ns : List Int) : toP (.tup (ns.map D.int)) = some (.tuple (ns.map PyData.int)) := by simp [toP, toPs_ints ns]
theorem lay_ints : ∀ ns : List Int, PyData.canLayAll0 (ns.map PyData.int) = true
  | [] => by simp [PyData.canLayAll0]
  | n :: ns => by simp [PyData.canLayAll0, PyData.canLay0, lay_ints ns]
theorem depth_ints : ∀ ns : List Int, PyData.depthAll (ns.map PyData.int) ≤ 1
  | [] => by simp [PyData.depthAll]
  | n :: ns => by
    have := depth_ints ns
    simp [PyData.depthAll, PyData.depth]
    omega
theorem shaped_tI (ns : List Int) : SeqAt.shaped (.tuple (ns.map PyData.int)) = true := by
  have := depth_ints ns
  simp [SeqAt.shaped, PyData.canLay0, lay_ints, PyData.depth]
  omega
theorem eqv_ints : ∀ xs ys : List Int, PyData.eqvAll (xs.map PyData.int) (ys.map PyData.int) = decide (xs = ys)
  | [], [] => by simp [PyData.eqvAll]
  | [], y :: ys => by simp [PyData.eqvAll]
  | x :: xs, [] => by simp [PyData.eqvAll]
  | x :: xs, y :: ys => by
    have ih := eqv_ints xs ys
    simp [PyData.eqvAll, PyData.eqv, ih]
    by_cases h : x = y <;> by_cases h2 : xs = ys <;> simp [h, h2]
theorem eqv_tI (xs ys : List Int) : PyData.eqv (.tuple (xs.map PyData.int)) (.tuple (ys.map PyData.int)) = decide (xs = ys) := by
  simp only [PyData.eqv]
  exact eqv_ints xs ys
/-- == of two tuples of ints -/
theorem oEqD_tI {xs ys : List Int} {Q : D → Prop} (q : Q (.bl (decide (xs = ys)))) : oEqD (.tup (xs.map D.int)) (.tup (ys.map D.int)) Q := ⟨_, _, toP_tI xs, toP_tI ys, shaped_tI xs, shaped_tI ys, by rw [eqv_tI]; exact q⟩
theorem oNeD_tI {xs ys : List Int} {Q : D → Prop} (q : Q (.bl (!decide (xs = ys)))) : oNeD (.tup (xs.map D.int)) (.tup (ys.map D.int)) Q := ⟨_, _, toP_tI xs, toP_tI ys, shaped_tI xs, shaped_tI ys, by rw [eqv_tI]; exact q⟩
theorem at0 (a b : D) : atI [a, b] 0 = some a := rfl
theorem at1 (a b : D) : atI [a, b] 1 = some b := rfl
theorem w_is_point_any : ∀ ds QD, sd_is_point_any ds QD → ds.length = 1 ∧ r_is_point_any { nx := fun _ _ => QD .non, rt := fun v _ => QD v } (rho ["value"] ds) [] := by
  rintro ds QD ⟨v, rfl, pv, q⟩
  refine ⟨rfl, ?_⟩
  simp [r_is_point_any, sd_are_wholes, rho, Ty, dSeq, dRet, dAsg, dAsg2, dPar, dIf, dNext, dNever, dDrop, dSetB, dAugB, dBox, dFor, nSeq, eVar, eC, eOp, eUn, oI, oI0, oU, eAndV, eOrV, eNotV, eIf, eChain, tstE, tstAnd, tstOr, tstNot, tstYes, eIsi, eIsF, isInt, isBool, isTup, isStr, tyD, eTup, aNil, aCons, aStar, eCall, eCallB, lCallN, eOfL, lDisp, lList, lRep, lSl, eSlT, pNone, pSome, oLen, lenD, oTuple, oIxT, oIxL, oIxC, eIxB, eTupB, oAbs, oInt, intD, oRepr, oEqI, oNeI, oEqS, oNeS, eProp, eNext, iTupD, iLstD, iRngD, iEnmL, iEnmT, iZipD, lLc, wipeD, setD, tI, lI]
  refine ⟨pv, ?_⟩
  cases v with
  | tup xs =>
    obtain ⟨a, b, e⟩ := pv.2 xs rfl
    subst e
    have e2 : wholesD (.tup [.int a, .int b]) = true := rfl
    simp [e2]
    refine oEqD_tI (xs := [a, b]) (ys := [0, 0]) ?_
    simp [at0, at1, sd_first_of]
    have q2 : QD (.bl (ptOk a b)) := q
    unfold ptOk at q2
    by_cases h0 : a = 0 ∧ b = 0
    · refine .inr ⟨h0, ?_⟩
      obtain ⟨h1, h2⟩ := h0
      subst h1 h2
      simpa using q2
    · refine .inl ⟨fun z1 z2 => h0 ⟨z1, z2⟩, ?_⟩
      by_cases h1 : (Nat.gcd a.natAbs b.natAbs : Int) = 1
      · rw [if_pos h1]
        have h2 : Nat.gcd a.natAbs b.natAbs = 1 := by omega
        rw [decide_eq_true h2, Bool.true_and] at q2
        exact ⟨[a, b], rfl, q2⟩
      · rw [if_neg h1]
        have h2 : ¬ Nat.gcd a.natAbs b.natAbs = 1 := by omega
        rw [decide_eq_false h2, Bool.false_and] at q2
        exact q2
  | _ => simpa [wholesD, pointD] using q
/-! ### slopes -/
theorem cut_last' {xs : List Int} (h : xs ≠ []) : KD.cut (xs.map D.int) none (some (-1)) = (xs.take (xs.length - 1)).map D.int := cut_last h
theorem cmul_s {i j : Int} (h1 : 0 ≤ j) (h2 : j ≤ 100000) : CMulA i j := .inl (.inr ⟨by omega, by omega⟩)
theorem co_take {xs : List Int} {n i : Nat} (h : i < n) : co (xs.take n) i = co xs i := by
  unfold co
  rw [List.getD_eq_getElem?_getD, List.getD_eq_getElem?_getD, List.getElem?_take_of_lt h]
theorem co_drop (xs : List Int) (n i : Nat) : co (xs.drop n) i = co xs (i + n) := by
  unfold co
  rw [List.getD_eq_getElem?_getD, List.getD_eq_getElem?_getD, List.getElem?_drop, Nat.add_comm]
theorem w_laying_slope : ∀ ds QD, sd_laying_slope ds QD → ds.length = 2 ∧ r_laying_slope { nx := fun _ _ => QD .non, rt := fun v _ => QD v } (rho ["entries", "by_y", "at", "entry"] ds) [] := by
  rintro ds QD ⟨es, b, rfl, ne, hl, q⟩
  have pl : 1 ≤ es.length := List.length_pos_iff.mpr ne
  refine ⟨rfl, ?_⟩
  cases b with
  | true =>
    simp [r_laying_slope, rho, Ty, dSeq, dRet, dAsg, dAsg2, dPar, dIf, dNext, dNever, dDrop, dSetB, dAugB, dBox, dFor, nSeq, eVar, eC, eOp, eUn, oI, oI0, oU, eAndV, eOrV, eNotV, eIf, eChain, tstE, tstAnd, tstOr, tstNot, tstYes, eIsi, eIsF, isInt, isBool, isTup, isStr, tyD, eTup, aNil, aCons, aStar, eCall, eCallB, lCallN, eOfL, lDisp, lList, lRep, lSl, eSlT, pNone, pSome, oLen, lenD, oTuple, oIxT, oIxL, oIxC, eIxB, eTupB, oAbs, oInt, intD, oRepr, oEqI, oNeI, oEqS, oNeS, eProp, eNext, iTupD, iLstD, iRngD, iEnmL, iEnmT, iZipD, lLc, wipeD, setD, tI, lI]
    rw [cut_first, ← List.map_drop]
    refine ⟨by rw [numbered_len]; simp; omega, lc_rows (fun i => co es (i + 1) * ((i + 1 : Nat) : Int)) (es.length - 1) (by rw [numbered_len]; simp) (fun i row hr N hN => ?_) q⟩
    obtain ⟨hi, e⟩ := enum_row hr
    subst e
    rw [List.length_drop] at hi
    rw [co_drop]
    rw [show ((i + 1 : Nat) : Int) = (i : Int) + 1 by omega] at hN
    simp [rho, Ty, dSeq, dRet, dAsg, dAsg2, dPar, dIf, dNext, dNever, dDrop, dSetB, dAugB, dBox, dFor, nSeq, eVar, eC, eOp, eUn, oI, oI0, oU, eAndV, eOrV, eNotV, eIf, eChain, tstE, tstAnd, tstOr, tstNot, tstYes, eIsi, eIsF, isInt, isBool, isTup, isStr, tyD, eTup, aNil, aCons, aStar, eCall, eCallB, lCallN, eOfL, lDisp, lList, lRep, lSl, eSlT, pNone, pSome, oLen, lenD, oTuple, oIxT, oIxL, oIxC, eIxB, eTupB, oAbs, oInt, intD, oRepr, oEqI, oNeI, oEqS, oNeS, eProp, eNext, iTupD, iLstD, iRngD, iEnmL, iEnmT, iZipD, lLc, wipeD, setD, tI, lI]
    exact ⟨cmul_s (by omega) (by omega), hN⟩
  | false =>
    simp [r_laying_slope, rho, Ty, dSeq, dRet, dAsg, dAsg2, dPar, dIf, dNext, dNever, dDrop, dSetB, dAugB, dBox, dFor, nSeq, eVar, eC, eOp, eUn, oI, oI0, oU, eAndV, eOrV, eNotV, eIf, eChain, tstE, tstAnd, tstOr, tstNot, tstYes, eIsi, eIsF, isInt, isBool, isTup, isStr, tyD, eTup, aNil, aCons, aStar, eCall, eCallB, lCallN, eOfL, lDisp, lList, lRep, lSl, eSlT, pNone, pSome, oLen, lenD, oTuple, oIxT, oIxL, oIxC, eIxB, eTupB, oAbs, oInt, intD, oRepr, oEqI, oNeI, oEqS, oNeS, eProp, eNext, iTupD, iLstD, iRngD, iEnmL, iEnmT, iZipD, lLc, wipeD, setD, tI, lI]
    rw [cut_last ne]
    refine ⟨by rw [numbered_len]; simp; omega, lc_rows (fun i => co es i * ((es.length - 1 - i : Nat) : Int)) (es.length - 1) (by rw [numbered_len]; simp) (fun i row hr N hN => ?_) q⟩
    obtain ⟨hi, e⟩ := enum_row hr
    subst e
    simp [rho, Ty, dSeq, dRet, dAsg, dAsg2, dPar, dIf, dNext, dNever, dDrop, dSetB, dAugB, dBox, dFor, nSeq, eVar, eC, eOp, eUn, oI, oI0, oU, eAndV, eOrV, eNotV, eIf, eChain, tstE, tstAnd, tstOr, tstNot, tstYes, eIsi, eIsF, isInt, isBool, isTup, isStr, tyD, eTup, aNil, aCons, aStar, eCall, eCallB, lCallN, eOfL, lDisp, lList, lRep, lSl, eSlT, pNone, pSome, oLen, lenD, oTuple, oIxT, oIxL, oIxC, eIxB, eTupB, oAbs, oInt, intD, oRepr, oEqI, oNeI, oEqS, oNeS, eProp, eNext, iTupD, iLstD, iRngD, iEnmL, iEnmT, iZipD, lLc, wipeD, setD, tI, lI]
    rw [List.length_take] at hi
    refine ⟨cmul_s (by omega) (by omega), ?_⟩
    rw [co_take (by omega), show (es.length : Int) - 1 - (i : Int) = ((es.length - 1 - i : Nat) : Int) by omega]
    exact hN
theorem w__law_by_x : ∀ ds QD, sd__law_by_x ds QD → ds.length = 1 ∧ r__law_by_x { nx := fun _ _ => QD .non, rt := fun v _ => QD v } (rho ["_law_form_here", "_law_at", "_law_entry"] ds) [] := by
  rintro ds QD ⟨es, rfl, ne, hl, q⟩
  have pl : 1 ≤ es.length := List.length_pos_iff.mpr ne
  refine ⟨rfl, ?_⟩
  simp [r__law_by_x, rho, Ty, dSeq, dRet, dAsg, dAsg2, dPar, dIf, dNext, dNever, dDrop, dSetB, dAugB, dBox, dFor, nSeq, eVar, eC, eOp, eUn, oI, oI0, oU, eAndV, eOrV, eNotV, eIf, eChain, tstE, tstAnd, tstOr, tstNot, tstYes, eIsi, eIsF, isInt, isBool, isTup, isStr, tyD, eTup, aNil, aCons, aStar, eCall, eCallB, lCallN, eOfL, lDisp, lList, lRep, lSl, eSlT, pNone, pSome, oLen, lenD, oTuple, oIxT, oIxL, oIxC, eIxB, eTupB, oAbs, oInt, intD, oRepr, oEqI, oNeI, oEqS, oNeS, eProp, eNext, iTupD, iLstD, iRngD, iEnmL, iEnmT, iZipD, lLc, wipeD, setD, tI, lI]
  rw [cut_last ne]
  refine ⟨by rw [numbered_len]; simp; omega, lc_rows (fun i => co es i * ((es.length - 1 - i : Nat) : Int)) (es.length - 1) (by rw [numbered_len]; simp) (fun i row hr N hN => ?_) q⟩
  obtain ⟨hi, e⟩ := enum_row hr
  subst e
  simp [rho, Ty, dSeq, dRet, dAsg, dAsg2, dPar, dIf, dNext, dNever, dDrop, dSetB, dAugB, dBox, dFor, nSeq, eVar, eC, eOp, eUn, oI, oI0, oU, eAndV, eOrV, eNotV, eIf, eChain, tstE, tstAnd, tstOr, tstNot, tstYes, eIsi, eIsF, isInt, isBool, isTup, isStr, tyD, eTup, aNil, aCons, aStar, eCall, eCallB, lCallN, eOfL, lDisp, lList, lRep, lSl, eSlT, pNone, pSome, oLen, lenD, oTuple, oIxT, oIxL, oIxC, eIxB, eTupB, oAbs, oInt, intD, oRepr, oEqI, oNeI, oEqS, oNeS, eProp, eNext, iTupD, iLstD, iRngD, iEnmL, iEnmT, iZipD, lLc, wipeD, setD, tI, lI]
  rw [List.length_take] at hi
  refine ⟨cmul_s (by omega) (by omega), ?_⟩
  rw [co_take (by omega), show (es.length : Int) - 1 - (i : Int) = ((es.length - 1 - i : Nat) : Int) by omega]
  exact hN
theorem w__law_by_y : ∀ ds QD, sd__law_by_y ds QD → ds.length = 1 ∧ r__law_by_y { nx := fun _ _ => QD .non, rt := fun v _ => QD v } (rho ["_law_form_here", "_law_at", "_law_entry"] ds) [] := by
  rintro ds QD ⟨es, rfl, ne, hl, q⟩
  have pl : 1 ≤ es.length := List.length_pos_iff.mpr ne
  refine ⟨rfl, ?_⟩
  simp [r__law_by_y, rho, Ty, dSeq, dRet, dAsg, dAsg2, dPar, dIf, dNext, dNever, dDrop, dSetB, dAugB, dBox, dFor, nSeq, eVar, eC, eOp, eUn, oI, oI0, oU, eAndV, eOrV, eNotV, eIf, eChain, tstE, tstAnd, tstOr, tstNot, tstYes, eIsi, eIsF, isInt, isBool, isTup, isStr, tyD, eTup, aNil, aCons, aStar, eCall, eCallB, lCallN, eOfL, lDisp, lList, lRep, lSl, eSlT, pNone, pSome, oLen, lenD, oTuple, oIxT, oIxL, oIxC, eIxB, eTupB, oAbs, oInt, intD, oRepr, oEqI, oNeI, oEqS, oNeS, eProp, eNext, iTupD, iLstD, iRngD, iEnmL, iEnmT, iZipD, lLc, wipeD, setD, tI, lI]
  rw [cut_first, ← List.map_drop]
  refine ⟨by rw [numbered_len]; simp; omega, lc_rows (fun i => co es (i + 1) * ((i + 1 : Nat) : Int)) (es.length - 1) (by rw [numbered_len]; simp) (fun i row hr N hN => ?_) q⟩
  obtain ⟨hi, e⟩ := enum_row hr
  subst e
  rw [List.length_drop] at hi
  rw [co_drop]
  rw [show ((i + 1 : Nat) : Int) = (i : Int) + 1 by omega] at hN
  simp [rho, Ty, dSeq, dRet, dAsg, dAsg2, dPar, dIf, dNext, dNever, dDrop, dSetB, dAugB, dBox, dFor, nSeq, eVar, eC, eOp, eUn, oI, oI0, oU, eAndV, eOrV, eNotV, eIf, eChain, tstE, tstAnd, tstOr, tstNot, tstYes, eIsi, eIsF, isInt, isBool, isTup, isStr, tyD, eTup, aNil, aCons, aStar, eCall, eCallB, lCallN, eOfL, lDisp, lList, lRep, lSl, eSlT, pNone, pSome, oLen, lenD, oTuple, oIxT, oIxL, oIxC, eIxB, eTupB, oAbs, oInt, intD, oRepr, oEqI, oNeI, oEqS, oNeS, eProp, eNext, iTupD, iLstD, iRngD, iEnmL, iEnmT, iZipD, lLc, wipeD, setD, tI, lI]
  exact ⟨cmul_s (by omega) (by omega), hN⟩
theorem dX_len (es : List Int) : (dX es).length = es.length - 1 := tab_len _ _
theorem dY_len (es : List Int) : (dY es).length = es.length - 1 := tab_len _ _
theorem ne_of_len {xs : List Int} (h : 1 ≤ xs.length) : xs ≠ [] := fun e => by rw [e] at h; cases h
theorem w_laying_slopes : ∀ ds QD, sd_laying_slopes ds QD → ds.length = 2 ∧ r_laying_slopes { nx := fun _ _ => QD .non, rt := fun v _ => QD v } (rho ["entries", "times", "found", "turn", "one"] ds) [] := by
  rintro ds QD ⟨es, rfl, h3, hl, q⟩
  refine ⟨rfl, ?_⟩
  have l1 : ∀ a : D, atI [a] (-1) = some a := fun a => rfl
  have l2 : ∀ a b : D, atI [a, b] (-1) = some b := fun a b => rfl
  simp [r_laying_slopes, dForGo, List.range, List.range.loop, dLcGo, sd_laying_slope, l1, l2, rho, Ty, dSeq, dRet, dAsg, dAsg2, dPar, dIf, dNext, dNever, dDrop, dSetB, dAugB, dBox, dFor, nSeq, eVar, eC, eOp, eUn, oI, oI0, oU, eAndV, eOrV, eNotV, eIf, eChain, tstE, tstAnd, tstOr, tstNot, tstYes, eIsi, eIsF, isInt, isBool, isTup, isStr, tyD, eTup, aNil, aCons, aStar, eCall, eCallB, lCallN, eOfL, lDisp, lList, lRep, lSl, eSlT, pNone, pSome, oLen, lenD, oTuple, oIxT, oIxL, oIxC, eIxB, eTupB, oAbs, oInt, intD, oRepr, oEqI, oNeI, oEqS, oNeS, eProp, eNext, iTupD, iLstD, iRngD, iEnmL, iEnmT, iZipD, lLc, wipeD, setD, tI, lI]
  have n0 : es ≠ [] := ne_of_len (by omega)
  have n1 : dX es ≠ [] := ne_of_len (by rw [dX_len]; omega)
  have n2 : dY es ≠ [] := ne_of_len (by rw [dY_len]; omega)
  have m1 : (dX es).length ≤ 1000 := by rw [dX_len]; omega
  have m2 : (dY es).length ≤ 1000 := by rw [dY_len]; omega
  exact ⟨es, rfl, n0, hl, es, rfl, n0, hl, dX es, rfl, n1, m1, dY es, rfl, n2, m2, dY es, rfl, n2, m2, q⟩
theorem bd_mul {x : Int} {s k : Nat} (h : x.natAbs < 2 ^ s) (hk : k ≤ 128) : (x * (k : Int)).natAbs < 2 ^ (s + 7) := by
  rw [Int.natAbs_mul, Int.natAbs_natCast]
  have h1 : x.natAbs * k ≤ x.natAbs * 2 ^ 7 := Nat.mul_le_mul_left _ hk
  have h2 : x.natAbs * 2 ^ 7 < 2 ^ s * 2 ^ 7 := Nat.mul_lt_mul_of_pos_right h (by decide)
  rw [Nat.pow_add]
  omega
theorem co_bd {es : List Int} {s : Nat} (h : ∀ n ∈ es, n.natAbs < 2 ^ s) (i : Nat) : (co es i).natAbs < 2 ^ s := by
  by_cases hi : i < es.length
  · rw [co_lt hi]
    exact h _ (List.getElem_mem hi)
  · rw [co_ge (by omega)]
    exact Nat.two_pow_pos s
theorem tab_bd {n s : Nat} {f : Nat → Int} (h : ∀ i, i < n → (f i).natAbs < 2 ^ s) : ∀ e ∈ tab n f, e.natAbs < 2 ^ s := fun e he => by
  obtain ⟨i, hi, e1⟩ := mem_co he
  rw [tab_len] at hi
  rw [e1, tab_co hi]
  exact h i hi
theorem dX_bd {es : List Int} {s : Nat} (h : ∀ n ∈ es, n.natAbs < 2 ^ s) (hl : es.length ≤ 100) : ∀ n ∈ dX es, n.natAbs < 2 ^ (s + 7) := tab_bd fun i _ => bd_mul (co_bd h i) (by omega)
theorem dY_bd {es : List Int} {s : Nat} (h : ∀ n ∈ es, n.natAbs < 2 ^ s) (hl : es.length ≤ 100) : ∀ n ∈ dY es, n.natAbs < 2 ^ (s + 7) := tab_bd fun i hi => bd_mul (co_bd h _) (by omega)
theorem sm_of {es : List Int} {s : Nat} (h : ∀ n ∈ es, n.natAbs < 2 ^ s) (hs : s ≤ 300000) : Sm es := fun n hn => Nat.lt_of_lt_of_le (h n hn) (Nat.pow_le_pow_right (by decide) hs)
theorem mul_comm_co (xs ys : List Int) (hx : xs ≠ []) (hy : ys ≠ []) (m : Nat) : co (mul xs ys) m = co (mul ys xs) m := by
  rw [mul_co' xs ys m hx hy, mul_co' ys xs m hy hx, sm_rev]
  refine sm_congr _ _ _ fun i hi => ?_
  rw [show m + 1 - 1 - i = m - i by omega, show m - (m - i) = i by omega, Int.mul_comm]
/-- the three products -/
theorem hess_is (es : List Int) (h3 : 3 ≤ es.length) : addP (addP (addP (List.replicate (2 * es.length - 5) 0) 1 (dX (dX es)) (dY (dY es))) (-2) (dX (dY es)) (dX (dY es))) 1 (dY (dY es)) (dX (dX es)) = hess es := by
  have n1 : dX (dX es) ≠ [] := ne_of_len (by rw [dX_len, dX_len]; omega)
  have n2 : dX (dY es) ≠ [] := ne_of_len (by rw [dX_len, dY_len]; omega)
  have n3 : dY (dY es) ≠ [] := ne_of_len (by rw [dY_len, dY_len]; omega)
  have e1 : ∀ i, i + 2 < es.length → co (dX (dX es)) i = eX es i := fun i hi => by
    unfold dX
    rw [tab_len, tab_co (by omega), tab_co (by omega)]
    unfold eX
    rw [show es.length - 1 - 1 - i = es.length - 2 - i by omega]
  have e2 : ∀ i, i + 2 < es.length → co (dX (dY es)) i = eZ es i := fun i hi => by
    unfold dX dY
    rw [tab_len, tab_co (by omega), tab_co (by omega)]
    unfold eZ
    rw [show es.length - 1 - 1 - i = es.length - 2 - i by omega]
  have e3 : ∀ i, i + 2 < es.length → co (dY (dY es)) i = eY es i := fun i hi => by
    unfold dY
    rw [tab_len, tab_co (by omega), tab_co (by omega)]
    unfold eY
    rfl
  have z1 : ∀ i, ¬ i + 2 < es.length → co (dX (dX es)) i = 0 ∧ co (dX (dY es)) i = 0 ∧ co (dY (dY es)) i = 0 := fun i hi =>
    ⟨co_ge (by rw [dX_len, dX_len]; omega), co_ge (by rw [dX_len, dY_len]; omega), co_ge (by rw [dY_len, dY_len]; omega)⟩
  have y1 : ∀ i, ¬ i + 2 < es.length → eX es i = 0 ∧ eZ es i = 0 ∧ eY es i = 0 := fun i hi => by
    refine ⟨?_, ?_, ?_⟩
    · unfold eX
      rw [show es.length - 2 - i = 0 by omega]
      simp
    · unfold eZ
      rw [show es.length - 2 - i = 0 by omega]
      simp
    · unfold eY
      rw [co_ge (by omega)]
      simp
  have a1 : ∀ i, co (dX (dX es)) i = eX es i := fun i => by
    by_cases hi : i + 2 < es.length
    · exact e1 i hi
    · rw [(z1 i hi).1, (y1 i hi).1]
  have a2 : ∀ i, co (dX (dY es)) i = eZ es i := fun i => by
    by_cases hi : i + 2 < es.length
    · exact e2 i hi
    · rw [(z1 i hi).2.1, (y1 i hi).2.1]
  have a3 : ∀ i, co (dY (dY es)) i = eY es i := fun i => by
    by_cases hi : i + 2 < es.length
    · exact e3 i hi
    · rw [(z1 i hi).2.2, (y1 i hi).2.2]
  refine ext_co (by unfold addP hess; rw [tab_len, tab_len, tab_len, tab_len, List.length_replicate]) fun m hm => ?_
  have hm2 : m < 2 * es.length - 5 := by
    unfold addP at hm
    rw [tab_len, tab_len, tab_len, List.length_replicate] at hm
    exact hm
  unfold addP hess
  rw [tab_len, tab_len, List.length_replicate, tab_co hm2, tab_co hm2, tab_co hm2, tab_co hm2]
  rw [mul_comm_co (dY (dY es)) (dX (dX es)) n3 n1, mul_co' _ _ m n1 n3, mul_co' _ _ m n2 n2]
  have e0 : co (List.replicate (2 * es.length - 5) 0) m = 0 := by
    unfold co
    simp [hm2]
  rw [e0]
  unfold hh
  have s1 : sm (m + 1) (fun i => co (dX (dX es)) i * co (dY (dY es)) (m - i)) = sm (m + 1) (fun i => eX es i * eY es (m - i)) := sm_congr _ _ _ fun i _ => by rw [a1, a3]
  have s2 : sm (m + 1) (fun i => co (dX (dY es)) i * co (dX (dY es)) (m - i)) = sm (m + 1) (fun i => eZ es i * eZ es (m - i)) := sm_congr _ _ _ fun i _ => by rw [a2, a2]
  have s3 : sm (m + 1) (fun i => eX es i * eY es (m - i) - eZ es i * eZ es (m - i)) = sm (m + 1) (fun i => eX es i * eY es (m - i)) + (-1) * sm (m + 1) (fun i => eZ es i * eZ es (m - i)) := by
    rw [← sm_mul, ← sm_add]
    exact sm_congr _ _ _ fun i _ => by omega
  rw [s1, s2, s3]
  omega
theorem w_laid_in : ∀ ds QD, sd_laid_in ds QD → ds.length = 3 ∧ r_laid_in { nx := fun _ _ => QD .non, rt := fun v _ => QD v } (rho ["one", "other", "times", "found", "first", "second", "at"] ds) [] := by
  rintro ds QD ⟨es, rfl, h3, hl, sm, q⟩
  refine ⟨rfl, ?_⟩
  have c1 : ∀ a : Int, CMulA a 2 := fun a => cmul_s (by decide) (by decide)
  have c2 : ∀ a : Int, CMulA a 1 := fun a => cmul_s (by decide) (by decide)
  have c3 : ∀ a : Int, CMulA a (-1) := fun a => .inl (.inr ⟨by decide, by decide⟩)
  have n1 : dX (dX es) ≠ [] := ne_of_len (by rw [dX_len, dX_len]; omega)
  have n2 : dX (dY es) ≠ [] := ne_of_len (by rw [dX_len, dY_len]; omega)
  have n3 : dY (dY es) ≠ [] := ne_of_len (by rw [dY_len, dY_len]; omega)
  have lX : (dX es).length ≤ 100 := by rw [dX_len]; omega
  have lY : (dY es).length ≤ 100 := by rw [dY_len]; omega
  have b1 : Sm (dX (dX es)) := sm_of (dX_bd (dX_bd sm hl) lX) (by decide)
  have b2 : Sm (dX (dY es)) := sm_of (dX_bd (dY_bd sm hl) lY) (by decide)
  have b3 : Sm (dY (dY es)) := sm_of (dY_bd (dY_bd sm hl) lY) (by decide)
  have eL : ((es.length : Int) + (es.length : Int) - 1 - 4).toNat = 2 * es.length - 5 := by omega
  simp [r_laid_in, dForGo, List.range, List.range.loop, sd_laying_slopes, sd_lots_of, c1, c2, c3, rho, Ty, dSeq, dRet, dAsg, dAsg2, dPar, dIf, dNext, dNever, dDrop, dSetB, dAugB, dBox, dFor, nSeq, eVar, eC, eOp, eUn, oI, oI0, oU, eAndV, eOrV, eNotV, eIf, eChain, tstE, tstAnd, tstOr, tstNot, tstYes, eIsi, eIsF, isInt, isBool, isTup, isStr, tyD, eTup, aNil, aCons, aStar, eCall, eCallB, lCallN, eOfL, lDisp, lList, lRep, lSl, eSlT, pNone, pSome, oLen, lenD, oTuple, oIxT, oIxL, oIxC, eIxB, eTupB, oAbs, oInt, intD, oRepr, oEqI, oNeI, oEqS, oNeS, eProp, eNext, iTupD, iLstD, iRngD, iEnmL, iEnmT, iZipD, lLc, wipeD, setD, tI, lI]
  rw [eL]
  refine ⟨by omega, by omega, by omega, ⟨List.replicate (2 * es.length - 5) 0, by simp⟩, es, rfl, h3, by omega, es, rfl, h3, by omega, _, _, ⟨rfl, rfl⟩, _, rfl, _, rfl, _, rfl, _, rfl, 0, rfl, by omega, ?_⟩
  refine ⟨dX (dX es), dY (dY es), 1, List.replicate (2 * es.length - 5) 0, rfl, by simp, n1, n3, by rw [dX_len, dX_len, dY_len, dY_len, List.length_replicate]; omega, by rw [List.length_replicate]; omega, b1, b3, by decide, ?_⟩
  refine ⟨_, rfl, _, rfl, _, rfl, _, rfl, 1, rfl, by omega, ?_⟩
  refine ⟨dX (dY es), dX (dY es), -2, addP (List.replicate (2 * es.length - 5) 0) 1 (dX (dX es)) (dY (dY es)), rfl, rfl, n2, n2, by unfold addP; rw [tab_len, dX_len, dY_len, List.length_replicate]; omega, by unfold addP; rw [tab_len, List.length_replicate]; omega, b2, b2, by decide, ?_⟩
  refine ⟨_, rfl, _, rfl, _, rfl, _, rfl, 2, rfl, by omega, ?_⟩
  refine ⟨dY (dY es), dX (dX es), 1, addP (addP (List.replicate (2 * es.length - 5) 0) 1 (dX (dX es)) (dY (dY es))) (-2) (dX (dY es)) (dX (dY es)), rfl, rfl, n3, n1, by unfold addP; rw [tab_len, tab_len, dX_len, dX_len, dY_len, dY_len, List.length_replicate]; omega, by unfold addP; rw [tab_len, tab_len, List.length_replicate]; omega, b3, b1, by decide, ?_⟩
  rw [hess_is es h3]
  exact q
end KD
set_option Elab.async false
set_option linter.all false
set_option maxRecDepth 100000
set_option maxHeartbeats 2000000
/-! Walks, 3: the law's layings, papers. -/
namespace KD
open PySem PySem.Spec PyProof.Rows L2 Km

theorem ex2 {α β : Sort _} {a : α} {b : β} {P : α → β → Prop} : (∃ x y, (a = x ∧ b = y) ∧ P x y) ↔ P a b :=
  ⟨fun ⟨_, _, ⟨h1, h2⟩, h⟩ => h1 ▸ h2 ▸ h, fun h => ⟨_, _, ⟨rfl, rfl⟩, h⟩⟩
theorem w__law_derived : ∀ ds QD, sd__law_derived ds QD → ds.length = 3 ∧ r__law_derived { nx := fun _ _ => QD .non, rt := fun v _ => QD v } (rho ["_law_form_here", "_law_one", "_law_other", "_law_turn"] ds) [] := by
  rintro ds QD ⟨es, i, j, rfl, hij, h3, hl, q⟩
  refine ⟨rfl, ?_⟩
  have n0 : es ≠ [] := ne_of_len (by omega)
  have n1 : dX es ≠ [] := ne_of_len (by rw [dX_len]; omega)
  have n2 : dY es ≠ [] := ne_of_len (by rw [dY_len]; omega)
  have m1 : (dX es).length ≤ 1000 := by rw [dX_len]; omega
  have m2 : (dY es).length ≤ 1000 := by rw [dY_len]; omega
  have hc : (i = 0 ∧ j = 2) ∨ (i = 1 ∧ j = 1) ∨ (i = 2 ∧ j = 0) := by omega
  rcases hc with ⟨h, h'⟩ | ⟨h, h'⟩ | ⟨h, h'⟩ <;> subst h <;> subst h' <;> simp [r__law_derived, dForGo, List.range, List.range.loop, sd__law_by_x, sd__law_by_y, rho, Ty, dSeq, dRet, dAsg, dAsg2, dPar, dIf, dNext, dNever, dDrop, dSetB, dAugB, dBox, dFor, nSeq, eVar, eC, eOp, eUn, oI, oI0, oU, eAndV, eOrV, eNotV, eIf, eChain, tstE, tstAnd, tstOr, tstNot, tstYes, eIsi, eIsF, isInt, isBool, isTup, isStr, tyD, eTup, aNil, aCons, aStar, eCall, eCallB, lCallN, eOfL, lDisp, lList, lRep, lSl, eSlT, pNone, pSome, oLen, lenD, oTuple, oIxT, oIxL, oIxC, eIxB, eTupB, oAbs, oInt, intD, oRepr, oEqI, oNeI, oEqS, oNeS, eProp, eNext, iTupD, iLstD, iRngD, iEnmL, iEnmT, iZipD, lLc, wipeD, setD, tI, lI]
  · exact ⟨es, rfl, n0, hl, dY es, rfl, n2, m2, by simpa [dXY, tI] using q⟩
  · exact ⟨es, rfl, n0, hl, dX es, rfl, n1, m1, by simpa [dXY, tI] using q⟩
  · exact ⟨es, rfl, n0, hl, dX es, rfl, n1, m1, by simpa [dXY, tI] using q⟩
theorem w__law_plus : ∀ ds QD, sd__law_plus ds QD → ds.length = 2 ∧ r__law_plus { nx := fun _ _ => QD .non, rt := fun v _ => QD v } (rho ["_law_one", "_law_other", "_law_first", "_law_second"] ds) [] := by
  rintro ds QD ⟨xs, ys, rfl, he, hl, q⟩
  refine ⟨rfl, ?_⟩
  simp [r__law_plus, rho, Ty, dSeq, dRet, dAsg, dAsg2, dPar, dIf, dNext, dNever, dDrop, dSetB, dAugB, dBox, dFor, nSeq, eVar, eC, eOp, eUn, oI, oI0, oU, eAndV, eOrV, eNotV, eIf, eChain, tstE, tstAnd, tstOr, tstNot, tstYes, eIsi, eIsF, isInt, isBool, isTup, isStr, tyD, eTup, aNil, aCons, aStar, eCall, eCallB, lCallN, eOfL, lDisp, lList, lRep, lSl, eSlT, pNone, pSome, oLen, lenD, oTuple, oIxT, oIxL, oIxC, eIxB, eTupB, oAbs, oInt, intD, oRepr, oEqI, oNeI, oEqS, oNeS, eProp, eNext, iTupD, iLstD, iRngD, iEnmL, iEnmT, iZipD, lLc, wipeD, setD, tI, lI]
  refine ⟨by omega, lc_rows (fun i => co xs i + co ys i) xs.length (by simp; omega) (fun i row hr N hN => ?_) q⟩
  obtain ⟨d, e, h1, h2, e3⟩ := zip_rows (ds := xs.map D.int) (es := ys.map D.int) (i := i) (row := row) hr
  rw [List.getElem?_map, Option.map_eq_some_iff] at h1 h2
  obtain ⟨a, h1, ea⟩ := h1
  obtain ⟨b, h2, eb⟩ := h2
  subst ea
  subst eb
  subst e3
  rw [Km.co_some h1, Km.co_some h2] at hN
  simpa [rho, Ty, dSeq, dRet, dAsg, dAsg2, dPar, dIf, dNext, dNever, dDrop, dSetB, dAugB, dBox, dFor, nSeq, eVar, eC, eOp, eUn, oI, oI0, oU, eAndV, eOrV, eNotV, eIf, eChain, tstE, tstAnd, tstOr, tstNot, tstYes, eIsi, eIsF, isInt, isBool, isTup, isStr, tyD, eTup, aNil, aCons, aStar, eCall, eCallB, lCallN, eOfL, lDisp, lList, lRep, lSl, eSlT, pNone, pSome, oLen, lenD, oTuple, oIxT, oIxL, oIxC, eIxB, eTupB, oAbs, oInt, intD, oRepr, oEqI, oNeI, oEqS, oNeS, eProp, eNext, iTupD, iLstD, iRngD, iEnmL, iEnmT, iZipD, lLc, wipeD, setD, tI, lI] using hN
theorem w__law_scaled : ∀ ds QD, sd__law_scaled ds QD → ds.length = 2 ∧ r__law_scaled { nx := fun _ _ => QD .non, rt := fun v _ => QD v } (rho ["_law_form_here", "_law_factor", "_law_entry"] ds) [] := by
  rintro ds QD ⟨xs, f, rfl, hl, sx, hf, q⟩
  refine ⟨rfl, ?_⟩
  simp [r__law_scaled, rho, Ty, dSeq, dRet, dAsg, dAsg2, dPar, dIf, dNext, dNever, dDrop, dSetB, dAugB, dBox, dFor, nSeq, eVar, eC, eOp, eUn, oI, oI0, oU, eAndV, eOrV, eNotV, eIf, eChain, tstE, tstAnd, tstOr, tstNot, tstYes, eIsi, eIsF, isInt, isBool, isTup, isStr, tyD, eTup, aNil, aCons, aStar, eCall, eCallB, lCallN, eOfL, lDisp, lList, lRep, lSl, eSlT, pNone, pSome, oLen, lenD, oTuple, oIxT, oIxL, oIxC, eIxB, eTupB, oAbs, oInt, intD, oRepr, oEqI, oNeI, oEqS, oNeS, eProp, eNext, iTupD, iLstD, iRngD, iEnmL, iEnmT, iZipD, lLc, wipeD, setD, tI, lI]
  refine ⟨by omega, lc_rows (fun i => f * co xs i) xs.length (by simp) (fun i row hr N hN => ?_) ?_⟩
  · obtain ⟨hi, e⟩ := tup_row hr
    subst e
    simp [rho, Ty, dSeq, dRet, dAsg, dAsg2, dPar, dIf, dNext, dNever, dDrop, dSetB, dAugB, dBox, dFor, nSeq, eVar, eC, eOp, eUn, oI, oI0, oU, eAndV, eOrV, eNotV, eIf, eChain, tstE, tstAnd, tstOr, tstNot, tstYes, eIsi, eIsF, isInt, isBool, isTup, isStr, tyD, eTup, aNil, aCons, aStar, eCall, eCallB, lCallN, eOfL, lDisp, lList, lRep, lSl, eSlT, pNone, pSome, oLen, lenD, oTuple, oIxT, oIxL, oIxC, eIxB, eTupB, oAbs, oInt, intD, oRepr, oEqI, oNeI, oEqS, oNeS, eProp, eNext, iTupD, iLstD, iRngD, iEnmL, iEnmT, iZipD, lLc, wipeD, setD, tI, lI]
    exact ⟨.inr (wide_mul hf (co_lt2 sx i) (by decide) (by decide) (by decide)), hN⟩
  · rw [map_tab xs fun e => f * e]
    exact q
theorem pw_cm {a b : Int} {s n : Nat} (ha : a.natAbs < 2 ^ s) (hb : b.natAbs < 2 ^ s) (h : (s + 1) * n < 200000) {k : Int} (hk : k.natAbs < 2 ^ 300000) (i : Nat) : CMulA k (co (pw [a, b] n) i) :=
  .inr (wide_mul hk (co_bd (pw_sm ha hb h) i) (by decide) (by decide) (by decide))
theorem up_lt {x : Int} {s k : Nat} (h : x.natAbs < 2 ^ s) (hk : s ≤ k) : x.natAbs < 2 ^ k := Nat.lt_of_lt_of_le h (Nat.pow_le_pow_right (by decide) hk)
theorem w_times_power : ∀ ds QD, sd_times_power ds QD → ds.length = 3 ∧ r_times_power { nx := fun _ _ => QD .non, rt := fun v _ => QD v } (rho ["number", "point", "degree", "entry"] ds) [] := by
  rintro ds QD ⟨k, a, b, n, rfl, hn, hk, ha, hb, q⟩
  refine ⟨rfl, ?_⟩
  simp [r_times_power, sd_line_in, sd_power_in, rho, Ty, dSeq, dRet, dAsg, dAsg2, dPar, dIf, dNext, dNever, dDrop, dSetB, dAugB, dBox, dFor, nSeq, eVar, eC, eOp, eUn, oI, oI0, oU, eAndV, eOrV, eNotV, eIf, eChain, tstE, tstAnd, tstOr, tstNot, tstYes, eIsi, eIsF, isInt, isBool, isTup, isStr, tyD, eTup, aNil, aCons, aStar, eCall, eCallB, lCallN, eOfL, lDisp, lList, lRep, lSl, eSlT, pNone, pSome, oLen, lenD, oTuple, oIxT, oIxL, oIxC, eIxB, eTupB, oAbs, oInt, intD, oRepr, oEqI, oNeI, oEqS, oNeS, eProp, eNext, iTupD, iLstD, iRngD, iEnmL, iEnmT, iZipD, lLc, wipeD, setD, tI, lI]
  have hna : (-a).natAbs < 2 ^ 2000 := by rw [Int.natAbs_neg]; exact ha
  refine ⟨a, b, ⟨rfl, rfl⟩, b, -a, n, ⟨⟨rfl, rfl⟩, rfl⟩, by omega, up_lt hb (by decide), up_lt hna (by decide), by rw [pw_len _ rfl]; omega, ?_⟩
  refine lc_rows (fun i => k * co (pw [b, -a] n) i) (n + 1) (by simp [pw_len]) (fun i row hr N hN => ?_) ?_
  · obtain ⟨hi, e⟩ := tup_row hr
    subst e
    simp [rho, Ty, dSeq, dRet, dAsg, dAsg2, dPar, dIf, dNext, dNever, dDrop, dSetB, dAugB, dBox, dFor, nSeq, eVar, eC, eOp, eUn, oI, oI0, oU, eAndV, eOrV, eNotV, eIf, eChain, tstE, tstAnd, tstOr, tstNot, tstYes, eIsi, eIsF, isInt, isBool, isTup, isStr, tyD, eTup, aNil, aCons, aStar, eCall, eCallB, lCallN, eOfL, lDisp, lList, lRep, lSl, eSlT, pNone, pSome, oLen, lenD, oTuple, oIxT, oIxL, oIxC, eIxB, eTupB, oAbs, oInt, intD, oRepr, oEqI, oNeI, oEqS, oNeS, eProp, eNext, iTupD, iLstD, iRngD, iEnmL, iEnmT, iZipD, lLc, wipeD, setD, tI, lI]
    exact ⟨pw_cm hb hna (by omega) (up_lt hk (by decide)) i, hN⟩
  · have e := map_tab (pw [b, -a] n) fun e => k * e
    rw [pw_len _ rfl] at e
    rw [e]
    exact q
theorem ten_two {x : Int} {k s : Nat} (h : x.natAbs < 10 ^ k) (hs : 4 * k ≤ s) : x.natAbs < 2 ^ s := by
  have h1 : 10 ^ k ≤ (2 ^ 4) ^ k := Nat.pow_le_pow_left (by decide) k
  rw [← Nat.pow_mul] at h1
  exact Nat.lt_of_lt_of_le h (Nat.le_trans h1 (Nat.pow_le_pow_right (by decide) hs))
theorem good_bd {es : List Int} (g : Good es) : ∀ n ∈ es, n.natAbs < 2 ^ 200 := fun n hn => ten_two (g.2.2 n hn) (by decide)
theorem good_mid {es : List Int} (g : Good es) : Mid es := fun n hn => up_lt (good_bd g n hn) (by decide)
theorem w_is_power_in : ∀ ds QD, sd_is_power_in ds QD → ds.length = 1 ∧ r_is_power_in { nx := fun _ _ => QD .non, rt := fun v _ => QD v } (rho ["entries"] ds) [] := by
  rintro ds QD ⟨es, rfl, g, q⟩
  refine ⟨rfl, ?_⟩
  simp [r_is_power_in, sd_laid_in, sd_is_zero_in, rho, Ty, dSeq, dRet, dAsg, dAsg2, dPar, dIf, dNext, dNever, dDrop, dSetB, dAugB, dBox, dFor, nSeq, eVar, eC, eOp, eUn, oI, oI0, oU, eAndV, eOrV, eNotV, eIf, eChain, tstE, tstAnd, tstOr, tstNot, tstYes, eIsi, eIsF, isInt, isBool, isTup, isStr, tyD, eTup, aNil, aCons, aStar, eCall, eCallB, lCallN, eOfL, lDisp, lList, lRep, lSl, eSlT, pNone, pSome, oLen, lenD, oTuple, oIxT, oIxL, oIxC, eIxB, eTupB, oAbs, oInt, intD, oRepr, oEqI, oNeI, oEqS, oNeS, eProp, eNext, iTupD, iLstD, iRngD, iEnmL, iEnmT, iZipD, lLc, wipeD, setD, tI, lI]
  have e : ((es.length : Int) < 3) ↔ es.length < 3 := by omega
  unfold isPw at q
  by_cases h : es.length < 3
  · rw [if_pos (by omega)]
    rw [decide_eq_true h, Bool.true_or] at q
    exact q
  · rw [if_neg (by omega)]
    rw [decide_eq_false h, Bool.false_or] at q
    exact ⟨es, rfl, by omega, by have := g.2.1; omega, good_mid g, hess es, rfl, q⟩
theorem at_nat {ds : List D} {i : Nat} {d : D} (h : ds[i]? = some d) : atI ds (i : Int) = some d := atI_nat h
theorem at_zero {ds : List D} {d : D} (h : ds[0]? = some d) : atI ds 0 = some d := atI_nat (j := 0) h
theorem fst_lt {ns : List Int} (h : nzL ns = true) : fstI ns < ns.length ∧ co ns (fstI ns) ≠ 0 := by
  unfold nzL at h
  rw [List.any_eq_true] at h
  obtain ⟨n, hn, hz⟩ := h
  unfold fstI
  cases e : ns.findIdx? (fun n => n != 0) with
  | none =>
    rw [List.findIdx?_eq_none_iff] at e
    rw [e n hn] at hz
    cases hz
  | some i =>
    obtain ⟨m, e1, e2⟩ := idx_nz e
    have hm := List.find?_some e2
    refine ⟨(List.getElem?_eq_some_iff.mp e1).1, ?_⟩
    show co ns i ≠ 0
    rw [Km.co_some e1]
    exact bne_iff_ne.mp hm
theorem fst_le {ns : List Int} (h : 1 ≤ ns.length) : fstI ns < ns.length := by
  by_cases hz : nzL ns = true
  · exact (fst_lt hz).1
  · unfold fstI
    cases e : ns.findIdx? (fun n => n != 0) with
    | none => exact h
    | some i =>
      obtain ⟨m, e1, _⟩ := idx_nz e
      exact (List.getElem?_eq_some_iff.mp e1).1
theorem hess_len (es : List Int) : (hess es).length = 2 * es.length - 5 := tab_len _ _
theorem w_entry_paper : ∀ ds QD, sd_entry_paper ds QD → ds.length = 2 ∧ r_entry_paper { nx := fun _ _ => QD .non, rt := fun v _ => QD v } (rho ["entries", "times", "told", "at"] ds) [] := by
  rintro ds QD ⟨es, rfl, h3, g, q⟩
  refine ⟨rfl, ?_⟩
  simp [r_entry_paper, sd_laid_in, sd_first_index, rho, Ty, dSeq, dRet, dAsg, dAsg2, dPar, dIf, dNext, dNever, dDrop, dSetB, dAugB, dBox, dFor, nSeq, eVar, eC, eOp, eUn, oI, oI0, oU, eAndV, eOrV, eNotV, eIf, eChain, tstE, tstAnd, tstOr, tstNot, tstYes, eIsi, eIsF, isInt, isBool, isTup, isStr, tyD, eTup, aNil, aCons, aStar, eCall, eCallB, lCallN, eOfL, lDisp, lList, lRep, lSl, eSlT, pNone, pSome, oLen, lenD, oTuple, oIxT, oIxL, oIxC, eIxB, eTupB, oAbs, oInt, intD, oRepr, oEqI, oNeI, oEqS, oNeS, eProp, eNext, iTupD, iLstD, iRngD, iEnmL, iEnmT, iZipD, lLc, wipeD, setD, tI, lI]
  have hl : fstI (hess es) < (hess es).length := fst_le (by rw [hess_len]; omega)
  exact ⟨es, rfl, h3, by have := g.2.1; omega, good_mid g, hess es, rfl, _, at_ints hl, q⟩
/-! ### the point of a line -/
theorem gcdL2 (a b : Int) : gcdL [a, b] = gcdI a b := by
  unfold gcdL gcdI
  simp
theorem gcd_pos {a b : Int} (h : a ≠ 0 ∨ b ≠ 0) : 0 < gcdI a b := by
  unfold gcdI
  have : 0 < Nat.gcd a.natAbs b.natAbs := by
    rcases h with h | h
    · exact Nat.gcd_pos_of_pos_left _ (by omega)
    · exact Nat.gcd_pos_of_pos_right _ (by omega)
  omega
theorem log_lt {x : Int} {s : Nat} (h : x.natAbs < 2 ^ s) (h0 : 0 < s) (hs : s ≤ 9000) : x.natAbs.log2 < 9000 := Nat.lt_of_lt_of_le (PySem.Flt.log2_lt_of h0 h) hs
theorem gcd_bd {a b : Int} {s : Nat} (ha : a.natAbs < 2 ^ s) (hb : b.natAbs < 2 ^ s) : (gcdI a b).natAbs < 2 ^ s := by
  unfold gcdI
  rw [Int.natAbs_natCast]
  by_cases h : a = 0
  · subst h
    rw [Int.natAbs_zero, Nat.gcd_zero_left]
    exact hb
  · exact Nat.lt_of_le_of_lt (Nat.gcd_le_left _ (by omega)) ha
theorem w_point_of_line : ∀ ds QD, sd_point_of_line ds QD → ds.length = 2 ∧ r_point_of_line { nx := fun _ _ => QD .non, rt := fun v _ => QD v } (rho ["one", "other", "part", "a", "b"] ds) [] := by
  rintro ds QD ⟨a, b, rfl, h0, ha, hb, q⟩
  refine ⟨rfl, ?_⟩
  have gp := gcd_pos h0
  have c : ∀ x : Int, CDivZ x (gcdI a b) := fun x => ⟨by omega, log_lt (gcd_bd ha hb) (by decide) (by decide)⟩
  simp [r_point_of_line, sd_shared_of, rho, Ty, dSeq, dRet, dAsg, dAsg2, dPar, dIf, dNext, dNever, dDrop, dSetB, dAugB, dBox, dFor, nSeq, eVar, eC, eOp, eUn, oI, oI0, oU, eAndV, eOrV, eNotV, eIf, eChain, tstE, tstAnd, tstOr, tstNot, tstYes, eIsi, eIsF, isInt, isBool, isTup, isStr, tyD, eTup, aNil, aCons, aStar, eCall, eCallB, lCallN, eOfL, lDisp, lList, lRep, lSl, eSlT, pNone, pSome, oLen, lenD, oTuple, oIxT, oIxL, oIxC, eIxB, eTupB, oAbs, oInt, intD, oRepr, oEqI, oNeI, oEqS, oNeS, eProp, eNext, iTupD, iLstD, iRngD, iEnmL, iEnmT, iZipD, lLc, wipeD, setD, tI, lI]
  refine ⟨[a, b], rfl, ?_⟩
  rw [gcdL2]
  refine ⟨c _, c _, _, _, ⟨rfl, rfl⟩, _, rfl, ?_⟩
  unfold pol at q
  simp only at q
  by_cases h1 : 0 < (-b).fdiv (gcdI a b)
  · rw [if_pos h1]
    rw [if_pos (Or.inl h1)] at q
    exact q
  · rw [if_neg h1]
    refine ⟨_, rfl, ?_⟩
    by_cases h2 : (-b).fdiv (gcdI a b) = 0
    · rw [if_pos h2]
      refine ⟨_, rfl, ?_⟩
      by_cases h3 : 0 < a.fdiv (gcdI a b)
      · rw [if_pos h3]
        rw [if_pos (Or.inr ⟨h2, h3⟩)] at q
        exact q
      · rw [if_neg h3]
        rw [if_neg (fun z => z.elim h1 fun y => h3 y.2)] at q
        exact ⟨_, rfl, _, rfl, q⟩
    · rw [if_neg h2]
      rw [if_neg (fun z => z.elim h1 fun y => h2 y.1)] at q
      exact ⟨_, rfl, _, rfl, q⟩
/-! ### a power's paper -/
theorem fdiv_bd {a b : Int} {s : Nat} (h : a.natAbs < 2 ^ s) : (a.fdiv b).natAbs < 2 ^ s := Nat.lt_of_le_of_lt (Int.natAbs_fdiv_le_natAbs a b) h
theorem gcd_dvd1 (a b : Int) : gcdI a b ∣ a := Int.ofNat_dvd_left.mpr (Nat.gcd_dvd_left _ _)
theorem gcd_dvd2 (a b : Int) : gcdI a b ∣ b := Int.ofNat_dvd_left.mpr (Nat.gcd_dvd_right _ _)
theorem fdiv_of {a g : Int} (hg : 0 < g) (h : g ∣ a) : a = g * a.fdiv g := by
  rw [Int.fdiv_eq_ediv_of_nonneg a (by omega), Int.mul_ediv_cancel' h]
theorem pol_ne {a b : Int} (h : a ≠ 0 ∨ b ≠ 0) : (pol a b).1 ≠ 0 ∨ (pol a b).2 ≠ 0 := by
  have gp := gcd_pos h
  have e1 := fdiv_of gp (gcd_dvd1 a b)
  have e2 : -b = gcdI a b * (-b).fdiv (gcdI a b) := fdiv_of gp (Int.dvd_neg.mpr (gcd_dvd2 a b))
  have hx : (-b).fdiv (gcdI a b) ≠ 0 ∨ a.fdiv (gcdI a b) ≠ 0 := by
    rcases h with h | h
    · right
      intro z
      rw [z, Int.mul_zero] at e1
      exact h e1
    · left
      intro z
      rw [z, Int.mul_zero] at e2
      omega
  unfold pol
  simp only
  split
  · exact hx
  · rcases hx with z | z
    · exact .inl (by simpa using z)
    · exact .inr (by simpa using z)
theorem pol_bd {a b : Int} {s : Nat} (ha : a.natAbs < 2 ^ s) (hb : b.natAbs < 2 ^ s) : (pol a b).1.natAbs < 2 ^ s ∧ (pol a b).2.natAbs < 2 ^ s := by
  have h1 : ((-b).fdiv (gcdI a b)).natAbs < 2 ^ s := fdiv_bd (by rw [Int.natAbs_neg]; exact hb)
  have h2 : (a.fdiv (gcdI a b)).natAbs < 2 ^ s := fdiv_bd ha
  unfold pol
  simp only
  split
  · exact ⟨h1, h2⟩
  · exact ⟨by rw [Int.natAbs_neg]; exact h1, by rw [Int.natAbs_neg]; exact h2⟩
theorem nzL_co {xs : List Int} {i : Nat} (hi : i < xs.length) (h : co xs i ≠ 0) : nzL xs = true := by
  unfold nzL
  rw [List.any_eq_true]
  refine ⟨xs[i], List.getElem_mem hi, ?_⟩
  rw [co_lt hi] at h
  exact bne_iff_ne.mpr h
theorem pw_nz {a b : Int} (n : Nat) (h : a ≠ 0 ∨ b ≠ 0) : nzL (pw [a, b] n) = true := by
  have l := pw_len [a, b] rfl n
  rcases h with h | h
  · refine nzL_co (i := 0) (by omega) ?_
    rw [pw_co a b n 0 (by omega), ch_zero]
    simp
    exact Int.pow_ne_zero h
  · refine nzL_co (i := n) (by omega) ?_
    rw [pw_co a b n n (by omega), ch_self]
    simp
    exact Int.pow_ne_zero h
theorem ptT_ne {es : List Int} (hl : 2 ≤ es.length) : (ptT es).1 ≠ 0 ∨ (ptT es).2 ≠ 0 := by
  unfold ptT
  split
  · exact .inl (by decide)
  · rename_i h
    refine pol_ne (.inl ?_)
    exact Int.mul_ne_zero (by omega) h
theorem ptT_bd {es : List Int} (g : Good es) : (ptT es).1.natAbs < 2 ^ 210 ∧ (ptT es).2.natAbs < 2 ^ 210 := by
  unfold ptT
  split
  · exact ⟨by decide, by decide⟩
  · have h1 : (((es.length : Int) - 1) * co es 0).natAbs < 2 ^ 210 := by
      rw [Int.mul_comm, show (es.length : Int) - 1 = ((es.length - 1 : Nat) : Int) by have := g.1; omega]
      exact up_lt (bd_mul (co_bd (good_bd g) 0) (by have := g.2.1; omega)) (by decide)
    exact pol_bd h1 (up_lt (co_bd (good_bd g) 1) (by decide))
theorem neg_lt {x : Int} {s : Nat} (h : x.natAbs < 2 ^ s) : (-x).natAbs < 2 ^ s := by rw [Int.natAbs_neg]; exact h
theorem lnT_len (es : List Int) : (lnT es).length = es.length - 1 + 1 := pw_len _ rfl _
theorem lnT_bd {es : List Int} (g : Good es) : ∀ n ∈ lnT es, n.natAbs < 2 ^ 3000 := pw_sm (ptT_bd g).2 (neg_lt (ptT_bd g).1) (by have := g.2.1; omega)
theorem lnT_nz {es : List Int} (hl : 2 ≤ es.length) : nzL (lnT es) = true := pw_nz _ (by
  rcases ptT_ne hl with h | h
  · exact .inr (by simpa using h)
  · exact .inl h)
theorem w_power_told : ∀ ds QD, sd_power_told ds QD → ds.length = 1 ∧ r_power_told { nx := fun _ _ => QD .non, rt := fun v _ => QD v } (rho ["entries", "degree", "first", "point", "line", "at"] ds) [] := by
  rintro ds QD ⟨es, rfl, h2, g, q⟩
  refine ⟨rfl, ?_⟩
  have e0 : atI (es.map D.int) 0 = some (.int (co es 0)) := at_ints (i := 0) (by omega)
  have e1 : atI (es.map D.int) 1 = some (.int (co es 1)) := at_ints (i := 1) (by omega)
  have eN : (es.length : Int) - 1 = ((es.length - 1 : Nat) : Int) := by omega
  have b0 := co_bd (good_bd g) 0
  have b1 := co_bd (good_bd g) 1
  have ln := fst_lt (lnT_nz h2)
  have lb := co_bd (lnT_bd g) (fstI (lnT es))
  have eA : fstI (lnT es) < es.length := by have := ln.1; rw [lnT_len] at this; omega
  have hV : CDivZ (co es (fstI (lnT es))) (co (lnT es) (fstI (lnT es))) := ⟨ln.2, log_lt lb (by decide) (by decide)⟩
  have mP : CMulA ((es.length : Int) - 1) (co es 0) := .inl (.inl ⟨by omega, by have := g.2.1; omega⟩)
  by_cases h : co es 0 = 0
  · have ep : ptT es = (1, 0) := by unfold ptT; rw [if_pos h]
    have el : lnT es = pw [0, -1] (es.length - 1) := by unfold lnT; rw [ep]
    simp [r_power_told, e0, h, sd_power_in, sd_line_in, sd_first_index, rho, Ty, dSeq, dRet, dAsg, dAsg2, dPar, dIf, dNext, dNever, dDrop, dSetB, dAugB, dBox, dFor, nSeq, eVar, eC, eOp, eUn, oI, oI0, oU, eAndV, eOrV, eNotV, eIf, eChain, tstE, tstAnd, tstOr, tstNot, tstYes, eIsi, eIsF, isInt, isBool, isTup, isStr, tyD, eTup, aNil, aCons, aStar, eCall, eCallB, lCallN, eOfL, lDisp, lList, lRep, lSl, eSlT, pNone, pSome, oLen, lenD, oTuple, oIxT, oIxL, oIxC, eIxB, eTupB, oAbs, oInt, intD, oRepr, oEqI, oNeI, oEqS, oNeS, eProp, eNext, iTupD, iLstD, iRngD, iEnmL, iEnmT, iZipD, lLc, wipeD, setD, tI, lI, ex2]
    rw [ep] at q
    rw [el] at hV ln
    have h12 := g.2.1
    rw [el] at eA
    refine ⟨0, -1, es.length - 1, ⟨⟨rfl, rfl⟩, eN⟩, by omega, Nat.two_pow_pos 3000, up_lt (s := 1) (by decide) (by decide), ?_⟩
    refine ⟨pw [0, -1] (es.length - 1), rfl, _, at_ints eA, _, at_ints ln.1, _, rfl, _, rfl, hV, ?_⟩
    unfold nrT at q
    rw [el] at q
    exact q
  · have ep : ptT es = pol (((es.length : Int) - 1) * co es 0) (co es 1) := by unfold ptT; rw [if_neg h]
    simp [r_power_told, e0, e1, h, mP, sd_power_in, sd_line_in, sd_first_index, sd_point_of_line, rho, Ty, dSeq, dRet, dAsg, dAsg2, dPar, dIf, dNext, dNever, dDrop, dSetB, dAugB, dBox, dFor, nSeq, eVar, eC, eOp, eUn, oI, oI0, oU, eAndV, eOrV, eNotV, eIf, eChain, tstE, tstAnd, tstOr, tstNot, tstYes, eIsi, eIsF, isInt, isBool, isTup, isStr, tyD, eTup, aNil, aCons, aStar, eCall, eCallB, lCallN, eOfL, lDisp, lList, lRep, lSl, eSlT, pNone, pSome, oLen, lenD, oTuple, oIxT, oIxL, oIxC, eIxB, eTupB, oAbs, oInt, intD, oRepr, oEqI, oNeI, oEqS, oNeS, eProp, eNext, iTupD, iLstD, iRngD, iEnmL, iEnmT, iZipD, lLc, wipeD, setD, tI, lI, ex2]
    rw [← ep]
    have h12 := g.2.1
    have pb := ptT_bd g
    have k1 : (((es.length : Int) - 1) * co es 0).natAbs < 2 ^ 2000 := by
      rw [Int.mul_comm, eN]
      exact up_lt (bd_mul b0 (by omega)) (by decide)
    refine ⟨.inl (by omega), k1, up_lt b1 (by decide), ?_⟩
    refine ⟨_, _, es.length - 1, ⟨⟨rfl, rfl⟩, eN⟩, by omega, up_lt pb.2 (by decide), up_lt (neg_lt pb.1) (by decide), ?_⟩
    refine ⟨lnT es, rfl, _, at_ints eA, _, at_ints ln.1, _, rfl, _, rfl, hV, q⟩
end KD
set_option Elab.async false
set_option linter.all false
set_option maxRecDepth 100000
set_option maxHeartbeats 2000000
/-! Walks, 4: papers, the program's judge. -/
namespace KD
open PySem PySem.Spec PyProof.Rows L2 Km

theorem val_ty {d : D} (h : Val d) : Ty d := by
  cases h <;> exact ⟨_, rfl⟩
theorem val_p {d : D} (h : Val d) : ∃ p, toP d = some p ∧ p.canLay0 = true ∧ p.depth ≤ 1 := by
  cases h with
  | @int i _ => exact ⟨.int i, by simp [toP], by simp [PyData.canLay0], by simp [PyData.depth]⟩
  | @bl b => exact ⟨.bool b, by simp [toP], by simp [PyData.canLay0], by simp [PyData.depth]⟩
  | @tup a b _ _ => exact ⟨.tuple [.int a, .int b], by simp [toP, toPs], by simp [PyData.canLay0, PyData.canLayAll0], by simp [PyData.depth, PyData.depthAll]⟩
  | @lst a b => exact ⟨.list [.int a, .int b], by simp [toP, toPs], by simp [PyData.canLay0, PyData.canLayAll0], by simp [PyData.depth, PyData.depthAll]⟩
theorem vals_p {ds : List D} (h : Vals' ds) : ∃ ps, toPs ds = some ps ∧ PyData.canLayAll0 ps = true ∧ PyData.depthAll ps ≤ 1 := by
  induction h with
  | nil => exact ⟨[], by simp [toPs], by simp [PyData.canLayAll0], by simp [PyData.depthAll]⟩
  | cons h _ ih =>
    obtain ⟨p, e1, e2, e3⟩ := val_p h
    obtain ⟨ps, f1, f2, f3⟩ := ih
    exact ⟨p :: ps, by simp [toPs, e1, f1], by simp [PyData.canLayAll0, e2, f2], by simp [PyData.depthAll]; omega⟩
theorem word_ok {z : Str} (h : z = "power" ∨ z = "entry" ∨ z = "line") : PyData.strOk z = true := by
  rcases h with h | h | h <;> subst h <;> decide +kernel
theorem jv_ne {z : Str} {r : List D} {Q : D → Prop} (hz : z = "power" ∨ z = "entry" ∨ z = "line") (h : Vals' r) (q : Q (.bl true)) : oNeD (.tup (.str z :: r)) (.tup []) Q := by
  obtain ⟨ps, f1, f2, f3⟩ := vals_p h
  refine ⟨.tuple (.str z :: ps), .tuple [], by simp [toP, toPs, f1], by simp [toP, toPs], ?_, by decide, ?_⟩
  · simp [SeqAt.shaped, PyData.canLay0, PyData.canLayAll0, f2, word_ok hz, PyData.depth, PyData.depthAll]
    omega
  · simpa [PyData.eqv, PyData.eqvAll] using q
theorem w_paper_word : ∀ ds QD, sd_paper_word ds QD → ds.length = 1 ∧ r_paper_word { nx := fun _ _ => QD .non, rt := fun v _ => QD v } (rho ["value"] ds) [] := by
  rintro ds QD ⟨v, rfl, ⟨ty, jv⟩, q⟩
  refine ⟨rfl, ?_⟩
  cases v with
  | tup xs =>
    rcases jv xs rfl with e | ⟨z, r, e, hz, hr, hl⟩
    · subst e
      simp [r_paper_word, rho, Ty, dSeq, dRet, dAsg, dAsg2, dPar, dIf, dNext, dNever, dDrop, dSetB, dAugB, dBox, dFor, nSeq, eVar, eC, eOp, eUn, oI, oI0, oU, eAndV, eOrV, eNotV, eIf, eChain, tstE, tstAnd, tstOr, tstNot, tstYes, eIsi, eIsF, isInt, isBool, isTup, isStr, tyD, eTup, aNil, aCons, aStar, eCall, eCallB, lCallN, eOfL, lDisp, lList, lRep, lSl, eSlT, pNone, pSome, oLen, lenD, oTuple, oIxT, oIxL, oIxC, eIxB, eTupB, oAbs, oInt, intD, oRepr, oEqI, oNeI, oEqS, oNeS, eProp, eNext, iTupD, iLstD, iRngD, iEnmL, iEnmT, iZipD, lLc, wipeD, setD, tI, lI, ex2]
      refine oNeD_tI (xs := []) (ys := []) ?_
      simpa [word] using q
    · subst e
      simp [r_paper_word, rho, Ty, dSeq, dRet, dAsg, dAsg2, dPar, dIf, dNext, dNever, dDrop, dSetB, dAugB, dBox, dFor, nSeq, eVar, eC, eOp, eUn, oI, oI0, oU, eAndV, eOrV, eNotV, eIf, eChain, tstE, tstAnd, tstOr, tstNot, tstYes, eIsi, eIsF, isInt, isBool, isTup, isStr, tyD, eTup, aNil, aCons, aStar, eCall, eCallB, lCallN, eOfL, lDisp, lList, lRep, lSl, eSlT, pNone, pSome, oLen, lenD, oTuple, oIxT, oIxL, oIxC, eIxB, eTupB, oAbs, oInt, intD, oRepr, oEqI, oNeI, oEqS, oNeS, eProp, eNext, iTupD, iLstD, iRngD, iEnmL, iEnmT, iZipD, lLc, wipeD, setD, tI, lI, ex2]
      refine jv_ne hz hr ?_
      have a0 : atI (D.str z :: r) 0 = some (.str z) := at_zero rfl
      simpa [a0, word] using q
  | scr _ =>
    obtain ⟨n, e⟩ := ty
    cases e
  | frm _ =>
    obtain ⟨n, e⟩ := ty
    cases e
  | _ => simpa [r_paper_word, word, rho, Ty, dSeq, dRet, dAsg, dAsg2, dPar, dIf, dNext, dNever, dDrop, dSetB, dAugB, dBox, dFor, nSeq, eVar, eC, eOp, eUn, oI, oI0, oU, eAndV, eOrV, eNotV, eIf, eChain, tstE, tstAnd, tstOr, tstNot, tstYes, eIsi, eIsF, isInt, isBool, isTup, isStr, tyD, eTup, aNil, aCons, aStar, eCall, eCallB, lCallN, eOfL, lDisp, lList, lRep, lSl, eSlT, pNone, pSome, oLen, lenD, oTuple, oIxT, oIxL, oIxC, eIxB, eTupB, oAbs, oInt, intD, oRepr, oEqI, oNeI, oEqS, oNeS, eProp, eNext, iTupD, iLstD, iRngD, iEnmL, iEnmT, iZipD, lLc, wipeD, setD, tI, lI, ex2] using q
theorem w_is_entry_of : ∀ ds QD, sd_is_entry_of ds QD → ds.length = 3 ∧ r_is_entry_of { nx := fun _ _ => QD .non, rt := fun v _ => QD v } (rho ["entries", "times", "value", "index", "entry", "told"] ds) [] := by
  rintro ds QD ⟨es, x, y, rfl, h3, g, vx, vy, q⟩
  refine ⟨rfl, ?_⟩
  simp [r_is_entry_of, sd_laid_in, sd_is_from, sd_is_whole, rho, Ty, dSeq, dRet, dAsg, dAsg2, dPar, dIf, dNext, dNever, dDrop, dSetB, dAugB, dBox, dFor, nSeq, eVar, eC, eOp, eUn, oI, oI0, oU, eAndV, eOrV, eNotV, eIf, eChain, tstE, tstAnd, tstOr, tstNot, tstYes, eIsi, eIsF, isInt, isBool, isTup, isStr, tyD, eTup, aNil, aCons, aStar, eCall, eCallB, lCallN, eOfL, lDisp, lList, lRep, lSl, eSlT, pNone, pSome, oLen, lenD, oTuple, oIxT, oIxL, oIxC, eIxB, eTupB, oAbs, oInt, intD, oRepr, oEqI, oNeI, oEqS, oNeS, eProp, eNext, iTupD, iLstD, iRngD, iEnmL, iEnmT, iZipD, lLc, wipeD, setD, tI, lI, ex2]
  refine ⟨es, rfl, h3, by have := g.2.1; omega, good_mid g, x, 0, ((hess es).length : Int) - 1, ⟨rfl, rfl, rfl⟩, val_ty vx, ?_⟩
  unfold entJ at q
  cases vx with
  | @int i hi =>
    by_cases h : fromD 0 (((hess es).length : Int) - 1) (.int i) = true
    · rw [if_pos h]
      rw [h, Bool.true_and] at q
      refine ⟨val_ty vy, ?_⟩
      cases vy with
      | @int e he =>
        have h' := h
        simp [fromD] at h'
        have at_ : atI ((hess es).map D.int) i = some (.int (co (hess es) i.toNat)) := by
          have z := at_ints (ns := hess es) (i := i.toNat) (by omega)
          rw [show ((i.toNat : Nat) : Int) = i by omega] at z
          exact z
        simp [wholeD, at_] at q ⊢
        by_cases e0 : e = 0
        · subst e0
          simpa using q
        · simpa [e0] using q
      | _ => simpa [wholeD] using q
    · rw [if_neg h]
      rw [Bool.not_eq_true] at h
      rw [h, Bool.false_and] at q
      exact q
  | _ => simpa [fromD] using q
theorem w_power_paper : ∀ ds QD, sd_power_paper ds QD → ds.length = 1 ∧ r_power_paper { nx := fun _ _ => QD .non, rt := fun v _ => QD v } (rho ["form", "entries"] ds) [] := by
  rintro ds QD ⟨es, rfl, g, q⟩
  refine ⟨rfl, ?_⟩
  have l1 := g.1
  have e0 : atI (es.map D.int) 0 = some (.int (co es 0)) := at_ints (i := 0) (by omega)
  unfold paper at q
  by_cases hp : isPw es = true
  · rw [if_pos hp] at q
    simp [r_power_paper, sd_require_form, sd_entries, sd_degree, sd_is_zero, sd_is_power_in, sd_power_told, rho, Ty, dSeq, dRet, dAsg, dAsg2, dPar, dIf, dNext, dNever, dDrop, dSetB, dAugB, dBox, dFor, nSeq, eVar, eC, eOp, eUn, oI, oI0, oU, eAndV, eOrV, eNotV, eIf, eChain, tstE, tstAnd, tstOr, tstNot, tstYes, eIsi, eIsF, isInt, isBool, isTup, isStr, tyD, eTup, aNil, aCons, aStar, eCall, eCallB, lCallN, eOfL, lDisp, lList, lRep, lSl, eSlT, pNone, pSome, oLen, lenD, oTuple, oIxT, oIxL, oIxC, eIxB, eTupB, oAbs, oInt, intD, oRepr, oEqI, oNeI, oEqS, oNeS, eProp, eNext, iTupD, iLstD, iRngD, iEnmL, iEnmT, iZipD, lLc, wipeD, setD, tI, lI, ex2]
    refine ⟨es, rfl, g, ?_⟩
    rw [if_pos hp]
    have hl : ((es.length : Int) - 1 = 0) ↔ es.length = 1 := by omega
    by_cases h1 : es.length = 1
    · rw [if_pos (Or.inl h1)] at q
      rw [if_pos (hl.mpr h1)]
      exact ⟨_, e0, q⟩
    · rw [if_neg (fun z => h1 (hl.mp z))]
      by_cases h2 : nzL es = true
      · rw [if_neg (fun z => z.elim h1 fun y => by rw [h2] at y; cases y)] at q
        exact .inl ⟨h2, es, rfl, by omega, g, q⟩
      · rw [Bool.not_eq_true] at h2
        rw [if_pos (Or.inr h2)] at q
        exact .inr ⟨h2, _, e0, q⟩
  · rw [if_neg hp] at q
    simp [r_power_paper, sd_require_form, sd_entries, sd_degree, sd_is_zero, sd_is_power_in, sd_power_told, rho, Ty, dSeq, dRet, dAsg, dAsg2, dPar, dIf, dNext, dNever, dDrop, dSetB, dAugB, dBox, dFor, nSeq, eVar, eC, eOp, eUn, oI, oI0, oU, eAndV, eOrV, eNotV, eIf, eChain, tstE, tstAnd, tstOr, tstNot, tstYes, eIsi, eIsF, isInt, isBool, isTup, isStr, tyD, eTup, aNil, aCons, aStar, eCall, eCallB, lCallN, eOfL, lDisp, lList, lRep, lSl, eSlT, pNone, pSome, oLen, lenD, oTuple, oIxT, oIxL, oIxC, eIxB, eTupB, oAbs, oInt, intD, oRepr, oEqI, oNeI, oEqS, oNeS, eProp, eNext, iTupD, iLstD, iRngD, iEnmL, iEnmT, iZipD, lLc, wipeD, setD, tI, lI, ex2]
    refine ⟨es, rfl, g, ?_⟩
    rw [if_neg hp]
    have h3 : 3 ≤ es.length := by
      refine Nat.le_of_not_lt fun z => hp ?_
      unfold isPw
      rw [decide_eq_true z, Bool.true_or]
    exact ⟨es, rfl, h3, g, q⟩
/-! ### the program's judge -/
theorem at3 (a b c : D) : atI [a, b, c] 0 = some a ∧ atI [a, b, c] 1 = some b ∧ atI [a, b, c] 2 = some c := ⟨rfl, rfl, rfl⟩
theorem pval_of {d : D} (h : Val d) : PVal d := by
  refine ⟨val_ty h, fun xs e => ?_⟩
  cases h with
  | @tup a b _ _ =>
    cases e
    exact ⟨a, b, rfl⟩
  | _ => cases e
theorem w_is_told_power : ∀ ds QD, sd_is_told_power ds QD → ds.length = 2 ∧ r_is_told_power { nx := fun _ _ => QD .non, rt := fun v _ => QD v } (rho ["entries", "value"] ds) [] := by
  rintro ds QD ⟨es, v, rfl, g, ⟨ty, jv⟩, ⟨xs, rfl⟩, q⟩
  refine ⟨rfl, ?_⟩
  have h12 := g.2.1
  have h1 := g.1
  rcases jv xs rfl with e | ⟨z, r, e, hz, hr, hl⟩
  · subst e
    simpa [r_is_told_power, toldA, rho, Ty, dSeq, dRet, dAsg, dAsg2, dPar, dIf, dNext, dNever, dDrop, dSetB, dAugB, dBox, dFor, nSeq, eVar, eC, eOp, eUn, oI, oI0, oU, eAndV, eOrV, eNotV, eIf, eChain, tstE, tstAnd, tstOr, tstNot, tstYes, eIsi, eIsF, isInt, isBool, isTup, isStr, tyD, eTup, aNil, aCons, aStar, eCall, eCallB, lCallN, eOfL, lDisp, lList, lRep, lSl, eSlT, pNone, pSome, oLen, lenD, oTuple, oIxT, oIxL, oIxC, eIxB, eTupB, oAbs, oInt, intD, oRepr, oEqI, oNeI, oEqS, oNeS, eProp, eNext, iTupD, iLstD, iRngD, iEnmL, iEnmT, iZipD, lLc, wipeD, setD, tI, lI, ex2] using q
  · subst e
    cases hr with
    | nil => simpa [r_is_told_power, toldA, rho, Ty, dSeq, dRet, dAsg, dAsg2, dPar, dIf, dNext, dNever, dDrop, dSetB, dAugB, dBox, dFor, nSeq, eVar, eC, eOp, eUn, oI, oI0, oU, eAndV, eOrV, eNotV, eIf, eChain, tstE, tstAnd, tstOr, tstNot, tstYes, eIsi, eIsF, isInt, isBool, isTup, isStr, tyD, eTup, aNil, aCons, aStar, eCall, eCallB, lCallN, eOfL, lDisp, lList, lRep, lSl, eSlT, pNone, pSome, oLen, lenD, oTuple, oIxT, oIxL, oIxC, eIxB, eTupB, oAbs, oInt, intD, oRepr, oEqI, oNeI, oEqS, oNeS, eProp, eNext, iTupD, iLstD, iRngD, iEnmL, iEnmT, iZipD, lLc, wipeD, setD, tI, lI, ex2] using q
    | @cons x r1 vx hr1 =>
      cases hr1 with
      | nil => simpa [r_is_told_power, toldA, rho, Ty, dSeq, dRet, dAsg, dAsg2, dPar, dIf, dNext, dNever, dDrop, dSetB, dAugB, dBox, dFor, nSeq, eVar, eC, eOp, eUn, oI, oI0, oU, eAndV, eOrV, eNotV, eIf, eChain, tstE, tstAnd, tstOr, tstNot, tstYes, eIsi, eIsF, isInt, isBool, isTup, isStr, tyD, eTup, aNil, aCons, aStar, eCall, eCallB, lCallN, eOfL, lDisp, lList, lRep, lSl, eSlT, pNone, pSome, oLen, lenD, oTuple, oIxT, oIxL, oIxC, eIxB, eTupB, oAbs, oInt, intD, oRepr, oEqI, oNeI, oEqS, oNeS, eProp, eNext, iTupD, iLstD, iRngD, iEnmL, iEnmT, iZipD, lLc, wipeD, setD, tI, lI, ex2] using q
      | @cons y r2 vy hr2 =>
        cases hr2 with
        | cons _ _ =>
          simp [r_is_told_power, rho, Ty, dSeq, dRet, dAsg, dAsg2, dPar, dIf, dNext, dNever, dDrop, dSetB, dAugB, dBox, dFor, nSeq, eVar, eC, eOp, eUn, oI, oI0, oU, eAndV, eOrV, eNotV, eIf, eChain, tstE, tstAnd, tstOr, tstNot, tstYes, eIsi, eIsF, isInt, isBool, isTup, isStr, tyD, eTup, aNil, aCons, aStar, eCall, eCallB, lCallN, eOfL, lDisp, lList, lRep, lSl, eSlT, pNone, pSome, oLen, lenD, oTuple, oIxT, oIxL, oIxC, eIxB, eTupB, oAbs, oInt, intD, oRepr, oEqI, oNeI, oEqS, oNeS, eProp, eNext, iTupD, iLstD, iRngD, iEnmL, iEnmT, iZipD, lLc, wipeD, setD, tI, lI, ex2]
          refine .inr ⟨by omega, ?_⟩
          cases vx <;> cases vy <;> simpa [toldA] using q
        | nil =>
          simp [r_is_told_power, sd_is_whole, sd_is_point_any, sd_times_power, at3, rho, Ty, dSeq, dRet, dAsg, dAsg2, dPar, dIf, dNext, dNever, dDrop, dSetB, dAugB, dBox, dFor, nSeq, eVar, eC, eOp, eUn, oI, oI0, oU, eAndV, eOrV, eNotV, eIf, eChain, tstE, tstAnd, tstOr, tstNot, tstYes, eIsi, eIsF, isInt, isBool, isTup, isStr, tyD, eTup, aNil, aCons, aStar, eCall, eCallB, lCallN, eOfL, lDisp, lList, lRep, lSl, eSlT, pNone, pSome, oLen, lenD, oTuple, oIxT, oIxL, oIxC, eIxB, eTupB, oAbs, oInt, intD, oRepr, oEqI, oNeI, oEqS, oNeS, eProp, eNext, iTupD, iLstD, iRngD, iEnmL, iEnmT, iZipD, lLc, wipeD, setD, tI, lI, ex2]
          refine ⟨val_ty vx, ?_⟩
          cases vx with
          | @int k hk =>
            simp [wholeD]
            refine ⟨pval_of vy, ?_⟩
            cases vy with
            | @tup a b ha hb =>
              simp [pointD]
              have q2 : QD (.bl (ptOk a b && powJ es k a b)) := q
              cases hp : ptOk a b with
              | false =>
                rw [hp] at q2
                simpa using q2
              | true =>
                rw [hp, Bool.true_and] at q2
                simp
                refine ⟨k, a, b, es.length - 1, ⟨rfl, ⟨rfl, rfl⟩, by omega⟩, by omega, up_lt hk (by decide), up_lt ha (by decide), up_lt hb (by decide), ?_⟩
                rw [← List.map_map]
                exact oEqD_tI q2
            | _ => simpa [pointD, toldA] using q
          | _ => simpa [wholeD, toldA] using q
theorem strE {a b : Str} {Q : D → Prop} (q : Q (.bl (decide (a = b)))) : oEqS (.str a) (.str b) Q := ⟨a, b, rfl, rfl, q⟩
theorem s_ne : ¬ ((Str.ofString "entry") = Str.ofString "power") := by decide
theorem word_tup {v : D} {z : Str} (h : word v = z) (hz : z ≠ "") : ∃ r, v = .tup (.str z :: r) := by
  cases v with
  | tup xs =>
    cases xs with
    | nil => exact absurd h.symm hz
    | cons x r =>
      cases x with
      | str y =>
        have e : y = z := h
        subst e
        exact ⟨r, rfl⟩
      | _ => exact absurd h.symm hz
  | _ => exact absurd h.symm hz
theorem w_is_power_paper : ∀ ds QD, sd_is_power_paper ds QD → ds.length = 2 ∧ r_is_power_paper { nx := fun _ _ => QD .non, rt := fun v _ => QD v } (rho ["form", "value", "word"] ds) [] := by
  rintro ds QD ⟨es, v, rfl, g, jv, q⟩
  refine ⟨rfl, ?_⟩
  have h1 := g.1
  simp [r_is_power_paper, sd_require_form, sd_paper_word, sd_entries, sd_degree, sd_is_told_power, rho, Ty, dSeq, dRet, dAsg, dAsg2, dPar, dIf, dNext, dNever, dDrop, dSetB, dAugB, dBox, dFor, nSeq, eVar, eC, eOp, eUn, oI, oI0, oU, eAndV, eOrV, eNotV, eIf, eChain, tstE, tstAnd, tstOr, tstNot, tstYes, eIsi, eIsF, isInt, isBool, isTup, isStr, tyD, eTup, aNil, aCons, aStar, eCall, eCallB, lCallN, eOfL, lDisp, lList, lRep, lSl, eSlT, pNone, pSome, oLen, lenD, oTuple, oIxT, oIxL, oIxC, eIxB, eTupB, oAbs, oInt, intD, oRepr, oEqI, oNeI, oEqS, oNeS, eProp, eNext, iTupD, iLstD, iRngD, iEnmL, iEnmT, iZipD, lLc, wipeD, setD, tI, lI, ex2]
  refine ⟨jv, ?_⟩
  unfold judgeA at q
  by_cases hp : word v = "power"
  · rw [if_pos hp] at q ⊢
    obtain ⟨r, e⟩ := word_tup hp (by decide)
    exact ⟨es, v, ⟨rfl, rfl⟩, g, jv, ⟨_, e⟩, q⟩
  · rw [if_neg hp] at q ⊢
    by_cases he : word v = "entry"
    · rw [if_pos he] at q
      refine .inl ⟨he, ?_⟩
      obtain ⟨r, e⟩ := word_tup he (by decide)
      subst e
      refine ⟨_, rfl, ?_⟩
      rcases jv.2 _ rfl with e | ⟨z, r1, e, hz, hr, hl⟩
      · cases e
      · cases e
        cases hr with
        | nil => exact .inr ⟨by simp, by simpa using q⟩
        | @cons x r1 vx hr1 =>
          cases hr1 with
          | nil => exact .inr ⟨by simp, by simpa using q⟩
          | @cons y r2 vy hr2 =>
            cases hr2 with
            | cons _ _ => exact .inr ⟨by simp; omega, by simpa using q⟩
            | nil =>
              refine .inl ⟨by simp, ?_⟩
              simp only at q
              by_cases h3 : 3 ≤ es.length
              · rw [decide_eq_true h3, Bool.true_and] at q
                rw [if_neg (by omega)]
                refine ⟨_, rfl, es, x, y, ?_, h3, g, vx, vy, q⟩
                rw [cut_first]
                rfl
              · rw [decide_eq_false h3, Bool.false_and] at q
                rw [if_pos (by omega)]
                exact q
    · rw [if_neg he] at q
      exact .inr ⟨he, q⟩
end KD
set_option Elab.async false
set_option linter.all false
set_option maxRecDepth 100000
set_option maxHeartbeats 2000000
/-! Walks, 5: the dice; the law's small defs. -/
namespace KD
open PySem PySem.Spec PyProof.Rows L2 Km

theorem cmul_r {i j : Int} (h : -(2 ^ 64 : Int) < j ∧ j < 2 ^ 64) : CMulA i j := .inl (.inr h)
theorem cmul_l {i j : Int} (h : -(2 ^ 64 : Int) < i ∧ i < 2 ^ 64) : CMulA i j := .inl (.inl h)
theorem w__law_dice : ∀ ds QD, sd__law_dice ds QD → ds.length = 2 ∧ r__law_dice (rho ["_law_script", "_law_spot", "_law_cell", "_law_left"] ds) [] fun v _ => QD v := by
  rintro ds QD ⟨ns, k, rfl, hk, q⟩
  refine ⟨rfl, ?_⟩
  have m1 : ∀ x : Int, CMulA 89 x := fun x => cmul_l (by decide)
  have m2 : ∀ x : Int, CMulA x 83 := fun x => cmul_r (by decide)
  have m3 : ∀ x : Int, CMulA 883 x := fun x => cmul_l (by decide)
  have m4 : ∀ x : Int, CMulA 43 x := fun x => cmul_l (by decide)
  have m5 : CMulA (10 ^ 60) (10 ^ 60) := .inr (wide_mul (a := 200) (b := 200) (by decide) (by decide) (by decide) (by decide) (by decide))
  have p1 : CPow 10 60 := ⟨by decide, by decide, by decide⟩
  have p2 : CPow 10 16 := ⟨by decide, by decide, by decide⟩
  simp [r__law_dice, m1, m2, m3, m4, m5, p1, p2, rho, Ty, dSeq, dRet, dAsg, dAsg2, dPar, dIf, dNext, dNever, dDrop, dSetB, dAugB, dBox, dFor, nSeq, eVar, eC, eOp, eUn, oI, oI0, oU, eAndV, eOrV, eNotV, eIf, eChain, tstE, tstAnd, tstOr, tstNot, tstYes, eIsi, eIsF, isInt, isBool, isTup, isStr, tyD, eTup, aNil, aCons, aStar, eCall, eCallB, lCallN, eOfL, lDisp, lList, lRep, lSl, eSlT, pNone, pSome, oLen, lenD, oTuple, oIxT, oIxL, oIxC, eIxB, eTupB, oAbs, oInt, intD, oRepr, oEqI, oNeI, oEqS, oNeS, eProp, eNext, iTupD, iLstD, iRngD, iEnmL, iEnmT, iZipD, lLc, wipeD, setD, tI, lI, ex2]
  have n5 : CMulA 1000000000000000000000000000000000000000000000000000000000000 1000000000000000000000000000000000000000000000000000000000000 := m5
  by_cases h : k < ns.length
  · rw [if_pos h]
    exact ⟨ns[k], atI_nat (List.getElem?_eq_getElem h), n5, q _ _ _⟩
  · rw [if_neg h]
    exact ⟨n5, q _ _ _⟩
theorem w__law_roll : ∀ ds B QD, sd__law_roll ds B QD → ds.length + 1 = 2 ∧ r__law_roll { nx := fun _ B => QD .non B, rt := fun v B => QD v B } (none :: rho (["_law_dice_here", "_law_total", "_law_found", "_law_one", "_law_two"] : List Str).tail ds) B := by
  rintro ds B QD ⟨t, rfl, h0, h1, ⟨a, b, c, rfl⟩, q⟩
  refine ⟨rfl, ?_⟩
  have m1 : ∀ x : Int, CMulA 92821991 x := fun x => cmul_l (by decide)
  have m2 : ∀ x : Int, CMulA 101 x := fun x => cmul_l (by decide)
  have m3 : ∀ x : Int, CMulA x 5915587 := fun x => cmul_r (by decide)
  have a3 : ∀ x y z : D, atI [x, y, z] 0 = some x ∧ atI [x, y, z] 1 = some y ∧ atI [x, y, z] 2 = some z := at3
  have i0 : ixN 3 0 = some 0 := rfl
  have i2 : ixN 3 2 = some 2 := rfl
  have d1 : ∀ x : Int, CDivZ x t := fun x => ⟨by omega, log_lt (s := 200) (by omega) (by decide) (by decide)⟩
  have d2 : ∀ x : Int, CDivZ x 65536 := fun x => ⟨by decide, by decide⟩
  simp [r__law_roll, m1, m2, m3, a3, i0, i2, d1, d2, h0, rho, Ty, dSeq, dRet, dAsg, dAsg2, dPar, dIf, dNext, dNever, dDrop, dSetB, dAugB, dBox, dFor, nSeq, eVar, eC, eOp, eUn, oI, oI0, oU, eAndV, eOrV, eNotV, eIf, eChain, tstE, tstAnd, tstOr, tstNot, tstYes, eIsi, eIsF, isInt, isBool, isTup, isStr, tyD, eTup, aNil, aCons, aStar, eCall, eCallB, lCallN, eOfL, lDisp, lList, lRep, lSl, eSlT, pNone, pSome, oLen, lenD, oTuple, oIxT, oIxL, oIxC, eIxB, eTupB, oAbs, oInt, intD, oRepr, oEqI, oNeI, oEqS, oNeS, eProp, eNext, iTupD, iLstD, iRngD, iEnmL, iEnmT, iZipD, lLc, wipeD, setD, tI, lI, ex2]
  have md : ∀ x : Int, 0 ≤ x % t ∧ x % t < t := fun x => ⟨Int.emod_nonneg _ (by omega), Int.emod_lt_of_pos _ h0⟩
  by_cases h : 0 < a
  · rw [if_pos h]
    exact q _ _ (md _).1 (md _).2 ⟨_, _, _, rfl⟩
  · rw [if_neg h]
    have s1 : 0 ≤ (b + 92821991 * (c + 1)) % 2305843009213691579 := Int.emod_nonneg _ (by decide)
    have s2 : (b + 92821991 * (c + 1)) % 2305843009213691579 < 2305843009213691579 := Int.emod_lt_of_pos _ (by decide)
    refine ⟨cmul_l ⟨by omega, by omega⟩, q _ _ (md _).1 (md _).2 ⟨_, _, _, rfl⟩⟩
theorem w__law_pick : ∀ ds B QD, sd__law_pick ds B QD → ds.length + 1 = 2 ∧ r__law_pick { nx := fun _ B => QD .non B, rt := fun v B => QD v B } (none :: rho (["_law_dice_here", "_law_items"] : List Str).tail ds) B := by
  rintro ds B QD ⟨xs, rfl, h0, h1, dB, q⟩
  refine ⟨rfl, ?_⟩
  simp [r__law_pick, sd__law_roll, rho, Ty, dSeq, dRet, dAsg, dAsg2, dPar, dIf, dNext, dNever, dDrop, dSetB, dAugB, dBox, dFor, nSeq, eVar, eC, eOp, eUn, oI, oI0, oU, eAndV, eOrV, eNotV, eIf, eChain, tstE, tstAnd, tstOr, tstNot, tstYes, eIsi, eIsF, isInt, isBool, isTup, isStr, tyD, eTup, aNil, aCons, aStar, eCall, eCallB, lCallN, eOfL, lDisp, lList, lRep, lSl, eSlT, pNone, pSome, oLen, lenD, oTuple, oIxT, oIxL, oIxC, eIxB, eTupB, oAbs, oInt, intD, oRepr, oEqI, oNeI, oEqS, oNeS, eProp, eNext, iTupD, iLstD, iRngD, iEnmL, iEnmT, iZipD, lLc, wipeD, setD, tI, lI, ex2]
  refine ⟨h0, by omega, dB, fun r B' r0 r1 dB' => ?_⟩
  have e : xs[r.toNat]? = some (xs[r.toNat]'(by omega)) := List.getElem?_eq_getElem (by omega)
  refine ⟨_, ?_, q _ (List.getElem_mem (n := r.toNat) (by omega)) B' dB'⟩
  have z := atI_nat e
  rw [show ((r.toNat : Nat) : Int) = r by omega] at z
  exact z
theorem w__law_near : ∀ ds B QD, sd__law_near ds B QD → ds.length + 1 = 2 ∧ r__law_near { nx := fun _ B => QD .non B, rt := fun v B => QD v B } (none :: rho (["_law_dice_here", "_law_most"] : List Str).tail ds) B := by
  rintro ds B QD ⟨m, rfl, h0, h1, dB, q⟩
  refine ⟨rfl, ?_⟩
  have c1 : CMulA 2 m := cmul_l (by decide)
  simp [r__law_near, sd__law_roll, c1, rho, Ty, dSeq, dRet, dAsg, dAsg2, dPar, dIf, dNext, dNever, dDrop, dSetB, dAugB, dBox, dFor, nSeq, eVar, eC, eOp, eUn, oI, oI0, oU, eAndV, eOrV, eNotV, eIf, eChain, tstE, tstAnd, tstOr, tstNot, tstYes, eIsi, eIsF, isInt, isBool, isTup, isStr, tyD, eTup, aNil, aCons, aStar, eCall, eCallB, lCallN, eOfL, lDisp, lList, lRep, lSl, eSlT, pNone, pSome, oLen, lenD, oTuple, oIxT, oIxL, oIxC, eIxB, eTupB, oAbs, oInt, intD, oRepr, oEqI, oNeI, oEqS, oNeS, eProp, eNext, iTupD, iLstD, iRngD, iEnmL, iEnmT, iZipD, lLc, wipeD, setD, tI, lI, ex2]
  refine ⟨by omega, by omega, dB, fun r B' r0 r1 dB' => q _ _ (by omega) (by omega) dB'⟩
theorem w__law_gcd : ∀ ds QD, sd__law_gcd ds QD → ds.length = 2 ∧ r__law_gcd { nx := fun _ _ => QD .non, rt := fun v _ => QD v } (rho ["_law_one", "_law_other"] ds) [] := by
  rintro ds QD ⟨a, b, rfl, q⟩
  refine ⟨rfl, ?_⟩
  have ab : ∀ x : Int, (if x < 0 then -x else x) = (x.natAbs : Int) := fun x => by split <;> omega
  simp [r__law_gcd, rho, Ty, dSeq, dRet, dAsg, dAsg2, dPar, dIf, dNext, dNever, dDrop, dSetB, dAugB, dBox, dFor, nSeq, eVar, eC, eOp, eUn, oI, oI0, oU, eAndV, eOrV, eNotV, eIf, eChain, tstE, tstAnd, tstOr, tstNot, tstYes, eIsi, eIsF, isInt, isBool, isTup, isStr, tyD, eTup, aNil, aCons, aStar, eCall, eCallB, lCallN, eOfL, lDisp, lList, lRep, lSl, eSlT, pNone, pSome, oLen, lenD, oTuple, oIxT, oIxL, oIxC, eIxB, eTupB, oAbs, oInt, intD, oRepr, oEqI, oNeI, oEqS, oNeS, eProp, eNext, iTupD, iLstD, iRngD, iEnmL, iEnmT, iZipD, lLc, wipeD, setD, tI, lI, ex2]
  rw [ab a, ab b]
  refine ⟨fun m ρ B => ∃ x y : Nat, ρ = [some (D.int (x : Int)), some (D.int (y : Int))] ∧ m = y ∧ Nat.gcd x y = Nat.gcd a.natAbs b.natAbs, ⟨b.natAbs, a.natAbs, b.natAbs, rfl, rfl, rfl⟩, ?_⟩
  rintro m ρ B ⟨x, y, rfl, rfl, hg⟩
  simp [rho, Ty, dSeq, dRet, dAsg, dAsg2, dPar, dIf, dNext, dNever, dDrop, dSetB, dAugB, dBox, dFor, nSeq, eVar, eC, eOp, eUn, oI, oI0, oU, eAndV, eOrV, eNotV, eIf, eChain, tstE, tstAnd, tstOr, tstNot, tstYes, eIsi, eIsF, isInt, isBool, isTup, isStr, tyD, eTup, aNil, aCons, aStar, eCall, eCallB, lCallN, eOfL, lDisp, lList, lRep, lSl, eSlT, pNone, pSome, oLen, lenD, oTuple, oIxT, oIxL, oIxC, eIxB, eTupB, oAbs, oInt, intD, oRepr, oEqI, oNeI, oEqS, oNeS, eProp, eNext, iTupD, iLstD, iRngD, iEnmL, iEnmT, iZipD, lLc, wipeD, setD, tI, lI, ex2]
  by_cases hm : 0 < m
  · rw [if_pos hm]
    refine ⟨hm, x % m, Nat.mod_lt _ hm, m, x % m, ⟨rfl, (Int.natCast_emod x m).symm⟩, rfl, ?_⟩
    rw [← hg, Nat.gcd_comm x m, Nat.gcd_rec m x, Nat.gcd_comm]
  · rw [if_neg hm]
    have e : m = 0 := by omega
    subst e
    rw [Nat.gcd_zero_right] at hg
    rw [hg]
    exact q
theorem w__law_shared : ∀ ds QD, sd__law_shared ds QD → ds.length = 1 ∧ r__law_shared { nx := fun _ _ => QD .non, rt := fun v _ => QD v } (rho ["_law_numbers", "_law_found", "_law_number"] ds) [] := by
  rintro ds QD ⟨ns, rfl, q⟩
  refine ⟨rfl, ?_⟩
  simp [r__law_shared, rho, Ty, dSeq, dRet, dAsg, dAsg2, dPar, dIf, dNext, dNever, dDrop, dSetB, dAugB, dBox, dFor, nSeq, eVar, eC, eOp, eUn, oI, oI0, oU, eAndV, eOrV, eNotV, eIf, eChain, tstE, tstAnd, tstOr, tstNot, tstYes, eIsi, eIsF, isInt, isBool, isTup, isStr, tyD, eTup, aNil, aCons, aStar, eCall, eCallB, lCallN, eOfL, lDisp, lList, lRep, lSl, eSlT, pNone, pSome, oLen, lenD, oTuple, oIxT, oIxL, oIxC, eIxB, eTupB, oAbs, oInt, intD, oRepr, oEqI, oNeI, oEqS, oNeS, eProp, eNext, iTupD, iLstD, iRngD, iEnmL, iEnmT, iZipD, lLc, wipeD, setD, tI, lI]
  refine for_ok (fun i ρ B => ∃ z, ρ = [some (tI ns), some (.int ((ns.take i).foldl gcdI 0)), z]) ?_ ?_ ⟨_, rfl⟩
  · rintro i row hr ρ B ⟨z, rfl⟩ N hN
    simp at hr
    obtain ⟨n, hn, e⟩ := hr
    subst e
    simp [sd__law_gcd, rho, Ty, dSeq, dRet, dAsg, dAsg2, dPar, dIf, dNext, dNever, dDrop, dSetB, dAugB, dBox, dFor, nSeq, eVar, eC, eOp, eUn, oI, oI0, oU, eAndV, eOrV, eNotV, eIf, eChain, tstE, tstAnd, tstOr, tstNot, tstYes, eIsi, eIsF, isInt, isBool, isTup, isStr, tyD, eTup, aNil, aCons, aStar, eCall, eCallB, lCallN, eOfL, lDisp, lList, lRep, lSl, eSlT, pNone, pSome, oLen, lenD, oTuple, oIxT, oIxL, oIxC, eIxB, eTupB, oAbs, oInt, intD, oRepr, oEqI, oNeI, oEqS, oNeS, eProp, eNext, iTupD, iLstD, iRngD, iEnmL, iEnmT, iZipD, lLc, wipeD, setD, tI, lI]
    refine ⟨_, _, ⟨rfl, rfl⟩, hN _ _ ⟨some (.int n), ?_⟩⟩
    rw [List.take_add_one, hn]
    simp [tI, gcdI]
  · rintro ρ B ⟨z, rfl⟩
    simpa [gcdL, rho, Ty, dSeq, dRet, dAsg, dAsg2, dPar, dIf, dNext, dNever, dDrop, dSetB, dAugB, dBox, dFor, nSeq, eVar, eC, eOp, eUn, oI, oI0, oU, eAndV, eOrV, eNotV, eIf, eChain, tstE, tstAnd, tstOr, tstNot, tstYes, eIsi, eIsF, isInt, isBool, isTup, isStr, tyD, eTup, aNil, aCons, aStar, eCall, eCallB, lCallN, eOfL, lDisp, lList, lRep, lSl, eSlT, pNone, pSome, oLen, lenD, oTuple, oIxT, oIxL, oIxC, eIxB, eTupB, oAbs, oInt, intD, oRepr, oEqI, oNeI, oEqS, oNeS, eProp, eNext, iTupD, iLstD, iRngD, iEnmL, iEnmT, iZipD, lLc, wipeD, setD, tI, lI] using q
/-- the law's sum, so many pieces in -/
def sgn (k : Nat) : Int := if k = 1 then -2 else 1
def lw (es : List Int) : Nat → List Int
  | 0 => List.replicate (2 * es.length - 5) 0
  | k + 1 => tab (2 * es.length - 5) fun m => co (lw es k) m + co ((mul (dXY es (2 - k)) (dXY es k)).map fun e => sgn k * e) m
theorem lw_len (es : List Int) (k : Nat) : (lw es k).length = 2 * es.length - 5 := by
  cases k with
  | zero => simp [lw]
  | succ k => exact tab_len _ _
theorem dXY_len (es : List Int) (i : Nat) : (dXY es i).length = es.length - 2 := by
  unfold dXY
  split
  · rw [dX_len, dX_len]; omega
  · split
    · rw [dY_len, dX_len]; omega
    · rw [dY_len, dY_len]; omega
theorem dXY_bd {es : List Int} {s : Nat} (h : ∀ n ∈ es, n.natAbs < 2 ^ s) (hl : es.length ≤ 100) (i : Nat) : ∀ n ∈ dXY es i, n.natAbs < 2 ^ (s + 14) := by
  have lX : (dX es).length ≤ 100 := by rw [dX_len]; omega
  have lY : (dY es).length ≤ 100 := by rw [dY_len]; omega
  unfold dXY
  split
  · exact dX_bd (dX_bd h hl) lX
  · split
    · exact dY_bd (dX_bd h hl) lX
    · exact dY_bd (dY_bd h hl) lY
theorem mul_bd {xs ys : List Int} {s t : Nat} (hx : ∀ n ∈ xs, n.natAbs < 2 ^ s) (hy : ∀ n ∈ ys, n.natAbs < 2 ^ t) (hl : xs.length + ys.length ≤ 256) : ∀ n ∈ mul xs ys, n.natAbs < 2 ^ (s + t + 8) := by
  have sb : ∀ (k : Nat) (f : Nat → Int), (∀ i, i < k → (f i).natAbs < 2 ^ (s + t)) → (sm k f).natAbs ≤ k * 2 ^ (s + t) := by
    intro k
    induction k with
    | zero => intro f _; simp [sm]
    | succ k ih =>
      intro f h
      have h1 := ih f fun i hi => h i (by omega)
      have h2 := h k (by omega)
      have h3 := Int.natAbs_add_le (sm k f) (f k)
      show (sm k f + f k).natAbs ≤ _
      rw [Nat.add_mul, Nat.one_mul]
      omega
  refine tab_bd fun m hm => ?_
  have h1 := sb (m + 1) (fun i => co xs i * co ys (m - i)) fun i _ => by
    show (co xs i * co ys (m - i)).natAbs < _
    rw [Int.natAbs_mul, Nat.pow_add]
    exact Nat.mul_lt_mul'' (co_bd hx i) (co_bd hy _)
  have h2 : (m + 1) * 2 ^ (s + t) < 256 * 2 ^ (s + t) := Nat.mul_lt_mul_of_pos_right (by omega) (Nat.two_pow_pos _)
  rw [Nat.pow_add, Nat.mul_comm _ (2 ^ 8)]
  exact Nat.lt_of_le_of_lt h1 h2
theorem co_map_mul (f : Int) (xs : List Int) (m : Nat) : co (xs.map fun e => f * e) m = f * co xs m := by
  by_cases h : m < xs.length
  · rw [co_lt (by rw [List.length_map]; exact h), co_lt h, List.getElem_map]
  · rw [co_ge (by rw [List.length_map]; omega), co_ge (by omega), Int.mul_zero]
theorem lw_hess (es : List Int) (h3 : 3 ≤ es.length) : lw es 3 = hess es := by
  rw [← hess_is es h3]
  have ne : ∀ i, dXY es i ≠ [] := fun i => ne_of_len (by rw [dXY_len]; omega)
  have exy : dY (dX es) = dX (dY es) := by
    refine ext_co (by rw [dY_len, dX_len, dX_len, dY_len]) fun i hi => ?_
    rw [dY_len, dX_len] at hi
    unfold dX dY
    rw [tab_len, tab_len, tab_co (by omega), tab_co (by omega), tab_co (by omega), tab_co (by omega)]
    rw [show es.length - 1 - (i + 1) = es.length - 1 - 1 - i by omega]
    rw [Int.mul_assoc, Int.mul_assoc, Int.mul_comm (((es.length - 1 - 1 - i : Nat)) : Int)]
  refine ext_co (by unfold addP; rw [lw_len, tab_len, tab_len, tab_len, List.length_replicate]) fun m hm => ?_
  rw [lw_len] at hm
  show co (tab _ _) m = _
  unfold addP
  rw [tab_len, tab_len, List.length_replicate, tab_co hm, tab_co hm, tab_co hm, tab_co hm]
  show co (tab _ _) m + _ = _
  rw [tab_co hm]
  show co (tab _ _) m + _ + _ = _
  rw [tab_co hm]
  show co (List.replicate (2 * es.length - 5) 0) m + _ + _ + _ = _
  rw [co_map_mul, co_map_mul, co_map_mul]
  have d2 : dXY es 2 = dX (dX es) := rfl
  have d1 : dXY es 1 = dX (dY es) := exy
  have d0 : dXY es 0 = dY (dY es) := rfl
  show _ + sgn 0 * co (mul (dXY es 2) (dXY es 0)) m + sgn 1 * co (mul (dXY es 1) (dXY es 1)) m + sgn 2 * co (mul (dXY es 0) (dXY es 2)) m = _
  rw [d2, d1, d0]
  rfl
theorem w__law_laid : ∀ ds QD, sd__law_laid ds QD → ds.length = 3 ∧ r__law_laid { nx := fun _ _ => QD .non, rt := fun v _ => QD v } (rho ["_law_one", "_law_other", "_law_times", "_law_found", "_law_place", "_law_at", "_law_piece", "_law_number"] ds) [] := by
  rintro ds QD ⟨es, rfl, h3, hl, mid, q⟩
  refine ⟨rfl, ?_⟩
  have c1 : ∀ a : Int, CMulA a 2 := fun a => cmul_s (by decide) (by decide)
  have eL : ((es.length : Int) + (es.length : Int) - 1 - 4).toNat = 2 * es.length - 5 := by omega
  simp [r__law_laid, c1, rho, Ty, dSeq, dRet, dAsg, dAsg2, dPar, dIf, dNext, dNever, dDrop, dSetB, dAugB, dBox, dFor, nSeq, eVar, eC, eOp, eUn, oI, oI0, oU, eAndV, eOrV, eNotV, eIf, eChain, tstE, tstAnd, tstOr, tstNot, tstYes, eIsi, eIsF, isInt, isBool, isTup, isStr, tyD, eTup, aNil, aCons, aStar, eCall, eCallB, lCallN, eOfL, lDisp, lList, lRep, lSl, eSlT, pNone, pSome, oLen, lenD, oTuple, oIxT, oIxL, oIxC, eIxB, eTupB, oAbs, oInt, intD, oRepr, oEqI, oNeI, oEqS, oNeS, eProp, eNext, iTupD, iLstD, iRngD, iEnmL, iEnmT, iZipD, lLc, wipeD, setD, tI, lI, ex2]
  rw [eL]
  refine ⟨by omega, by omega, by omega, lc_map (fun _ => .int 0) (fun row hr N hN => ?_) ?_⟩
  · obtain ⟨i, _, e⟩ := List.mem_map.mp hr
    subst e
    simpa [rho, Ty, dSeq, dRet, dAsg, dAsg2, dPar, dIf, dNext, dNever, dDrop, dSetB, dAugB, dBox, dFor, nSeq, eVar, eC, eOp, eUn, oI, oI0, oU, eAndV, eOrV, eNotV, eIf, eChain, tstE, tstAnd, tstOr, tstNot, tstYes, eIsi, eIsF, isInt, isBool, isTup, isStr, tyD, eTup, aNil, aCons, aStar, eCall, eCallB, lCallN, eOfL, lDisp, lList, lRep, lSl, eSlT, pNone, pSome, oLen, lenD, oTuple, oIxT, oIxL, oIxC, eIxB, eTupB, oAbs, oInt, intD, oRepr, oEqI, oNeI, oEqS, oNeS, eProp, eNext, iTupD, iLstD, iRngD, iEnmL, iEnmT, iZipD, lLc, wipeD, setD, tI, lI] using hN
  · rw [List.nil_append, const_rows]
    refine for_ok (fun i ρ B => ∃ z1 z2 z3 z4, ρ = [some (tI es), some (tI es), some (.int 2), some (tI (lw es i)), z1, z2, z3, z4]) ?_ ?_ ⟨none, none, none, none, rfl⟩
    · rintro i row hr ρ B ⟨z1, z2, z3, z4, rfl⟩ N hN
      obtain ⟨hi, e⟩ := range_row hr
      subst e
      have hi3 : i = 0 ∨ i = 1 ∨ i = 2 := by omega
      have nx : ∀ k, dXY es k ≠ [] := fun k => ne_of_len (by rw [dXY_len]; omega)
      have lx : ∀ k, (dXY es k).length ≤ 1000 := fun k => by rw [dXY_len]; omega
      have bx : ∀ k, Sm (dXY es k) := fun k => sm_of (dXY_bd mid hl k) (by decide)
      have lm : ∀ k, (mul (dXY es (2 - k)) (dXY es k)).length = 2 * es.length - 5 := fun k => by rw [mul_len, dXY_len, dXY_len]; omega
      have bm : ∀ k, Sm (mul (dXY es (2 - k)) (dXY es k)) := fun k => sm_of (mul_bd (dXY_bd mid hl _) (dXY_bd mid hl _) (by rw [dXY_len, dXY_len]; omega)) (by decide)
      have fin : ∀ z, N [some (tI es), some (tI es), some (.int 2), some (tI (lw es (i + 1))), z1, some (.int (i : Nat)), some (tI (mul (dXY es (2 - i)) (dXY es i))), some z] B := fun z => hN _ _ ⟨_, _, _, _, rfl⟩
      have lz := lw_len es i
      have ls : ((mul (dXY es (2 - i)) (dXY es i)).map fun e => sgn i * e).length = 2 * es.length - 5 := by rw [List.length_map]; exact lm i
      simp [sd__law_product, sd_product_in, sd__law_derived, sd__law_choose, sd_lots_of, rho, Ty, dSeq, dRet, dAsg, dAsg2, dPar, dIf, dNext, dNever, dDrop, dSetB, dAugB, dBox, dFor, nSeq, eVar, eC, eOp, eUn, oI, oI0, oU, eAndV, eOrV, eNotV, eIf, eChain, tstE, tstAnd, tstOr, tstNot, tstYes, eIsi, eIsF, isInt, isBool, isTup, isStr, tyD, eTup, aNil, aCons, aStar, eCall, eCallB, lCallN, eOfL, lDisp, lList, lRep, lSl, eSlT, pNone, pSome, oLen, lenD, oTuple, oIxT, oIxL, oIxC, eIxB, eTupB, oAbs, oInt, intD, oRepr, oEqI, oNeI, oEqS, oNeS, eProp, eNext, iTupD, iLstD, iRngD, iEnmL, iEnmT, iZipD, lLc, wipeD, setD, tI, lI, ex2]
      have fin2 : ∀ f : Int, f = sgn i → f.natAbs < 4 → sd__law_scaled [D.tup (List.map D.int (mul (dXY es (2 - i)) (dXY es i))), D.int f] fun d => sd__law_plus [D.tup (List.map D.int (lw es i)), d] fun d =>
          N [some (D.tup (List.map D.int es)), some (D.tup (List.map D.int es)), some (D.int 2), some d, z1, some (D.int (i : Nat)), some (D.tup (List.map D.int (mul (dXY es (2 - i)) (dXY es i)))), some (D.int (two i))] B := by
        intro f hf f4
        subst hf
        refine ⟨_, _, rfl, by rw [lm]; omega, bm i, up_lt (s := 2) f4 (by decide), lw es i, (mul (dXY es (2 - i)) (dXY es i)).map fun e => sgn i * e, rfl, by rw [lz, ls], by rw [lz]; omega, ?_⟩
        rw [lz]
        exact fin _
      refine ⟨es, 2 - i, i, ⟨rfl, by omega, rfl⟩, by omega, h3, by omega, es, i, 2 - i, ⟨rfl, rfl, by omega⟩, by omega, h3, by omega, _, _, ⟨rfl, rfl⟩, nx _, nx _, lx _, lx _, bx _, bx _, i, rfl, by omega, ?_⟩
      rcases hi3 with h | h | h
      · subst h
        rw [if_pos (by decide)]
        exact fin2 _ rfl (by decide)
      · subst h
        rw [if_neg (by decide)]
        exact fin2 _ rfl (by decide)
      · subst h
        rw [if_pos (by decide)]
        exact fin2 _ rfl (by decide)
    · rintro ρ B ⟨z1, z2, z3, z4, rfl⟩
      rw [List.length_map, List.length_range, lw_hess es h3]
      simpa [rho, Ty, dSeq, dRet, dAsg, dAsg2, dPar, dIf, dNext, dNever, dDrop, dSetB, dAugB, dBox, dFor, nSeq, eVar, eC, eOp, eUn, oI, oI0, oU, eAndV, eOrV, eNotV, eIf, eChain, tstE, tstAnd, tstOr, tstNot, tstYes, eIsi, eIsF, isInt, isBool, isTup, isStr, tyD, eTup, aNil, aCons, aStar, eCall, eCallB, lCallN, eOfL, lDisp, lList, lRep, lSl, eSlT, pNone, pSome, oLen, lenD, oTuple, oIxT, oIxL, oIxC, eIxB, eTupB, oAbs, oInt, intD, oRepr, oEqI, oNeI, oEqS, oNeS, eProp, eNext, iTupD, iLstD, iRngD, iEnmL, iEnmT, iZipD, lLc, wipeD, setD, tI, lI] using q
/-! ### points -/
theorem w__law_plain : ∀ ds QD, sd__law_plain ds QD → ds.length = 1 ∧ r__law_plain { nx := fun _ _ => QD .non, rt := fun v _ => QD v } (rho ["_law_form_here", "_law_part", "_law_first", "_law_entry"] ds) [] := by
  rintro ds QD ⟨a, b, rfl, ha, hb, q⟩
  refine ⟨rfl, ?_⟩
  simp [r__law_plain, sd__law_shared, sd_shared_of, dLcGo, rho, Ty, dSeq, dRet, dAsg, dAsg2, dPar, dIf, dNext, dNever, dDrop, dSetB, dAugB, dBox, dFor, nSeq, eVar, eC, eOp, eUn, oI, oI0, oU, eAndV, eOrV, eNotV, eIf, eChain, tstE, tstAnd, tstOr, tstNot, tstYes, eIsi, eIsF, isInt, isBool, isTup, isStr, tyD, eTup, aNil, aCons, aStar, eCall, eCallB, lCallN, eOfL, lDisp, lList, lRep, lSl, eSlT, pNone, pSome, oLen, lenD, oTuple, oIxT, oIxL, oIxC, eIxB, eTupB, oAbs, oInt, intD, oRepr, oEqI, oNeI, oEqS, oNeS, eProp, eNext, iTupD, iLstD, iRngD, iEnmL, iEnmT, iZipD, lLc, wipeD, setD, tI, lI, ex2]
  refine ⟨[a, b], rfl, ?_⟩
  rw [gcdL2]
  unfold pl2 at q
  by_cases h0 : gcdI a b = 0
  · rw [if_pos h0] at q ⊢
    exact q
  · rw [if_neg h0] at q ⊢
    have gp : 0 < gcdI a b := by
      have : 0 ≤ gcdI a b := Int.natCast_nonneg _
      omega
    have gl := log_lt (gcd_bd ha hb) (by decide) (by decide)
    have cg : ∀ x : Int, CDivZ x (gcdI a b) := fun x => ⟨h0, gl⟩
    have cn : ∀ x : Int, CDivZ x (-gcdI a b) := fun x => ⟨by omega, by rw [Int.natAbs_neg]; exact gl⟩
    by_cases a0 : a = 0
    · have b0 : b ≠ 0 := fun z => h0 (by rw [a0, z]; rfl)
      have ef : fstN [a, b] = b := by
        unfold fstN
        simp [a0, b0]
      rw [ef] at q
      refine .inl ⟨a0, .inr ⟨b0, .int b, at_zero rfl, b, rfl, ?_⟩⟩
      by_cases hp : 0 < b
      · rw [if_pos hp] at q
        simp [hp, cg]
        exact q
      · rw [if_neg hp, Int.zero_sub] at q
        simp [hp, cn]
        exact q
    · have ef : fstN [a, b] = a := by
        unfold fstN
        simp [a0]
      rw [ef] at q
      refine .inr ⟨a0, ?_⟩
      have go : ∀ l : List D, ∃ x, atI (D.int a :: l) 0 = some x ∧ ∃ i, x = D.int i ∧ if 0 < i then CDivZ a (gcdI a b) ∧ ∃ i, x = D.int i ∧ if 0 < i then CDivZ b (gcdI a b) ∧ QD (D.tup [D.int (a.fdiv (gcdI a b)), D.int (b.fdiv (gcdI a b))])
            else CDivZ b (-gcdI a b) ∧ QD (D.tup [D.int (a.fdiv (gcdI a b)), D.int (b.fdiv (-gcdI a b))])
          else CDivZ a (-gcdI a b) ∧ ∃ i, x = D.int i ∧ if 0 < i then CDivZ b (gcdI a b) ∧ QD (D.tup [D.int (a.fdiv (-gcdI a b)), D.int (b.fdiv (gcdI a b))])
            else CDivZ b (-gcdI a b) ∧ QD (D.tup [D.int (a.fdiv (-gcdI a b)), D.int (b.fdiv (-gcdI a b))]) := fun l => by
        refine ⟨.int a, at_zero rfl, a, rfl, ?_⟩
        by_cases hp : 0 < a
        · rw [if_pos hp] at q
          simp [hp, cg]
          exact q
        · rw [if_neg hp, Int.zero_sub] at q
          simp [hp, cn]
          exact q
      by_cases b0 : b = 0
      · exact .inl ⟨b0, go []⟩
      · exact .inr ⟨b0, go [.int b]⟩
theorem w__law_is_point : ∀ ds QD, sd__law_is_point ds QD → ds.length = 1 ∧ r__law_is_point { nx := fun _ _ => QD .non, rt := fun v _ => QD v } (rho ["_law_value"] ds) [] := by
  rintro ds QD ⟨v, rfl, vv, q⟩
  refine ⟨rfl, ?_⟩
  cases vv with
  | @tup a b ha hb =>
    simp [r__law_is_point, sd__law_is_whole, sd_is_whole, wholeD, sd__law_gcd, sd__law_plain, at0, at1, rho, Ty, dSeq, dRet, dAsg, dAsg2, dPar, dIf, dNext, dNever, dDrop, dSetB, dAugB, dBox, dFor, nSeq, eVar, eC, eOp, eUn, oI, oI0, oU, eAndV, eOrV, eNotV, eIf, eChain, tstE, tstAnd, tstOr, tstNot, tstYes, eIsi, eIsF, isInt, isBool, isTup, isStr, tyD, eTup, aNil, aCons, aStar, eCall, eCallB, lCallN, eOfL, lDisp, lList, lRep, lSl, eSlT, pNone, pSome, oLen, lenD, oTuple, oIxT, oIxL, oIxC, eIxB, eTupB, oAbs, oInt, intD, oRepr, oEqI, oNeI, oEqS, oNeS, eProp, eNext, iTupD, iLstD, iRngD, iEnmL, iEnmT, iZipD, lLc, wipeD, setD, tI, lI, ex2]
    have q2 : QD (.bl (ptL a b)) := q
    unfold ptL at q2
    by_cases h : gcdI a b = 1
    · rw [if_pos h]
      rw [decide_eq_true h, Bool.true_and] at q2
      refine ⟨up_lt ha (by decide), up_lt hb (by decide), ?_⟩
      exact oEqD_tI (ys := [a, b]) q2
    · rw [if_neg h]
      rw [decide_eq_false h, Bool.false_and] at q2
      exact q2
  | _ => simpa [r__law_is_point, pointL, rho, Ty, dSeq, dRet, dAsg, dAsg2, dPar, dIf, dNext, dNever, dDrop, dSetB, dAugB, dBox, dFor, nSeq, eVar, eC, eOp, eUn, oI, oI0, oU, eAndV, eOrV, eNotV, eIf, eChain, tstE, tstAnd, tstOr, tstNot, tstYes, eIsi, eIsF, isInt, isBool, isTup, isStr, tyD, eTup, aNil, aCons, aStar, eCall, eCallB, lCallN, eOfL, lDisp, lList, lRep, lSl, eSlT, pNone, pSome, oLen, lenD, oTuple, oIxT, oIxL, oIxC, eIxB, eTupB, oAbs, oInt, intD, oRepr, oEqI, oNeI, oEqS, oNeS, eProp, eNext, iTupD, iLstD, iRngD, iEnmL, iEnmT, iZipD, lLc, wipeD, setD, tI, lI, ex2] using q
theorem dice_draw {B : List D} (h : Dice B) : True := trivial
theorem pl2_bd {a b : Int} {m : Nat} (ha : a.natAbs ≤ m) (hb : b.natAbs ≤ m) : ∃ x y : Int, pl2 a b = [x, y] ∧ x.natAbs ≤ m ∧ y.natAbs ≤ m := by
  unfold pl2
  split
  · exact ⟨a, b, rfl, ha, hb⟩
  · split
    · exact ⟨_, _, rfl, Nat.le_trans (Int.natAbs_fdiv_le_natAbs _ _) ha, Nat.le_trans (Int.natAbs_fdiv_le_natAbs _ _) hb⟩
    · exact ⟨_, _, rfl, Nat.le_trans (Int.natAbs_fdiv_le_natAbs _ _) ha, Nat.le_trans (Int.natAbs_fdiv_le_natAbs _ _) hb⟩
theorem w__law_point : ∀ ds B QD, sd__law_point ds B QD → ds.length + 1 = 2 ∧ r__law_point { nx := fun _ B => QD .non B, rt := fun v B => QD v B } (none :: rho (["_law_dice_here", "_law_most", "_law_one", "_law_other"] : List Str).tail ds) B := by
  rintro ds B QD ⟨m, rfl, h1, h2, dB, q⟩
  refine ⟨rfl, ?_⟩
  simp [r__law_point, sd__law_near, sd__law_plain, rho, Ty, dSeq, dRet, dAsg, dAsg2, dPar, dIf, dNext, dNever, dDrop, dSetB, dAugB, dBox, dFor, nSeq, eVar, eC, eOp, eUn, oI, oI0, oU, eAndV, eOrV, eNotV, eIf, eChain, tstE, tstAnd, tstOr, tstNot, tstYes, eIsi, eIsF, isInt, isBool, isTup, isStr, tyD, eTup, aNil, aCons, aStar, eCall, eCallB, lCallN, eOfL, lDisp, lList, lRep, lSl, eSlT, pNone, pSome, oLen, lenD, oTuple, oIxT, oIxL, oIxC, eIxB, eTupB, oAbs, oInt, intD, oRepr, oEqI, oNeI, oEqS, oNeS, eProp, eNext, iTupD, iLstD, iRngD, iEnmL, iEnmT, iZipD, lLc, wipeD, setD, tI, lI, ex2]
  refine ⟨by omega, by omega, dB, fun r B1 r0 r1 d1 => ⟨by omega, by omega, d1, fun u B2 u0 u1 d2 => ?_⟩⟩
  refine oNeD_tI (xs := [r, u]) (ys := [0, 0]) ?_
  have rs : r.natAbs ≤ 50 := by omega
  have us : u.natAbs ≤ 50 := by omega
  by_cases h : [r, u] = [0, 0]
  · exact .inl ⟨by rw [decide_eq_true h]; rfl, q 1 0 B2 (by decide) (by decide) d2⟩
  · refine .inr ⟨by rw [decide_eq_false h]; rfl, Nat.lt_of_le_of_lt rs (Nat.lt_of_lt_of_le (show 50 < 2 ^ 6 by decide) (Nat.pow_le_pow_right (by decide) (by decide))), Nat.lt_of_le_of_lt us (Nat.lt_of_lt_of_le (show 50 < 2 ^ 6 by decide) (Nat.pow_le_pow_right (by decide) (by decide))), ?_⟩
    obtain ⟨x, y, e, hx, hy⟩ := pl2_bd rs us
    rw [e]
    exact q x y B2 (by omega) (by omega) d2
/-- a list of drawn ints -/
theorem draws_ints {ds : List D} {m : Int} (h : ∀ d ∈ ds, ∃ e : Int, d = .int e ∧ -m ≤ e ∧ e ≤ m) : ∃ es : List Int, ds = es.map D.int ∧ ∀ e ∈ es, -m ≤ e ∧ e ≤ m := by
  induction ds with
  | nil => exact ⟨[], rfl, fun _ h => by cases h⟩
  | cons d r ih =>
    obtain ⟨e, h1, h2⟩ := h d List.mem_cons_self
    obtain ⟨es, h3, h4⟩ := ih fun x hx => h x (List.mem_cons_of_mem _ hx)
    refine ⟨e :: es, by rw [h1, h3]; rfl, fun x hx => ?_⟩
    rcases List.mem_cons.mp hx with z | z
    · rw [z]; exact h2
    · exact h4 x z
theorem w__law_small_form : ∀ ds B QD, sd__law_small_form ds B QD → ds.length + 1 = 3 ∧ r__law_small_form { nx := fun _ B => QD .non B, rt := fun v B => QD v B } (none :: rho (["_law_dice_here", "_law_degree", "_law_most", "_law_place"] : List Str).tail ds) B := by
  rintro ds B QD ⟨n, m, rfl, hn, h1, h2, dB, q⟩
  refine ⟨rfl, ?_⟩
  simp [r__law_small_form, rho, Ty, dSeq, dRet, dAsg, dAsg2, dPar, dIf, dNext, dNever, dDrop, dSetB, dAugB, dBox, dFor, nSeq, eVar, eC, eOp, eUn, oI, oI0, oU, eAndV, eOrV, eNotV, eIf, eChain, tstE, tstAnd, tstOr, tstNot, tstYes, eIsi, eIsF, isInt, isBool, isTup, isStr, tyD, eTup, aNil, aCons, aStar, eCall, eCallB, lCallN, eOfL, lDisp, lList, lRep, lSl, eSlT, pNone, pSome, oLen, lenD, oTuple, oIxT, oIxL, oIxC, eIxB, eTupB, oAbs, oInt, intD, oRepr, oEqI, oNeI, oEqS, oNeS, eProp, eNext, iTupD, iLstD, iRngD, iEnmL, iEnmT, iZipD, lLc, wipeD, setD, tI, lI, ex2]
  have eN : ((n : Int) + 1).toNat = n + 1 := by omega
  refine ⟨by omega, by omega, by omega, lc_draw (fun d => ∃ e : Int, d = .int e ∧ -m ≤ e ∧ e ≤ m) Dice (fun row hr B dB N hN => ?_) dB fun ds B' hl hp dB' => ?_⟩
  · obtain ⟨i, _, e⟩ := List.mem_map.mp hr
    subst e
    simp [sd__law_near, rho, Ty, dSeq, dRet, dAsg, dAsg2, dPar, dIf, dNext, dNever, dDrop, dSetB, dAugB, dBox, dFor, nSeq, eVar, eC, eOp, eUn, oI, oI0, oU, eAndV, eOrV, eNotV, eIf, eChain, tstE, tstAnd, tstOr, tstNot, tstYes, eIsi, eIsF, isInt, isBool, isTup, isStr, tyD, eTup, aNil, aCons, aStar, eCall, eCallB, lCallN, eOfL, lDisp, lList, lRep, lSl, eSlT, pNone, pSome, oLen, lenD, oTuple, oIxT, oIxL, oIxC, eIxB, eTupB, oAbs, oInt, intD, oRepr, oEqI, oNeI, oEqS, oNeS, eProp, eNext, iTupD, iLstD, iRngD, iEnmL, iEnmT, iZipD, lLc, wipeD, setD, tI, lI, ex2]
    exact ⟨h1, by omega, dB, fun r B' r0 r1 d' => hN _ _ ⟨r, rfl, r0, r1⟩ d'⟩
  · obtain ⟨es, e1, e2⟩ := draws_ints hp
    rw [List.nil_append, e1]
    refine q es B' ?_ e2 dB'
    have hl2 := congrArg List.length e1
    rw [List.length_map] at hl2
    rw [← hl2, hl]
    simp
/-! ### products of lines -/
theorem allM_len (ls : List (List Int)) (h : ∀ l ∈ ls, l.length = 2) : (allM ls).length = ls.length + 1 := by
  have go : ∀ (ls : List (List Int)) (a : List Int), 1 ≤ a.length → (∀ l ∈ ls, l.length = 2) → (ls.foldl mul a).length = a.length + ls.length := by
    intro ls
    induction ls with
    | nil => intro a _ _; rfl
    | cons l r ih =>
      intro a ha h
      have h2 := h l List.mem_cons_self
      show (r.foldl mul (mul a l)).length = _
      rw [ih (mul a l) (by rw [mul_len, h2]; omega) fun x hx => h x (List.mem_cons_of_mem _ hx), mul_len, h2, List.length_cons]
      omega
  unfold allM
  rw [go ls [1] (by simp) h]
  simp
  omega
theorem allM_bd (ls : List (List Int)) (h : ∀ l ∈ ls, l.length = 2 ∧ ∀ n ∈ l, n.natAbs ≤ 100) (hl : ls.length ≤ 8) : ∀ n ∈ allM ls, n.natAbs < 2 ^ (1 + 15 * ls.length) := by
  have go : ∀ (ls : List (List Int)) (a : List Int) (s : Nat), 1 ≤ a.length → a.length + ls.length ≤ 100 → (∀ n ∈ a, n.natAbs < 2 ^ s) → (∀ l ∈ ls, l.length = 2 ∧ ∀ n ∈ l, n.natAbs ≤ 100) → ∀ n ∈ ls.foldl mul a, n.natAbs < 2 ^ (s + 15 * ls.length) := by
    intro ls
    induction ls with
    | nil => intro a s _ _ ha _; exact ha
    | cons l r ih =>
      intro a s h1 h2 ha h
      obtain ⟨h3, h4⟩ := h l List.mem_cons_self
      rw [List.length_cons] at h2
      have hm := mul_bd ha (t := 7) (fun n hn => Nat.lt_of_le_of_lt (h4 n hn) (by decide)) (by omega)
      have z := ih (mul a l) (s + 7 + 8) (by rw [mul_len, h3]; omega) (by rw [mul_len, h3]; omega) hm fun x hx => h x (List.mem_cons_of_mem _ hx)
      rw [List.length_cons, show s + 15 * (r.length + 1) = s + 7 + 8 + 15 * r.length by omega]
      exact z
  refine go ls [1] 1 (by simp) (by simp; omega) (fun n hn => ?_) h
  rw [List.mem_singleton.mp hn]
  decide
theorem w__law_all_product : ∀ ds QD, sd__law_all_product ds QD → ds.length = 1 ∧ r__law_all_product { nx := fun _ _ => QD .non, rt := fun v _ => QD v } (rho ["_law_forms", "_law_found", "_law_form_here"] ds) [] := by
  rintro ds QD ⟨ls, rfl, hl, hb, q⟩
  refine ⟨rfl, ?_⟩
  simp [r__law_all_product, rho, Ty, dSeq, dRet, dAsg, dAsg2, dPar, dIf, dNext, dNever, dDrop, dSetB, dAugB, dBox, dFor, nSeq, eVar, eC, eOp, eUn, oI, oI0, oU, eAndV, eOrV, eNotV, eIf, eChain, tstE, tstAnd, tstOr, tstNot, tstYes, eIsi, eIsF, isInt, isBool, isTup, isStr, tyD, eTup, aNil, aCons, aStar, eCall, eCallB, lCallN, eOfL, lDisp, lList, lRep, lSl, eSlT, pNone, pSome, oLen, lenD, oTuple, oIxT, oIxL, oIxC, eIxB, eTupB, oAbs, oInt, intD, oRepr, oEqI, oNeI, oEqS, oNeS, eProp, eNext, iTupD, iLstD, iRngD, iEnmL, iEnmT, iZipD, lLc, wipeD, setD, tI, lI, ex2]
  refine for_ok (fun i ρ B => ∃ z, ρ = [some (.lst (ls.map tI)), some (tI (allM (ls.take i))), z]) ?_ ?_ ⟨none, rfl⟩
  · rintro i row hr ρ B ⟨z, rfl⟩ N hN
    rw [List.getElem?_map, Option.map_eq_some_iff] at hr
    obtain ⟨l, e1, e2⟩ := hr
    subst e2
    have hi : i < ls.length := (List.getElem?_eq_some_iff.mp e1).1
    obtain ⟨h2, h3⟩ := hb l (List.mem_of_getElem? e1)
    have hbt : ∀ x ∈ ls.take i, x.length = 2 ∧ ∀ n ∈ x, n.natAbs ≤ 100 := fun x hx => hb x (List.mem_of_mem_take hx)
    have lt : (ls.take i).length = i := by rw [List.length_take]; omega
    have la := allM_len (ls.take i) fun x hx => (hbt x hx).1
    have ba := allM_bd (ls.take i) hbt (by omega)
    simp [sd__law_product, sd_product_in, rho, Ty, dSeq, dRet, dAsg, dAsg2, dPar, dIf, dNext, dNever, dDrop, dSetB, dAugB, dBox, dFor, nSeq, eVar, eC, eOp, eUn, oI, oI0, oU, eAndV, eOrV, eNotV, eIf, eChain, tstE, tstAnd, tstOr, tstNot, tstYes, eIsi, eIsF, isInt, isBool, isTup, isStr, tyD, eTup, aNil, aCons, aStar, eCall, eCallB, lCallN, eOfL, lDisp, lList, lRep, lSl, eSlT, pNone, pSome, oLen, lenD, oTuple, oIxT, oIxL, oIxC, eIxB, eTupB, oAbs, oInt, intD, oRepr, oEqI, oNeI, oEqS, oNeS, eProp, eNext, iTupD, iLstD, iRngD, iEnmL, iEnmT, iZipD, lLc, wipeD, setD, tI, lI, ex2]
    refine ⟨allM (ls.take i), l, ⟨rfl, rfl⟩, ne_of_len (by omega), ne_of_len (by omega), by omega, by omega, sm_of ba (by omega), sm_of (s := 7) (fun n hn => Nat.lt_of_le_of_lt (h3 n hn) (by decide)) (by decide), hN _ _ ⟨some (tI l), ?_⟩⟩
    rw [List.take_add_one, e1]
    unfold allM
    rw [List.foldl_append]
    rfl
  · rintro ρ B ⟨z, rfl⟩
    rw [List.length_map, List.take_length]
    simpa [rho, Ty, dSeq, dRet, dAsg, dAsg2, dPar, dIf, dNext, dNever, dDrop, dSetB, dAugB, dBox, dFor, nSeq, eVar, eC, eOp, eUn, oI, oI0, oU, eAndV, eOrV, eNotV, eIf, eChain, tstE, tstAnd, tstOr, tstNot, tstYes, eIsi, eIsF, isInt, isBool, isTup, isStr, tyD, eTup, aNil, aCons, aStar, eCall, eCallB, lCallN, eOfL, lDisp, lList, lRep, lSl, eSlT, pNone, pSome, oLen, lenD, oTuple, oIxT, oIxL, oIxC, eIxB, eTupB, oAbs, oInt, intD, oRepr, oEqI, oNeI, oEqS, oNeS, eProp, eNext, iTupD, iLstD, iRngD, iEnmL, iEnmT, iZipD, lLc, wipeD, setD, tI, lI, ex2] using q
end KD
set_option Elab.async false
set_option linter.all false
set_option maxRecDepth 100000
set_option maxHeartbeats 4000000
/-! Walks, 6: the law's forms. -/
namespace KD
open PySem PySem.Spec PyProof.Rows L2 Km

theorem two_ten {x : Int} {s : Nat} (h : x.natAbs < 2 ^ s) (hs : s ≤ 160) : x.natAbs < 10 ^ 50 := Nat.lt_of_lt_of_le (up_lt h hs) (by decide)
theorem good_of {es : List Int} {s : Nat} (h1 : 1 ≤ es.length) (h2 : es.length ≤ 11) (h : ∀ n ∈ es, n.natAbs < 2 ^ s) (hs : s ≤ 160) : Good es := ⟨h1, h2, fun n hn => two_ten (h n hn) hs⟩
theorem le_two {x : Int} {m s : Nat} (h : x.natAbs ≤ m) (hs : m < 2 ^ s) : x.natAbs < 2 ^ s := Nat.lt_of_le_of_lt h hs
theorem map_bd {xs : List Int} {f : Int} {s t : Nat} (h : ∀ n ∈ xs, n.natAbs < 2 ^ s) (hf : f.natAbs < 2 ^ t) : ∀ n ∈ xs.map fun e => f * e, n.natAbs < 2 ^ (t + s) := fun n hn => by
  obtain ⟨e, he, e1⟩ := List.mem_map.mp hn
  rw [← e1, Int.natAbs_mul, Nat.pow_add]
  exact Nat.mul_lt_mul'' hf (h e he)
/-- what is drawn for each place -/
theorem draws_any {ds : List D} {P : Int → Prop} (h : ∀ d ∈ ds, ∃ e : Int, d = .int e ∧ P e) : ∃ es : List Int, ds = es.map D.int ∧ ∀ e ∈ es, P e := by
  induction ds with
  | nil => exact ⟨[], rfl, fun _ h => by cases h⟩
  | cons d r ih =>
    obtain ⟨e, h1, h2⟩ := h d List.mem_cons_self
    obtain ⟨es, h3, h4⟩ := ih fun x hx => h x (List.mem_cons_of_mem _ hx)
    refine ⟨e :: es, by rw [h1, h3]; rfl, fun x hx => ?_⟩
    rcases List.mem_cons.mp hx with z | z
    · rw [z]; exact h2
    · exact h4 x z
theorem draws_tI {ds : List D} {P : List Int → Prop} (h : ∀ d ∈ ds, ∃ l : List Int, d = tI l ∧ P l) : ∃ ls : List (List Int), ds = ls.map tI ∧ ∀ l ∈ ls, P l := by
  induction ds with
  | nil => exact ⟨[], rfl, fun _ h => by cases h⟩
  | cons d r ih =>
    obtain ⟨e, h1, h2⟩ := h d List.mem_cons_self
    obtain ⟨es, h3, h4⟩ := ih fun x hx => h x (List.mem_cons_of_mem _ hx)
    refine ⟨e :: es, by rw [h1, h3]; rfl, fun x hx => ?_⟩
    rcases List.mem_cons.mp hx with z | z
    · rw [z]; exact h2
    · exact h4 x z
theorem w__law_power_form : ∀ ds B QD, sd__law_power_form ds B QD → ds.length + 1 = 1 ∧ r__law_power_form { nx := fun _ B => QD .non B, rt := fun v B => QD v B } (none :: rho (["_law_dice_here", "_law_line_here", "_law_number"] : List Str).tail ds) B := by
  rintro ds B QD ⟨rfl, dB, q⟩
  refine ⟨rfl, ?_⟩
  have p1 : CPow 10 20 := ⟨by decide, by decide, by decide⟩
  simp [r__law_power_form, sd__law_point, p1, rho, Ty, dSeq, dRet, dAsg, dAsg2, dPar, dIf, dNext, dNever, dDrop, dSetB, dAugB, dBox, dFor, nSeq, eVar, eC, eOp, eUn, oI, oI0, oU, eAndV, eOrV, eNotV, eIf, eChain, tstE, tstAnd, tstOr, tstNot, tstYes, eIsi, eIsF, isInt, isBool, isTup, isStr, tyD, eTup, aNil, aCons, aStar, eCall, eCallB, lCallN, eOfL, lDisp, lList, lRep, lSl, eSlT, pNone, pSome, oLen, lenD, oTuple, oIxT, oIxL, oIxC, eIxB, eTupB, oAbs, oInt, intD, oRepr, oEqI, oNeI, oEqS, oNeS, eProp, eNext, iTupD, iLstD, iRngD, iEnmL, iEnmT, iZipD, lLc, wipeD, setD, tI, lI, ex2]
  refine ⟨dB, fun a b B1 ha hb d1 => ?_⟩
  simp [sd__law_line, sd_line_in, sd__law_pick]
  refine ⟨a, b, rfl, d1, ?_⟩
  have hna : (-a).natAbs ≤ 100 := by rw [Int.natAbs_neg]; exact ha
  have go : ∀ (f : Int), f.natAbs < 2 ^ 70 → ∀ B' : List D, Dice B' → sd__law_roll [D.int 10] B' fun x B1 => sd__law_power [tI [b, -a], x] fun d => sd__law_scaled [d, D.int f] fun d => QD d B1 := by
    intro f hf B' d'
    refine ⟨10, rfl, by decide, by decide, d', fun r B2 r0 r1 d2 => ?_⟩
    have bp := pw_sm (n := r.toNat) (k := 81) (le_two hb (by decide : 100 < 2 ^ 7)) (le_two hna (by decide : 100 < 2 ^ 7)) (by omega)
    have lp := pw_len [b, -a] rfl r.toNat
    refine ⟨b, -a, r.toNat, by rw [show ((r.toNat : Nat) : Int) = r by omega], by omega, le_two hb (Nat.lt_of_lt_of_le (by decide : 100 < 2 ^ 7) (Nat.pow_le_pow_right (by decide) (by decide))), le_two hna (Nat.lt_of_lt_of_le (by decide : 100 < 2 ^ 7) (Nat.pow_le_pow_right (by decide) (by decide))), ?_⟩
    refine ⟨_, f, rfl, by omega, sm_of bp (by decide), up_lt hf (by decide), ?_⟩
    exact q _ B2 (good_of (by rw [List.length_map]; omega) (by rw [List.length_map]; omega) (map_bd bp hf) (by decide)) d2
  exact ⟨go 1 (by decide), go (-1) (by decide), go 2 (by decide), go (-12) (by decide), go 100000000000000000007 (by decide), go 0 (by decide)⟩
theorem big_lt {m s : Nat} (h : m < 2 ^ 7) (hs : 7 ≤ s) : m < 2 ^ s := Nat.lt_of_lt_of_le h (Nat.pow_le_pow_right (by decide) hs)
theorem w__law_form : ∀ ds B QD, sd__law_form ds B QD → ds.length + 1 = 2 ∧ r__law_form { nx := fun _ B => QD .non B, rt := fun v B => QD v B } (none :: rho (["_law_dice_here", "_law_degree", "_law_way", "_law_turn", "_law_line_here", "_law_often", "_law_found", "_law_place"] : List Str).tail ds) B := by
  rintro ds B QD ⟨n, rfl, hn, dB, q⟩
  refine ⟨rfl, ?_⟩
  simp [r__law_form, rho, Ty, dSeq, dRet, dAsg, dAsg2, dPar, dIf, dNext, dNever, dDrop, dSetB, dAugB, dBox, dFor, nSeq, eVar, eC, eOp, eUn, oI, oI0, oU, eAndV, eOrV, eNotV, eIf, eChain, tstE, tstAnd, tstOr, tstNot, tstYes, eIsi, eIsF, isInt, isBool, isTup, isStr, tyD, eTup, aNil, aCons, aStar, eCall, eCallB, lCallN, eOfL, lDisp, lList, lRep, lSl, eSlT, pNone, pSome, oLen, lenD, oTuple, oIxT, oIxL, oIxC, eIxB, eTupB, oAbs, oInt, intD, oRepr, oEqI, oNeI, oEqS, oNeS, eProp, eNext, iTupD, iLstD, iRngD, iEnmL, iEnmT, iZipD, lLc, wipeD, setD, tI, lI, ex2]
  refine ⟨6, rfl, by decide, by decide, dB, fun way B1 r0 r1 d1 => ⟨way, rfl, ?_⟩⟩
  have eN : ((n : Int) + 1).toNat = n + 1 := by omega
  have h100 : ∀ {x : Int}, x.natAbs ≤ 100 → x.natAbs < 2 ^ 7 := fun h => le_two h (by decide)
  have neg100 : ∀ {x : Int}, x.natAbs ≤ 100 → (-x).natAbs ≤ 100 := fun h => by rw [Int.natAbs_neg]; exact h
  by_cases w0 : way = 0
  · rw [if_pos w0]
    refine ⟨by omega, by omega, lc_draw (fun d => ∃ l : List Int, d = tI l ∧ l.length = 2 ∧ ∀ x ∈ l, x.natAbs ≤ 100) Dice (fun row hr B dB N hN => ?_) d1 fun ds B2 hl hp d2 => ?_⟩
    · obtain ⟨i, _, e⟩ := List.mem_map.mp hr
      subst e
      simp [sd__law_point, rho, Ty, dSeq, dRet, dAsg, dAsg2, dPar, dIf, dNext, dNever, dDrop, dSetB, dAugB, dBox, dFor, nSeq, eVar, eC, eOp, eUn, oI, oI0, oU, eAndV, eOrV, eNotV, eIf, eChain, tstE, tstAnd, tstOr, tstNot, tstYes, eIsi, eIsF, isInt, isBool, isTup, isStr, tyD, eTup, aNil, aCons, aStar, eCall, eCallB, lCallN, eOfL, lDisp, lList, lRep, lSl, eSlT, pNone, pSome, oLen, lenD, oTuple, oIxT, oIxL, oIxC, eIxB, eTupB, oAbs, oInt, intD, oRepr, oEqI, oNeI, oEqS, oNeS, eProp, eNext, iTupD, iLstD, iRngD, iEnmL, iEnmT, iZipD, lLc, wipeD, setD, tI, lI, ex2]
      refine ⟨dB, fun a b B' ha hb d' => ⟨a, b, rfl, hN _ _ ⟨[b, -a], rfl, rfl, fun x hx => ?_⟩ d'⟩⟩
      rcases List.mem_cons.mp hx with z | z
      · rw [z]; exact hb
      · rw [List.mem_singleton.mp z]; exact neg100 ha
    · obtain ⟨ls, e1, e2⟩ := draws_tI hp
      rw [List.nil_append, e1]
      have ll : ls.length = n := by
        have := congrArg List.length e1
        rw [List.length_map] at this
        rw [← this, hl]
        simp
      have la := allM_len ls fun l hl => (e2 l hl).1
      exact ⟨ls, rfl, by omega, e2, q _ B2 (good_of (by omega) (by omega) (allM_bd ls e2 (by omega)) (by omega)) d2⟩
  rw [if_neg w0]
  refine ⟨way, rfl, ?_⟩
  by_cases w1 : way = 1
  · rw [if_pos w1]
    refine ⟨3, rfl, by decide, by decide, d1, fun a b B2 ha hb d2 => ⟨a, b, rfl, (n : Int) + 1, rfl, by omega, by omega, d2, fun r B3 r0 r1 d3 => ?_⟩⟩
    have bp := pw_sm (n := r.toNat) (k := 65) (h100 hb) (h100 (neg100 ha)) (by omega)
    have lp := pw_len [b, -a] rfl r.toNat
    refine ⟨b, -a, r.toNat, by rw [show ((r.toNat : Nat) : Int) = r by omega], by omega, big_lt (h100 hb) (by decide), big_lt (h100 (neg100 ha)) (by decide), r, rfl, n - r.toNat, 4, by rw [show ((n - r.toNat : Nat) : Int) = (n : Int) - r by omega], by omega, by decide, by decide, d3, fun es B4 hl he d4 => ?_⟩
    have be : ∀ x ∈ es, x.natAbs < 2 ^ 3 := fun x hx => by
      have := he x hx
      omega
    refine ⟨_, es, rfl, ne_of_len (by omega), ne_of_len (by omega), by omega, by omega, sm_of bp (by decide), sm_of be (by decide), ?_⟩
    exact q _ B4 (good_of (by rw [mul_len]; omega) (by rw [mul_len]; omega) (mul_bd bp be (by omega)) (by decide)) d4
  rw [if_neg w1]
  refine ⟨way, rfl, ?_⟩
  by_cases w2 : way = 2
  · rw [if_pos w2]
    refine ⟨by omega, by omega, by omega, lc_map (fun _ => .int 0) (fun row hr N hN => ?_) ?_⟩
    · obtain ⟨i, _, e⟩ := List.mem_map.mp hr
      subst e
      simpa [rho, Ty, dSeq, dRet, dAsg, dAsg2, dPar, dIf, dNext, dNever, dDrop, dSetB, dAugB, dBox, dFor, nSeq, eVar, eC, eOp, eUn, oI, oI0, oU, eAndV, eOrV, eNotV, eIf, eChain, tstE, tstAnd, tstOr, tstNot, tstYes, eIsi, eIsF, isInt, isBool, isTup, isStr, tyD, eTup, aNil, aCons, aStar, eCall, eCallB, lCallN, eOfL, lDisp, lList, lRep, lSl, eSlT, pNone, pSome, oLen, lenD, oTuple, oIxT, oIxL, oIxC, eIxB, eTupB, oAbs, oInt, intD, oRepr, oEqI, oNeI, oEqS, oNeS, eProp, eNext, iTupD, iLstD, iRngD, iEnmL, iEnmT, iZipD, lLc, wipeD, setD, tI, lI] using hN
    · rw [List.nil_append, const_rows]
      refine ⟨3, rfl, by decide, by decide, d1, fun r B2 r0 r1 d2 => ⟨r, rfl, by omega, by omega, ?_⟩⟩
      refine for_ok (fun i ρ B => i ≤ 3 ∧ Dice B ∧ ∃ z es, ρ = [none, some (.int (n : Nat)), some (.int way), z, none, none, some (tI es), none] ∧ es.length = n + 1 ∧ ∀ x ∈ es, x.natAbs < 2 ^ (70 + i)) ?_ ?_ ⟨by omega, d2, none, List.replicate (n + 1) 0, rfl, by simp, fun x hx => ?_⟩
      · rintro i row hr ρ B ⟨i3, dB, z, es, rfl, hl, be⟩ N hN
        obtain ⟨hi, e⟩ := range_row hr
        subst e
        simp [rho, Ty, dSeq, dRet, dAsg, dAsg2, dPar, dIf, dNext, dNever, dDrop, dSetB, dAugB, dBox, dFor, nSeq, eVar, eC, eOp, eUn, oI, oI0, oU, eAndV, eOrV, eNotV, eIf, eChain, tstE, tstAnd, tstOr, tstNot, tstYes, eIsi, eIsF, isInt, isBool, isTup, isStr, tyD, eTup, aNil, aCons, aStar, eCall, eCallB, lCallN, eOfL, lDisp, lList, lRep, lSl, eSlT, pNone, pSome, oLen, lenD, oTuple, oIxT, oIxL, oIxC, eIxB, eTupB, oAbs, oInt, intD, oRepr, oEqI, oNeI, oEqS, oNeS, eProp, eNext, iTupD, iLstD, iRngD, iEnmL, iEnmT, iZipD, lLc, wipeD, setD, tI, lI, ex2]
        refine ⟨3, rfl, by decide, by decide, dB, fun a b B3 ha hb d3 => ?_⟩
        have bp := pw_sm (n := n) (k := 65) (h100 ha) (h100 hb) (by omega)
        have lp := pw_len [a, b] rfl n
        refine ⟨a, b, n, rfl, by omega, big_lt (h100 ha) (by decide), big_lt (h100 hb) (by decide), 4, rfl, by decide, by decide, d3, fun f B4 f0 f1 d4 => ?_⟩
        have hf : f.natAbs < 2 ^ 3 := by omega
        refine ⟨_, f, rfl, by omega, sm_of bp (by decide), up_lt hf (by decide), ?_⟩
        have bs := map_bd bp hf
        refine ⟨es, _, rfl, by rw [List.length_map]; omega, by omega, ?_⟩
        refine hN _ _ ⟨by omega, d4, some (.int (i : Nat)), _, rfl, by rw [tab_len]; exact hl, tab_bd fun j _ => ?_⟩
        have h1 := co_bd be j
        have h2 := up_lt (co_bd bs j) (show 3 + 65 ≤ 70 + i by omega)
        have h3 := Int.natAbs_add_le (co es j) (co ((pw [a, b] n).map fun e => f * e) j)
        rw [show 70 + (i + 1) = (70 + i) + 1 by omega, Nat.pow_succ]
        omega
      · rintro ρ B ⟨i3, dB, z, es, rfl, hl, be⟩
        rw [List.length_map, List.length_range] at i3 be
        exact ⟨_, rfl, q es B (good_of (by omega) (by omega) be (by omega)) dB⟩
      · rw [List.eq_of_mem_replicate hx]
        exact Nat.two_pow_pos _
  rw [if_neg w2]
  refine ⟨way, rfl, ?_⟩
  by_cases w3 : way = 3
  · rw [if_pos w3]
    refine ⟨by omega, by omega, by omega, lc_draw (fun d => ∃ e : Int, d = .int e ∧ e.natAbs < 2 ^ 10) Dice (fun row hr B dB N hN => ?_) d1 fun ds B2 hl hp d2 => ?_⟩
    · obtain ⟨i, _, e⟩ := List.mem_map.mp hr
      subst e
      simp [rho, Ty, dSeq, dRet, dAsg, dAsg2, dPar, dIf, dNext, dNever, dDrop, dSetB, dAugB, dBox, dFor, nSeq, eVar, eC, eOp, eUn, oI, oI0, oU, eAndV, eOrV, eNotV, eIf, eChain, tstE, tstAnd, tstOr, tstNot, tstYes, eIsi, eIsF, isInt, isBool, isTup, isStr, tyD, eTup, aNil, aCons, aStar, eCall, eCallB, lCallN, eOfL, lDisp, lList, lRep, lSl, eSlT, pNone, pSome, oLen, lenD, oTuple, oIxT, oIxL, oIxC, eIxB, eTupB, oAbs, oInt, intD, oRepr, oEqI, oNeI, oEqS, oNeS, eProp, eNext, iTupD, iLstD, iRngD, iEnmL, iEnmT, iZipD, lLc, wipeD, setD, tI, lI, ex2]
      refine ⟨3, rfl, by decide, by decide, dB, fun x B2 x0 x1 d2 => ⟨2, rfl, by decide, by decide, d2, fun y B3 y0 y1 d3 => ⟨x, rfl, y, rfl, cmul_l (by omega), hN _ _ ⟨_, rfl, ?_⟩ d3⟩⟩⟩
      have : y = 0 ∨ y = 1 := by omega
      rcases this with h | h <;> subst h <;> simp <;> omega
    · obtain ⟨es, e1, e2⟩ := draws_any hp
      rw [List.nil_append, e1]
      have ll : es.length = n + 1 := by
        have := congrArg List.length e1
        rw [List.length_map] at this
        rw [← this, hl]
        simp
      exact q es B2 (good_of (by omega) (by omega) e2 (by decide)) d2
  rw [if_neg w3]
  refine ⟨way, rfl, ?_⟩
  have last : ∀ B', Dice B' → sd__law_small_form [D.int (n : Int), D.int 6] B' fun d B1 => QD d B1 := fun B' d' => by
    refine ⟨n, 6, rfl, by omega, by decide, by decide, d', fun es B2 hl he d2 => q es B2 (good_of (s := 3) (by omega) (by omega) (fun x hx => ?_) (by decide)) d2⟩
    have := he x hx
    omega
  by_cases w4 : way = 4
  · rw [if_pos w4]
    refine ⟨4, rfl, by decide, by decide, d1, fun r B2 _ _ d2 => ⟨r, rfl, ?_⟩⟩
    by_cases z : r = 0
    · rw [if_pos z]
      refine ⟨by omega, by omega, by omega, lc_draw (fun d => ∃ e : Int, d = .int e ∧ e.natAbs < 2 ^ 41) Dice (fun row hr B dB N hN => ?_) d2 fun ds B3 hl hp d3 => ?_⟩
      · obtain ⟨i, _, e⟩ := List.mem_map.mp hr
        subst e
        have p1 : CPow 10 12 := ⟨by decide, by decide, by decide⟩
        simp [sd__law_near, p1, rho, Ty, dSeq, dRet, dAsg, dAsg2, dPar, dIf, dNext, dNever, dDrop, dSetB, dAugB, dBox, dFor, nSeq, eVar, eC, eOp, eUn, oI, oI0, oU, eAndV, eOrV, eNotV, eIf, eChain, tstE, tstAnd, tstOr, tstNot, tstYes, eIsi, eIsF, isInt, isBool, isTup, isStr, tyD, eTup, aNil, aCons, aStar, eCall, eCallB, lCallN, eOfL, lDisp, lList, lRep, lSl, eSlT, pNone, pSome, oLen, lenD, oTuple, oIxT, oIxL, oIxC, eIxB, eTupB, oAbs, oInt, intD, oRepr, oEqI, oNeI, oEqS, oNeS, eProp, eNext, iTupD, iLstD, iRngD, iEnmL, iEnmT, iZipD, lLc, wipeD, setD, tI, lI, ex2]
        exact ⟨dB, fun x B4 x0 x1 d4 => hN _ _ ⟨x, rfl, by omega⟩ d4⟩
      · obtain ⟨es, e1, e2⟩ := draws_any hp
        rw [List.nil_append, e1]
        have ll : es.length = n + 1 := by
          have := congrArg List.length e1
          rw [List.length_map] at this
          rw [← this, hl]
          simp
        exact q es B3 (good_of (by omega) (by omega) e2 (by decide)) d3
    · rw [if_neg z]
      exact last B2 d2
  · rw [if_neg w4]
    exact last B1 d1
end KD
set_option Elab.async false
set_option linter.all false
set_option maxRecDepth 100000
set_option maxHeartbeats 4000000
/-! Walks, 7: the law's judge; the values near a paper. -/
namespace KD
open PySem PySem.Spec PyProof.Rows L2 Km

theorem notIn_pe {z : Str} {Q : D → Prop} (q : Q (.bl (!(decide (z = "power") || decide (z = "entry"))))) : oNotIn (.str z) (.tup [.str "power", .str "entry"]) Q := by
  refine ⟨z, [.str "power", .str "entry"], ["power", "entry"], rfl, rfl, rfl, ?_⟩
  have e : (["power", "entry"] : List Str).contains z = (decide (z = "power") || decide (z = "entry")) := by
    rw [List.contains_cons, List.contains_cons, List.contains_nil, Bool.or_false]
    rfl
  rw [e]
  exact q
theorem ifF {A B : Prop} {b : Bool} (hb : b = false) (h : B) : if b = true then A else B := by
  subst hb
  exact h
theorem w__law_is_right : ∀ ds QD, sd__law_is_right ds QD → ds.length = 2 ∧ r__law_is_right { nx := fun _ _ => QD .non, rt := fun v _ => QD v } (rho ["_law_entries", "_law_value", "_law_degree", "_law_hesse"] ds) [] := by
  rintro ds QD ⟨es, v, rfl, g, ⟨ty, jv⟩, q⟩
  refine ⟨rfl, ?_⟩
  have h12 := g.2.1
  have h1 := g.1
  cases v with
  | tup xs =>
    rcases jv xs rfl with e | ⟨z, r, e, hz, hr, hl⟩
    · subst e
      simpa [r__law_is_right, judgeB, rho, Ty, dSeq, dRet, dAsg, dAsg2, dPar, dIf, dNext, dNever, dDrop, dSetB, dAugB, dBox, dFor, nSeq, eVar, eC, eOp, eUn, oI, oI0, oU, eAndV, eOrV, eNotV, eIf, eChain, tstE, tstAnd, tstOr, tstNot, tstYes, eIsi, eIsF, isInt, isBool, isTup, isStr, tyD, eTup, aNil, aCons, aStar, eCall, eCallB, lCallN, eOfL, lDisp, lList, lRep, lSl, eSlT, pNone, pSome, oLen, lenD, oTuple, oIxT, oIxL, oIxC, eIxB, eTupB, oAbs, oInt, intD, oRepr, oEqI, oNeI, oEqS, oNeS, eProp, eNext, iTupD, iLstD, iRngD, iEnmL, iEnmT, iZipD, lLc, wipeD, setD, tI, lI, ex2] using q
    · subst e
      cases hr with
      | nil => simpa [r__law_is_right, judgeB, rho, Ty, dSeq, dRet, dAsg, dAsg2, dPar, dIf, dNext, dNever, dDrop, dSetB, dAugB, dBox, dFor, nSeq, eVar, eC, eOp, eUn, oI, oI0, oU, eAndV, eOrV, eNotV, eIf, eChain, tstE, tstAnd, tstOr, tstNot, tstYes, eIsi, eIsF, isInt, isBool, isTup, isStr, tyD, eTup, aNil, aCons, aStar, eCall, eCallB, lCallN, eOfL, lDisp, lList, lRep, lSl, eSlT, pNone, pSome, oLen, lenD, oTuple, oIxT, oIxL, oIxC, eIxB, eTupB, oAbs, oInt, intD, oRepr, oEqI, oNeI, oEqS, oNeS, eProp, eNext, iTupD, iLstD, iRngD, iEnmL, iEnmT, iZipD, lLc, wipeD, setD, tI, lI, ex2] using q
      | @cons x r1 vx hr1 =>
        cases hr1 with
        | nil => simpa [r__law_is_right, judgeB, rho, Ty, dSeq, dRet, dAsg, dAsg2, dPar, dIf, dNext, dNever, dDrop, dSetB, dAugB, dBox, dFor, nSeq, eVar, eC, eOp, eUn, oI, oI0, oU, eAndV, eOrV, eNotV, eIf, eChain, tstE, tstAnd, tstOr, tstNot, tstYes, eIsi, eIsF, isInt, isBool, isTup, isStr, tyD, eTup, aNil, aCons, aStar, eCall, eCallB, lCallN, eOfL, lDisp, lList, lRep, lSl, eSlT, pNone, pSome, oLen, lenD, oTuple, oIxT, oIxL, oIxC, eIxB, eTupB, oAbs, oInt, intD, oRepr, oEqI, oNeI, oEqS, oNeS, eProp, eNext, iTupD, iLstD, iRngD, iEnmL, iEnmT, iZipD, lLc, wipeD, setD, tI, lI, ex2] using q
        | @cons y r2 vy hr2 =>
          cases hr2 with
          | cons _ _ =>
            simp [r__law_is_right, rho, Ty, dSeq, dRet, dAsg, dAsg2, dPar, dIf, dNext, dNever, dDrop, dSetB, dAugB, dBox, dFor, nSeq, eVar, eC, eOp, eUn, oI, oI0, oU, eAndV, eOrV, eNotV, eIf, eChain, tstE, tstAnd, tstOr, tstNot, tstYes, eIsi, eIsF, isInt, isBool, isTup, isStr, tyD, eTup, aNil, aCons, aStar, eCall, eCallB, lCallN, eOfL, lDisp, lList, lRep, lSl, eSlT, pNone, pSome, oLen, lenD, oTuple, oIxT, oIxL, oIxC, eIxB, eTupB, oAbs, oInt, intD, oRepr, oEqI, oNeI, oEqS, oNeS, eProp, eNext, iTupD, iLstD, iRngD, iEnmL, iEnmT, iZipD, lLc, wipeD, setD, tI, lI, ex2]
            refine .inr ⟨by omega, ?_⟩
            simpa [judgeB] using q
          | nil =>
            simp [r__law_is_right, sd__law_is_whole, sd_is_whole, sd__law_is_point, sd__law_line, sd_line_in, sd__law_power, sd_power_in, sd__law_scaled, sd__law_laid, sd_laid_in, at3, rho, Ty, dSeq, dRet, dAsg, dAsg2, dPar, dIf, dNext, dNever, dDrop, dSetB, dAugB, dBox, dFor, nSeq, eVar, eC, eOp, eUn, oI, oI0, oU, eAndV, eOrV, eNotV, eIf, eChain, tstE, tstAnd, tstOr, tstNot, tstYes, eIsi, eIsF, isInt, isBool, isTup, isStr, tyD, eTup, aNil, aCons, aStar, eCall, eCallB, lCallN, eOfL, lDisp, lList, lRep, lSl, eSlT, pNone, pSome, oLen, lenD, oTuple, oIxT, oIxL, oIxC, eIxB, eTupB, oAbs, oInt, intD, oRepr, oEqI, oNeI, oEqS, oNeS, eProp, eNext, iTupD, iLstD, iRngD, iEnmL, iEnmT, iZipD, lLc, wipeD, setD, tI, lI, ex2]
            refine notIn_pe ?_
            have n1 : ¬ (("power" : Str) = "entry") := by decide
            have n2 : ¬ (("entry" : Str) = "power") := by decide
            have n3 : ¬ (("line" : Str) = "power") := by decide
            have n4 : ¬ (("line" : Str) = "entry") := by decide
            rcases hz with hz | hz | hz
            · subst hz
              refine .inl ⟨rfl, ?_⟩
              rw [if_pos rfl]
              refine ⟨val_ty vx, ?_⟩
              cases vx with
              | @int k hk =>
                have e1 : wholeD (.int k) = true := rfl
                rw [if_pos e1]
                refine ⟨vy, ?_⟩
                cases vy with
                | @tup a b ha hb =>
                  have q2 : QD (.bl (ptL a b && powJ es k a b)) := q
                  have e2 : pointL (.tup [.int a, .int b]) = ptL a b := rfl
                  rw [e2]
                  cases hp : ptL a b with
                  | false =>
                    rw [hp, Bool.false_and] at q2
                    rw [if_neg Bool.false_ne_true]
                    exact q2
                  | true =>
                    rw [hp, Bool.true_and] at q2
                    rw [if_pos rfl]
                    have hna := neg_lt ha
                    have bp := pw_sm (n := es.length - 1) (k := 20000) hb hna (by omega)
                    refine ⟨a, b, rfl, b, -a, es.length - 1, ⟨⟨rfl, rfl⟩, by omega⟩, by omega, up_lt hb (by decide), up_lt hna (by decide), _, k, ⟨rfl, rfl⟩, by rw [pw_len _ rfl]; omega, sm_of bp (by decide), up_lt hk (by decide), ?_⟩
                    rw [← List.map_map]
                    exact oEqD_tI q2
                | _ =>
                  exact ifF rfl q
              | _ =>
                exact ifF rfl q
            · subst hz
              refine .inl ⟨rfl, ?_⟩
              rw [if_neg n2]
              have q1 : QD (.bl (entB es x y)) := q
              by_cases h3 : 3 ≤ es.length
              · rw [if_neg (by omega)]
                refine ⟨val_ty vx, ?_⟩
                cases vx with
                | @int i hi =>
                  have e1 : wholeD (.int i) = true := rfl
                  rw [if_pos e1]
                  refine ⟨val_ty vy, ?_⟩
                  cases vy with
                  | @int e he =>
                    have e2 : wholeD (.int e) = true := rfl
                    rw [if_pos e2]
                    have q2 : QD (.bl (decide (3 ≤ es.length) && ((decide (0 ≤ i) && decide (i < ((hess es).length : Int))) && (decide (co (hess es) i.toNat = e) && decide (e ≠ 0))))) := q1
                    rw [decide_eq_true h3, Bool.true_and] at q2
                    refine ⟨es, rfl, h3, by omega, good_mid g, i, rfl, ?_⟩
                    by_cases c1 : 0 ≤ i
                    · rw [if_pos c1]
                      rw [decide_eq_true c1, Bool.true_and] at q2
                      refine ⟨i, rfl, ?_⟩
                      by_cases c2 : i < ((hess es).length : Int)
                      · rw [if_pos c2]
                        rw [decide_eq_true c2, Bool.true_and] at q2
                        have at_ := at_ints (ns := hess es) (i := i.toNat) (by omega)
                        rw [show ((i.toNat : Nat) : Int) = i by omega] at at_
                        refine ⟨i, rfl, _, at_, _, rfl, e, rfl, ?_⟩
                        by_cases c3 : co (hess es) i.toNat = e
                        · rw [if_pos c3]
                          rw [decide_eq_true c3, Bool.true_and] at q2
                          refine ⟨e, rfl, ?_⟩
                          have z : (!decide (e = 0)) = decide (e ≠ 0) := by
                            by_cases h : e = 0 <;> simp [h]
                          rw [z]
                          exact q2
                        · rw [if_neg c3]
                          rw [decide_eq_false c3, Bool.false_and] at q2
                          exact q2
                      · rw [if_neg c2]
                        rw [decide_eq_false c2, Bool.false_and] at q2
                        exact q2
                    · rw [if_neg c1]
                      rw [decide_eq_false c1, Bool.false_and, Bool.false_and] at q2
                      exact q2
                  | _ =>
                    exact ifF rfl q1
                | _ =>
                  exact ifF rfl q1
              · rw [if_pos (by omega)]
                have e3 : entB es x y = false := by
                  unfold entB
                  split
                  · rw [decide_eq_false h3, Bool.false_and]
                  · rfl
                rw [e3] at q1
                exact q1
            · subst hz
              exact .inr ⟨rfl, q⟩
  | scr _ =>
    obtain ⟨n, e⟩ := ty
    cases e
  | frm _ =>
    obtain ⟨n, e⟩ := ty
    cases e
  | _ => simpa [r__law_is_right, judgeB, rho, Ty, dSeq, dRet, dAsg, dAsg2, dPar, dIf, dNext, dNever, dDrop, dSetB, dAugB, dBox, dFor, nSeq, eVar, eC, eOp, eUn, oI, oI0, oU, eAndV, eOrV, eNotV, eIf, eChain, tstE, tstAnd, tstOr, tstNot, tstYes, eIsi, eIsF, isInt, isBool, isTup, isStr, tyD, eTup, aNil, aCons, aStar, eCall, eCallB, lCallN, eOfL, lDisp, lList, lRep, lSl, eSlT, pNone, pSome, oLen, lenD, oTuple, oIxT, oIxL, oIxC, eIxB, eTupB, oAbs, oInt, intD, oRepr, oEqI, oNeI, oEqS, oNeS, eProp, eNext, iTupD, iLstD, iRngD, iEnmL, iEnmT, iZipD, lLc, wipeD, setD, tI, lI, ex2] using q
end KD
set_option Elab.async false
set_option linter.all false
set_option maxRecDepth 100000
set_option maxHeartbeats 2000000
/-! The plain law: the two judges agree; the program's paper is right. -/
namespace KD
open PySem PySem.Spec PyProof.Rows L2 Km

theorem fdiv_m1 (a : Int) : a.fdiv (0 - 1) = -a := by
  have h := Int.mul_fdiv_cancel_left (-a) (a := -1) (by decide)
  rw [show (-1 : Int) * -a = a by omega] at h
  exact h
theorem pt_eq (a b : Int) : ptOk a b = ptL a b := by
  unfold ptOk ptL
  have e : decide (Nat.gcd a.natAbs b.natAbs = 1) = decide (gcdI a b = 1) := dec_iff (by unfold gcdI; omega)
  rw [e]
  by_cases h : gcdI a b = 1
  · rw [decide_eq_true h, Bool.true_and, Bool.true_and]
    refine dec_iff ?_
    unfold pl2
    rw [h, if_neg (by decide), Int.fdiv_one, Int.fdiv_one, fdiv_m1, fdiv_m1]
    by_cases hp : 0 < fstN [a, b]
    · rw [if_pos hp]
      exact ⟨fun _ => rfl, fun _ => hp⟩
    · rw [if_neg hp]
      refine ⟨fun z => absurd z hp, fun z => ?_⟩
      simp only [List.cons.injEq, and_true] at z
      have a0 : a = 0 := by omega
      have b0 : b = 0 := by omega
      rw [a0, b0] at h
      exact absurd h (by decide)
  · rw [decide_eq_false h, Bool.false_and, Bool.false_and]
theorem ent_eq (es : List Int) (x y : D) (vx : Val x) (vy : Val y) : (decide (3 ≤ es.length) && entJ es x y) = entB es x y := by
  unfold entJ
  cases vx with
  | @int i hi =>
    cases vy with
    | @int e he =>
      show (decide (3 ≤ es.length) && ((decide (0 ≤ i) && decide (i ≤ ((hess es).length : Int) - 1)) && (true && (decide (e ≠ 0) && decide (co (hess es) i.toNat = e))))) = (decide (3 ≤ es.length) && ((decide (0 ≤ i) && decide (i < ((hess es).length : Int))) && (decide (co (hess es) i.toNat = e) && decide (e ≠ 0))))
      rw [Bool.true_and, Bool.and_comm (decide (e ≠ 0)), show decide (i ≤ ((hess es).length : Int) - 1) = decide (i < ((hess es).length : Int)) from dec_iff (by omega)]
    | _ => simp [wholeD, entB]
  | _ => simp [fromD, entB]
/-- the two judges agree -/
theorem judges (es : List Int) (v : D) (jv : Jv v) : judgeA es v = judgeB es v := by
  have n1 : ¬ (("power" : Str) = "entry") := by decide
  have n2 : ¬ (("entry" : Str) = "power") := by decide
  have n3 : ¬ (("line" : Str) = "power") := by decide
  have n4 : ¬ (("line" : Str) = "entry") := by decide
  have n5 : ¬ (("" : Str) = "power") := by decide
  have n6 : ¬ (("" : Str) = "entry") := by decide
  cases v with
  | tup xs =>
    rcases jv.2 xs rfl with e | ⟨z, r, e, hz, hr, hl⟩
    · subst e
      simp [judgeA, judgeB, word, n5, n6]
    · subst e
      have ew : ∀ r, word (.tup (.str z :: r)) = z := fun _ => rfl
      unfold judgeA
      rw [ew]
      cases hr with
      | nil => rcases hz with h | h | h <;> subst h <;> simp [judgeB, toldA]
      | @cons x r1 vx hr1 =>
        cases hr1 with
        | nil => rcases hz with h | h | h <;> subst h <;> simp [judgeB, toldA]
        | @cons y r2 vy hr2 =>
          cases hr2 with
          | cons _ _ =>
            rcases hz with h | h | h
            · subst h
              rw [if_pos rfl]
              cases vx <;> cases vy <;> rfl
            · subst h
              simp [n2, judgeB]
            · subst h
              simp [n3, n4, judgeB]
          | nil =>
            rcases hz with h | h | h
            · subst h
              rw [if_pos rfl]
              show _ = (if ("power" : Str) = "power" then powB es x y else if ("power" : Str) = "entry" then entB es x y else false)
              rw [if_pos rfl]
              cases vx with
              | @int k _ =>
                cases vy with
                | @tup a b _ _ =>
                  show (ptOk a b && powJ es k a b) = (ptL a b && powJ es k a b)
                  rw [pt_eq]
                | _ => rfl
              | _ => rfl
            · subst h
              rw [if_neg n2, if_pos rfl]
              show (decide (3 ≤ es.length) && entJ es x y) = (if ("entry" : Str) = "power" then powB es x y else if ("entry" : Str) = "entry" then entB es x y else false)
              rw [if_neg n2, if_pos rfl]
              exact ent_eq es x y vx vy
            · subst h
              rw [if_neg n3, if_neg n4]
              show false = (if ("line" : Str) = "power" then powB es x y else if ("line" : Str) = "entry" then entB es x y else false)
              rw [if_neg n3, if_neg n4]
  | _ => simp [judgeA, judgeB, word, n5, n6]
/-! ### the program's paper is right -/
theorem gcd_part {a b : Int} (h : a ≠ 0 ∨ b ≠ 0) : Nat.gcd (a.fdiv (gcdI a b)).natAbs (b.fdiv (gcdI a b)).natAbs = 1 := by
  have gp := gcd_pos h
  have e1 := fdiv_of gp (gcd_dvd1 a b)
  have e2 := fdiv_of gp (gcd_dvd2 a b)
  have n1 : a.natAbs = (gcdI a b).natAbs * (a.fdiv (gcdI a b)).natAbs := by rw [← Int.natAbs_mul, ← e1]
  have n2 : b.natAbs = (gcdI a b).natAbs * (b.fdiv (gcdI a b)).natAbs := by rw [← Int.natAbs_mul, ← e2]
  have ng : (gcdI a b).natAbs = Nat.gcd a.natAbs b.natAbs := by unfold gcdI; rw [Int.natAbs_natCast]
  have h1 : Nat.gcd a.natAbs b.natAbs = (gcdI a b).natAbs * Nat.gcd (a.fdiv (gcdI a b)).natAbs (b.fdiv (gcdI a b)).natAbs := by
    rw [← Nat.gcd_mul_left, ← n1, ← n2]
  rw [← ng] at h1
  have g0 : 0 < (gcdI a b).natAbs := by omega
  exact Nat.eq_of_mul_eq_mul_left g0 (by rw [← h1, Nat.mul_one])
theorem fst_two (a b : Int) : fstN [a, b] = if a ≠ 0 then a else b := by
  unfold fstN
  by_cases h : a = 0
  · by_cases h2 : b = 0
    · simp [h, h2]
    · simp [h, h2]
  · simp [h]
/-- pol: up to the sign the parts of (-b, a), and a point -/
theorem pol_is {a b : Int} (h : a ≠ 0 ∨ b ≠ 0) : ∃ g : Int, g ≠ 0 ∧ a = g * (pol a b).2 ∧ b = g * -(pol a b).1 ∧ Nat.gcd (pol a b).2.natAbs (-(pol a b).1).natAbs = 1 ∧ ptOk (pol a b).1 (pol a b).2 = true := by
  have gp := gcd_pos h
  have e1 := fdiv_of gp (gcd_dvd1 a b)
  have e2 : -b = gcdI a b * (-b).fdiv (gcdI a b) := fdiv_of gp (Int.dvd_neg.mpr (gcd_dvd2 a b))
  have hn : (-b).fdiv (gcdI a b) = -(b.fdiv (gcdI a b)) := by
    have e3 := fdiv_of gp (gcd_dvd2 a b)
    refine Int.eq_of_mul_eq_mul_left (show gcdI a b ≠ 0 by omega) ?_
    rw [← e2, Int.mul_neg, ← e3]
  have hc := gcd_part h
  have hne : (-b).fdiv (gcdI a b) ≠ 0 ∨ a.fdiv (gcdI a b) ≠ 0 := by
    rcases h with h | h
    · right
      intro z
      rw [z, Int.mul_zero] at e1
      exact h e1
    · left
      intro z
      rw [z, Int.mul_zero] at e2
      omega
  have c1 : Nat.gcd ((-b).fdiv (gcdI a b)).natAbs (a.fdiv (gcdI a b)).natAbs = 1 := by
    rw [hn, Int.natAbs_neg, Nat.gcd_comm]
    exact hc
  unfold pol
  simp only
  split
  · rename_i hs
    refine ⟨gcdI a b, by omega, e1, ?_, ?_, ?_⟩
    · rw [Int.mul_neg, ← e2]
      omega
    · rw [Int.natAbs_neg, Nat.gcd_comm]
      exact c1
    · unfold ptOk
      rw [decide_eq_true c1, Bool.true_and, fst_two]
      refine decide_eq_true ?_
      split <;> omega
  · rename_i hs
    refine ⟨-gcdI a b, by omega, ?_, ?_, ?_, ?_⟩
    · rw [Int.neg_mul_neg, ← e1]
    · rw [Int.neg_neg, Int.neg_mul, ← e2]
      omega
    · rw [Int.neg_neg, Int.natAbs_neg, Nat.gcd_comm]
      exact c1
    · unfold ptOk
      rw [Int.natAbs_neg, Int.natAbs_neg, decide_eq_true c1, Bool.true_and, fst_two]
      refine decide_eq_true ?_
      split <;> omega
theorem hess_zero {es : List Int} (h : nzL (hess es) = false) (n : Nat) (hl : es.length = n + 1) (hn : 2 ≤ n) : ∀ m, m ≤ 2 * n - 4 → hh es m = 0 := fun m hm => by
  by_cases z : hh es m = 0
  · exact z
  · have e : co (hess es) m = 2 * hh es m := by
      unfold hess
      exact tab_co (by omega)
    have : nzL (hess es) = true := nzL_co (i := m) (by rw [hess_len]; omega) (by rw [e]; omega)
    rw [h] at this
    cases this
theorem fst_zero {xs : List Int} (h : co xs 0 ≠ 0) : fstI xs = 0 := by
  cases xs with
  | nil => exact absurd rfl h
  | cons a r =>
    have ha : (a != 0) = true := bne_iff_ne.mpr h
    unfold fstI
    rw [List.findIdx?_cons, ha]
    rfl
theorem pow_paper (es : List Int) (h2 : 2 ≤ es.length) (hp : isPw es = true) (hz : nzL es = true) : ptL (ptT es).1 (ptT es).2 = true ∧ powJ es (nrT es) (ptT es).1 (ptT es).2 = true := by
  obtain ⟨n, hl⟩ : ∃ n, es.length = n + 1 := ⟨es.length - 1, by omega⟩
  have n1 : 1 ≤ n := by omega
  have hh0 : 2 ≤ n → ∀ m, m ≤ 2 * n - 4 → hh es m = 0 := fun hn => by
    refine hess_zero ?_ n hl hn
    unfold isPw at hp
    rw [decide_eq_false (by omega), Bool.false_or] at hp
    cases e : nzL (hess es) with
    | false => rfl
    | true =>
      rw [e] at hp
      cases hp
  have en : es.length - 1 = n := by omega
  have ll : (lnT es).length = n + 1 := by rw [lnT_len]; omega
  -- from a factor
  have fin : ∀ k : Int, nrT es = k → (∀ i, i ≤ n → co es i = k * co (lnT es) i) → powJ es (nrT es) (ptT es).1 (ptT es).2 = true := fun k hk h => by
    unfold powJ
    refine decide_eq_true ?_
    rw [hk]
    show (lnT es).map (fun e => k * e) = es
    refine ext_co (by rw [List.length_map]; omega) fun i hi => ?_
    rw [List.length_map] at hi
    rw [co_map_mul, h i (by omega)]
  by_cases h0 : co es 0 = 0
  · have ep : ptT es = (1, 0) := by unfold ptT; rw [if_pos h0]
    have el : lnT es = pw [0, -1] n := by unfold lnT; rw [ep, en]
    refine ⟨by rw [ep]; decide, ?_⟩
    have low : ∀ s, s < n → co es s = 0 := fun s hs => by
      by_cases hn : 2 ≤ n
      · exact low_zero es n hl hn (hh0 hn) h0 s hs
      · have : s = 0 := by omega
        rw [this]
        exact h0
    have l1 : ∀ i, i < n → co (lnT es) i = 0 := fun i hi => by
      rw [el, pw_co 0 (-1) n i (by omega), Int.zero_pow (by omega)]
      simp
    have l2 : co (lnT es) n = (-1) ^ n := by
      rw [el, pw_co 0 (-1) n n (by omega), ch_self]
      simp
    have lf := fst_lt (lnT_nz h2)
    have ef : fstI (lnT es) = n := by
      by_cases z : fstI (lnT es) = n
      · exact z
      · exact absurd (l1 _ (by omega)) lf.2
    have hne : ((-1 : Int)) ^ n ≠ 0 := Int.pow_ne_zero (by decide)
    have sq : ((-1 : Int)) ^ n * (-1) ^ n = 1 := by
      rw [← Int.mul_pow]
      exact Int.one_pow
    have ek : nrT es = co es n * (-1) ^ n := by
      unfold nrT
      rw [ef, l2]
      have e : co es n = (-1) ^ n * (co es n * (-1) ^ n) := by
        rw [Int.mul_comm (co es n), ← Int.mul_assoc, sq, Int.one_mul]
      have h := Int.mul_fdiv_cancel_left (co es n * (-1) ^ n) hne
      rw [← e] at h
      exact h
    refine fin _ ek fun i hi => ?_
    by_cases z : i = n
    · subst z
      rw [l2, Int.mul_assoc, sq, Int.mul_one]
    · rw [low i (by omega), l1 i (by omega), Int.mul_zero]
  · have eN : (es.length : Int) - 1 = (n : Int) := by omega
    have ep : ptT es = pol ((n : Int) * co es 0) (co es 1) := by unfold ptT; rw [if_neg h0, eN]
    have hne : (n : Int) * co es 0 ≠ 0 := Int.mul_ne_zero (by omega) h0
    obtain ⟨g, g0, e1, e2, hc, hpt⟩ := pol_is (a := (n : Int) * co es 0) (b := co es 1) (.inl hne)
    refine ⟨by rw [ep, ← pt_eq]; exact hpt, ?_⟩
    rw [← ep] at e1 e2 hc
    have p0 : (ptT es).2 ≠ 0 := fun z => by
      rw [z, Int.mul_zero] at e1
      exact hne e1
    obtain ⟨k, hk, ht⟩ := tells_of es n g (ptT es).2 (-(ptT es).1) h0 g0 e1 e2 hc p0 (all_told es n hl n1 hh0 h0)
    have lc : ∀ i, i ≤ n → co (lnT es) i = (ch n i : Int) * (ptT es).2 ^ (n - i) * (-(ptT es).1) ^ i := fun i hi => by
      unfold lnT
      rw [en]
      exact pw_co _ _ n i hi
    have l0 : co (lnT es) 0 = (ptT es).2 ^ n := by
      rw [lc 0 (by omega), ch_zero]
      simp
    have pn : (ptT es).2 ^ n ≠ 0 := Int.pow_ne_zero p0
    have ef : fstI (lnT es) = 0 := fst_zero (by rw [l0]; exact pn)
    have ek : nrT es = k := by
      unfold nrT
      rw [ef, l0, hk, Int.mul_comm]
      exact Int.mul_fdiv_cancel_left k pn
    exact fin k ek fun i hi => by rw [lc i hi, ht i hi]
end KD
set_option Elab.async false
set_option linter.all false
set_option maxRecDepth 100000
set_option maxHeartbeats 2000000
/-! The plain law, 2: the program's paper is right, and what stands in it. -/
namespace KD
open PySem PySem.Spec PyProof.Rows L2 Km

theorem addP_bd {bs xs ys : List Int} {f : Int} {s t : Nat} (hb : ∀ n ∈ bs, n.natAbs < 2 ^ (t + t + 8 + s)) (hx : ∀ n ∈ xs, n.natAbs < 2 ^ t) (hy : ∀ n ∈ ys, n.natAbs < 2 ^ t) (hl : xs.length + ys.length ≤ 256) (hf : f.natAbs < 4) : ∀ n ∈ addP bs f xs ys, n.natAbs < 2 ^ (t + t + 8 + (s + 3)) := tab_bd fun i _ => by
  have h1 := co_bd hb i
  have h2 := co_bd (mul_bd hx hy hl) i
  have h3 : (co bs i + f * co (mul xs ys) i).natAbs ≤ (co bs i).natAbs + f.natAbs * (co (mul xs ys) i).natAbs := by
    rw [← Int.natAbs_mul]
    exact Int.natAbs_add_le _ _
  have h4 : f.natAbs * (co (mul xs ys) i).natAbs ≤ 4 * (co (mul xs ys) i).natAbs := Nat.mul_le_mul_right _ (by omega)
  have h5 : 2 ^ (t + t + 8) ≤ 2 ^ (t + t + 8 + s) := Nat.pow_le_pow_right (by decide) (by omega)
  have h6 : 2 ^ (t + t + 8 + (s + 3)) = 2 ^ (t + t + 8 + s) * 8 := by
    rw [← Nat.add_assoc, Nat.pow_add]
  rw [h6]
  generalize 2 ^ (t + t + 8 + s) = B at *
  generalize 2 ^ (t + t + 8) = C at *
  omega
theorem hess_bd0 {es : List Int} {t : Nat} (h3 : 3 ≤ es.length) (hl : es.length ≤ 11) (b1 : ∀ n ∈ dX (dX es), n.natAbs < 2 ^ t) (b2 : ∀ n ∈ dX (dY es), n.natAbs < 2 ^ t) (b3 : ∀ n ∈ dY (dY es), n.natAbs < 2 ^ t) : ∀ n ∈ hess es, n.natAbs < 2 ^ (t + t + 8 + (0 + 3 + 3 + 3)) := by
  have l1 : (dX (dX es)).length ≤ 10 := by rw [dX_len, dX_len]; omega
  have l2 : (dX (dY es)).length ≤ 10 := by rw [dX_len, dY_len]; omega
  have l3 : (dY (dY es)).length ≤ 10 := by rw [dY_len, dY_len]; omega
  rw [← hess_is es h3]
  have z : ∀ n ∈ List.replicate (2 * es.length - 5) (0 : Int), n.natAbs < 2 ^ (t + t + 8 + 0) := fun n hn => by
    rw [List.eq_of_mem_replicate hn]
    exact Nat.two_pow_pos _
  exact addP_bd (addP_bd (addP_bd z b1 b3 (by omega) (by decide)) b2 b2 (by omega) (by decide)) b3 b1 (by omega) (by decide)
theorem hess_bd {es : List Int} {s : Nat} (g0 : ∀ n ∈ es, n.natAbs < 2 ^ s) (hl : es.length ≤ 11) (h3 : 3 ≤ es.length) : ∀ n ∈ hess es, n.natAbs < 2 ^ (s + 7 + 7 + (s + 7 + 7) + 8 + (0 + 3 + 3 + 3)) := by
  have lX : (dX es).length = es.length - 1 := dX_len es
  have lY : (dY es).length = es.length - 1 := dY_len es
  exact hess_bd0 h3 hl (dX_bd (dX_bd g0 (by omega)) (by omega)) (dX_bd (dY_bd g0 (by omega)) (by omega)) (dY_bd (dY_bd g0 (by omega)) (by omega))
theorem nz_all {ns : List Int} (h : nzL ns = false) (i : Nat) : co ns i = 0 := by
  by_cases hi : i < ns.length
  · by_cases z : co ns i = 0
    · exact z
    · rw [nzL_co hi z] at h
      cases h
  · exact co_ge (by omega)
theorem paper_right (es : List Int) (g : Good es) : judgeB es (paper es) = true := by
  unfold paper
  by_cases hp : isPw es = true
  · rw [if_pos hp]
    by_cases hc : es.length = 1 ∨ nzL es = false
    · rw [if_pos hc]
      show (if ("power" : Str) = "power" then powB es (.int (co es 0)) (tI [1, 0]) else if ("power" : Str) = "entry" then entB es (.int (co es 0)) (tI [1, 0]) else false) = true
      rw [if_pos rfl]
      show (ptL 1 0 && powJ es (co es 0) 1 0) = true
      rw [show ptL 1 0 = true by decide, Bool.true_and]
      unfold powJ
      refine decide_eq_true ?_
      have hl : (pw [0, -1] (es.length - 1)).length = es.length := by
        rw [pw_len _ rfl]
        have := g.1
        omega
      refine ext_co (by rw [List.length_map]; exact hl) fun i hi => ?_
      rw [List.length_map] at hi
      rw [co_map_mul]
      rcases hc with hc | hc
      · have i0 : i = 0 := by omega
        rw [i0, hc]
        show co es 0 * co (pw [0, -1] 0) 0 = _
        rw [show co (pw [0, -1] 0) 0 = 1 by decide, Int.mul_one]
      · rw [nz_all hc, nz_all hc, Int.zero_mul]
    · rw [if_neg hc]
      have h2 : 2 ≤ es.length := by
        have := g.1
        omega
      have hz : nzL es = true := by
        cases e : nzL es with
        | true => rfl
        | false => exact absurd (.inr e) hc
      have h := pow_paper es h2 hp hz
      show (if ("power" : Str) = "power" then powB es (.int (nrT es)) (tI [(ptT es).1, (ptT es).2]) else if ("power" : Str) = "entry" then entB es (.int (nrT es)) (tI [(ptT es).1, (ptT es).2]) else false) = true
      rw [if_pos rfl]
      show (ptL (ptT es).1 (ptT es).2 && powJ es (nrT es) (ptT es).1 (ptT es).2) = true
      rw [h.1, h.2]
      rfl
  · rw [if_neg hp]
    have hq : decide (es.length < 3) = false ∧ nzL (hess es) = true := by
      unfold isPw at hp
      cases h1 : decide (es.length < 3) <;> cases h2 : nzL (hess es) <;> simp_all
    have h3 : 3 ≤ es.length := by
      have := of_decide_eq_false hq.1
      omega
    have lf := fst_lt hq.2
    show (if ("entry" : Str) = "power" then powB es (.int (fstI (hess es) : Nat)) (.int (co (hess es) (fstI (hess es)))) else if ("entry" : Str) = "entry" then entB es (.int (fstI (hess es) : Nat)) (.int (co (hess es) (fstI (hess es)))) else false) = true
    rw [if_neg (by decide), if_pos rfl]
    show (decide (3 ≤ es.length) && ((decide (0 ≤ ((fstI (hess es) : Nat) : Int)) && decide (((fstI (hess es) : Nat) : Int) < ((hess es).length : Int))) && (decide (co (hess es) ((fstI (hess es) : Nat) : Int).toNat = co (hess es) (fstI (hess es))) && decide (co (hess es) (fstI (hess es)) ≠ 0)))) = true
    rw [decide_eq_true h3, decide_eq_true (show 0 ≤ ((fstI (hess es) : Nat) : Int) by omega), decide_eq_true (show ((fstI (hess es) : Nat) : Int) < ((hess es).length : Int) by omega), decide_eq_true lf.2, Int.toNat_natCast, decide_eq_true rfl]
    rfl
theorem paper_pap (es : List Int) (g : Good es) : Pap (paper es) := by
  unfold paper
  have c0 : ∀ i, (co es i).natAbs < 2 ^ 200 := co_bd (good_bd g)
  by_cases hp : isPw es = true
  · rw [if_pos hp]
    by_cases hc : es.length = 1 ∨ nzL es = false
    · rw [if_pos hc]
      exact .pow (up_lt (c0 0) (by decide)) (up_lt (s := 10) (k := 900) (x := 1) (by decide) (by decide)) (up_lt (s := 10) (k := 900) (x := 0) (by decide) (by decide))
    · rw [if_neg hc]
      exact .pow (up_lt (s := 200) (k := 900) (fdiv_bd (c0 _)) (by decide)) (up_lt (k := 900) (ptT_bd g).1 (by decide)) (up_lt (k := 900) (ptT_bd g).2 (by decide))
  · rw [if_neg hp]
    have hq : decide (es.length < 3) = false ∧ nzL (hess es) = true := by
      unfold isPw at hp
      cases h1 : decide (es.length < 3) <;> cases h2 : nzL (hess es) <;> simp_all
    have h3 : 3 ≤ es.length := by
      have := of_decide_eq_false hq.1
      omega
    have lf := (fst_lt hq.2).1
    rw [hess_len] at lf
    have hl := g.2.1
    refine .ent (up_lt (s := 10) (k := 900) ?_ (by decide)) (up_lt (k := 900) (co_bd (hess_bd (s := 200) (good_bd g) hl h3) _) (by decide))
    rw [Int.natAbs_natCast]
    omega
theorem paper_head (es : List Int) : ∃ r, paper es = .tup (.str (if isPw es = true then "power" else "entry") :: r) := by
  unfold paper
  by_cases hp : isPw es = true
  · rw [if_pos hp, if_pos hp]
    split <;> exact ⟨_, rfl⟩
  · rw [if_neg hp, if_neg hp]
    exact ⟨_, rfl⟩
theorem gcdI_zero {a b : Int} : gcdI a b = 0 ↔ a = 0 ∧ b = 0 := by
  constructor
  · intro h
    by_cases z : a ≠ 0 ∨ b ≠ 0
    · have := gcd_pos z
      omega
    · omega
  · rintro ⟨rfl, rfl⟩
    decide
theorem gcd_fold : ∀ (ns : List Int) (g : Int), ns.foldl gcdI g = 0 ↔ g = 0 ∧ nzL ns = false
  | [], g => by simp [nzL]
  | n :: ns, g => by
    show ns.foldl gcdI (gcdI g n) = 0 ↔ _
    rw [gcd_fold ns, gcdI_zero]
    unfold nzL
    rw [List.any_cons, Bool.or_eq_false_iff]
    constructor
    · rintro ⟨⟨h1, h2⟩, h3⟩
      exact ⟨h1, by rw [h2]; rfl, h3⟩
    · rintro ⟨h1, h2, h3⟩
      refine ⟨⟨h1, ?_⟩, h3⟩
      by_cases z : n = 0
      · exact z
      · rw [bne_iff_ne.mpr z] at h2
        cases h2
theorem pw_test (es : List Int) : (decide (es.length < 3) || decide (gcdL (hess es) = 0)) = isPw es := by
  unfold isPw
  have e : decide (gcdL (hess es) = 0) = !nzL (hess es) := by
    have h : gcdL (hess es) = 0 ↔ (0 : Int) = 0 ∧ nzL (hess es) = false := gcd_fold (hess es) 0
    cases hz : nzL (hess es) with
    | false => exact decide_eq_true (h.mpr ⟨rfl, hz⟩)
    | true =>
      refine decide_eq_false fun z => ?_
      have h2 := (h.mp z).2
      rw [hz] at h2
      cases h2
  rw [e]
end KD
set_option Elab.async false
set_option linter.all false
set_option maxRecDepth 100000
set_option maxHeartbeats 4000000
/-! Walks, 8: the values near a paper. -/
namespace KD
open PySem PySem.Spec PyProof.Rows L2 Km

theorem jv_tup {z : Str} {r : List D} (hz : z = "power" ∨ z = "entry" ∨ z = "line") (hr : Vals' r) (hl : r.length ≤ 10) : Jv (.tup (.str z :: r)) :=
  ⟨⟨_, rfl⟩, fun xs e => by cases e; exact .inr ⟨z, r, rfl, hz, hr, hl⟩⟩
theorem jv_at {d : D} (h : Ty d) (n : ∀ xs, d ≠ .tup xs) : Jv d := ⟨h, fun xs e => absurd e (n xs)⟩
theorem jv_nil : Jv (.tup []) := ⟨⟨_, rfl⟩, fun xs e => by cases e; exact .inl rfl⟩
theorem v1 {a : D} (ha : Val a) : Vals' [a] := .cons ha .nil
theorem v2 {a b : D} (ha : Val a) (hb : Val b) : Vals' [a, b] := .cons ha (v1 hb)
theorem v3 {a b c : D} (ha : Val a) (hb : Val b) (hc : Val c) : Vals' [a, b, c] := .cons ha (v2 hb hc)
theorem vi {i : Int} (h : i.natAbs < 2 ^ 900) : Val (.int i) := .int (up_lt h (by decide))
theorem vt {a b : Int} (ha : a.natAbs < 2 ^ 900) (hb : b.natAbs < 2 ^ 900) : Val (.tup [.int a, .int b]) := .tup (up_lt ha (by decide)) (up_lt hb (by decide))
theorem vs {i : Int} (h : i.natAbs < 2 ^ 8) : Val (.int i) := .int (up_lt h (by decide))
theorem vst {a b : Int} (ha : a.natAbs < 2 ^ 8) (hb : b.natAbs < 2 ^ 8) : Val (.tup [.int a, .int b]) := .tup (up_lt ha (by decide)) (up_lt hb (by decide))
theorem grow {x y : Int} {s : Nat} (h : x.natAbs < 2 ^ s) (hy : y.natAbs ≤ 2 * x.natAbs + 1) : y.natAbs < 2 ^ (s + 1) := by
  rw [Nat.pow_succ]
  omega
theorem vg {x y : Int} (h : x.natAbs < 2 ^ 900) (hy : y.natAbs ≤ 2 * x.natAbs + 1) : Val (.int y) := .int (up_lt (grow h hy) (by decide))
theorem w__law_near_values : ∀ ds B QD, sd__law_near_values ds B QD → ds.length + 1 = 2 ∧ r__law_near_values { nx := fun _ B => QD .non B, rt := fun v B => QD v B } (none :: rho (["_law_dice_here", "_law_paper", "_law_point_here", "_law_found", "_law_one", "_law_other"] : List Str).tail ds) B := by
  rintro ds B QD ⟨v, rfl, pv, dB, q⟩
  refine ⟨rfl, ?_⟩
  have p1 : CPow 10 60 := ⟨by decide, by decide, by decide⟩
  have hp : Val (.int (10 ^ 60)) := .int (ten_two (k := 61) (by decide) (by decide))
  have s1 : HT.sIx 3 3 none = 3 := by decide
  have s2 : HT.sIx 3 0 (some 1) = 1 := by decide
  have s3 : HT.sIx 3 3 (some 2) = 2 := by decide
  have s4 : HT.sIx 3 0 none = 0 := by decide
  have ne : ¬ (("entry" : Str) = "power") := by decide
  have P : ("power" : Str) = "power" ∨ ("power" : Str) = "entry" ∨ ("power" : Str) = "line" := .inl rfl
  have E : ("entry" : Str) = "power" ∨ ("entry" : Str) = "entry" ∨ ("entry" : Str) = "line" := .inr (.inl rfl)
  have L : ("line" : Str) = "power" ∨ ("line" : Str) = "entry" ∨ ("line" : Str) = "line" := .inr (.inr rfl)
  have lo : ∀ {x : Int}, x.natAbs ≤ 100 → x.natAbs < 2 ^ 8 := fun h => Nat.lt_of_le_of_lt h (by decide)
  have vT : Val (.tup [.int 1, .int 0]) := vst (by decide) (by decide)
  have V1 : Val (.int 1) := vs (by decide)
  have V0 : Val (.int 0) := vs (by decide)
  have VM : Val (.int (-1)) := vs (by decide)
  have dj : ∀ {z : Str} {a b : D}, (z = "power" ∨ z = "entry" ∨ z = "line") → Val a → Val b → Jv (.tup [.str z, a, b]) := fun hz ha hb => jv_tup hz (v2 ha hb) (Nat.le_of_ble_eq_true rfl)
  have nn : Jv .non := jv_at ⟨_, rfl⟩ fun _ h => by cases h
  have ns : Jv (.str "power") := jv_at ⟨_, rfl⟩ fun _ h => by cases h
  have nd : Jv .dic := jv_at ⟨_, rfl⟩ fun _ h => by cases h
  have nl : ∀ xs, Jv (.lst xs) := fun xs => jv_at ⟨_, rfl⟩ fun _ h => by cases h
  cases pv with
  | @pow k a b hk ha hb =>
    have c2 : CMulA 2 k := .inr (wide_mul (a := 2) (b := 900) (by decide) hk (by decide) (by decide) (by decide))
    simp [r__law_near_values, sd__law_point, p1, c2, at3, cut, s1, s2, s3, s4, oCatT, oCatL, rho, Ty, dSeq, dRet, dAsg, dAsg2, dPar, dIf, dNext, dNever, dDrop, dSetB, dAugB, dBox, dFor, nSeq, eVar, eC, eOp, eUn, oI, oI0, oU, eAndV, eOrV, eNotV, eIf, eChain, tstE, tstAnd, tstOr, tstNot, tstYes, eIsi, eIsF, isInt, isBool, isTup, isStr, tyD, eTup, aNil, aCons, aStar, eCall, eCallB, lCallN, eOfL, lDisp, lList, lRep, lSl, eSlT, pNone, pSome, oLen, lenD, oTuple, oIxT, oIxL, oIxC, eIxB, eTupB, oAbs, oInt, intD, oRepr, oEqI, oNeI, oEqS, oNeS, eProp, eNext, iTupD, iLstD, iRngD, iEnmL, iEnmT, iZipD, lLc, wipeD, setD, tI, lI, ex2]
    refine ⟨dB, fun c d B1 hc hd d1 => q _ B1 ?_ (Nat.le_of_ble_eq_true rfl) d1⟩
    have vk := vi hk
    have vp := vt ha hb
    have vc := vst (lo hc) (lo hd)
    simp only [List.forall_mem_cons, List.not_mem_nil, false_imp_iff, implies_true, and_true]
    refine ⟨dj P vk vp, nl _, jv_tup P (v3 vk vp V0) (Nat.le_of_ble_eq_true rfl), jv_tup P (v1 vk) (Nat.le_of_ble_eq_true rfl), nn, ns, jv_nil, nd, jv_tup P .nil (by decide), dj L vk vp, dj P V1 vc, dj P V0 vc, dj P VM vT, dj E V0 V0, dj E V0 V1, dj E hp V1, dj P vk vc, dj E vk vp, dj P vp vk, dj P .bl vT, dj P (vg hk (by omega)) vp, dj P vk (vt hb ha), dj P vk (.tup (up_lt (neg_lt ha) (by decide)) (up_lt (neg_lt hb) (by decide))), dj P (vg hk (by omega)) vp, dj P vk .lst, dj P vk (.tup (up_lt ha (by decide)) (up_lt (neg_lt hb) (by decide)))⟩
  | @ent i e hi he =>
    simp [r__law_near_values, sd__law_point, p1, at3, cut, s1, s2, s3, s4, oCatT, oCatL, ne, rho, Ty, dSeq, dRet, dAsg, dAsg2, dPar, dIf, dNext, dNever, dDrop, dSetB, dAugB, dBox, dFor, nSeq, eVar, eC, eOp, eUn, oI, oI0, oU, eAndV, eOrV, eNotV, eIf, eChain, tstE, tstAnd, tstOr, tstNot, tstYes, eIsi, eIsF, isInt, isBool, isTup, isStr, tyD, eTup, aNil, aCons, aStar, eCall, eCallB, lCallN, eOfL, lDisp, lList, lRep, lSl, eSlT, pNone, pSome, oLen, lenD, oTuple, oIxT, oIxL, oIxC, eIxB, eTupB, oAbs, oInt, intD, oRepr, oEqI, oNeI, oEqS, oNeS, eProp, eNext, iTupD, iLstD, iRngD, iEnmL, iEnmT, iZipD, lLc, wipeD, setD, tI, lI, ex2]
    refine ⟨dB, fun c d B1 hc hd d1 => q _ B1 ?_ (Nat.le_of_ble_eq_true rfl) d1⟩
    have vk := vi hi
    have vp := vi he
    have vc := vst (lo hc) (lo hd)
    simp only [List.forall_mem_cons, List.not_mem_nil, false_imp_iff, implies_true, and_true]
    refine ⟨dj E vk vp, nl _, jv_tup E (v3 vk vp V0) (Nat.le_of_ble_eq_true rfl), jv_tup E (v1 vk) (Nat.le_of_ble_eq_true rfl), nn, ns, jv_nil, nd, jv_tup P .nil (by decide), dj L vk vp, dj P V1 vc, dj P V0 vc, dj P VM vT, dj E V0 V0, dj E V0 V1, dj E hp V1, dj P vk vc, dj E vk vp, dj E vp vk, dj P .bl vT, dj E vk (vg he (by omega)), dj E (vg hi (by omega)) vp, dj E (vg hi (by omega)) vp, dj E VM vp⟩
theorem good_ent {es : List Int} (g : Good es) : entOk es = true := by
  have h1 := g.1
  have h2 := g.2.1
  have h3 : es.all shortI = true := List.all_eq_true.mpr fun e he => by
    have h := g.2.2 e he
    have h4 : (10 : Nat) ^ 50 < 10 ^ 60 := by decide
    have h5 : (10 : Int) ^ 60 = ((10 ^ 60 : Nat) : Int) := by decide
    unfold shortI
    rw [h5, decide_eq_true (show -((10 ^ 60 : Nat) : Int) < e by omega), decide_eq_true (show e < ((10 ^ 60 : Nat) : Int) by omega)]
    rfl
  unfold entOk
  rw [h3, decide_eq_true h1, decide_eq_true (show es.length ≤ 41 by omega)]
  rfl
theorem at_hd (x : D) (r : List D) : atI (x :: r) 0 = some x := atI_nat (j := 0) (show (x :: r)[0]? = some x from rfl)
theorem pap_jv {d : D} (h : Pap d) : Jv d := by
  cases h with
  | pow hk ha hb => exact jv_tup (.inl rfl) (v2 (vi hk) (vt ha hb)) (Nat.le_of_ble_eq_true rfl)
  | ent hi he => exact jv_tup (.inr (.inl rfl)) (v2 (vi hi) (vi he)) (Nat.le_of_ble_eq_true rfl)
theorem right_lc {es : List Int} (g : Good es) {QD : D → List D → Prop} (q : ∀ B', Dice B' → QD (.bl true) B') {x3 x4 x5 : Option D} {ys B' : List D} (hy : ∀ y ∈ ys, Jv y) (hl : ys.length ≤ 100) (d : Dice B') : ys.length ≤ 50000 ∧ dLcGo [7] (tstE (eOp oNeS (eUn oRepr (eCall sd_is_power_paper (aCons (eVar 2) (aCons (eVar 7) aNil)))) (eUn oRepr (eCall sd__law_is_right (aCons (eVar 1) (aCons (eVar 7) aNil)))))) (eVar 7)
    [none, some (.tup (es.map D.int)), some (.frm es), x3, x4, x5, some (.lst ys), none] (ys.map fun d => [d]) [] B' fun ds B1 => oEqD (.lst ds) (.lst []) fun d => QD d B1 := by
  refine ⟨by omega, lc_filter (fun _ => false) (fun _ => .non) ?_ (fun _ _ h => by cases h) ?_⟩
  · intro row hr N n
    obtain ⟨y, hm, rfl⟩ := List.mem_map.mp hr
    have jy := hy y hm
    simp [sd_is_power_paper, sd__law_is_right, rho, Ty, dSeq, dRet, dAsg, dAsg2, dPar, dIf, dNext, dNever, dDrop, dSetB, dAugB, dBox, dFor, nSeq, eVar, eC, eOp, eUn, oI, oI0, oU, eAndV, eOrV, eNotV, eIf, eChain, tstE, tstAnd, tstOr, tstNot, tstYes, eIsi, eIsF, isInt, isBool, isTup, isStr, tyD, eTup, aNil, aCons, aStar, eCall, eCallB, lCallN, eOfL, lDisp, lList, lRep, lSl, eSlT, pNone, pSome, oLen, lenD, oTuple, oIxT, oIxL, oIxC, eIxB, eTupB, oAbs, oInt, intD, oRepr, oEqI, oNeI, oEqS, oNeS, eProp, eNext, iTupD, iLstD, iRngD, iEnmL, iEnmT, iZipD, lLc, wipeD, setD, tI, lI, ex2]
    refine ⟨g, jy, es, y, ⟨rfl, rfl⟩, g, jy, ?_⟩
    rw [judges es y jy]
    simpa using n
  · have e : (List.filter (fun _ => false) (ys.map fun d => [d])).map (fun _ : List D => D.non) = [] := by simp
    rw [e]
    exact ⟨.list [], .list [], rfl, rfl, rfl, rfl, q B' d⟩
theorem w__law_right : ∀ ds B QD, sd__law_right ds B QD → ds.length + 1 = 2 ∧ r__law_right { nx := fun _ B => QD .non B, rt := fun v B => QD v B } (none :: rho (["_law_dice_here", "_law_entries", "_law_form_here", "_law_degree", "_law_paper", "_law_is_power", "_law_some", "_law_value"] : List Str).tail ds) B := by
  rintro ds B QD ⟨es, rfl, g, dB, q⟩
  refine ⟨rfl, ?_⟩
  have h12 := g.2.1
  have h1 := g.1
  have ge := good_ent g
  have jr := paper_right es g
  have pp := paper_pap es g
  obtain ⟨r, eh⟩ := paper_head es
  have jp := pap_jv pp
  have pt := pw_test es
  simp [r__law_right, sd_Form, sd_power_paper, sd__law_shared, sd_shared_of, sd__law_laid, sd_laid_in, sd__law_is_right, sd__law_near_values, rho, Ty, dSeq, dRet, dAsg, dAsg2, dPar, dIf, dNext, dNever, dDrop, dSetB, dAugB, dBox, dFor, nSeq, eVar, eC, eOp, eUn, oI, oI0, oU, eAndV, eOrV, eNotV, eIf, eChain, tstE, tstAnd, tstOr, tstNot, tstYes, eIsi, eIsF, isInt, isBool, isTup, isStr, tyD, eTup, aNil, aCons, aStar, eCall, eCallB, lCallN, eOfL, lDisp, lList, lRep, lSl, eSlT, pNone, pSome, oLen, lenD, oTuple, oIxT, oIxL, oIxC, eIxB, eTupB, oAbs, oInt, intD, oRepr, oEqI, oNeI, oEqS, oNeS, eProp, eNext, iTupD, iLstD, iRngD, iEnmL, iEnmT, iZipD, lLc, wipeD, setD, tI, lI, ex2]
  refine ⟨es, rfl, by omega, ge, g, ?_⟩
  by_cases c : (es.length : Int) - 1 < 2
  · rw [if_pos c]
    have c3 : es.length < 3 := by omega
    rw [decide_eq_true c3, Bool.true_or] at pt
    rw [← pt, if_pos rfl] at eh
    refine ⟨es, paper es, ⟨rfl, rfl⟩, g, jp, ?_⟩
    rw [if_pos jr]
    exact ⟨_, eh, _, at_hd _ r, _, rfl, .inl ⟨rfl, pp, dB, fun ys B' hy hl d => right_lc g q hy hl d⟩⟩
  · rw [if_neg c]
    have c3 : ¬ es.length < 3 := by omega
    rw [decide_eq_false c3, Bool.false_or] at pt
    refine ⟨es, rfl, by omega, by omega, good_mid g, hess es, rfl, es, paper es, ⟨rfl, rfl⟩, g, jp, ?_⟩
    rw [if_pos jr]
    by_cases z : gcdL (hess es) = 0
    · rw [decide_eq_true z] at pt
      rw [← pt, if_pos rfl] at eh
      exact ⟨_, eh, _, at_hd _ r, .inr ⟨z, _, rfl, .inl ⟨rfl, pp, dB, fun ys B' hy hl d => right_lc g q hy hl d⟩⟩⟩
    · rw [decide_eq_false z] at pt
      rw [← pt, if_neg Bool.false_ne_true] at eh
      exact ⟨_, eh, _, at_hd _ r, .inl ⟨z, _, rfl, .inl ⟨rfl, pp, dB, fun ys B' hy hl d => right_lc g q hy hl d⟩⟩⟩
end KD
set_option Elab.async false
set_option linter.all false
set_option maxRecDepth 100000
set_option maxHeartbeats 4000000
/-! Walks, 9: the law. -/
namespace KD
open PySem PySem.Spec PyProof.Rows L2 Km

def told3 : PyData := .list [.tuple [.str "power", .int 1, .tuple [.int 2, .int (-1)]], .tuple [.str "entry", .int 0, .int (-16)], .tuple [.str "power", .int 2, .tuple [.int 3, .int 2]]]
theorem paper_a : paper [1, 8, 24, 32, 16] = .tup [.str "power", .int 1, .tup [.int 2, .int (-1)]] := by
  unfold paper
  rw [if_pos (show isPw [1, 8, 24, 32, 16] = true by decide +kernel), if_neg (by decide +kernel), show nrT [1, 8, 24, 32, 16] = 1 by decide +kernel, show ptT [1, 8, 24, 32, 16] = (2, -1) by decide +kernel]
  rfl
theorem paper_b : paper [1, 0, -2] = .tup [.str "entry", .int 0, .int (-16)] := by
  unfold paper entP
  rw [if_neg (show ¬ isPw [1, 0, -2] = true by decide +kernel), show fstI (hess [1, 0, -2]) = 0 by decide +kernel, show co (hess [1, 0, -2]) 0 = -16 by decide +kernel]
  rfl
theorem paper_c : paper [4, -6] = .tup [.str "power", .int 2, .tup [.int 3, .int 2]] := by
  unfold paper
  rw [if_pos (show isPw [4, -6] = true by decide +kernel), if_neg (by decide +kernel), show nrT [4, -6] = 2 by decide +kernel, show ptT [4, -6] = (3, 2) by decide +kernel]
  rfl
theorem w_law : ∀ ds QD, sd_law ds QD → ds.length = 1 ∧ r_law { nx := fun _ _ => QD .non, rt := fun v _ => QD v } (rho ["_law_script", "_law_spot", "_law_dice_here", "_law_line_here", "_law_often", "_law_told"] ds) [] := by
  rintro ds QD ⟨ns, rfl, q⟩
  refine ⟨rfl, ?_⟩
  simp [r_law, rho, Ty, dSeq, dRet, dAsg, dAsg2, dPar, dIf, dNext, dNever, dDrop, dSetB, dAugB, dBox, dFor, nSeq, eVar, eC, eOp, eUn, oI, oI0, oU, eAndV, eOrV, eNotV, eIf, eChain, tstE, tstAnd, tstOr, tstNot, tstYes, eIsi, eIsF, isInt, isBool, isTup, isStr, tyD, eTup, aNil, aCons, aStar, eCall, eCallB, lCallN, eOfL, lDisp, lList, lRep, lSl, eSlT, pNone, pSome, oLen, lenD, oTuple, oIxT, oIxL, oIxC, eIxB, eTupB, oAbs, oInt, intD, oRepr, oEqI, oNeI, oEqS, oNeS, eProp, eNext, iTupD, iLstD, iRngD, iEnmL, iEnmT, iZipD, lLc, wipeD, setD, tI, lI, ex2]
  generalize hM : (if (1 : Int) < if (ns.length : Int) < 4 then (ns.length : Int) else 4 then if (ns.length : Int) < 4 then (ns.length : Int) else 4 else 1) = M
  have m1 : 1 ≤ M ∧ M ≤ 4 := by
    subst hM
    split <;> split <;> omega
  refine ⟨by omega, by omega, for_ok (fun _ ρ _ => ∃ x1 x2 x3 x4 x5, ρ = [some (D.scr ns), x1, x2, x3, x4, x5]) ?_ ?_ ⟨_, _, _, _, _, rfl⟩⟩
  · rintro i row hr ρ B ⟨x1, x2, x3, x4, x5, rfl⟩ N n
    rw [List.getElem?_map] at hr
    obtain ⟨j, hj, rfl⟩ := Option.map_eq_some_iff.mp hr
    obtain ⟨hjl, hj⟩ := List.getElem?_eq_some_iff.mp hj
    rw [List.getElem_range] at hj
    rw [List.length_range] at hjl
    subst hj
    simp [rho, Ty, dSeq, dRet, dAsg, dAsg2, dPar, dIf, dNext, dNever, dDrop, dSetB, dAugB, dBox, dFor, nSeq, eVar, eC, eOp, eUn, oI, oI0, oU, eAndV, eOrV, eNotV, eIf, eChain, tstE, tstAnd, tstOr, tstNot, tstYes, eIsi, eIsF, isInt, isBool, isTup, isStr, tyD, eTup, aNil, aCons, aStar, eCall, eCallB, lCallN, eOfL, lDisp, lList, lRep, lSl, eSlT, pNone, pSome, oLen, lenD, oTuple, oIxT, oIxL, oIxC, eIxB, eTupB, oAbs, oInt, intD, oRepr, oEqI, oNeI, oEqS, oNeS, eProp, eNext, iTupD, iLstD, iRngD, iEnmL, iEnmT, iZipD, lLc, wipeD, setD, tI, lI, ex2]
    have hb : ∀ {x : Int}, x.natAbs ≤ 100 → x.natAbs < 2 ^ 7 := fun h => Nat.lt_of_le_of_lt h (by decide)
    refine ⟨ns, i, rfl, by omega, fun da db dc => ⟨⟨[da, db, dc], rfl⟩, rfl, ⟨da, db, dc, rfl⟩, fun es B1 g1 d1 => ⟨es, rfl, g1, d1, fun B2 d2 => .inr ⟨rfl, ?_⟩⟩⟩⟩
    refine ⟨9, rfl, by decide, by decide, d2, fun r B3 r0 r1 d3 => ⟨r.toNat, by rw [Int.toNat_of_nonneg r0], by omega, d3, fun es2 B4 g2 d4 => ⟨es2, rfl, g2, d4, fun B5 d5 => .inr ⟨rfl, ?_⟩⟩⟩⟩
    refine ⟨3, rfl, by decide, by decide, d5, fun a b B6 ha hb1 d6 => ⟨a, b, rfl, 5, rfl, by decide, by decide, d6, fun r2 B7 r20 r21 d7 => ⟨r2, rfl, ?_⟩⟩⟩
    have hna : (-a).natAbs ≤ 100 := by rw [Int.natAbs_neg]; exact ha
    have bp := pw_sm (n := (1 + r2).toNat) (k := 41) (hb hb1) (hb hna) (by omega)
    have lp := pw_len [b, -a] rfl (1 + r2).toNat
    refine ⟨b, -a, (1 + r2).toNat, by rw [Int.toNat_of_nonneg (by omega)], by omega, up_lt (hb hb1) (by decide), up_lt (hb hna) (by decide), ?_⟩
    refine ⟨2, rfl, by decide, by decide, d7, fun r3 B8 r30 r31 d8 => ⟨r3, rfl, (1 + r3).toNat, 2, by rw [Int.toNat_of_nonneg (by omega)], by omega, by decide, by decide, d8, fun es3 B9 l3 h3 d9 => ?_⟩⟩
    have b3 : ∀ n ∈ es3, n.natAbs < 2 ^ 2 := fun n hn => by
      have := h3 n hn
      omega
    have ne3 : es3 ≠ [] := ne_of_len (by omega)
    have ne1 : pw [b, -a] (1 + r2).toNat ≠ [] := ne_of_len (by omega)
    refine ⟨_, es3, rfl, ne1, ne3, by omega, by omega, sm_of bp (by decide), sm_of b3 (by decide), ?_⟩
    have lm : (mul (pw [b, -a] (1 + r2).toNat) es3).length = (pw [b, -a] (1 + r2).toNat).length + es3.length - 1 := mul_len _ _
    exact ⟨_, rfl, good_of (by omega) (by omega) (mul_bd bp b3 (by omega)) (by decide), d9, fun B10 d10 => .inr ⟨rfl, n _ _ ⟨_, _, _, _, _, rfl⟩⟩⟩
  · rintro ρ B ⟨x1, x2, x3, x4, x5, rfl⟩
    simp [sd_Form, sd_power_paper]
    have gd : ∀ es : List Int, 1 ≤ es.length → es.length ≤ 11 → (∀ n ∈ es, n.natAbs < 2 ^ 10) → Good es := fun es h1 h2 h3 => good_of h1 h2 h3 (by decide)
    refine ⟨[1, 8, 24, 32, 16], rfl, by decide, by decide, gd _ (by decide) (by decide) (by decide), [1, 0, -2], rfl, by decide, by decide, gd _ (by decide) (by decide) (by decide), [4, -6], rfl, by decide, by decide, gd _ (by decide) (by decide) (by decide), ?_⟩
    rw [paper_a, paper_b, paper_c]
    refine ⟨told3, told3, rfl, rfl, by decide +kernel, by decide +kernel, ?_⟩
    rw [show PyData.eqv told3 told3 = true by decide +kernel]
    exact q
end KD
set_option Elab.async false
set_option linter.all false
set_option maxRecDepth 100000
set_option maxHeartbeats 4000000
/-! The forms: __init__ and the three properties. -/
namespace KD
open PySem PySem.Spec PyProof.Rows L2 Km GxR

/-- isinstance(a tuple, Told) -/
def eIsT (ra : DE) : DE := fun ρ B Q => ra ρ B fun d B1 => (∃ xs, d = .tup xs) ∧ Q (.bl false) B1
/-- what is never come to -/
def eBad : DE := fun _ _ _ => False
/-- form.own_entries -/
def eSlot (ra : DE) : DE := fun ρ B Q => ra ρ B fun d B1 => ∃ es, d = .frm es ∧ Q (tI es) B1
section
variable {P : Program} {w : World} {K : PySem.W.Frag} {mg : Str → Option Value} {base : Heap} {k n : Nat} {ι : Type} {F : ι → Cx} {C : Cfg} {bi : Option Nat} {a e c : Expr} {es : List Expr} {ra re : DE} {rt : DT} {rr : DA} {pos p p2 p3 : Pos} {f : Str} {sd : Sp1} {ta : TE} {t : TA}
theorem se_isT {T : Addr} (hk : PySem.W.kitOne K (.type "tuple") (.ref T) = some false) (ha : SE K C bi ta ra) : SE K C bi (tCB (rIsi K) (tCons ta (tCons (tC (.ref T)) tNil))) (eIsT ra) := by
  intro hid bx ρ B σ H QD Q c h k
  refine ha hid bx ρ B σ H _ _ c h fun d B1 v H1 q1 s1 h1 r1 => ?_
  obtain ⟨⟨xs, e⟩, q1⟩ := q1
  subst e
  exact ⟨v, _, .type "tuple", .ref T, false, rfl, .own T, rep_ty (r1.mono (out_keep hid H1)) rfl, hk, k _ B1 _ H1 q1 s1 h1 (.bl _)⟩
theorem c_isT {y : Str} {T : Addr} (m : Fm P w K mg base k F) (hm : mg "isinstance" = none) (hy : mg y = some (.ref T)) (hk : PySem.W.kitOne K (.type "tuple") (.ref T) = some false) (ha : CE K F C bi a ra)
    (hg : ∀ i, Gl (F i) "isinstance" := by intro _; rfl) (hg2 : ∀ i, Gl (F i) y := by intro _; rfl) (hd : (y == ("__debug__" : Str)) = false := by decide)
    (he : ∀ i, starEach [a, .Name y p3] (F i).env = (false, eval a (F i).env) :: starEach [.Name y p3] (F i).env := by intro _; rfl) (he2 : ∀ i, starEach [.Name y p3] (F i).env = (false, eval (.Name y p3) (F i).env) :: starEach [] (F i).env := by intro _; rfl)
    (hpl : ∀ i, (backTo pos (starEach [.Name y p3] (F i).env)).any (·.1) = false := by intro _; rfl) : CE K F C bi (.Call (.Name "isinstance" p) [a, .Name y p3] [] pos) (eIsT ra) := by
  obtain ⟨t, p1, s1⟩ := ha
  refine ⟨tCB (rIsi K) (tCons t (tCons (tC (.ref T)) tNil)), fun i => ?_, se_isT hk s1⟩
  have z := call_isi (X := F i)
  rw [m.K i] at z
  exact pe_callB z (hg i) (by rw [m.mg i]; exact hm) (by first | rfl | decide +kernel) (pa_cons (p1 i) (pa_cons (pe_glob (v := .ref T) (hg2 i) (by rw [m.mg i]; exact hy) rfl hd) pa_nil (he2 i)) (he i)) (by decide) (by decide) (he i) (hpl i)
theorem c_bad (m : Fm P w K mg base k F) (ha : CE K F C bi a ra) (hb : ∀ i, attributeBase a f (F i).env (eval a (F i).env) = eval a (F i).env := by intro _; rfl) : CE K F C bi (.Attribute a f pos) eBad := by
  obtain ⟨ta, p1, s1⟩ := ha
  refine ⟨SlX.tSl K ta f, fun i => ?_, fun _ _ _ _ _ _ _ _ _ h _ => h.elim⟩
  have z := SlX.pe_sl (f := f) (pos := pos) (p1 i) (hb i)
  rw [m.K i] at z
  exact z
theorem c_slot (m : Fm P w K mg base k F) (sc : SlX.SCls K C.cF) (sl : ∃ p, SlX.Slot1 K C.cF f p 0) (ha : CE K F C bi a ra) (hb : ∀ i, attributeBase a f (F i).env (eval a (F i).env) = eval a (F i).env := by intro _; rfl) : CE K F C bi (.Attribute a f pos) (eSlot ra) := by
  obtain ⟨ta, p1, s1⟩ := ha
  obtain ⟨p, sl⟩ := sl
  refine ⟨SlX.tSl K ta f, fun i => ?_, ?_⟩
  · have z := SlX.pe_sl (f := f) (pos := pos) (p1 i) (hb i)
    rw [m.K i] at z
    exact z
  · intro hid bx ρ B σ H QD Q c h k
    refine s1 hid bx ρ B σ H _ _ c h fun d B1 v H1 q1 s2 h1 r1 => ?_
    obtain ⟨es, e, q1⟩ := q1
    subst e
    cases r1 with
    | @frm a dx t vs _ hs e1 e2 =>
      exact ⟨a, C.cF, dx, p, vs, 0, .ref t, rfl, (out_keep hid H1).slt hs, sc, sl, e1, k _ B1 _ H1 q1 s2 h1 (.tup e2 (RepL.of_ints es))⟩
/-- a test that must fail, then self.f = value -/
def CSx (K : PySem.W.Frag) {ι : Type} (F : ι → Cx) (C : Cfg) (f : Str) (sts : List Stmt) (rt : DT) (re : DE) : Prop := ∃ tc tv, (∀ i, PSs (F i) sts (tSeq (tIfS tc tNever tNext) (SlX.sSl K (tVar 0) tv f))) ∧ ST K C none tc rt ∧ SE K C none tv re
theorem init_mk {body : List Stmt} {x : Str} (m : Fm P w K mg base k F) (h1 : CT K F C none c rt) (h2 : CE K F C none e re) (hN : ∀ i, (F i).N[0]? = some x := by intro _; rfl) (hv : ∀ i, Vis (F i).env.scope x := by intro _; first | exact Or.inl rfl | exact Or.inr (Or.inl rfl) | exact Or.inr (Or.inr rfl))
    (hd : (x == ("__debug__" : Str)) = false := by decide) (hc : (x == ("__classdict__" : Str)) = false := by decide)
    (hs : ∀ i, swapsWith e (some (.Attribute (.Name x p) f p2)) p3.line (F i).env = pure false := by intro _; rfl) : CSx K F C f [.If c body [] pos, .Assign [.Attribute (.Name x p) f p2] e p3] rt re := by
  obtain ⟨tc, p1, s1⟩ := h1
  obtain ⟨tv, q1, s2⟩ := h2
  refine ⟨tc, tv, fun i => pss_cons (ps_if (p1 i) pss_never pss_nil) (pss_one ?_), s1, s2⟩
  have z := SlX.ps_sl (f := f) (pos' := p2) (pos := p3) (pe_var (pos := p) (hN i) (hv i) hd hc) (q1 i) (hs i)
  rw [m.K i] at z
  exact z
theorem init_cs (T : Tp K mg base C) (h_are : Ca P w K mg base 4 "are_entries" (spP K C sd_are_entries)) (f : Addr) (cdv : Value) (A : Around) (outer : List PySem.Env) (s : Shared) (H : Hp) (E : XK)
    (m : Fm P w K mg base 4 (top P w K mg base ["self", "entries"] "Form.__init__" (defScope K9.s_init) f cdv A outer s H E)) :
    CSx K (top P w K mg base ["self", "entries"] "Form.__init__" (defScope K9.s_init) f cdv A outer s H E) C "own_entries" (defBody K9.s_init) (tstAnd (tstNot (tstE (eIsT (eVar 1)))) (tstNot (tstE (eCall sd_are_entries (aCons (eVar 1) aNil))))) (eIf (tstE (eIsT (eVar 1))) eBad (eVar 1)) :=
  init_mk m (ct_w (cw_and (ct_not (ct_val (c_isT m T.isinstance T.Told T.kitT (cv 1)))) (cw_and1 (ct_not (ct_val (c_call m h_are (by decide) (ca_cons (cv 1) (ca_nil)))))))) (c_if (ct_val (c_isT m T.isinstance T.Told T.kitT (cv 1))) (c_bad m (cv 1)) (cv 1))
theorem init_ok {f : Addr} {fd : FuncData} (T : Tp K mg base C) (h_are : Ca P w K mg base 4 "are_entries" (spP K C sd_are_entries)) (Fd : L2.Fun K "__init__" "Form.__init__" K9.s_init f fd) (S : C8.scC ["self", "entries"] ["self", "entries"] (defScope K9.s_init) = true) : FnOk P w K mg base L2.CX0 5 f fd ["self", "entries"] (spI K C) := by
  have S' := C8.fnScope_by S
  refine Fd.ok S' (fun vs H Q E q => ?_) fun cdv A outer s H vs Q E hr q => ?_
  · obtain ⟨hid, x, dx, t, es, rfl, _⟩ := q
    rfl
  · obtain ⟨hid, x, dx, t, es, rfl, hne, hx, hdx, ht, tb, lv, hl, ok, fin⟩ := q
    obtain ⟨tc, tv, pt, s1, s2⟩ := init_cs T h_are f cdv A outer s H E (fm_top S'.nd hr)
    refine ⟨_, pt (), ?_⟩
    have hs : Hs K C hid none [] H := ⟨tb, lv, (fun _ z => nomatch z), (fun _ z => nomatch z)⟩
    have c0 : Ctx K C hid none none [none, some (tI es)] [] (start ["self", "entries"] [V.ref x, V.ref t]) H := by
      refine ⟨hs, rfl, fun i d h => ?_, (fun _ z => nomatch z), fun _ => rfl⟩
      match i, h with
      | 0, h => cases h
      | 1, h =>
        cases h
        exact ⟨.ref t, rfl, .tup ht (RepL.of_ints es)⟩
    show tc _ H _
    refine s1 hid none _ [] _ H (fun b _ => b = false) _ c0 ?_ fun b B1 H1 e1 st1 h1 => ?_
    · simp [eIsT, sd_are_entries, rho, Ty, dSeq, dRet, dAsg, dAsg2, dPar, dIf, dNext, dNever, dDrop, dSetB, dAugB, dBox, dFor, nSeq, eVar, eC, eOp, eUn, oI, oI0, oU, eAndV, eOrV, eNotV, eIf, eChain, tstE, tstAnd, tstOr, tstNot, tstYes, eIsi, eIsF, isInt, isBool, isTup, isStr, tyD, eTup, aNil, aCons, aStar, eCall, eCallB, lCallN, eOfL, lDisp, lList, lRep, lSl, eSlT, pNone, pSome, oLen, lenD, oTuple, oIxT, oIxL, oIxC, eIxB, eTupB, oAbs, oInt, intD, oRepr, oEqI, oNeI, oEqS, oNeS, eProp, eNext, iTupD, iLstD, iRngD, iEnmL, iEnmT, iZipD, lLc, wipeD, setD, tI, lI]
      exact ⟨es, rfl, hl, by rw [ok]⟩
    · subst e1
      rw [if_neg Bool.false_ne_true]
      show tv _ H1 _
      refine s2 hid none _ B1 _ H1 (fun d _ => d = tI es) _ (c0.step st1 h1) ?_ fun d B2 v H2 e2 st2 h2 r2 => ?_
      · simp [eIsT, eBad, rho, Ty, dSeq, dRet, dAsg, dAsg2, dPar, dIf, dNext, dNever, dDrop, dSetB, dAugB, dBox, dFor, nSeq, eVar, eC, eOp, eUn, oI, oI0, oU, eAndV, eOrV, eNotV, eIf, eChain, tstE, tstAnd, tstOr, tstNot, tstYes, eIsi, eIsF, isInt, isBool, isTup, isStr, tyD, eTup, aNil, aCons, aStar, eCall, eCallB, lCallN, eOfL, lDisp, lList, lRep, lSl, eSlT, pNone, pSome, oLen, lenD, oTuple, oIxT, oIxL, oIxC, eIxB, eTupB, oAbs, oInt, intD, oRepr, oEqI, oNeI, oEqS, oNeS, eProp, eNext, iTupD, iLstD, iRngD, iEnmL, iEnmT, iZipD, lLc, wipeD, setD, tI, lI]
      · subst e2
        have st := st1.trans st2
        have ex : H2 x = some (.ins C.cF dx []) := (st x _ hx fun z => nomatch z).1 rfl
        obtain ⟨p, sl⟩ := T.slot
        cases r2 with
        | @tup t1 us _ hp rl =>
          have eu := rl.ints
          subst eu
          exact ⟨.ref x, rfl, x, C.cF, dx, p, [], 0, rfl, .inl ⟨ex, rfl⟩, T.scl, sl, fin H2 t1 st h2.tabs hp⟩
/-- a getter by its body -/
theorem get_ok {qual x : Str} {st : Stmt} {f : Addr} {fd : FuncData} {r : DS} (Fd : L2.Fun K x qual st f fd) (S : C8.scC ["self"] ["self"] (defScope st) = true)
    (hb : ∀ (kV doc pm : Value) (an : Option Addr) (cdv ct : Value) (us : List Value), us.length = (["self"] : List Str).length → bindArgs (PySem.W.fnOf x qual (defArgs st) (defBody st) (defScope st) .none kV doc pm an cdv ct) ⟨us, []⟩ = pure ((["self"] : List Str).zip us))
    (hbody : ∀ (cdv : Value) (A : Around) (outer : List PySem.Env) (s : Shared) (H : Hp) (E : XK), Fm P w K mg base k (top P w K mg base ["self"] qual (defScope st) f cdv A outer s H E) → CSs K (top P w K mg base ["self"] qual (defScope st) f cdv A outer s H E) C none (defBody st) r)
    (hD : ∀ ds QD, sd ds QD → ds.length = 1 ∧ r { nx := fun _ _ => QD .non, rt := fun v _ => QD v } (rho ["self"] ds) []) : FnR P w K mg base L2.CX0 (k + 1) f (spP K C sd) := by
  have S' := C8.fnScope_by S
  have ok : FnOk P w K mg base L2.CX0 (k + 1) f fd ["self"] (spP K C sd) := by
    refine Fd.ok S' (fun vs H Q E q => ?_) fun cdv A outer s H vs Q E hr q => ?_
    · obtain ⟨hid, ds, QD, rl, _, _, h, _⟩ := q
      rw [rl.length]
      exact (hD ds QD h).1
    · obtain ⟨hid, ds, QD, rl, tb, lv, h, hk⟩ := q
      obtain ⟨t, pt, st'⟩ := hbody cdv A outer s H E (fm_top S'.nd hr)
      refine ⟨t, pt (), ?_⟩
      have hs : Hs K C hid none [] H := ⟨tb, lv, (fun _ z => nomatch z), (fun _ z => nomatch z)⟩
      refine st' hid none (rho ["self"] ds) [] (start ["self"] vs) H _ _ ⟨hs, start_len rl, start_get rl, (fun _ z => nomatch z), fun _ => rfl⟩ (hD ds QD h).2 (fun ρ' B' σ' H' q s c => ?_) fun d B' v H' q s h r => ?_
      · exact hk .non .non H' q s c.hs.tabs .non
      · exact hk d v H' q s h.tabs r
  exact (ok.raw (Fd.binds hb) .nil).imp fun vs H Q E q => by rw [List.append_nil]; exact q
theorem entries_ok {f : Addr} {fd : FuncData} (T : Tp K mg base C) (Fd : L2.Fun K "entries" "Form.entries" K9.s_entries f fd) : FnR P w K mg base L2.CX0 1 f (spP K C sd_entries) :=
  get_ok Fd (by decide +kernel) (fun _ _ _ _ _ _ us hl => match us, hl with | [_], _ => rfl) (fun cdv A outer s H E m => s_cons (s_ret (c_slot m T.scl T.slot (cv 0))) s_nil) (r := dSeq (dRet (eSlot (eVar 0))) dNext) (by
    rintro ds QD ⟨es, rfl, q⟩
    exact ⟨rfl, _, rfl, es, rfl, q⟩)
theorem degree_ok {f : Addr} {fd : FuncData} (T : Tp K mg base C) (Fd : L2.Fun K "degree" "Form.degree" K9.s_degree f fd) : FnR P w K mg base L2.CX0 1 f (spP K C sd_degree) :=
  get_ok Fd (by decide +kernel) (fun _ _ _ _ _ _ us hl => match us, hl with | [_], _ => rfl) (fun cdv A outer s H E m => s_cons (s_ret (c_sub (c_len m T.len (c_slot m T.scl T.slot (cv 0))) ci)) s_nil) (r := dSeq (dRet (eOp (oI0 fun i j => .int (i - j)) (eUn oLen (eSlot (eVar 0))) (eC (.int 1)))) dNext) (by
    rintro ds QD ⟨es, rfl, q⟩
    refine ⟨rfl, ?_⟩
    simp [eSlot, rho, Ty, dSeq, dRet, dAsg, dAsg2, dPar, dIf, dNext, dNever, dDrop, dSetB, dAugB, dBox, dFor, nSeq, eVar, eC, eOp, eUn, oI, oI0, oU, eAndV, eOrV, eNotV, eIf, eChain, tstE, tstAnd, tstOr, tstNot, tstYes, eIsi, eIsF, isInt, isBool, isTup, isStr, tyD, eTup, aNil, aCons, aStar, eCall, eCallB, lCallN, eOfL, lDisp, lList, lRep, lSl, eSlT, pNone, pSome, oLen, lenD, oTuple, oIxT, oIxL, oIxC, eIxB, eTupB, oAbs, oInt, intD, oRepr, oEqI, oNeI, oEqS, oNeS, eProp, eNext, iTupD, iLstD, iRngD, iEnmL, iEnmT, iZipD, lLc, wipeD, setD, tI, lI, ex2]
    exact q)
theorem is_zero_ok {f : Addr} {fd : FuncData} (T : Tp K mg base C) (h : Ca P w K mg base 1 "is_zero_in" (spP K C sd_is_zero_in)) (Fd : L2.Fun K "is_zero" "Form.is_zero" K9.s_is_zero f fd) : FnR P w K mg base L2.CX0 2 f (spP K C sd_is_zero) :=
  get_ok Fd (by decide +kernel) (fun _ _ _ _ _ _ us hl => match us, hl with | [_], _ => rfl) (fun cdv A outer s H E m => s_cons (s_ret (c_call m h (by decide) (ca_cons (c_slot m T.scl T.slot (cv 0)) ca_nil))) s_nil) (r := dSeq (dRet (eCall sd_is_zero_in (aCons (eSlot (eVar 0)) aNil))) dNext) (by
    rintro ds QD ⟨es, rfl, q⟩
    exact ⟨rfl, _, rfl, es, rfl, es, rfl, q⟩)
end
end KD
set_option Elab.async false
set_option linter.all false
set_option maxRecDepth 100000
set_option maxHeartbeats 4000000
/-! The end: every def keeps its promise; what they lean on; the law. -/
namespace KD
open PySem PySem.Spec PyProof.Rows L2 Km GxR

section
variable {P : Program} {w : World} {K : PySem.W.Frag} {mg : Str → Option Value} {base : Heap} {C : Cfg}
theorem k_is_whole (T : Tp K mg base C)  (d : Df K mg "is_whole" K9.s_is_whole) : Ca P w K mg base 1 "is_whole" (spP K C sd_is_whole) :=
  ca_of d (by decide +kernel : C8.scC ["value"] ["value"] (defScope K9.s_is_whole) = true) (fun _ _ _ _ _ _ us hl => match us, hl with | [_], _ => rfl) (b_is_whole T) w_is_whole
theorem k_is_short (T : Tp K mg base C) (h_is_whole : Ca P w K mg base 1 "is_whole" (spP K C sd_is_whole)) (d : Df K mg "is_short" K9.s_is_short) : Ca P w K mg base 2 "is_short" (spP K C sd_is_short) :=
  ca_of d (by decide +kernel : C8.scC ["value"] ["value"] (defScope K9.s_is_short) = true) (fun _ _ _ _ _ _ us hl => match us, hl with | [_], _ => rfl) (b_is_short T h_is_whole) w_is_short
theorem k_is_from (T : Tp K mg base C) (h_is_whole : Ca P w K mg base 1 "is_whole" (spP K C sd_is_whole)) (d : Df K mg "is_from" K9.s_is_from) : Ca P w K mg base 2 "is_from" (spP K C sd_is_from) :=
  ca_of d (by decide +kernel : C8.scC ["value", "least", "most"] ["value", "least", "most"] (defScope K9.s_is_from) = true) (fun _ _ _ _ _ _ us hl => match us, hl with | [_, _, _], _ => rfl) (b_is_from T h_is_whole) w_is_from
theorem k_are_wholes (T : Tp K mg base C) (h_is_whole : Ca P w K mg base 1 "is_whole" (spP K C sd_is_whole)) (d : Df K mg "are_wholes" K9.s_are_wholes) : Ca P w K mg base 2 "are_wholes" (spP K C sd_are_wholes) :=
  ca_of d (by decide +kernel : C8.scC ["value", "entry"] ["value"] (defScope K9.s_are_wholes) = true) (fun _ _ _ _ _ _ us hl => match us, hl with | [_], _ => rfl) (b_are_wholes T h_is_whole) w_are_wholes
theorem k_are_short (T : Tp K mg base C) (h_is_short : Ca P w K mg base 2 "is_short" (spP K C sd_is_short)) (d : Df K mg "are_short" K9.s_are_short) : Ca P w K mg base 3 "are_short" (spP K C sd_are_short) :=
  ca_of d (by decide +kernel : C8.scC ["value", "entry"] ["value"] (defScope K9.s_are_short) = true) (fun _ _ _ _ _ _ us hl => match us, hl with | [_], _ => rfl) (b_are_short T h_is_short) w_are_short
theorem k_shared_of (T : Tp K mg base C)  (d : Df K mg "shared_of" K9.s_shared_of) : Ca P w K mg base 1 "shared_of" (spP K C sd_shared_of) :=
  ca_of d (by decide +kernel : C8.scC ["numbers", "found", "number"] ["numbers"] (defScope K9.s_shared_of) = true) (fun _ _ _ _ _ _ us hl => match us, hl with | [_], _ => rfl) (b_shared_of T) w_shared_of
theorem k_first_of (T : Tp K mg base C)  (d : Df K mg "first_of" K9.s_first_of) : Ca P w K mg base 1 "first_of" (spP K C sd_first_of) :=
  ca_of d (by decide +kernel : C8.scC ["numbers"] ["numbers"] (defScope K9.s_first_of) = true) (fun _ _ _ _ _ _ us hl => match us, hl with | [_], _ => rfl) (b_first_of T) w_first_of
theorem k_lots_of (T : Tp K mg base C)  (d : Df K mg "lots_of" K9.s_lots_of) : Ca P w K mg base 1 "lots_of" (spP K C sd_lots_of) :=
  ca_of d (by decide +kernel : C8.scC ["many", "few", "found", "at"] ["many", "few"] (defScope K9.s_lots_of) = true) (fun _ _ _ _ _ _ us hl => match us, hl with | [_, _], _ => rfl) (b_lots_of T) w_lots_of
theorem k_is_point_any (T : Tp K mg base C) (h_are_wholes : Ca P w K mg base 2 "are_wholes" (spP K C sd_are_wholes)) (h_first_of : Ca P w K mg base 1 "first_of" (spP K C sd_first_of)) (d : Df K mg "is_point_any" K9.s_is_point_any) : Ca P w K mg base 3 "is_point_any" (spP K C sd_is_point_any) :=
  ca_of d (by decide +kernel : C8.scC ["value"] ["value"] (defScope K9.s_is_point_any) = true) (fun _ _ _ _ _ _ us hl => match us, hl with | [_], _ => rfl) (b_is_point_any T h_are_wholes h_first_of) w_is_point_any
theorem k_joined_entries (T : Tp K mg base C)  (d : Df K mg "joined_entries" K9.s_joined_entries) : Ca P w K mg base 1 "joined_entries" (spP K C sd_joined_entries) :=
  ca_of d (by decide +kernel : C8.scC ["one", "other", "found", "place", "at"] ["one", "other"] (defScope K9.s_joined_entries) = true) (fun _ _ _ _ _ _ us hl => match us, hl with | [_, _], _ => rfl) (b_joined_entries T) w_joined_entries
theorem k_product_in (T : Tp K mg base C) (h_joined_entries : Ca P w K mg base 1 "joined_entries" (spP K C sd_joined_entries)) (d : Df K mg "product_in" K9.s_product_in) : Ca P w K mg base 2 "product_in" (spP K C sd_product_in) :=
  ca_of d (by decide +kernel : C8.scC ["one", "other"] ["one", "other"] (defScope K9.s_product_in) = true) (fun _ _ _ _ _ _ us hl => match us, hl with | [_, _], _ => rfl) (b_product_in T h_joined_entries) w_product_in
theorem k_power_in (T : Tp K mg base C) (h_product_in : Ca P w K mg base 2 "product_in" (spP K C sd_product_in)) (d : Df K mg "power_in" K9.s_power_in) : Ca P w K mg base 3 "power_in" (spP K C sd_power_in) :=
  ca_of d (by decide +kernel : C8.scC ["pair", "degree", "found", "turn"] ["pair", "degree"] (defScope K9.s_power_in) = true) (fun _ _ _ _ _ _ us hl => match us, hl with | [_, _], _ => rfl) (b_power_in T h_product_in) w_power_in
theorem k_line_in (T : Tp K mg base C)  (d : Df K mg "line_in" K9.s_line_in) : Ca P w K mg base 1 "line_in" (spP K C sd_line_in) :=
  ca_of d (by decide +kernel : C8.scC ["point"] ["point"] (defScope K9.s_line_in) = true) (fun _ _ _ _ _ _ us hl => match us, hl with | [_], _ => rfl) (b_line_in T) w_line_in
theorem k_is_zero_in (T : Tp K mg base C)  (d : Df K mg "is_zero_in" K9.s_is_zero_in) : Ca P w K mg base 1 "is_zero_in" (spP K C sd_is_zero_in) :=
  ca_of d (by decide +kernel : C8.scC ["entries"] ["entries"] (defScope K9.s_is_zero_in) = true) (fun _ _ _ _ _ _ us hl => match us, hl with | [_], _ => rfl) (b_is_zero_in T) w_is_zero_in
theorem k_first_index (T : Tp K mg base C)  (d : Df K mg "first_index" K9.s_first_index) : Ca P w K mg base 1 "first_index" (spP K C sd_first_index) :=
  ca_of d (by decide +kernel : C8.scC ["entries"] ["entries"] (defScope K9.s_first_index) = true) (fun _ _ _ _ _ _ us hl => match us, hl with | [_], _ => rfl) (b_first_index T) w_first_index
theorem k_are_entries (T : Tp K mg base C) (h_are_short : Ca P w K mg base 3 "are_short" (spP K C sd_are_short)) (d : Df K mg "are_entries" K9.s_are_entries) : Ca P w K mg base 4 "are_entries" (spP K C sd_are_entries) :=
  ca_of d (by decide +kernel : C8.scC ["value"] ["value"] (defScope K9.s_are_entries) = true) (fun _ _ _ _ _ _ us hl => match us, hl with | [_], _ => rfl) (b_are_entries T h_are_short) w_are_entries
theorem k_require_form (T : Tp K mg base C) (h_Form : Mk1 P w K mg base C 5) (d : Df K mg "require_form" K9.s_require_form) : Ca P w K mg base 7 "require_form" (spP K C sd_require_form) :=
  ca_of d (by decide +kernel : C8.scC ["value"] ["value"] (defScope K9.s_require_form) = true) (fun _ _ _ _ _ _ us hl => match us, hl with | [_], _ => rfl) (b_require_form T h_Form) w_require_form
theorem k_laying_slope (T : Tp K mg base C)  (d : Df K mg "laying_slope" K9.s_laying_slope) : Ca P w K mg base 1 "laying_slope" (spP K C sd_laying_slope) :=
  ca_of d (by decide +kernel : C8.scC ["entries", "by_y", "at", "entry"] ["entries", "by_y"] (defScope K9.s_laying_slope) = true) (fun _ _ _ _ _ _ us hl => match us, hl with | [_, _], _ => rfl) (b_laying_slope T) w_laying_slope
theorem k_laying_slopes (T : Tp K mg base C) (h_laying_slope : Ca P w K mg base 1 "laying_slope" (spP K C sd_laying_slope)) (d : Df K mg "laying_slopes" K9.s_laying_slopes) : Ca P w K mg base 2 "laying_slopes" (spP K C sd_laying_slopes) :=
  ca_of d (by decide +kernel : C8.scC ["entries", "times", "found", "turn", "one"] ["entries", "times"] (defScope K9.s_laying_slopes) = true) (fun _ _ _ _ _ _ us hl => match us, hl with | [_, _], _ => rfl) (b_laying_slopes T h_laying_slope) w_laying_slopes
theorem k_add_product (T : Tp K mg base C)  (d : Df K mg "add_product" K9.s_add_product) : Ca P w K mg base 1 "add_product" (spB K C sd_add_product) :=
  ca_ofB d (by decide +kernel : C8.scC ["found", "one", "other", "factor", "at", "first", "place", "second"] ["found", "one", "other", "factor"] (defScope K9.s_add_product) = true) (fun _ _ _ _ _ _ us hl => match us, hl with | [_, _, _, _], _ => rfl) (b_add_product T) w_add_product
theorem k_laid_in (T : Tp K mg base C) (h_laying_slopes : Ca P w K mg base 2 "laying_slopes" (spP K C sd_laying_slopes)) (h_add_product : Ca P w K mg base 1 "add_product" (spB K C sd_add_product)) (h_lots_of : Ca P w K mg base 1 "lots_of" (spP K C sd_lots_of)) (d : Df K mg "laid_in" K9.s_laid_in) : Ca P w K mg base 3 "laid_in" (spP K C sd_laid_in) :=
  ca_of d (by decide +kernel : C8.scC ["one", "other", "times", "found", "first", "second", "at"] ["one", "other", "times"] (defScope K9.s_laid_in) = true) (fun _ _ _ _ _ _ us hl => match us, hl with | [_, _, _], _ => rfl) (b_laid_in T h_laying_slopes h_add_product h_lots_of) w_laid_in
theorem k_point_of_line (T : Tp K mg base C) (h_shared_of : Ca P w K mg base 1 "shared_of" (spP K C sd_shared_of)) (d : Df K mg "point_of_line" K9.s_point_of_line) : Ca P w K mg base 2 "point_of_line" (spP K C sd_point_of_line) :=
  ca_of d (by decide +kernel : C8.scC ["one", "other", "part", "a", "b"] ["one", "other"] (defScope K9.s_point_of_line) = true) (fun _ _ _ _ _ _ us hl => match us, hl with | [_, _], _ => rfl) (b_point_of_line T h_shared_of) w_point_of_line
theorem k_power_told (T : Tp K mg base C) (h_point_of_line : Ca P w K mg base 2 "point_of_line" (spP K C sd_point_of_line)) (h_power_in : Ca P w K mg base 3 "power_in" (spP K C sd_power_in)) (h_line_in : Ca P w K mg base 1 "line_in" (spP K C sd_line_in)) (h_first_index : Ca P w K mg base 1 "first_index" (spP K C sd_first_index)) (d : Df K mg "power_told" K9.s_power_told) : Ca P w K mg base 4 "power_told" (spP K C sd_power_told) :=
  ca_of d (by decide +kernel : C8.scC ["entries", "degree", "first", "point", "line", "at"] ["entries"] (defScope K9.s_power_told) = true) (fun _ _ _ _ _ _ us hl => match us, hl with | [_], _ => rfl) (b_power_told T h_point_of_line h_power_in h_line_in h_first_index) w_power_told
theorem k_is_power_in (T : Tp K mg base C) (h_is_zero_in : Ca P w K mg base 1 "is_zero_in" (spP K C sd_is_zero_in)) (h_laid_in : Ca P w K mg base 3 "laid_in" (spP K C sd_laid_in)) (d : Df K mg "is_power_in" K9.s_is_power_in) : Ca P w K mg base 4 "is_power_in" (spP K C sd_is_power_in) :=
  ca_of d (by decide +kernel : C8.scC ["entries"] ["entries"] (defScope K9.s_is_power_in) = true) (fun _ _ _ _ _ _ us hl => match us, hl with | [_], _ => rfl) (b_is_power_in T h_is_zero_in h_laid_in) w_is_power_in
theorem k_entry_paper (T : Tp K mg base C) (h_laid_in : Ca P w K mg base 3 "laid_in" (spP K C sd_laid_in)) (h_first_index : Ca P w K mg base 1 "first_index" (spP K C sd_first_index)) (d : Df K mg "entry_paper" K9.s_entry_paper) : Ca P w K mg base 4 "entry_paper" (spP K C sd_entry_paper) :=
  ca_of d (by decide +kernel : C8.scC ["entries", "times", "told", "at"] ["entries", "times"] (defScope K9.s_entry_paper) = true) (fun _ _ _ _ _ _ us hl => match us, hl with | [_, _], _ => rfl) (b_entry_paper T h_laid_in h_first_index) w_entry_paper
theorem k_times_power (T : Tp K mg base C) (h_power_in : Ca P w K mg base 3 "power_in" (spP K C sd_power_in)) (h_line_in : Ca P w K mg base 1 "line_in" (spP K C sd_line_in)) (d : Df K mg "times_power" K9.s_times_power) : Ca P w K mg base 4 "times_power" (spP K C sd_times_power) :=
  ca_of d (by decide +kernel : C8.scC ["number", "point", "degree", "entry"] ["number", "point", "degree"] (defScope K9.s_times_power) = true) (fun _ _ _ _ _ _ us hl => match us, hl with | [_, _, _], _ => rfl) (b_times_power T h_power_in h_line_in) w_times_power
theorem k_is_entry_of (T : Tp K mg base C) (h_laid_in : Ca P w K mg base 3 "laid_in" (spP K C sd_laid_in)) (h_is_from : Ca P w K mg base 2 "is_from" (spP K C sd_is_from)) (h_is_whole : Ca P w K mg base 1 "is_whole" (spP K C sd_is_whole)) (d : Df K mg "is_entry_of" K9.s_is_entry_of) : Ca P w K mg base 4 "is_entry_of" (spP K C sd_is_entry_of) :=
  ca_of d (by decide +kernel : C8.scC ["entries", "times", "value", "index", "entry", "told"] ["entries", "times", "value"] (defScope K9.s_is_entry_of) = true) (fun _ _ _ _ _ _ us hl => match us, hl with | [_, _, _], _ => rfl) (b_is_entry_of T h_laid_in h_is_from h_is_whole) w_is_entry_of
theorem k_paper_word (T : Tp K mg base C)  (d : Df K mg "paper_word" K9.s_paper_word) : Ca P w K mg base 1 "paper_word" (spP K C sd_paper_word) :=
  ca_of d (by decide +kernel : C8.scC ["value"] ["value"] (defScope K9.s_paper_word) = true) (fun _ _ _ _ _ _ us hl => match us, hl with | [_], _ => rfl) (b_paper_word T) w_paper_word
theorem k_power_paper (T : Tp K mg base C) (h_require_form : Ca P w K mg base 7 "require_form" (spP K C sd_require_form)) (h_is_power_in : Ca P w K mg base 4 "is_power_in" (spP K C sd_is_power_in)) (h_entry_paper : Ca P w K mg base 4 "entry_paper" (spP K C sd_entry_paper)) (h_power_told : Ca P w K mg base 4 "power_told" (spP K C sd_power_told)) (h_entries : Pr1 P w K mg base C 1 "entries" sd_entries) (h_degree : Pr1 P w K mg base C 1 "degree" sd_degree) (h_is_zero : Pr1 P w K mg base C 2 "is_zero" sd_is_zero) (d : Df K mg "power_paper" K9.s_power_paper) : Ca P w K mg base 8 "power_paper" (spP K C sd_power_paper) :=
  ca_of d (by decide +kernel : C8.scC ["form", "entries"] ["form"] (defScope K9.s_power_paper) = true) (fun _ _ _ _ _ _ us hl => match us, hl with | [_], _ => rfl) (b_power_paper T h_require_form h_is_power_in h_entry_paper h_power_told h_entries h_degree h_is_zero) w_power_paper
theorem k_is_told_power (T : Tp K mg base C) (h_is_whole : Ca P w K mg base 1 "is_whole" (spP K C sd_is_whole)) (h_is_point_any : Ca P w K mg base 3 "is_point_any" (spP K C sd_is_point_any)) (h_times_power : Ca P w K mg base 4 "times_power" (spP K C sd_times_power)) (d : Df K mg "is_told_power" K9.s_is_told_power) : Ca P w K mg base 5 "is_told_power" (spP K C sd_is_told_power) :=
  ca_of d (by decide +kernel : C8.scC ["entries", "value"] ["entries", "value"] (defScope K9.s_is_told_power) = true) (fun _ _ _ _ _ _ us hl => match us, hl with | [_, _], _ => rfl) (b_is_told_power T h_is_whole h_is_point_any h_times_power) w_is_told_power
theorem k_is_power_paper (T : Tp K mg base C) (h_require_form : Ca P w K mg base 7 "require_form" (spP K C sd_require_form)) (h_paper_word : Ca P w K mg base 1 "paper_word" (spP K C sd_paper_word)) (h_is_told_power : Ca P w K mg base 5 "is_told_power" (spP K C sd_is_told_power)) (h_is_entry_of : Ca P w K mg base 4 "is_entry_of" (spP K C sd_is_entry_of)) (h_entries : Pr1 P w K mg base C 1 "entries" sd_entries) (h_degree : Pr1 P w K mg base C 1 "degree" sd_degree) (d : Df K mg "is_power_paper" K9.s_is_power_paper) : Ca P w K mg base 8 "is_power_paper" (spP K C sd_is_power_paper) :=
  ca_of d (by decide +kernel : C8.scC ["form", "value", "word"] ["form", "value"] (defScope K9.s_is_power_paper) = true) (fun _ _ _ _ _ _ us hl => match us, hl with | [_, _], _ => rfl) (b_is_power_paper T h_require_form h_paper_word h_is_told_power h_is_entry_of h_entries h_degree) w_is_power_paper
theorem k__law_dice (T : Tp K mg base C)  (d : Df K mg "_law_dice" K9.s__law_dice) : Ca P w K mg base 1 "_law_dice" (spN K C sd__law_dice) :=
  ca_ofN d (by decide +kernel : C8.scC ["_law_script", "_law_spot", "_law_cell", "_law_left"] ["_law_script", "_law_spot"] (defScope K9.s__law_dice) = true) (fun _ _ _ _ _ _ us hl => match us, hl with | [_, _], _ => rfl) (b__law_dice T) w__law_dice
theorem k__law_roll (T : Tp K mg base C)  (d : Df K mg "_law_roll" K9.s__law_roll) : Ca P w K mg base 1 "_law_roll" (spB K C sd__law_roll) :=
  ca_ofB d (by decide +kernel : C8.scC ["_law_dice_here", "_law_total", "_law_found", "_law_one", "_law_two"] ["_law_dice_here", "_law_total"] (defScope K9.s__law_roll) = true) (fun _ _ _ _ _ _ us hl => match us, hl with | [_, _], _ => rfl) (b__law_roll T) w__law_roll
theorem k__law_pick (T : Tp K mg base C) (h__law_roll : Ca P w K mg base 1 "_law_roll" (spB K C sd__law_roll)) (d : Df K mg "_law_pick" K9.s__law_pick) : Ca P w K mg base 2 "_law_pick" (spB K C sd__law_pick) :=
  ca_ofB d (by decide +kernel : C8.scC ["_law_dice_here", "_law_items"] ["_law_dice_here", "_law_items"] (defScope K9.s__law_pick) = true) (fun _ _ _ _ _ _ us hl => match us, hl with | [_, _], _ => rfl) (b__law_pick T h__law_roll) w__law_pick
theorem k__law_near (T : Tp K mg base C) (h__law_roll : Ca P w K mg base 1 "_law_roll" (spB K C sd__law_roll)) (d : Df K mg "_law_near" K9.s__law_near) : Ca P w K mg base 2 "_law_near" (spB K C sd__law_near) :=
  ca_ofB d (by decide +kernel : C8.scC ["_law_dice_here", "_law_most"] ["_law_dice_here", "_law_most"] (defScope K9.s__law_near) = true) (fun _ _ _ _ _ _ us hl => match us, hl with | [_, _], _ => rfl) (b__law_near T h__law_roll) w__law_near
theorem k__law_gcd (T : Tp K mg base C)  (d : Df K mg "_law_gcd" K9.s__law_gcd) : Ca P w K mg base 1 "_law_gcd" (spP K C sd__law_gcd) :=
  ca_of d (by decide +kernel : C8.scC ["_law_one", "_law_other"] ["_law_one", "_law_other"] (defScope K9.s__law_gcd) = true) (fun _ _ _ _ _ _ us hl => match us, hl with | [_, _], _ => rfl) (b__law_gcd T) w__law_gcd
theorem k__law_shared (T : Tp K mg base C) (h__law_gcd : Ca P w K mg base 1 "_law_gcd" (spP K C sd__law_gcd)) (d : Df K mg "_law_shared" K9.s__law_shared) : Ca P w K mg base 2 "_law_shared" (spP K C sd__law_shared) :=
  ca_of d (by decide +kernel : C8.scC ["_law_numbers", "_law_found", "_law_number"] ["_law_numbers"] (defScope K9.s__law_shared) = true) (fun _ _ _ _ _ _ us hl => match us, hl with | [_], _ => rfl) (b__law_shared T h__law_gcd) w__law_shared
theorem k__law_choose (T : Tp K mg base C)  (d : Df K mg "_law_choose" K9.s__law_choose) : Ca P w K mg base 1 "_law_choose" (spP K C sd__law_choose) :=
  ca_of d (by decide +kernel : C8.scC ["_law_many", "_law_few", "_law_found", "_law_at"] ["_law_many", "_law_few"] (defScope K9.s__law_choose) = true) (fun _ _ _ _ _ _ us hl => match us, hl with | [_, _], _ => rfl) (b__law_choose T) w__law_choose
theorem k__law_plus (T : Tp K mg base C)  (d : Df K mg "_law_plus" K9.s__law_plus) : Ca P w K mg base 1 "_law_plus" (spP K C sd__law_plus) :=
  ca_of d (by decide +kernel : C8.scC ["_law_one", "_law_other", "_law_first", "_law_second"] ["_law_one", "_law_other"] (defScope K9.s__law_plus) = true) (fun _ _ _ _ _ _ us hl => match us, hl with | [_, _], _ => rfl) (b__law_plus T) w__law_plus
theorem k__law_scaled (T : Tp K mg base C)  (d : Df K mg "_law_scaled" K9.s__law_scaled) : Ca P w K mg base 1 "_law_scaled" (spP K C sd__law_scaled) :=
  ca_of d (by decide +kernel : C8.scC ["_law_form_here", "_law_factor", "_law_entry"] ["_law_form_here", "_law_factor"] (defScope K9.s__law_scaled) = true) (fun _ _ _ _ _ _ us hl => match us, hl with | [_, _], _ => rfl) (b__law_scaled T) w__law_scaled
theorem k__law_product (T : Tp K mg base C)  (d : Df K mg "_law_product" K9.s__law_product) : Ca P w K mg base 1 "_law_product" (spP K C sd__law_product) :=
  ca_of d (by decide +kernel : C8.scC ["_law_one", "_law_other", "_law_found", "_law_place", "_law_at", "_law_first", "_law_second"] ["_law_one", "_law_other"] (defScope K9.s__law_product) = true) (fun _ _ _ _ _ _ us hl => match us, hl with | [_, _], _ => rfl) (b__law_product T) w__law_product
theorem k__law_all_product (T : Tp K mg base C) (h__law_product : Ca P w K mg base 1 "_law_product" (spP K C sd__law_product)) (d : Df K mg "_law_all_product" K9.s__law_all_product) : Ca P w K mg base 2 "_law_all_product" (spP K C sd__law_all_product) :=
  ca_of d (by decide +kernel : C8.scC ["_law_forms", "_law_found", "_law_form_here"] ["_law_forms"] (defScope K9.s__law_all_product) = true) (fun _ _ _ _ _ _ us hl => match us, hl with | [_], _ => rfl) (b__law_all_product T h__law_product) w__law_all_product
theorem k__law_power (T : Tp K mg base C) (h__law_product : Ca P w K mg base 1 "_law_product" (spP K C sd__law_product)) (d : Df K mg "_law_power" K9.s__law_power) : Ca P w K mg base 2 "_law_power" (spP K C sd__law_power) :=
  ca_of d (by decide +kernel : C8.scC ["_law_pair", "_law_times", "_law_found", "_law_turn"] ["_law_pair", "_law_times"] (defScope K9.s__law_power) = true) (fun _ _ _ _ _ _ us hl => match us, hl with | [_, _], _ => rfl) (b__law_power T h__law_product) w__law_power
theorem k__law_by_x (T : Tp K mg base C)  (d : Df K mg "_law_by_x" K9.s__law_by_x) : Ca P w K mg base 1 "_law_by_x" (spP K C sd__law_by_x) :=
  ca_of d (by decide +kernel : C8.scC ["_law_form_here", "_law_at", "_law_entry"] ["_law_form_here"] (defScope K9.s__law_by_x) = true) (fun _ _ _ _ _ _ us hl => match us, hl with | [_], _ => rfl) (b__law_by_x T) w__law_by_x
theorem k__law_by_y (T : Tp K mg base C)  (d : Df K mg "_law_by_y" K9.s__law_by_y) : Ca P w K mg base 1 "_law_by_y" (spP K C sd__law_by_y) :=
  ca_of d (by decide +kernel : C8.scC ["_law_form_here", "_law_at", "_law_entry"] ["_law_form_here"] (defScope K9.s__law_by_y) = true) (fun _ _ _ _ _ _ us hl => match us, hl with | [_], _ => rfl) (b__law_by_y T) w__law_by_y
theorem k__law_derived (T : Tp K mg base C) (h__law_by_x : Ca P w K mg base 1 "_law_by_x" (spP K C sd__law_by_x)) (h__law_by_y : Ca P w K mg base 1 "_law_by_y" (spP K C sd__law_by_y)) (d : Df K mg "_law_derived" K9.s__law_derived) : Ca P w K mg base 2 "_law_derived" (spP K C sd__law_derived) :=
  ca_of d (by decide +kernel : C8.scC ["_law_form_here", "_law_one", "_law_other", "_law_turn"] ["_law_form_here", "_law_one", "_law_other"] (defScope K9.s__law_derived) = true) (fun _ _ _ _ _ _ us hl => match us, hl with | [_, _, _], _ => rfl) (b__law_derived T h__law_by_x h__law_by_y) w__law_derived
theorem k__law_laid (T : Tp K mg base C) (h__law_product : Ca P w K mg base 1 "_law_product" (spP K C sd__law_product)) (h__law_derived : Ca P w K mg base 2 "_law_derived" (spP K C sd__law_derived)) (h__law_choose : Ca P w K mg base 1 "_law_choose" (spP K C sd__law_choose)) (h__law_plus : Ca P w K mg base 1 "_law_plus" (spP K C sd__law_plus)) (h__law_scaled : Ca P w K mg base 1 "_law_scaled" (spP K C sd__law_scaled)) (d : Df K mg "_law_laid" K9.s__law_laid) : Ca P w K mg base 3 "_law_laid" (spP K C sd__law_laid) :=
  ca_of d (by decide +kernel : C8.scC ["_law_one", "_law_other", "_law_times", "_law_found", "_law_place", "_law_at", "_law_piece", "_law_number"] ["_law_one", "_law_other", "_law_times"] (defScope K9.s__law_laid) = true) (fun _ _ _ _ _ _ us hl => match us, hl with | [_, _, _], _ => rfl) (b__law_laid T h__law_product h__law_derived h__law_choose h__law_plus h__law_scaled) w__law_laid
theorem k__law_plain (T : Tp K mg base C) (h__law_shared : Ca P w K mg base 2 "_law_shared" (spP K C sd__law_shared)) (d : Df K mg "_law_plain" K9.s__law_plain) : Ca P w K mg base 3 "_law_plain" (spP K C sd__law_plain) :=
  ca_of d (by decide +kernel : C8.scC ["_law_form_here", "_law_part", "_law_first", "_law_entry"] ["_law_form_here"] (defScope K9.s__law_plain) = true) (fun _ _ _ _ _ _ us hl => match us, hl with | [_], _ => rfl) (b__law_plain T h__law_shared) w__law_plain
theorem k__law_line (T : Tp K mg base C)  (d : Df K mg "_law_line" K9.s__law_line) : Ca P w K mg base 1 "_law_line" (spP K C sd__law_line) :=
  ca_of d (by decide +kernel : C8.scC ["_law_point_here"] ["_law_point_here"] (defScope K9.s__law_line) = true) (fun _ _ _ _ _ _ us hl => match us, hl with | [_], _ => rfl) (b__law_line T) w__law_line
theorem k__law_point (T : Tp K mg base C) (h__law_near : Ca P w K mg base 2 "_law_near" (spB K C sd__law_near)) (h__law_plain : Ca P w K mg base 3 "_law_plain" (spP K C sd__law_plain)) (d : Df K mg "_law_point" K9.s__law_point) : Ca P w K mg base 4 "_law_point" (spB K C sd__law_point) :=
  ca_ofB d (by decide +kernel : C8.scC ["_law_dice_here", "_law_most", "_law_one", "_law_other"] ["_law_dice_here", "_law_most"] (defScope K9.s__law_point) = true) (fun _ _ _ _ _ _ us hl => match us, hl with | [_, _], _ => rfl) (b__law_point T h__law_near h__law_plain) w__law_point
theorem k__law_small_form (T : Tp K mg base C) (h__law_near : Ca P w K mg base 2 "_law_near" (spB K C sd__law_near)) (d : Df K mg "_law_small_form" K9.s__law_small_form) : Ca P w K mg base 3 "_law_small_form" (spB K C sd__law_small_form) :=
  ca_ofB d (by decide +kernel : C8.scC ["_law_dice_here", "_law_degree", "_law_most", "_law_place"] ["_law_dice_here", "_law_degree", "_law_most"] (defScope K9.s__law_small_form) = true) (fun _ _ _ _ _ _ us hl => match us, hl with | [_, _, _], _ => rfl) (b__law_small_form T h__law_near) w__law_small_form
theorem k__law_form (T : Tp K mg base C) (h__law_roll : Ca P w K mg base 1 "_law_roll" (spB K C sd__law_roll)) (h__law_all_product : Ca P w K mg base 2 "_law_all_product" (spP K C sd__law_all_product)) (h__law_line : Ca P w K mg base 1 "_law_line" (spP K C sd__law_line)) (h__law_point : Ca P w K mg base 4 "_law_point" (spB K C sd__law_point)) (h__law_product : Ca P w K mg base 1 "_law_product" (spP K C sd__law_product)) (h__law_small_form : Ca P w K mg base 3 "_law_small_form" (spB K C sd__law_small_form)) (h__law_power : Ca P w K mg base 2 "_law_power" (spP K C sd__law_power)) (h__law_plus : Ca P w K mg base 1 "_law_plus" (spP K C sd__law_plus)) (h__law_scaled : Ca P w K mg base 1 "_law_scaled" (spP K C sd__law_scaled)) (h__law_near : Ca P w K mg base 2 "_law_near" (spB K C sd__law_near)) (d : Df K mg "_law_form" K9.s__law_form) : Ca P w K mg base 5 "_law_form" (spB K C sd__law_form) :=
  ca_ofB d (by decide +kernel : C8.scC ["_law_dice_here", "_law_degree", "_law_way", "_law_turn", "_law_line_here", "_law_often", "_law_found", "_law_place"] ["_law_dice_here", "_law_degree"] (defScope K9.s__law_form) = true) (fun _ _ _ _ _ _ us hl => match us, hl with | [_, _], _ => rfl) (b__law_form T h__law_roll h__law_all_product h__law_line h__law_point h__law_product h__law_small_form h__law_power h__law_plus h__law_scaled h__law_near) w__law_form
theorem k__law_is_whole (T : Tp K mg base C)  (d : Df K mg "_law_is_whole" K9.s__law_is_whole) : Ca P w K mg base 1 "_law_is_whole" (spP K C sd__law_is_whole) :=
  ca_of d (by decide +kernel : C8.scC ["_law_value"] ["_law_value"] (defScope K9.s__law_is_whole) = true) (fun _ _ _ _ _ _ us hl => match us, hl with | [_], _ => rfl) (b__law_is_whole T) w__law_is_whole
theorem k__law_is_point (T : Tp K mg base C) (h__law_is_whole : Ca P w K mg base 1 "_law_is_whole" (spP K C sd__law_is_whole)) (h__law_gcd : Ca P w K mg base 1 "_law_gcd" (spP K C sd__law_gcd)) (h__law_plain : Ca P w K mg base 3 "_law_plain" (spP K C sd__law_plain)) (d : Df K mg "_law_is_point" K9.s__law_is_point) : Ca P w K mg base 4 "_law_is_point" (spP K C sd__law_is_point) :=
  ca_of d (by decide +kernel : C8.scC ["_law_value"] ["_law_value"] (defScope K9.s__law_is_point) = true) (fun _ _ _ _ _ _ us hl => match us, hl with | [_], _ => rfl) (b__law_is_point T h__law_is_whole h__law_gcd h__law_plain) w__law_is_point
theorem k__law_is_right (T : Tp K mg base C) (h__law_is_whole : Ca P w K mg base 1 "_law_is_whole" (spP K C sd__law_is_whole)) (h__law_is_point : Ca P w K mg base 4 "_law_is_point" (spP K C sd__law_is_point)) (h__law_scaled : Ca P w K mg base 1 "_law_scaled" (spP K C sd__law_scaled)) (h__law_power : Ca P w K mg base 2 "_law_power" (spP K C sd__law_power)) (h__law_line : Ca P w K mg base 1 "_law_line" (spP K C sd__law_line)) (h__law_laid : Ca P w K mg base 3 "_law_laid" (spP K C sd__law_laid)) (d : Df K mg "_law_is_right" K9.s__law_is_right) : Ca P w K mg base 5 "_law_is_right" (spP K C sd__law_is_right) :=
  ca_of d (by decide +kernel : C8.scC ["_law_entries", "_law_value", "_law_degree", "_law_hesse"] ["_law_entries", "_law_value"] (defScope K9.s__law_is_right) = true) (fun _ _ _ _ _ _ us hl => match us, hl with | [_, _], _ => rfl) (b__law_is_right T h__law_is_whole h__law_is_point h__law_scaled h__law_power h__law_line h__law_laid) w__law_is_right
theorem k__law_near_values (T : Tp K mg base C) (h__law_point : Ca P w K mg base 4 "_law_point" (spB K C sd__law_point)) (d : Df K mg "_law_near_values" K9.s__law_near_values) : Ca P w K mg base 5 "_law_near_values" (spB K C sd__law_near_values) :=
  ca_ofB d (by decide +kernel : C8.scC ["_law_dice_here", "_law_paper", "_law_point_here", "_law_found", "_law_one", "_law_other"] ["_law_dice_here", "_law_paper"] (defScope K9.s__law_near_values) = true) (fun _ _ _ _ _ _ us hl => match us, hl with | [_, _], _ => rfl) (b__law_near_values T h__law_point) w__law_near_values
theorem k__law_right (T : Tp K mg base C) (h_power_paper : Ca P w K mg base 8 "power_paper" (spP K C sd_power_paper)) (h__law_shared : Ca P w K mg base 2 "_law_shared" (spP K C sd__law_shared)) (h__law_laid : Ca P w K mg base 3 "_law_laid" (spP K C sd__law_laid)) (h__law_is_right : Ca P w K mg base 5 "_law_is_right" (spP K C sd__law_is_right)) (h__law_near_values : Ca P w K mg base 5 "_law_near_values" (spB K C sd__law_near_values)) (h_is_power_paper : Ca P w K mg base 8 "is_power_paper" (spP K C sd_is_power_paper)) (h_Form : Mk1 P w K mg base C 5) (d : Df K mg "_law_right" K9.s__law_right) : Ca P w K mg base 9 "_law_right" (spB K C sd__law_right) :=
  ca_ofB d (by decide +kernel : C8.scC ["_law_dice_here", "_law_entries", "_law_form_here", "_law_degree", "_law_paper", "_law_is_power", "_law_some", "_law_value"] ["_law_dice_here", "_law_entries"] (defScope K9.s__law_right) = true) (fun _ _ _ _ _ _ us hl => match us, hl with | [_, _], _ => rfl) (b__law_right T h_power_paper h__law_shared h__law_laid h__law_is_right h__law_near_values h_is_power_paper h_Form) w__law_right
theorem k__law_power_form (T : Tp K mg base C) (h__law_pick : Ca P w K mg base 2 "_law_pick" (spB K C sd__law_pick)) (h__law_line : Ca P w K mg base 1 "_law_line" (spP K C sd__law_line)) (h__law_point : Ca P w K mg base 4 "_law_point" (spB K C sd__law_point)) (h__law_scaled : Ca P w K mg base 1 "_law_scaled" (spP K C sd__law_scaled)) (h__law_power : Ca P w K mg base 2 "_law_power" (spP K C sd__law_power)) (h__law_roll : Ca P w K mg base 1 "_law_roll" (spB K C sd__law_roll)) (d : Df K mg "_law_power_form" K9.s__law_power_form) : Ca P w K mg base 5 "_law_power_form" (spB K C sd__law_power_form) :=
  ca_ofB d (by decide +kernel : C8.scC ["_law_dice_here", "_law_line_here", "_law_number"] ["_law_dice_here"] (defScope K9.s__law_power_form) = true) (fun _ _ _ _ _ _ us hl => match us, hl with | [_], _ => rfl) (b__law_power_form T h__law_pick h__law_line h__law_point h__law_scaled h__law_power h__law_roll) w__law_power_form
theorem k_law (T : Tp K mg base C) (h__law_dice : Ca P w K mg base 1 "_law_dice" (spN K C sd__law_dice)) (h__law_right : Ca P w K mg base 9 "_law_right" (spB K C sd__law_right)) (h__law_power_form : Ca P w K mg base 5 "_law_power_form" (spB K C sd__law_power_form)) (h__law_form : Ca P w K mg base 5 "_law_form" (spB K C sd__law_form)) (h__law_roll : Ca P w K mg base 1 "_law_roll" (spB K C sd__law_roll)) (h__law_line : Ca P w K mg base 1 "_law_line" (spP K C sd__law_line)) (h__law_point : Ca P w K mg base 4 "_law_point" (spB K C sd__law_point)) (h__law_product : Ca P w K mg base 1 "_law_product" (spP K C sd__law_product)) (h__law_small_form : Ca P w K mg base 3 "_law_small_form" (spB K C sd__law_small_form)) (h__law_power : Ca P w K mg base 2 "_law_power" (spP K C sd__law_power)) (h_power_paper : Ca P w K mg base 8 "power_paper" (spP K C sd_power_paper)) (h_Form : Mk1 P w K mg base C 5) (d : Df K mg "law" K9.s_law) : Ca P w K mg base 10 "law" (spP K C sd_law) :=
  ca_of d (by decide +kernel : C8.scC ["_law_script", "_law_spot", "_law_dice_here", "_law_line_here", "_law_often", "_law_told"] ["_law_script"] (defScope K9.s_law) = true) (fun _ _ _ _ _ _ us hl => match us, hl with | [_], _ => rfl) (b_law T h__law_dice h__law_right h__law_power_form h__law_form h__law_roll h__law_line h__law_point h__law_product h__law_small_form h__law_power h_power_paper h_Form) w_law
end
theorem fn_ofP {P : Program} {w : World} {K : PySem.W.Frag} {mg : Str → Option Value} {base : Heap} {k : Nat} {C : Cfg} {x : Str} {st : Stmt} {N ps : List Str} {sd : Sp1} {r : DS} {fd : FuncData} (F : L2.Fun K x x st (He.ga K x) fd) (S : C8.scC N ps (defScope st) = true)
    (hbody : BodyOk P w K mg base k C x st N none r) (hD : ∀ ds QD, sd ds QD → ds.length = ps.length ∧ r { nx := fun _ _ => QD .non, rt := fun v _ => QD v } (rho N ds) []) : FnOk P w K mg base L2.CX0 (k + 1) (He.ga K x) fd ps (spP K C sd) := by
  have S' := C8.fnScope_by S
  obtain ⟨oc, od, kV, doc, pm, an, cdv, ct, osl, rfl, lk, hcd⟩ := F.ex
  obtain ⟨c', ec⟩ := He.codeIn_ref hcd
  have hc : cdv = .ref (He.codeOf K (x, none)) := by rw [He.codeOf_eq (p := (x, none)) lk ec, ec]
  refine fn_of lk hcd S' (fun vs H Q E q => ?_) fun A outer s H vs Q E hr q => ?_
  · obtain ⟨hid, ds, QD, rl, _, _, h, _⟩ := q
    rw [rl.length]
    exact (hD ds QD h).1
  · obtain ⟨hid, ds, QD, rl, tb, lv, h, hk⟩ := q
    obtain ⟨t, pt, st'⟩ := hbody (He.ga K x) cdv A outer s H E hc (fm_top S'.nd hr)
    refine ⟨t, (pt ()).nox, ?_⟩
    have hs : Hs K C hid none [] H := ⟨tb, lv, (fun _ z => nomatch z), (fun _ z => nomatch z)⟩
    refine st' hid none (rho N ds) [] (start N vs) H _ _ ⟨hs, start_len rl, start_get rl, (fun _ z => nomatch z), fun _ => rfl⟩ (hD ds QD h).2 (fun ρ' B' σ' H' q s c => ?_) fun d B' v H' q s h r => ?_
    · exact hk .non .non H' q s c.hs.tabs .non
    · exact hk d v H' q s h.tabs r
/-- the code objects with tables -/
def csK (K : PySem.W.Frag) : List (Addr × Addr) := K9.tf.map (He.cT K)
def cfg (K : PySem.W.Frag) : Cfg := ⟨(csK K).map (·.2), He.ga K "Form"⟩
section
variable {P : Program} {w : World} {K : PySem.W.Frag} {mg : Str → Option Value} {base h : Heap}
theorem ba3 {a b : Bool} (h : (a && b) = true) : a = true ∧ b = true := Bool.and_eq_true_iff.mp h
theorem scl_of (y : K9.SaysY h K) : SlX.SCls K (cfg K).cF := by
  have e := (ba3 (ba3 y.more).2).1
  obtain ⟨e1, e⟩ := ba3 e
  obtain ⟨e2, e⟩ := ba3 e
  obtain ⟨e3, e4⟩ := ba3 e
  exact ⟨e1, e2, e3, He.eqO_ok e4⟩
theorem slot_of (y : K9.SaysY h K) : SlX.Slot1 K (cfg K).cF "own_entries" (K9.slotAt K) 0 := by
  have e := (ba3 (ba3 (ba3 y.more).2).2).1
  obtain ⟨e1, e⟩ := ba3 e
  obtain ⟨e2, e⟩ := ba3 e
  obtain ⟨e3, e⟩ := ba3 e
  obtain ⟨e4, e5⟩ := ba3 e
  exact ⟨He.eqO_ok e1, He.eqO_ok e2, of_decide_eq_true e3, of_decide_eq_true e4, of_decide_eq_true e5, by decide⟩
theorem sis_of (y : K9.SaysY h K) : SlX.SIsi K (cfg K).cF := by
  have e := (ba3 (ba3 (ba3 (ba3 y.more).2).2).2).1
  obtain ⟨e1, e⟩ := ba3 e
  obtain ⟨e2, e⟩ := ba3 e
  obtain ⟨e3, e4⟩ := ba3 e
  exact ⟨He.eqO_ok e1, He.eqO_ok e2, of_decide_eq_true e3, of_decide_eq_true e4⟩
theorem kit_of2 (y : K9.SaysY h K) : PySem.W.kitOne K (.ref (He.ga K "Form")) (.ref (He.ga K "Form")) = some true ∧ PySem.W.kitOne K (.type "tuple") (.ref (He.ga K "Told")) = some false := by
  have e := (ba3 (ba3 (ba3 (ba3 (ba3 y.more).2).2).2).2).1
  obtain ⟨e1, e2⟩ := ba3 e
  exact ⟨of_decide_eq_true e1, of_decide_eq_true e2⟩
theorem props_of (y : K9.SaysY h K) : K9.propB K "entries" = true ∧ K9.propB K "degree" = true ∧ K9.propB K "is_zero" = true ∧ (K9.fnP.all fun d => d.ok K) = true := by
  have e := (ba3 (ba3 (ba3 (ba3 (ba3 y.more).2).2).2).2).2
  obtain ⟨e1, e⟩ := ba3 e
  obtain ⟨e2, e⟩ := ba3 e
  obtain ⟨e3, e4⟩ := ba3 e
  exact ⟨e1, e2, e3, e4⟩
theorem getter (y : K9.SaysY h K) (i : Nat) {d : He5.DefA} (hd : K9.fnP[i]? = some d) : ∃ fd, L2.FunD K d.name d.qual d.params d.body d.scope (d.dvs K) (d.kws K) (d.at_ K) fd := by
  have e2 : (K9.fnP.map fun d => He5.fnA K (d.at_ K))[i]? = (K9.fnP.map He5.DefA.val)[i]? := by rw [y.p]
  rw [List.getElem?_map, List.getElem?_map, hd] at e2
  exact He5.DefA.funD (Option.some.inj e2) (List.all_eq_true.mp (props_of y).2.2.2 d (List.mem_of_getElem? hd))
theorem prop_of {f : Str} {n : Nat} {sd : Sp1} (y : K9.SaysY h K) (hp : K9.propB K f = true) (F : FnR P w K mg base L2.CX0 n (K9.getterAt f K) (spP K (cfg K) sd)) : Pr1 P w K mg base (cfg K) n f sd := by
  obtain ⟨e1, e⟩ := ba3 hp
  obtain ⟨e2, e⟩ := ba3 e
  obtain ⟨e3, e4⟩ := ba3 e
  refine ⟨⟨_, K9.getterAt f K, He.eqO_ok e1, He.eqO_ok e2, of_decide_eq_true e3, ?_, F⟩, scl_of y⟩
  unfold K9.getterAt
  split at e4
  · rename_i g rest q
    exact ⟨rest, by rw [q]⟩
  · cases e4
theorem i_of (X : K.In h) (G : h.Ns mainGlobals mg) {x : Str} {i : Int} (c : (He.Fa.int x i).ok K = true) : ∃ u, mg x = some u ∧ RelV (.int i) u := by
  obtain ⟨t, e⟩ := He.int_ok X G c
  exact ⟨_, e, t, rfl⟩
theorem s_of (X : K.In h) (G : h.Ns mainGlobals mg) {x z : Str} (c : (He.Fa.str x z).ok K = true) : ∃ u, mg x = some u ∧ RelV (.str z) u := by
  obtain ⟨t, e⟩ := He.str_ok X G c
  exact ⟨_, e, t, rfl⟩
theorem tp_of (X : K.In h) (G : h.Ns mainGlobals mg) (y : K9.SaysY h K) (tb : ∀ p ∈ csK K, TabB base mg p.1 p.2) : Tp K mg base (cfg K) :=
  {
    isinstance := He.free_ok X G (y.d.fact 62 (f := .free "isinstance") rfl)
    int := He.free_ok X G (y.d.fact 63 (f := .free "int") rfl)
    bool := He.free_ok X G (y.d.fact 64 (f := .free "bool") rfl)
    tuple := He.free_ok X G (y.d.fact 65 (f := .free "tuple") rfl)
    str := He.free_ok X G (y.d.fact 66 (f := .free "str") rfl)
    all := He.free_ok X G (y.d.fact 67 (f := .free "all") rfl)
    any := He.free_ok X G (y.d.fact 68 (f := .free "any") rfl)
    len := He.free_ok X G (y.d.fact 69 (f := .free "len") rfl)
    range := He.free_ok X G (y.d.fact 70 (f := .free "range") rfl)
    next := He.free_ok X G (y.d.fact 71 (f := .free "next") rfl)
    enumerate := He.free_ok X G (y.d.fact 72 (f := .free "enumerate") rfl)
    list := He.free_ok X G (y.d.fact 73 (f := .free "list") rfl)
    abs := He.free_ok X G (y.d.fact 74 (f := .free "abs") rfl)
    max := He.free_ok X G (y.d.fact 75 (f := .free "max") rfl)
    min := He.free_ok X G (y.d.fact 76 (f := .free "min") rfl)
    zip := He.free_ok X G (y.d.fact 77 (f := .free "zip") rfl)
    repr := He.free_ok X G (y.d.fact 78 (f := .free "repr") rfl)
    gcd := PySem.W.mg_of X G (He.eqO_ok (ba3 y.more).1)
    SHORT_PAPER := i_of X G (y.d.fact 80 (f := .int "SHORT_PAPER" (3)) rfl)
    MAX_DEGREE := i_of X G (y.d.fact 81 (f := .int "MAX_DEGREE" (40)) rfl)
    GREATEST := i_of X G (y.d.fact 82 (f := .int "GREATEST" (10 ^ 60)) rfl)
    POWER := s_of X G (y.d.fact 83 (f := .str "POWER" "power") rfl)
    ENTRY := s_of X G (y.d.fact 84 (f := .str "ENTRY" "entry") rfl)
    Form := He.glo_ok X G (y.d.fact 59 (f := .glo "Form") rfl)
    kit := (kit_of2 y).1
    scl := scl_of y
    sis := sis_of y
    Told := He.glo_ok X G (y.d.fact 60 (f := .glo "Told") rfl)
    kitT := (kit_of2 y).2
    slot := ⟨_, slot_of y⟩
    t_first_of := List.mem_cons_self
    tb1 := tb (He.cT K ("first_of", none)) List.mem_cons_self
    t_first_index := List.mem_cons_of_mem _ List.mem_cons_self
    tb2 := tb (He.cT K ("first_index", none)) (List.mem_cons_of_mem _ List.mem_cons_self) }
theorem d_is_whole (X : K.In h) (G : h.Ns mainGlobals mg) (y : K9.SaysY h K) : Df K mg "is_whole" K9.s_is_whole := by
  obtain ⟨fd, F⟩ := y.d.def_ 0 (d := K9.d_is_whole) rfl
  exact ⟨fd, He5.fun_of F, He.glo_ok X G (y.d.fact 0 (f := .glo "is_whole") rfl)⟩
theorem d_is_short (X : K.In h) (G : h.Ns mainGlobals mg) (y : K9.SaysY h K) : Df K mg "is_short" K9.s_is_short := by
  obtain ⟨fd, F⟩ := y.d.def_ 1 (d := K9.d_is_short) rfl
  exact ⟨fd, He5.fun_of F, He.glo_ok X G (y.d.fact 1 (f := .glo "is_short") rfl)⟩
theorem d_is_from (X : K.In h) (G : h.Ns mainGlobals mg) (y : K9.SaysY h K) : Df K mg "is_from" K9.s_is_from := by
  obtain ⟨fd, F⟩ := y.d.def_ 2 (d := K9.d_is_from) rfl
  exact ⟨fd, He5.fun_of F, He.glo_ok X G (y.d.fact 2 (f := .glo "is_from") rfl)⟩
theorem d_are_wholes (X : K.In h) (G : h.Ns mainGlobals mg) (y : K9.SaysY h K) : Df K mg "are_wholes" K9.s_are_wholes := by
  obtain ⟨fd, F⟩ := y.d.def_ 3 (d := K9.d_are_wholes) rfl
  exact ⟨fd, He5.fun_of F, He.glo_ok X G (y.d.fact 3 (f := .glo "are_wholes") rfl)⟩
theorem d_are_short (X : K.In h) (G : h.Ns mainGlobals mg) (y : K9.SaysY h K) : Df K mg "are_short" K9.s_are_short := by
  obtain ⟨fd, F⟩ := y.d.def_ 4 (d := K9.d_are_short) rfl
  exact ⟨fd, He5.fun_of F, He.glo_ok X G (y.d.fact 4 (f := .glo "are_short") rfl)⟩
theorem d_shared_of (X : K.In h) (G : h.Ns mainGlobals mg) (y : K9.SaysY h K) : Df K mg "shared_of" K9.s_shared_of := by
  obtain ⟨fd, F⟩ := y.d.def_ 5 (d := K9.d_shared_of) rfl
  exact ⟨fd, He5.fun_of F, He.glo_ok X G (y.d.fact 5 (f := .glo "shared_of") rfl)⟩
theorem d_first_of (X : K.In h) (G : h.Ns mainGlobals mg) (y : K9.SaysY h K) : Df K mg "first_of" K9.s_first_of := by
  obtain ⟨fd, F⟩ := y.d.def_ 6 (d := K9.d_first_of) rfl
  exact ⟨fd, He5.fun_of F, He.glo_ok X G (y.d.fact 6 (f := .glo "first_of") rfl)⟩
theorem d_lots_of (X : K.In h) (G : h.Ns mainGlobals mg) (y : K9.SaysY h K) : Df K mg "lots_of" K9.s_lots_of := by
  obtain ⟨fd, F⟩ := y.d.def_ 7 (d := K9.d_lots_of) rfl
  exact ⟨fd, He5.fun_of F, He.glo_ok X G (y.d.fact 7 (f := .glo "lots_of") rfl)⟩
theorem d_is_point_any (X : K.In h) (G : h.Ns mainGlobals mg) (y : K9.SaysY h K) : Df K mg "is_point_any" K9.s_is_point_any := by
  obtain ⟨fd, F⟩ := y.d.def_ 8 (d := K9.d_is_point_any) rfl
  exact ⟨fd, He5.fun_of F, He.glo_ok X G (y.d.fact 8 (f := .glo "is_point_any") rfl)⟩
theorem d_product_in (X : K.In h) (G : h.Ns mainGlobals mg) (y : K9.SaysY h K) : Df K mg "product_in" K9.s_product_in := by
  obtain ⟨fd, F⟩ := y.d.def_ 9 (d := K9.d_product_in) rfl
  exact ⟨fd, He5.fun_of F, He.glo_ok X G (y.d.fact 9 (f := .glo "product_in") rfl)⟩
theorem d_joined_entries (X : K.In h) (G : h.Ns mainGlobals mg) (y : K9.SaysY h K) : Df K mg "joined_entries" K9.s_joined_entries := by
  obtain ⟨fd, F⟩ := y.d.def_ 10 (d := K9.d_joined_entries) rfl
  exact ⟨fd, He5.fun_of F, He.glo_ok X G (y.d.fact 10 (f := .glo "joined_entries") rfl)⟩
theorem d_power_in (X : K.In h) (G : h.Ns mainGlobals mg) (y : K9.SaysY h K) : Df K mg "power_in" K9.s_power_in := by
  obtain ⟨fd, F⟩ := y.d.def_ 11 (d := K9.d_power_in) rfl
  exact ⟨fd, He5.fun_of F, He.glo_ok X G (y.d.fact 11 (f := .glo "power_in") rfl)⟩
theorem d_line_in (X : K.In h) (G : h.Ns mainGlobals mg) (y : K9.SaysY h K) : Df K mg "line_in" K9.s_line_in := by
  obtain ⟨fd, F⟩ := y.d.def_ 12 (d := K9.d_line_in) rfl
  exact ⟨fd, He5.fun_of F, He.glo_ok X G (y.d.fact 12 (f := .glo "line_in") rfl)⟩
theorem d_is_zero_in (X : K.In h) (G : h.Ns mainGlobals mg) (y : K9.SaysY h K) : Df K mg "is_zero_in" K9.s_is_zero_in := by
  obtain ⟨fd, F⟩ := y.d.def_ 13 (d := K9.d_is_zero_in) rfl
  exact ⟨fd, He5.fun_of F, He.glo_ok X G (y.d.fact 13 (f := .glo "is_zero_in") rfl)⟩
theorem d_first_index (X : K.In h) (G : h.Ns mainGlobals mg) (y : K9.SaysY h K) : Df K mg "first_index" K9.s_first_index := by
  obtain ⟨fd, F⟩ := y.d.def_ 14 (d := K9.d_first_index) rfl
  exact ⟨fd, He5.fun_of F, He.glo_ok X G (y.d.fact 14 (f := .glo "first_index") rfl)⟩
theorem d_are_entries (X : K.In h) (G : h.Ns mainGlobals mg) (y : K9.SaysY h K) : Df K mg "are_entries" K9.s_are_entries := by
  obtain ⟨fd, F⟩ := y.d.def_ 15 (d := K9.d_are_entries) rfl
  exact ⟨fd, He5.fun_of F, He.glo_ok X G (y.d.fact 15 (f := .glo "are_entries") rfl)⟩
theorem d_require_form (X : K.In h) (G : h.Ns mainGlobals mg) (y : K9.SaysY h K) : Df K mg "require_form" K9.s_require_form := by
  obtain ⟨fd, F⟩ := y.d.def_ 16 (d := K9.d_require_form) rfl
  exact ⟨fd, He5.fun_of F, He.glo_ok X G (y.d.fact 16 (f := .glo "require_form") rfl)⟩
theorem d_laying_slope (X : K.In h) (G : h.Ns mainGlobals mg) (y : K9.SaysY h K) : Df K mg "laying_slope" K9.s_laying_slope := by
  obtain ⟨fd, F⟩ := y.d.def_ 17 (d := K9.d_laying_slope) rfl
  exact ⟨fd, He5.fun_of F, He.glo_ok X G (y.d.fact 17 (f := .glo "laying_slope") rfl)⟩
theorem d_laying_slopes (X : K.In h) (G : h.Ns mainGlobals mg) (y : K9.SaysY h K) : Df K mg "laying_slopes" K9.s_laying_slopes := by
  obtain ⟨fd, F⟩ := y.d.def_ 18 (d := K9.d_laying_slopes) rfl
  exact ⟨fd, He5.fun_of F, He.glo_ok X G (y.d.fact 18 (f := .glo "laying_slopes") rfl)⟩
theorem d_add_product (X : K.In h) (G : h.Ns mainGlobals mg) (y : K9.SaysY h K) : Df K mg "add_product" K9.s_add_product := by
  obtain ⟨fd, F⟩ := y.d.def_ 19 (d := K9.d_add_product) rfl
  exact ⟨fd, He5.fun_of F, He.glo_ok X G (y.d.fact 19 (f := .glo "add_product") rfl)⟩
theorem d_laid_in (X : K.In h) (G : h.Ns mainGlobals mg) (y : K9.SaysY h K) : Df K mg "laid_in" K9.s_laid_in := by
  obtain ⟨fd, F⟩ := y.d.def_ 20 (d := K9.d_laid_in) rfl
  exact ⟨fd, He5.fun_of F, He.glo_ok X G (y.d.fact 20 (f := .glo "laid_in") rfl)⟩
theorem d_point_of_line (X : K.In h) (G : h.Ns mainGlobals mg) (y : K9.SaysY h K) : Df K mg "point_of_line" K9.s_point_of_line := by
  obtain ⟨fd, F⟩ := y.d.def_ 21 (d := K9.d_point_of_line) rfl
  exact ⟨fd, He5.fun_of F, He.glo_ok X G (y.d.fact 21 (f := .glo "point_of_line") rfl)⟩
theorem d_power_told (X : K.In h) (G : h.Ns mainGlobals mg) (y : K9.SaysY h K) : Df K mg "power_told" K9.s_power_told := by
  obtain ⟨fd, F⟩ := y.d.def_ 22 (d := K9.d_power_told) rfl
  exact ⟨fd, He5.fun_of F, He.glo_ok X G (y.d.fact 22 (f := .glo "power_told") rfl)⟩
theorem d_is_power_in (X : K.In h) (G : h.Ns mainGlobals mg) (y : K9.SaysY h K) : Df K mg "is_power_in" K9.s_is_power_in := by
  obtain ⟨fd, F⟩ := y.d.def_ 23 (d := K9.d_is_power_in) rfl
  exact ⟨fd, He5.fun_of F, He.glo_ok X G (y.d.fact 23 (f := .glo "is_power_in") rfl)⟩
theorem d_entry_paper (X : K.In h) (G : h.Ns mainGlobals mg) (y : K9.SaysY h K) : Df K mg "entry_paper" K9.s_entry_paper := by
  obtain ⟨fd, F⟩ := y.d.def_ 24 (d := K9.d_entry_paper) rfl
  exact ⟨fd, He5.fun_of F, He.glo_ok X G (y.d.fact 24 (f := .glo "entry_paper") rfl)⟩
theorem d_times_power (X : K.In h) (G : h.Ns mainGlobals mg) (y : K9.SaysY h K) : Df K mg "times_power" K9.s_times_power := by
  obtain ⟨fd, F⟩ := y.d.def_ 25 (d := K9.d_times_power) rfl
  exact ⟨fd, He5.fun_of F, He.glo_ok X G (y.d.fact 25 (f := .glo "times_power") rfl)⟩
theorem d_is_entry_of (X : K.In h) (G : h.Ns mainGlobals mg) (y : K9.SaysY h K) : Df K mg "is_entry_of" K9.s_is_entry_of := by
  obtain ⟨fd, F⟩ := y.d.def_ 26 (d := K9.d_is_entry_of) rfl
  exact ⟨fd, He5.fun_of F, He.glo_ok X G (y.d.fact 26 (f := .glo "is_entry_of") rfl)⟩
theorem d_paper_word (X : K.In h) (G : h.Ns mainGlobals mg) (y : K9.SaysY h K) : Df K mg "paper_word" K9.s_paper_word := by
  obtain ⟨fd, F⟩ := y.d.def_ 27 (d := K9.d_paper_word) rfl
  exact ⟨fd, He5.fun_of F, He.glo_ok X G (y.d.fact 27 (f := .glo "paper_word") rfl)⟩
theorem d_power_paper (X : K.In h) (G : h.Ns mainGlobals mg) (y : K9.SaysY h K) : Df K mg "power_paper" K9.s_power_paper := by
  obtain ⟨fd, F⟩ := y.d.def_ 28 (d := K9.d_power_paper) rfl
  exact ⟨fd, He5.fun_of F, He.glo_ok X G (y.d.fact 28 (f := .glo "power_paper") rfl)⟩
theorem d_is_told_power (X : K.In h) (G : h.Ns mainGlobals mg) (y : K9.SaysY h K) : Df K mg "is_told_power" K9.s_is_told_power := by
  obtain ⟨fd, F⟩ := y.d.def_ 29 (d := K9.d_is_told_power) rfl
  exact ⟨fd, He5.fun_of F, He.glo_ok X G (y.d.fact 29 (f := .glo "is_told_power") rfl)⟩
theorem d_is_power_paper (X : K.In h) (G : h.Ns mainGlobals mg) (y : K9.SaysY h K) : Df K mg "is_power_paper" K9.s_is_power_paper := by
  obtain ⟨fd, F⟩ := y.d.def_ 30 (d := K9.d_is_power_paper) rfl
  exact ⟨fd, He5.fun_of F, He.glo_ok X G (y.d.fact 30 (f := .glo "is_power_paper") rfl)⟩
theorem d__law_dice (X : K.In h) (G : h.Ns mainGlobals mg) (y : K9.SaysY h K) : Df K mg "_law_dice" K9.s__law_dice := by
  obtain ⟨fd, F⟩ := y.d.def_ 31 (d := K9.d__law_dice) rfl
  exact ⟨fd, He5.fun_of F, He.glo_ok X G (y.d.fact 31 (f := .glo "_law_dice") rfl)⟩
theorem d__law_roll (X : K.In h) (G : h.Ns mainGlobals mg) (y : K9.SaysY h K) : Df K mg "_law_roll" K9.s__law_roll := by
  obtain ⟨fd, F⟩ := y.d.def_ 32 (d := K9.d__law_roll) rfl
  exact ⟨fd, He5.fun_of F, He.glo_ok X G (y.d.fact 32 (f := .glo "_law_roll") rfl)⟩
theorem d__law_pick (X : K.In h) (G : h.Ns mainGlobals mg) (y : K9.SaysY h K) : Df K mg "_law_pick" K9.s__law_pick := by
  obtain ⟨fd, F⟩ := y.d.def_ 33 (d := K9.d__law_pick) rfl
  exact ⟨fd, He5.fun_of F, He.glo_ok X G (y.d.fact 33 (f := .glo "_law_pick") rfl)⟩
theorem d__law_near (X : K.In h) (G : h.Ns mainGlobals mg) (y : K9.SaysY h K) : Df K mg "_law_near" K9.s__law_near := by
  obtain ⟨fd, F⟩ := y.d.def_ 34 (d := K9.d__law_near) rfl
  exact ⟨fd, He5.fun_of F, He.glo_ok X G (y.d.fact 34 (f := .glo "_law_near") rfl)⟩
theorem d__law_gcd (X : K.In h) (G : h.Ns mainGlobals mg) (y : K9.SaysY h K) : Df K mg "_law_gcd" K9.s__law_gcd := by
  obtain ⟨fd, F⟩ := y.d.def_ 35 (d := K9.d__law_gcd) rfl
  exact ⟨fd, He5.fun_of F, He.glo_ok X G (y.d.fact 35 (f := .glo "_law_gcd") rfl)⟩
theorem d__law_shared (X : K.In h) (G : h.Ns mainGlobals mg) (y : K9.SaysY h K) : Df K mg "_law_shared" K9.s__law_shared := by
  obtain ⟨fd, F⟩ := y.d.def_ 36 (d := K9.d__law_shared) rfl
  exact ⟨fd, He5.fun_of F, He.glo_ok X G (y.d.fact 36 (f := .glo "_law_shared") rfl)⟩
theorem d__law_choose (X : K.In h) (G : h.Ns mainGlobals mg) (y : K9.SaysY h K) : Df K mg "_law_choose" K9.s__law_choose := by
  obtain ⟨fd, F⟩ := y.d.def_ 37 (d := K9.d__law_choose) rfl
  exact ⟨fd, He5.fun_of F, He.glo_ok X G (y.d.fact 37 (f := .glo "_law_choose") rfl)⟩
theorem d__law_plus (X : K.In h) (G : h.Ns mainGlobals mg) (y : K9.SaysY h K) : Df K mg "_law_plus" K9.s__law_plus := by
  obtain ⟨fd, F⟩ := y.d.def_ 38 (d := K9.d__law_plus) rfl
  exact ⟨fd, He5.fun_of F, He.glo_ok X G (y.d.fact 38 (f := .glo "_law_plus") rfl)⟩
theorem d__law_scaled (X : K.In h) (G : h.Ns mainGlobals mg) (y : K9.SaysY h K) : Df K mg "_law_scaled" K9.s__law_scaled := by
  obtain ⟨fd, F⟩ := y.d.def_ 39 (d := K9.d__law_scaled) rfl
  exact ⟨fd, He5.fun_of F, He.glo_ok X G (y.d.fact 39 (f := .glo "_law_scaled") rfl)⟩
theorem d__law_product (X : K.In h) (G : h.Ns mainGlobals mg) (y : K9.SaysY h K) : Df K mg "_law_product" K9.s__law_product := by
  obtain ⟨fd, F⟩ := y.d.def_ 40 (d := K9.d__law_product) rfl
  exact ⟨fd, He5.fun_of F, He.glo_ok X G (y.d.fact 40 (f := .glo "_law_product") rfl)⟩
theorem d__law_all_product (X : K.In h) (G : h.Ns mainGlobals mg) (y : K9.SaysY h K) : Df K mg "_law_all_product" K9.s__law_all_product := by
  obtain ⟨fd, F⟩ := y.d.def_ 41 (d := K9.d__law_all_product) rfl
  exact ⟨fd, He5.fun_of F, He.glo_ok X G (y.d.fact 41 (f := .glo "_law_all_product") rfl)⟩
theorem d__law_power (X : K.In h) (G : h.Ns mainGlobals mg) (y : K9.SaysY h K) : Df K mg "_law_power" K9.s__law_power := by
  obtain ⟨fd, F⟩ := y.d.def_ 42 (d := K9.d__law_power) rfl
  exact ⟨fd, He5.fun_of F, He.glo_ok X G (y.d.fact 42 (f := .glo "_law_power") rfl)⟩
theorem d__law_by_x (X : K.In h) (G : h.Ns mainGlobals mg) (y : K9.SaysY h K) : Df K mg "_law_by_x" K9.s__law_by_x := by
  obtain ⟨fd, F⟩ := y.d.def_ 43 (d := K9.d__law_by_x) rfl
  exact ⟨fd, He5.fun_of F, He.glo_ok X G (y.d.fact 43 (f := .glo "_law_by_x") rfl)⟩
theorem d__law_by_y (X : K.In h) (G : h.Ns mainGlobals mg) (y : K9.SaysY h K) : Df K mg "_law_by_y" K9.s__law_by_y := by
  obtain ⟨fd, F⟩ := y.d.def_ 44 (d := K9.d__law_by_y) rfl
  exact ⟨fd, He5.fun_of F, He.glo_ok X G (y.d.fact 44 (f := .glo "_law_by_y") rfl)⟩
theorem d__law_derived (X : K.In h) (G : h.Ns mainGlobals mg) (y : K9.SaysY h K) : Df K mg "_law_derived" K9.s__law_derived := by
  obtain ⟨fd, F⟩ := y.d.def_ 45 (d := K9.d__law_derived) rfl
  exact ⟨fd, He5.fun_of F, He.glo_ok X G (y.d.fact 45 (f := .glo "_law_derived") rfl)⟩
theorem d__law_laid (X : K.In h) (G : h.Ns mainGlobals mg) (y : K9.SaysY h K) : Df K mg "_law_laid" K9.s__law_laid := by
  obtain ⟨fd, F⟩ := y.d.def_ 46 (d := K9.d__law_laid) rfl
  exact ⟨fd, He5.fun_of F, He.glo_ok X G (y.d.fact 46 (f := .glo "_law_laid") rfl)⟩
theorem d__law_plain (X : K.In h) (G : h.Ns mainGlobals mg) (y : K9.SaysY h K) : Df K mg "_law_plain" K9.s__law_plain := by
  obtain ⟨fd, F⟩ := y.d.def_ 47 (d := K9.d__law_plain) rfl
  exact ⟨fd, He5.fun_of F, He.glo_ok X G (y.d.fact 47 (f := .glo "_law_plain") rfl)⟩
theorem d__law_line (X : K.In h) (G : h.Ns mainGlobals mg) (y : K9.SaysY h K) : Df K mg "_law_line" K9.s__law_line := by
  obtain ⟨fd, F⟩ := y.d.def_ 48 (d := K9.d__law_line) rfl
  exact ⟨fd, He5.fun_of F, He.glo_ok X G (y.d.fact 48 (f := .glo "_law_line") rfl)⟩
theorem d__law_point (X : K.In h) (G : h.Ns mainGlobals mg) (y : K9.SaysY h K) : Df K mg "_law_point" K9.s__law_point := by
  obtain ⟨fd, F⟩ := y.d.def_ 49 (d := K9.d__law_point) rfl
  exact ⟨fd, He5.fun_of F, He.glo_ok X G (y.d.fact 49 (f := .glo "_law_point") rfl)⟩
theorem d__law_small_form (X : K.In h) (G : h.Ns mainGlobals mg) (y : K9.SaysY h K) : Df K mg "_law_small_form" K9.s__law_small_form := by
  obtain ⟨fd, F⟩ := y.d.def_ 50 (d := K9.d__law_small_form) rfl
  exact ⟨fd, He5.fun_of F, He.glo_ok X G (y.d.fact 50 (f := .glo "_law_small_form") rfl)⟩
theorem d__law_form (X : K.In h) (G : h.Ns mainGlobals mg) (y : K9.SaysY h K) : Df K mg "_law_form" K9.s__law_form := by
  obtain ⟨fd, F⟩ := y.d.def_ 51 (d := K9.d__law_form) rfl
  exact ⟨fd, He5.fun_of F, He.glo_ok X G (y.d.fact 51 (f := .glo "_law_form") rfl)⟩
theorem d__law_is_whole (X : K.In h) (G : h.Ns mainGlobals mg) (y : K9.SaysY h K) : Df K mg "_law_is_whole" K9.s__law_is_whole := by
  obtain ⟨fd, F⟩ := y.d.def_ 52 (d := K9.d__law_is_whole) rfl
  exact ⟨fd, He5.fun_of F, He.glo_ok X G (y.d.fact 52 (f := .glo "_law_is_whole") rfl)⟩
theorem d__law_is_point (X : K.In h) (G : h.Ns mainGlobals mg) (y : K9.SaysY h K) : Df K mg "_law_is_point" K9.s__law_is_point := by
  obtain ⟨fd, F⟩ := y.d.def_ 53 (d := K9.d__law_is_point) rfl
  exact ⟨fd, He5.fun_of F, He.glo_ok X G (y.d.fact 53 (f := .glo "_law_is_point") rfl)⟩
theorem d__law_is_right (X : K.In h) (G : h.Ns mainGlobals mg) (y : K9.SaysY h K) : Df K mg "_law_is_right" K9.s__law_is_right := by
  obtain ⟨fd, F⟩ := y.d.def_ 54 (d := K9.d__law_is_right) rfl
  exact ⟨fd, He5.fun_of F, He.glo_ok X G (y.d.fact 54 (f := .glo "_law_is_right") rfl)⟩
theorem d__law_near_values (X : K.In h) (G : h.Ns mainGlobals mg) (y : K9.SaysY h K) : Df K mg "_law_near_values" K9.s__law_near_values := by
  obtain ⟨fd, F⟩ := y.d.def_ 55 (d := K9.d__law_near_values) rfl
  exact ⟨fd, He5.fun_of F, He.glo_ok X G (y.d.fact 55 (f := .glo "_law_near_values") rfl)⟩
theorem d__law_right (X : K.In h) (G : h.Ns mainGlobals mg) (y : K9.SaysY h K) : Df K mg "_law_right" K9.s__law_right := by
  obtain ⟨fd, F⟩ := y.d.def_ 56 (d := K9.d__law_right) rfl
  exact ⟨fd, He5.fun_of F, He.glo_ok X G (y.d.fact 56 (f := .glo "_law_right") rfl)⟩
theorem d__law_power_form (X : K.In h) (G : h.Ns mainGlobals mg) (y : K9.SaysY h K) : Df K mg "_law_power_form" K9.s__law_power_form := by
  obtain ⟨fd, F⟩ := y.d.def_ 57 (d := K9.d__law_power_form) rfl
  exact ⟨fd, He5.fun_of F, He.glo_ok X G (y.d.fact 57 (f := .glo "_law_power_form") rfl)⟩
theorem d_law (X : K.In h) (G : h.Ns mainGlobals mg) (y : K9.SaysY h K) : Df K mg "law" K9.s_law := by
  obtain ⟨fd, F⟩ := y.d.def_ 58 (d := K9.d_law) rfl
  exact ⟨fd, He5.fun_of F, He.glo_ok X G (y.d.fact 58 (f := .glo "law") rfl)⟩
theorem mk_of (X : K.In h) (G : h.Ns mainGlobals mg) (y : K9.SaysY h K) (T : Tp K mg base (cfg K)) (h_are : Ca P w K mg base 4 "are_entries" (spP K (cfg K) sd_are_entries)) : Mk1 P w K mg base (cfg K) 5 := by
  obtain ⟨fd, F⟩ := y.d.def_ 59 (d := K9.d_init) rfl
  have F2 : L2.Fun K "__init__" "Form.__init__" K9.s_init (He.ma K (He.ga K "Form") "__init__") fd := He5.fun_of F
  exact ⟨_, fd, ["self", "entries"], He.mkr_ok (y.d.fact 61 (f := .mkr "Form") rfl), init_ok T h_are F2 (by decide +kernel), T.Form, F2.binds fun _ _ _ _ _ _ us hl => match us, hl with | [_, _], _ => rfl⟩
theorem law_ok (X : K.In h) (G : h.Ns mainGlobals mg) (y : K9.SaysY h K) (tb : ∀ p ∈ csK K, TabB base mg p.1 p.2) {fd : FuncData} (F : L2.Fun K "law" "law" K9.s_law (He.ga K "law") fd) : FnOk P w K mg base L2.CX0 10 (He.ga K "law") fd ["_law_script"] (spP K (cfg K) sd_law) := by
  have T := tp_of (base := base) X G y tb
  have h_is_whole := k_is_whole (P := P) (w := w) T (d_is_whole X G y)
  have h_is_short := k_is_short (P := P) (w := w) T h_is_whole (d_is_short X G y)
  have h_is_from := k_is_from (P := P) (w := w) T h_is_whole (d_is_from X G y)
  have h_are_wholes := k_are_wholes (P := P) (w := w) T h_is_whole (d_are_wholes X G y)
  have h_are_short := k_are_short (P := P) (w := w) T h_is_short (d_are_short X G y)
  have h_shared_of := k_shared_of (P := P) (w := w) T (d_shared_of X G y)
  have h_first_of := k_first_of (P := P) (w := w) T (d_first_of X G y)
  have h_lots_of := k_lots_of (P := P) (w := w) T (d_lots_of X G y)
  have h_is_point_any := k_is_point_any (P := P) (w := w) T h_are_wholes h_first_of (d_is_point_any X G y)
  have h_joined_entries := k_joined_entries (P := P) (w := w) T (d_joined_entries X G y)
  have h_product_in := k_product_in (P := P) (w := w) T h_joined_entries (d_product_in X G y)
  have h_power_in := k_power_in (P := P) (w := w) T h_product_in (d_power_in X G y)
  have h_line_in := k_line_in (P := P) (w := w) T (d_line_in X G y)
  have h_is_zero_in := k_is_zero_in (P := P) (w := w) T (d_is_zero_in X G y)
  have h_first_index := k_first_index (P := P) (w := w) T (d_first_index X G y)
  have h_are_entries := k_are_entries (P := P) (w := w) T h_are_short (d_are_entries X G y)
  have h_Form := mk_of (P := P) (w := w) X G y T h_are_entries
  have h_require_form := k_require_form (P := P) (w := w) T h_Form (d_require_form X G y)
  have h_laying_slope := k_laying_slope (P := P) (w := w) T (d_laying_slope X G y)
  have h_laying_slopes := k_laying_slopes (P := P) (w := w) T h_laying_slope (d_laying_slopes X G y)
  have h_add_product := k_add_product (P := P) (w := w) T (d_add_product X G y)
  have h_laid_in := k_laid_in (P := P) (w := w) T h_laying_slopes h_add_product h_lots_of (d_laid_in X G y)
  have h_point_of_line := k_point_of_line (P := P) (w := w) T h_shared_of (d_point_of_line X G y)
  have h_power_told := k_power_told (P := P) (w := w) T h_point_of_line h_power_in h_line_in h_first_index (d_power_told X G y)
  have h_is_power_in := k_is_power_in (P := P) (w := w) T h_is_zero_in h_laid_in (d_is_power_in X G y)
  have h_entry_paper := k_entry_paper (P := P) (w := w) T h_laid_in h_first_index (d_entry_paper X G y)
  have h_times_power := k_times_power (P := P) (w := w) T h_power_in h_line_in (d_times_power X G y)
  have h_is_entry_of := k_is_entry_of (P := P) (w := w) T h_laid_in h_is_from h_is_whole (d_is_entry_of X G y)
  have h_paper_word := k_paper_word (P := P) (w := w) T (d_paper_word X G y)
  have h_entries : Pr1 P w K mg base (cfg K) 1 "entries" sd_entries := by
    obtain ⟨fd, F⟩ := getter y 0 (d := K9.d_entries) rfl
    exact prop_of y (props_of y).1 (entries_ok T (He5.fun_of F))
  have h_degree : Pr1 P w K mg base (cfg K) 1 "degree" sd_degree := by
    obtain ⟨fd, F⟩ := getter y 1 (d := K9.d_degree) rfl
    exact prop_of y (props_of y).2.1 (degree_ok T (He5.fun_of F))
  have h_is_zero : Pr1 P w K mg base (cfg K) 2 "is_zero" sd_is_zero := by
    obtain ⟨fd, F⟩ := getter y 2 (d := K9.d_is_zero) rfl
    exact prop_of y (props_of y).2.2.1 (is_zero_ok T h_is_zero_in (He5.fun_of F))
  have h_power_paper := k_power_paper (P := P) (w := w) T h_require_form h_is_power_in h_entry_paper h_power_told h_entries h_degree h_is_zero (d_power_paper X G y)
  have h_is_told_power := k_is_told_power (P := P) (w := w) T h_is_whole h_is_point_any h_times_power (d_is_told_power X G y)
  have h_is_power_paper := k_is_power_paper (P := P) (w := w) T h_require_form h_paper_word h_is_told_power h_is_entry_of h_entries h_degree (d_is_power_paper X G y)
  have h__law_dice := k__law_dice (P := P) (w := w) T (d__law_dice X G y)
  have h__law_roll := k__law_roll (P := P) (w := w) T (d__law_roll X G y)
  have h__law_pick := k__law_pick (P := P) (w := w) T h__law_roll (d__law_pick X G y)
  have h__law_near := k__law_near (P := P) (w := w) T h__law_roll (d__law_near X G y)
  have h__law_gcd := k__law_gcd (P := P) (w := w) T (d__law_gcd X G y)
  have h__law_shared := k__law_shared (P := P) (w := w) T h__law_gcd (d__law_shared X G y)
  have h__law_choose := k__law_choose (P := P) (w := w) T (d__law_choose X G y)
  have h__law_plus := k__law_plus (P := P) (w := w) T (d__law_plus X G y)
  have h__law_scaled := k__law_scaled (P := P) (w := w) T (d__law_scaled X G y)
  have h__law_product := k__law_product (P := P) (w := w) T (d__law_product X G y)
  have h__law_all_product := k__law_all_product (P := P) (w := w) T h__law_product (d__law_all_product X G y)
  have h__law_power := k__law_power (P := P) (w := w) T h__law_product (d__law_power X G y)
  have h__law_by_x := k__law_by_x (P := P) (w := w) T (d__law_by_x X G y)
  have h__law_by_y := k__law_by_y (P := P) (w := w) T (d__law_by_y X G y)
  have h__law_derived := k__law_derived (P := P) (w := w) T h__law_by_x h__law_by_y (d__law_derived X G y)
  have h__law_laid := k__law_laid (P := P) (w := w) T h__law_product h__law_derived h__law_choose h__law_plus h__law_scaled (d__law_laid X G y)
  have h__law_plain := k__law_plain (P := P) (w := w) T h__law_shared (d__law_plain X G y)
  have h__law_line := k__law_line (P := P) (w := w) T (d__law_line X G y)
  have h__law_point := k__law_point (P := P) (w := w) T h__law_near h__law_plain (d__law_point X G y)
  have h__law_small_form := k__law_small_form (P := P) (w := w) T h__law_near (d__law_small_form X G y)
  have h__law_form := k__law_form (P := P) (w := w) T h__law_roll h__law_all_product h__law_line h__law_point h__law_product h__law_small_form h__law_power h__law_plus h__law_scaled h__law_near (d__law_form X G y)
  have h__law_is_whole := k__law_is_whole (P := P) (w := w) T (d__law_is_whole X G y)
  have h__law_is_point := k__law_is_point (P := P) (w := w) T h__law_is_whole h__law_gcd h__law_plain (d__law_is_point X G y)
  have h__law_is_right := k__law_is_right (P := P) (w := w) T h__law_is_whole h__law_is_point h__law_scaled h__law_power h__law_line h__law_laid (d__law_is_right X G y)
  have h__law_near_values := k__law_near_values (P := P) (w := w) T h__law_point (d__law_near_values X G y)
  have h__law_right := k__law_right (P := P) (w := w) T h_power_paper h__law_shared h__law_laid h__law_is_right h__law_near_values h_is_power_paper h_Form (d__law_right X G y)
  have h__law_power_form := k__law_power_form (P := P) (w := w) T h__law_pick h__law_line h__law_point h__law_scaled h__law_power h__law_roll (d__law_power_form X G y)
  exact fn_ofP F (by decide +kernel : C8.scC ["_law_script", "_law_spot", "_law_dice_here", "_law_line_here", "_law_often", "_law_told"] ["_law_script"] (defScope K9.s_law) = true) (b_law T h__law_dice h__law_right h__law_power_form h__law_form h__law_roll h__law_line h__law_point h__law_product h__law_small_form h__law_power h_power_paper h_Form) w_law
end
end KD
set_option Elab.async false
set_option linter.all false
set_option maxRecDepth 100000
set_option maxHeartbeats 0
namespace KD
open PySem PySem.Spec PyProof.Rows L2 Km GxR
theorem out_nil (H : Hp) : out [] H = H := funext fun a => by
  unfold out
  rw [if_neg (by simp)]
theorem law_at {w : World} {mg : Str → Option Value} {fa : Addr} {h : Heap} {K : PySem.W.Frag} (X : K.In h) (G : h.Ns mainGlobals mg) (y : K9.SaysY h K) (hmg : mg ("law" : Str) = some (.ref fa)) :
    LamX.LawAtS PySem.Challenge.rw_sourceforms_k59_whole_powers_by_second_l w K L2.CX0 10 63 "_law_script" mg fa h := by
  obtain ⟨fd, F0⟩ := y.d.def_ 58 (d := K9.d_law) rfl
  have F : L2.Fun K "law" "law" K9.s_law (He.ga K "law") fd := He5.fun_of F0
  have e := hmg.symm.trans (d_law X G y).ex.choose_spec.2
  cases e
  have b := FunD.bindsA (ps := ["_law_script"]) F0 fun _ _ _ _ _ _ us hl => match us, hl with | [_], _ => rfl
  have mem : ∀ {Q : Addr × Addr → Prop}, (∀ p ∈ K9.tf, Q (He.cT K p)) → ∀ q ∈ csK K, Q q := fun hq q hm => by
    obtain ⟨p, hp, e⟩ := List.mem_map.mp hm
    rw [← e]
    exact hq p hp
  refine ⟨fd, csK K, spP K (cfg K) sd_law, mem (Q := fun q => h.get? q.2 = _) y.empty, mem (Q := fun q => K.lookup q.2 = none) y.out, mem (Q := fun q => PySem.W.CodeHd h q.1 q.2) fun p hp => PySem.W.codeHd_of_K X (y.hd p hp), fun s u => b s [u] rfl, fun H a ns hl hb hT hS => ?_, fun base KB GB TB => law_ok X G y (fun p hp => ⟨(TB p hp).code, (TB p hp).bm, (TB p hp).gP⟩) F⟩
  refine ⟨[], [.scr ns], fun d => d = .bl true, ?_, ?_, (fun _ z => nomatch z), ⟨ns, rfl, rfl⟩, fun d v H' e s t r => ?_⟩
  · rw [out_nil]
    exact .cons (.scr hS) .nil
  · intro P hP
    obtain ⟨q, hq, e⟩ := List.mem_map.mp hP
    rw [← e]
    exact ⟨#[], hT q hq, by simp [TriplesOk]⟩
  · subst e
    cases r
    rfl
end KD
open PySem PySem.W PySem.Calls PyProof.Rows
theorem PySem.Challenge.cw_sourceforms_k59_whole_powers_by_second_l_holds : PySem.Challenge.rw_sourceforms_k59_whole_powers_by_second_l.Holds := by
  w_on; o_law
  refine HandSHeadRun.head_imp (r := K9.R) (q := view K9.R.prog [0, 89]) (H := K9.hk) (ob := K9.ob) (M := 6000) (loose := K9.ls) (d := HandSHeadRun.topDef K9.R.prog 89) (kwd := []) K9.ob_eq K9.run (by kernel_rfl) (by kernel_rfl) (by kernel_rfl) (by rfl) (by first | assumption | decide +kernel) (by decide +kernel) ⟨rfl, rfl, rfl, rfl, rfl, by decide +kernel⟩ ?hw ?hc
  case hw => w_witness2
  case hc =>
    refine LamX.walk_ofTsE (l := PySem.Challenge.rw_sourceforms_k59_whole_powers_by_second_l) (n := 63) (k := 10) (x := "_law_script") (CX := fun _ => L2.CX0) rfl (by decide) (by kernel_rfl) ⟨rfl, by decide, by decide⟩ ?F (fun _ _ _ _ _ z => z)
    intro w mg fa h Y G hmg0
    obtain ⟨K, KX, y⟩ := Y
    have hmg : mg ("law" : PySem.Str) = some (.ref fa) := by
      have e : (HandSHeadRun.topDef K9.R.prog 89).name = ("law" : PySem.Str) := by kernel_rfl
      rw [← e]
      exact hmg0
    exact ⟨K, KX, KD.law_at KX G y hmg⟩
