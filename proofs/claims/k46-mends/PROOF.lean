import PyProof.Rows.All
import Wide.All
import OpenK.AllK
import Wide.FinOn
import KE.KStateDown
import Lean
import HandS.ForMost
import HandS.Exc
import HandS.Codes
import HandS.Flow
import HandS.IsInst
import HandS.WideBits
import HandS.Property
import HandS.Defaults
import HandS.Conv
import HandS.Zip
import HandS.Walk
import HandS.More
import HandS.Head0
import HandS.Head1
import HandS.Head2
import HandS.HeadEnd
import HandS.HeadHook1
import HandS.HeadHook2
import HandS.HeadHook4
import PySem.Challenge.RW_bitshades_k46_whole_mends_a_near_sum
set_option Elab.async false
namespace K46
/-! sums over 0 .. n-1 -/
def sg (g : Nat → Int) : Nat → Int
  | 0 => 0
  | n + 1 => sg g n + g n
theorem sg_list (g : Nat → Int) : ∀ n, ((List.range n).map g).sum = sg g n
  | 0 => rfl
  | n + 1 => by
    rw [List.range_succ, List.map_append, List.sum_append, sg_list g n]
    show sg g n + ([g n] : List Int).sum = sg g n + g n
    rw [List.sum_cons, List.sum_nil]
    omega
theorem sg_congr {f g : Nat → Int} : ∀ n, (∀ x, x < n → f x = g x) → sg f n = sg g n
  | 0, _ => rfl
  | n + 1, h => by
    show sg f n + f n = sg g n + g n
    rw [sg_congr n fun x hx => h x (Nat.lt_succ_of_lt hx), h n (Nat.lt_succ_self n)]
theorem sg_le {f g : Nat → Int} : ∀ n, (∀ x, x < n → f x ≤ g x) → sg f n ≤ sg g n
  | 0, _ => Int.le_refl _
  | n + 1, h => Int.add_le_add (sg_le n fun x hx => h x (Nat.lt_succ_of_lt hx)) (h n (Nat.lt_succ_self n))
theorem sg_add (f g : Nat → Int) : ∀ n, sg (fun x => f x + g x) n = sg f n + sg g n
  | 0 => rfl
  | n + 1 => by
    show sg (fun x => f x + g x) n + (f n + g n) = (sg f n + f n) + (sg g n + g n)
    rw [sg_add f g n]
    omega
theorem sg_mul (c : Int) (f : Nat → Int) : ∀ n, sg (fun x => c * f x) n = c * sg f n
  | 0 => (Int.mul_zero c).symm
  | n + 1 => by
    show sg (fun x => c * f x) n + c * f n = c * (sg f n + f n)
    rw [sg_mul c f n, Int.mul_add]
theorem sg_const (c : Int) : ∀ n : Nat, sg (fun _ => c) n = n * c
  | 0 => by simp [sg]
  | n + 1 => by
    show sg (fun _ => c) n + c = ((n + 1 : Nat) : Int) * c
    rw [sg_const c n, Int.natCast_succ, Int.add_mul, Int.one_mul]
theorem sg_one (c : Nat → Int) (t : Nat) : ∀ n, sg (fun y => if y = t then c y else 0) n = if t < n then c t else 0
  | 0 => by simp [sg]
  | n + 1 => by
    show sg (fun y => if y = t then c y else 0) n + (if n = t then c n else 0) = _
    rw [sg_one c t n]
    by_cases h : n = t
    · subst h
      rw [if_neg (Nat.lt_irrefl n), if_pos rfl, if_pos (Nat.lt_succ_self n)]
      omega
    · rw [if_neg h]
      by_cases h2 : t < n
      · rw [if_pos h2, if_pos (Nat.lt_succ_of_lt h2)]
        omega
      · rw [if_neg h2, if_neg (by omega)]
        omega
theorem sg_mem (c : Nat → Int) (n : Nat) : ∀ T : List Nat, T.Nodup → (∀ t ∈ T, t < n) → sg (fun y => if y ∈ T then c y else 0) n = (T.map c).sum
  | [], _, _ => by
    have e : sg (fun y => if y ∈ ([] : List Nat) then c y else 0) n = sg (fun _ => 0) n := sg_congr n fun x _ => by simp
    rw [e, sg_const]
    simp
  | t :: T, hn, hl => by
    obtain ⟨h1, h2⟩ := List.nodup_cons.mp hn
    have e : sg (fun y => if y ∈ t :: T then c y else 0) n = sg (fun y => (if y = t then c y else 0) + (if y ∈ T then c y else 0)) n := sg_congr n fun x _ => by
      by_cases h : x = t
      · subst h
        simp [h1]
      · simp [h]
    rw [e, sg_add, sg_one, if_pos (hl t (List.mem_cons_self ..)), sg_mem c n T h2 fun x hx => hl x (List.mem_cons_of_mem _ hx), List.map_cons, List.sum_cons]
theorem sum_ones (T : List Nat) : (T.map fun _ => (1 : Int)).sum = T.length := by
  induction T with
  | nil => rfl
  | cons t T ih => rw [List.map_cons, List.sum_cons, ih, List.length_cons, Int.natCast_succ]; omega
theorem sum_bound (c : Nat → Int) (T : List Nat) (h : ∀ t ∈ T, -1 ≤ c t ∧ c t ≤ 1) : -(T.length : Int) ≤ (T.map c).sum ∧ (T.map c).sum ≤ T.length := by
  induction T with
  | nil => exact ⟨Int.le_refl _, Int.le_refl _⟩
  | cons t T ih =>
    have i := ih fun x hx => h x (List.mem_cons_of_mem _ hx)
    have j := h t (List.mem_cons_self ..)
    rw [List.map_cons, List.sum_cons, List.length_cons, Int.natCast_succ]
    omega
/-! bits, parities -/
def pcTo (m : Nat) : Nat → Nat
  | 0 => 0
  | k + 1 => pcTo m k + (m >>> k) % 2
def pc (m : Nat) : Nat := pcTo m 6
def chi (m x : Nat) : Nat := pc (m &&& x) % 2
theorem chi_lt (m x : Nat) : chi m x < 2 := Nat.mod_lt _ (by decide)
theorem pc_stop : ∀ m, m < 64 → ∀ k, k < 20 → m >>> k < 2 → pcTo m (k + 1) = pc m := by decide +kernel
theorem pc_go : ∀ m, m < 64 → m >>> 5 < 2 := by decide +kernel
theorem pc_xor : ∀ a, a < 64 → ∀ b, b < 64 → pc (a ^^^ b) % 2 = (pc a % 2 + pc b % 2) % 2 := by decide +kernel
theorem and64 {a b : Nat} (h : a < 64) : a &&& b < 64 := Nat.lt_of_le_of_lt Nat.and_le_left h
theorem chi_xor {m x y : Nat} (hm : m < 64) : chi m (x ^^^ y) = (chi m x + chi m y) % 2 := by
  unfold chi
  rw [Nat.and_xor_distrib_left]
  exact pc_xor _ (and64 hm) _ (and64 hm)
theorem chi_xor' {m k x : Nat} (hx : x < 64) : chi (m ^^^ k) x = (chi m x + chi k x) % 2 := by
  unfold chi
  rw [Nat.and_xor_distrib_right]
  exact pc_xor _ (by rw [Nat.and_comm]; exact and64 hx) _ (by rw [Nat.and_comm]; exact and64 hx)
/-- 1 for 0, -1 for 1 -/
def si (b : Nat) : Int := 1 - 2 * (b : Int)
theorem si_two {a b : Nat} (ha : a < 2) (hb : b < 2) : si ((a + b) % 2) = si a * si b := by
  have h1 : a = 0 ∨ a = 1 := by omega
  have h2 : b = 0 ∨ b = 1 := by omega
  rcases h1 with rfl | rfl <;> rcases h2 with rfl | rfl <;> decide
theorem si_pm {a : Nat} (ha : a < 2) : si a = 1 ∨ si a = -1 := by
  have h1 : a = 0 ∨ a = 1 := by omega
  rcases h1 with rfl | rfl
  · exact .inl (by decide)
  · exact .inr (by decide)
/-- the bit at x of the near table -/
def nb (m : Nat) (T : List Nat) (x : Nat) : Nat := if x ∈ T then 1 - chi m x else chi m x
theorem nb_lt (m : Nat) (T : List Nat) (x : Nat) : nb m T x < 2 := by
  have := chi_lt m x
  unfold nb
  split <;> omega
def near (n m : Nat) (T : List Nat) : List Int := (List.range (2 ^ n)).map fun x => (nb m T x : Int)
theorem near_len (n m : Nat) (T : List Nat) : (near n m T).length = 2 ^ n := by simp [near]
theorem near_get {n m : Nat} {T : List Nat} {x : Nat} (h : x < 2 ^ n) : (near n m T)[x]? = some (nb m T x : Int) := by
  unfold near
  rw [List.getElem?_map, List.getElem?_range h]
  rfl
theorem near_nil (n m : Nat) : near n m [] = (List.range (2 ^ n)).map fun x => (chi m x : Int) := by
  unfold near
  refine List.map_congr_left fun x _ => ?_
  unfold nb
  rw [if_neg (by simp)]
/-! votes -/
def df (a b : Nat) : Int := if a = b then 0 else 1
def v1 (n m : Nat) (T : List Nat) (x : Nat) : Int := sg (fun y => df (nb m T y) (nb m T (x ^^^ y))) (2 ^ n)
def isT (T : List Nat) (y : Nat) : Int := if y ∈ T then 1 else 0
theorem sg_isT {N : Nat} {T : List Nat} (hn : T.Nodup) (hl : ∀ t ∈ T, t < N) : sg (isT T) N = T.length := by
  have e := sg_mem (fun _ => 1) N T hn hl
  rw [sum_ones] at e
  exact e
theorem xor_mem {x y : Nat} {T : List Nat} : x ^^^ y ∈ T ↔ y ∈ T.map (x ^^^ ·) := by
  rw [List.mem_map]
  constructor
  · intro h
    exact ⟨x ^^^ y, h, by rw [← Nat.xor_assoc, Nat.xor_self, Nat.zero_xor]⟩
  · rintro ⟨t, h, rfl⟩
    rw [← Nat.xor_assoc, Nat.xor_self, Nat.zero_xor]
    exact h
theorem nodup_xor {x : Nat} {T : List Nat} (hn : T.Nodup) : (T.map (x ^^^ ·)).Nodup := by
  refine List.pairwise_map.mpr (List.Pairwise.imp (fun {a b} h e => h ?_) hn)
  have e2 : x ^^^ (x ^^^ a) = x ^^^ (x ^^^ b) := congrArg (x ^^^ ·) e
  rw [← Nat.xor_assoc, ← Nat.xor_assoc, Nat.xor_self, Nat.zero_xor, Nat.zero_xor] at e2
  exact e2
theorem sg_isTx {n x : Nat} {T : List Nat} (hx : x < 2 ^ n) (hn : T.Nodup) (hl : ∀ t ∈ T, t < 2 ^ n) : sg (fun y => isT T (x ^^^ y)) (2 ^ n) = T.length := by
  have e : sg (fun y => isT T (x ^^^ y)) (2 ^ n) = sg (isT (T.map (x ^^^ ·))) (2 ^ n) := sg_congr _ fun y _ => by
    unfold isT
    by_cases h : x ^^^ y ∈ T
    · rw [if_pos h, if_pos (xor_mem.mp h)]
    · rw [if_neg h, if_neg fun z => h (xor_mem.mpr z)]
  rw [e, sg_isT (nodup_xor hn) fun t ht => ?_, List.length_map]
  obtain ⟨u, hu, rfl⟩ := List.mem_map.mp ht
  exact Nat.xor_lt_two_pow hx (hl u hu)
section
variable {n m : Nat} {T : List Nat}
theorem bad_le {x y : Nat} (hm : m < 64) : df ((nb m T y + nb m T (x ^^^ y)) % 2) (chi m x) ≤ isT T y + isT T (x ^^^ y) := by
  have e := chi_xor (m := m) (x := x) (y := y) hm
  have h1 := chi_lt m x
  have h2 := chi_lt m y
  unfold df isT nb
  by_cases t1 : y ∈ T <;> by_cases t2 : x ^^^ y ∈ T
  · rw [if_pos t1, if_pos t2, if_pos t1, if_pos t2]; split <;> omega
  · rw [if_pos t1, if_neg t2, if_pos t1, if_neg t2]; split <;> omega
  · rw [if_neg t1, if_pos t2, if_neg t1, if_pos t2]; split <;> omega
  · rw [if_neg t1, if_neg t2, if_neg t1, if_neg t2, if_pos (by rw [e]; omega)]; omega
theorem df_sum {a b : Nat} (ha : a < 2) (hb : b < 2) : df a b = df ((a + b) % 2) 0 := by
  have h1 : a = 0 ∨ a = 1 := by omega
  have h2 : b = 0 ∨ b = 1 := by omega
  rcases h1 with rfl | rfl <;> rcases h2 with rfl | rfl <;> decide
theorem df_flip {c : Nat} (h : c < 2) : df c 0 = 1 - df c 1 := by
  have h1 : c = 0 ∨ c = 1 := by omega
  rcases h1 with rfl | rfl <;> decide
theorem sum_bad {x : Nat} (hm : m < 64) (hx : x < 2 ^ n) (hn : T.Nodup) (hl : ∀ t ∈ T, t < 2 ^ n) :
    sg (fun y => df ((nb m T y + nb m T (x ^^^ y)) % 2) (chi m x)) (2 ^ n) ≤ 2 * (T.length : Int) := by
  have h := sg_le (2 ^ n) fun y (_ : y < 2 ^ n) => bad_le (T := T) (x := x) (y := y) hm
  rw [sg_add (isT T) (fun y => isT T (x ^^^ y)), sg_isT hn hl, sg_isTx hx hn hl] at h
  omega
theorem v1_lo {x : Nat} (hm : m < 64) (hx : x < 2 ^ n) (hn : T.Nodup) (hl : ∀ t ∈ T, t < 2 ^ n) (hc : chi m x = 0) : v1 n m T x ≤ 2 * (T.length : Int) := by
  have h := sum_bad hm hx hn hl
  have e : v1 n m T x = sg (fun y => df ((nb m T y + nb m T (x ^^^ y)) % 2) (chi m x)) (2 ^ n) := sg_congr _ fun y _ => by
    rw [hc]
    exact df_sum (nb_lt _ _ _) (nb_lt _ _ _)
  rw [e]
  exact h
theorem v1_hi {x : Nat} (hm : m < 64) (hx : x < 2 ^ n) (hn : T.Nodup) (hl : ∀ t ∈ T, t < 2 ^ n) (hc : chi m x = 1) : ((2 ^ n : Nat) : Int) - 2 * (T.length : Int) ≤ v1 n m T x := by
  have h := sum_bad hm hx hn hl
  have e : v1 n m T x = sg (fun y => 1 + (-1) * df ((nb m T y + nb m T (x ^^^ y)) % 2) (chi m x)) (2 ^ n) := sg_congr _ fun y _ => by
    rw [hc]
    have e1 := df_sum (nb_lt m T y) (nb_lt m T (x ^^^ y))
    have e2 := df_flip (Nat.mod_lt (nb m T y + nb m T (x ^^^ y)) (by decide : 0 < 2))
    omega
  rw [sg_add, sg_const, sg_mul] at e
  omega
/-- the margin at x with the sign of the sum-table -/
theorem marg_ge {x : Nat} (hm : m < 64) (hx : x < 2 ^ n) (hn : T.Nodup) (hl : ∀ t ∈ T, t < 2 ^ n) :
    ((2 ^ n : Nat) : Int) - 4 * (T.length : Int) ≤ (((2 ^ n : Nat) : Int) - v1 n m T x - v1 n m T x) * (1 - 2 * (chi m x : Int)) := by
  have h : chi m x = 0 ∨ chi m x = 1 := by have := chi_lt m x; omega
  rcases h with h | h
  · have := v1_lo hm hx hn hl h
    rw [h]
    show _ ≤ _ * (1 : Int)
    omega
  · have := v1_hi hm hx hn hl h
    rw [h]
    show _ ≤ _ * (-1 : Int)
    omega
/-- the mended bit -/
def mb (n m : Nat) (T : List Nat) (x : Nat) : Int :=
  if v1 n m T x < ((2 ^ n : Nat) : Int) - v1 n m T x then 0 else if ((2 ^ n : Nat) : Int) - v1 n m T x < v1 n m T x then 1 else (nb m T x : Int)
theorem mb_eq {x : Nat} (hm : m < 64) (hx : x < 2 ^ n) (hn : T.Nodup) (hl : ∀ t ∈ T, t < 2 ^ n) (h4 : 4 * T.length < 2 ^ n) : mb n m T x = (chi m x : Int) := by
  have h : chi m x = 0 ∨ chi m x = 1 := by have := chi_lt m x; omega
  unfold mb
  rcases h with h | h
  · have := v1_lo hm hx hn hl h
    rw [if_pos (by omega), h]
    rfl
  · have := v1_hi hm hx hn hl h
    rw [if_neg (by omega), if_pos (by omega), h]
    rfl
/-- the unlike count with the sum-table -/
theorem unl_eq (hn : T.Nodup) (hl : ∀ t ∈ T, t < 2 ^ n) : sg (fun x => df (nb m T x) (nb m [] x)) (2 ^ n) = T.length := by
  rw [← sg_isT hn hl]
  refine sg_congr _ fun x _ => ?_
  have := chi_lt m x
  unfold df isT nb
  rw [if_neg (show ¬ x ∈ ([] : List Nat) by simp)]
  by_cases h : x ∈ T
  · rw [if_pos h, if_pos h, if_neg (by omega)]
  · rw [if_neg h, if_neg h, if_pos rfl]
end
/-! the scores by steps -/
def stp (f : Nat → Int) (p a : Nat) : Int := if a &&& 2 ^ p = 0 then f a + f (a ||| 2 ^ p) else f (a ^^^ 2 ^ p) - f a
def wht (f : Nat → Int) : Nat → Nat → Int
  | 0 => f
  | p + 1 => stp (wht f p) p
theorem wht_lin (c : Int) (f g : Nat → Int) : ∀ (p a : Nat), wht (fun x => c * f x + g x) p a = c * wht f p a + wht g p a
  | 0, _ => rfl
  | p + 1, a => by
    show stp (wht (fun x => c * f x + g x) p) p a = c * stp (wht f p) p a + stp (wht g p) p a
    unfold stp
    split
    · rw [wht_lin c f g p, wht_lin c f g p]; grind
    · rw [wht_lin c f g p, wht_lin c f g p]; grind
theorem wht_zero : ∀ (p a : Nat), wht (fun _ => 0) p a = 0
  | 0, _ => rfl
  | p + 1, a => by
    show stp (wht (fun _ => 0) p) p a = 0
    unfold stp
    split <;> rw [wht_zero p, wht_zero p] <;> rfl
theorem wht_ext {f g : Nat → Int} (n : Nat) (h : ∀ x, x < 2 ^ n → f x = g x) : ∀ (p a : Nat), p ≤ n → a < 2 ^ n → wht f p a = wht g p a
  | 0, a, _, ha => h a ha
  | p + 1, a, hp, ha => by
    have hq : 2 ^ p < 2 ^ n := Nat.pow_lt_pow_right (by decide) hp
    show stp (wht f p) p a = stp (wht g p) p a
    unfold stp
    rw [wht_ext n h p a (Nat.le_of_succ_le hp) ha, wht_ext n h p _ (Nat.le_of_succ_le hp) (Nat.or_lt_two_pow ha hq), wht_ext n h p _ (Nat.le_of_succ_le hp) (Nat.xor_lt_two_pow ha hq)]
def e1 (t x : Nat) : Int := if x = t then 1 else 0
theorem wht_sum (f : Nat → Int) (p a : Nat) : ∀ k : Nat, wht (fun x => if x < k then f x else 0) p a = sg (fun t => f t * wht (e1 t) p a) k
  | 0 => by
    have e : (fun x => if x < 0 then f x else 0) = fun _ => (0 : Int) := by funext x; rw [if_neg (Nat.not_lt_zero x)]
    rw [e, wht_zero]
    rfl
  | k + 1 => by
    have e : (fun x => if x < k + 1 then f x else 0) = fun x => f k * e1 k x + (if x < k then f x else 0) := by
      funext x
      unfold e1
      by_cases h : x = k
      · subst h
        rw [if_pos (Nat.lt_succ_self x), if_pos rfl, if_neg (Nat.lt_irrefl x)]
        omega
      · rw [if_neg h]
        by_cases h2 : x < k
        · rw [if_pos (Nat.lt_succ_of_lt h2), if_pos h2]; omega
        · rw [if_neg (by omega), if_neg h2]; omega
    rw [e, wht_lin, wht_sum f p a k]
    show _ = sg (fun t => f t * wht (e1 t) p a) k + f k * wht (e1 k) p a
    omega
theorem wht_e1 : ∀ n, n < 7 → ∀ t, t < 2 ^ n → ∀ s, s < 2 ^ n → wht (e1 t) n s = si (chi s t) := by decide +kernel
theorem wht_eq {n : Nat} (hn : n < 7) (f : Nat → Int) {s : Nat} (hs : s < 2 ^ n) : wht f n s = sg (fun t => f t * si (chi s t)) (2 ^ n) := by
  rw [wht_ext n (g := fun x => if x < 2 ^ n then f x else 0) (fun x hx => by rw [if_pos hx]) n s (Nat.le_refl _) hs, wht_sum]
  exact sg_congr _ fun t ht => by rw [wht_e1 n hn t ht s hs]
theorem chi_sum : ∀ n, n < 7 → ∀ d, d < 2 ^ n → sg (fun t => si (chi d t)) (2 ^ n) = if d = 0 then ((2 ^ n : Nat) : Int) else 0 := by decide +kernel
end K46
set_option Elab.async false
namespace K46
section
variable {n m : Nat} {T : List Nat}
theorem si_nb {m : Nat} {T : List Nat} {x : Nat} : si (nb m T x) = si (chi m x) + (-2) * (if x ∈ T then si (chi m x) else 0) := by
  have h : chi m x = 0 ∨ chi m x = 1 := by have := chi_lt m x; omega
  unfold nb
  by_cases t : x ∈ T
  · rw [if_pos t, if_pos t]
    rcases h with h | h <;> rw [h] <;> decide
  · rw [if_neg t, if_neg t]
    omega
def score (n m : Nat) (T : List Nat) (s : Nat) : Int := wht (fun x => si (nb m T x)) n s
theorem p64 {n : Nat} (hn : n < 7) : 2 ^ n ≤ 64 := Nat.pow_le_pow_right (by decide : 0 < 2) (show n ≤ 6 by omega)
theorem score_eq {s : Nat} (hn : n < 7) (hm : m < 2 ^ n) (hs : s < 2 ^ n) (hd : T.Nodup) (hl : ∀ t ∈ T, t < 2 ^ n) :
    score n m T s = (if m ^^^ s = 0 then ((2 ^ n : Nat) : Int) else 0) - 2 * (T.map fun t => si (chi (m ^^^ s) t)).sum := by
  have h64 := p64 hn
  unfold score
  rw [wht_eq hn _ hs, ← chi_sum n hn (m ^^^ s) (Nat.xor_lt_two_pow hm hs), ← sg_mem (fun t => si (chi (m ^^^ s) t)) (2 ^ n) T hd hl]
  have e : sg (fun t => si (nb m T t) * si (chi s t)) (2 ^ n) = sg (fun t => si (chi (m ^^^ s) t) + (-2) * (if t ∈ T then si (chi (m ^^^ s) t) else 0)) (2 ^ n) := sg_congr _ fun t ht => by
    rw [chi_xor' (show t < 64 by omega), si_two (chi_lt _ _) (chi_lt _ _), si_nb]
    by_cases h : t ∈ T
    · rw [if_pos h, if_pos h]; grind
    · rw [if_neg h, if_neg h]; grind
  rw [e, sg_add, sg_mul]
  omega
def cnt (n m : Nat) (T : List Nat) (s : Nat) : Int := (((2 ^ n : Nat) : Int) - score n m T s) / 2
theorem cnt_m (hn : n < 7) (hm : m < 2 ^ n) (hd : T.Nodup) (hl : ∀ t ∈ T, t < 2 ^ n) : cnt n m T m = T.length := by
  unfold cnt
  rw [score_eq hn hm hm hd hl, Nat.xor_self, if_pos rfl]
  have e : (T.map fun t => si (chi 0 t)) = T.map fun _ => (1 : Int) := List.map_congr_left fun t _ => by
    unfold chi
    rw [Nat.zero_and]
    decide
  rw [e, sum_ones]
  omega
theorem even_pow : ∀ n, n < 7 → n ≠ 0 → (2 ^ n) % 2 = 0 := by decide
theorem cnt_gt {s : Nat} (hn : n < 7) (hm : m < 2 ^ n) (hs : s < 2 ^ n) (hd : T.Nodup) (hl : ∀ t ∈ T, t < 2 ^ n) (h4 : 4 * T.length < 2 ^ n) (hne : s ≠ m) : (T.length : Int) < cnt n m T s := by
  have hx : m ^^^ s ≠ 0 := fun e => hne (by
    have e2 : m ^^^ (m ^^^ s) = m ^^^ 0 := congrArg (m ^^^ ·) e
    rw [← Nat.xor_assoc, Nat.xor_self, Nat.zero_xor, Nat.xor_zero] at e2
    exact e2)
  have h0 : n ≠ 0 := fun e => by
    subst e
    omega
  have he := even_pow n hn h0
  have b := sum_bound (fun t => si (chi (m ^^^ s) t)) T fun t _ => by
    rcases si_pm (chi_lt (m ^^^ s) t) with h | h <;> rw [h] <;> decide
  unfold cnt
  rw [score_eq hn hm hs hd hl, if_neg hx]
  omega
/-- the list of the unlike counts -/
def cnts (n m : Nat) (T : List Nat) : List Int := (List.range (2 ^ n)).map (cnt n m T)
theorem cnts_get {s : Nat} (h : s < 2 ^ n) : (cnts n m T)[s]? = some (cnt n m T s) := by
  unfold cnts
  rw [List.getElem?_map, List.getElem?_range h]
  rfl
theorem cnts_min (hn : n < 7) (hm : m < 2 ^ n) (hd : T.Nodup) (hl : ∀ t ∈ T, t < 2 ^ n) (h4 : 4 * T.length < 2 ^ n) {y : Int} (h1 : y ∈ cnts n m T) (h2 : ∀ z, z ∈ cnts n m T → y ≤ z) : y = T.length := by
  have a := h2 _ (List.mem_map.mpr ⟨m, List.mem_range.mpr hm, rfl⟩)
  rw [cnt_m hn hm hd hl] at a
  obtain ⟨s, hs, rfl⟩ := List.mem_map.mp h1
  by_cases e : s = m
  · rw [e, cnt_m hn hm hd hl]
  · have := cnt_gt hn hm (List.mem_range.mp hs) hd hl h4 e
    omega
/-- the sets with the least count among the first k -/
def least (m k : Nat) : List Int := if m < k then [(m : Int)] else []
theorem least_succ {k : Nat} (hn : n < 7) (hm : m < 2 ^ n) (hd : T.Nodup) (hl : ∀ t ∈ T, t < 2 ^ n) (h4 : 4 * T.length < 2 ^ n) (hk : k < 2 ^ n) :
    (cnt n m T k = T.length → least m (k + 1) = least m k ++ [(k : Int)]) ∧ (cnt n m T k ≠ T.length → least m (k + 1) = least m k) := by
  unfold least
  by_cases e : k = m
  · subst e
    rw [cnt_m hn hm hd hl]
    refine ⟨fun _ => ?_, fun h => absurd rfl h⟩
    rw [if_pos (Nat.lt_succ_self k), if_neg (Nat.lt_irrefl k)]
    rfl
  · have := cnt_gt hn hm hk hd hl h4 e
    refine ⟨fun h => by omega, fun _ => ?_⟩
    by_cases h2 : m < k
    · rw [if_pos h2, if_pos (by omega)]
    · rw [if_neg h2, if_neg (by omega)]
end
/-! Euclid -/
def eus (p : Nat × Nat) : Nat × Nat := if p.2 = 0 then p else (p.2, p.1 % p.2)
theorem eus_gcd (p : Nat × Nat) : Nat.gcd (eus p).1 (eus p).2 = Nat.gcd p.1 p.2 := by
  unfold eus
  by_cases h : p.2 = 0
  · rw [if_pos h]
  · rw [if_neg h]
    show Nat.gcd p.2 (p.1 % p.2) = _
    rw [Nat.gcd_comm, ← Nat.gcd_rec, Nat.gcd_comm]
def eu (a b : Nat) : Nat → Nat × Nat
  | 0 => (a, b)
  | k + 1 => eus (eu a b k)
theorem eu_gcd (a b : Nat) : ∀ k, Nat.gcd (eu a b k).1 (eu a b k).2 = Nat.gcd a b
  | 0 => rfl
  | k + 1 => (eus_gcd _).trans (eu_gcd a b k)
theorem eu_end : ∀ n, n < 7 → ∀ a, a < 16 → (eu a (2 ^ n) (2 * (n + 1) + 3)).2 = 0 := by decide +kernel
end K46
set_option Elab.async false
set_option linter.all false
set_option maxRecDepth 100000
set_option maxHeartbeats 4000000
namespace K46
open PySem PySem.Spec PyProof.Rows L2
def topS (i : Nat) : Stmt := PySem.Challenge.pw_bitshades_k46_whole_mends_a_near_sum.main.body.getD i (.Pass ⟨0, 0, 0, 0⟩)
abbrev s_check_integer_ratios : Stmt := topS 7
abbrev s_common_divisor : Stmt := topS 9
abbrev s_lowest : Stmt := topS 10
abbrev s_ratio : Stmt := topS 11
abbrev s_check_integer_tables : Stmt := topS 14
abbrev s_check_between : Stmt := topS 16
abbrev s_check_width : Stmt := topS 17
abbrev s_check_word : Stmt := topS 18
abbrev s_check_row : Stmt := topS 19
abbrev s_check_bits : Stmt := topS 20
abbrev s_check_table_shades : Stmt := topS 23
abbrev s_width_of_length : Stmt := topS 25
abbrev s_stepped : Stmt := topS 26
abbrev s_all_steps : Stmt := topS 27
abbrev s_scores : Stmt := topS 28
abbrev s_check_table_pairs : Stmt := topS 30
abbrev s_check_same_width : Stmt := topS 32
abbrev s_counted_votes : Stmt := topS 34
abbrev s_all_votes : Stmt := topS 35
abbrev s_mended_bit : Stmt := topS 36
abbrev s_margins : Stmt := topS 37
abbrev s_mend_log : Stmt := topS 38
abbrev s_mended : Stmt := topS 39
abbrev s_unlike : Stmt := topS 41
abbrev s_distances : Stmt := topS 42
abbrev s_nearest : Stmt := topS 43
abbrev s_sum_distance : Stmt := topS 44
abbrev s_unique_nearest : Stmt := topS 45
abbrev s_law_mixed : Stmt := topS 47
abbrev s_law_wide : Stmt := topS 48
abbrev s_law_store : Stmt := topS 49
abbrev s_law_take : Stmt := topS 50
abbrev s_law_near : Stmt := topS 51
abbrev s_law_same : Stmt := topS 52
abbrev s_law_spoil : Stmt := topS 53
abbrev s_law_is_table : Stmt := topS 54
abbrev s_law_size : Stmt := topS 55
abbrev s_law_parity : Stmt := topS 56
abbrev s_law_width : Stmt := topS 57
abbrev s_law_word : Stmt := topS 58
abbrev s_law_shuffled : Stmt := topS 59
abbrev s_law_lowest : Stmt := topS 60
abbrev s_law_votes : Stmt := topS 61
abbrev s_law_near_sum : Stmt := topS 62
abbrev s_law_good : Stmt := topS 63
abbrev s_law : Stmt := topS 64
abbrev s_init : Stmt := inClass (topS 21) 0
abbrev s_width : Stmt := inClass (topS 21) 3
abbrev s_bits : Stmt := inClass (topS 21) 4
abbrev s_signs : Stmt := inClass (topS 21) 8
/-- a def of the text under the module's name x -/
structure Df (K : PySem.W.Frag) (mg : Str → Option Value) (x nm : Str) (st : Stmt) : Prop where
  ex : ∃ (f : Addr) (fd : FuncData), mg x = some (.ref f) ∧ FunD K nm nm (defArgs st) (defBody st) (defScope st) [] [] f fd
/-- what the class Table is behind the top -/
structure Txt (K : PySem.W.Frag) (mg : Str → Option Value) (C : Addr) : Prop where
  cl : Cls K C
  ins : C8.InsC K C
  nW : NoAttr K C "wide"
  nH : NoAttr K C "held"
  mgC : mg "Table" = some (.ref C)
  kp : PySem.W.keepIn K (.ref C) = true
  mkI : ∃ (f : Addr) (fd : FuncData), Mk K C f ∧ FunD K "__init__" "Table.__init__" (defArgs s_init) (defBody s_init) (defScope s_init) [] [] f fd
  sgn : ∃ (f : Addr) (fd : FuncData), Meth K C "signs" f ∧ FunD K "signs" "Table.signs" (defArgs s_signs) (defBody s_signs) (defScope s_signs) [] [] f fd
  pw : ∃ (p f : Addr) (fd : FuncData), PropOf K C "width" p f ∧ FunD K "width" "Table.width" (defArgs s_width) (defBody s_width) (defScope s_width) [] [] f fd
  pb : ∃ (p f : Addr) (fd : FuncData), PropOf K C "bits" p f ∧ FunD K "bits" "Table.bits" (defArgs s_bits) (defBody s_bits) (defScope s_bits) [] [] f fd
/-- the built-in names that the text does not bind -/
structure Fre (mg : Str → Option Value) : Prop where
  z_isinstance : mg "isinstance" = none
  z_int : mg "int" = none
  z_bool : mg "bool" = none
  z_list : mg "list" = none
  z_tuple : mg "tuple" = none
  z_str : mg "str" = none
  z_len : mg "len" = none
  z_range : mg "range" = none
  z_abs : mg "abs" = none
  z_min : mg "min" = none
  z_max : mg "max" = none
  z_sum : mg "sum" = none
  z_zip : mg "zip" = none
  z_enumerate : mg "enumerate" = none
  most : ∃ t, mg "MOST_WIDTH" = some (.int 6 t)
end K46
set_option Elab.async false
set_option linter.all false
set_option maxRecDepth 100000
set_option maxHeartbeats 4000000
namespace K46
open PySem PySem.Spec PyProof.Rows L2
/-- a def under the module's name x keeps its promise -/
structure Fc (P : Program) (w : World) (K : PySem.W.Frag) (mg : Str → Option Value) (base : Heap) (k : Nat) (x : Str) (ps : List Str) (sp : Sp) : Prop where
  ex : ∃ (f : Addr) (fd : FuncData), mg x = some (.ref f) ∧ PySem.W.keepIn K (.ref f) = true ∧ (∃ oc od sl, K.lookup f = some ⟨oc, od, .func fd, sl⟩) ∧ Binds K fd ps [] ∧ FnOk P w K mg base CX0 k f fd ps sp
/-- .. and binds a call whose arguments are all keywords, in the parameters' order -/
structure Fk (P : Program) (w : World) (K : PySem.W.Frag) (mg : Str → Option Value) (base : Heap) (k : Nat) (x : Str) (ps : List Str) (sp : Sp) : Prop where
  ex : ∃ (f : Addr) (fd : FuncData), mg x = some (.ref f) ∧ PySem.W.keepIn K (.ref f) = true ∧ KBn K fd ps 0 ps (fun _ ws => ws) (fun _ zs => zs) ∧ FnOk P w K mg base CX0 k f fd ps sp
section
variable {P : Program} {w : World} {K : PySem.W.Frag} {mg : Str → Option Value} {base : Heap} {k j : Nat} {x nm : Str} {st : Stmt} {N ps : List Str} {sp sp' : Sp}
theorem Df.fc (D : Df K mg x nm st) (S : FnScope N ps (defScope st))
    (hb : ∀ (kV doc pm : Value) (an : Option Addr) (cdv ct : Value) (us : List Value), us.length = ps.length → bindArgs (PySem.W.fnOf nm nm (defArgs st) (defBody st) (defScope st) .none kV doc pm an cdv ct) ⟨us, []⟩ = pure (ps.zip us))
    (len : ∀ vs H Q E, sp vs H Q E → vs.length = ps.length)
    (hbody : ∀ (f : Addr) (cdv : Value) (A : Around) (outer : List Env) (s : Shared) (H : Hp) (vs : List V) (Q : VK) (E : XK), Room k (A.deeper (envOfC nm (defScope st) s.heap.objs.size f cdv)) → sp vs H Q E →
      ∃ t, PSs (cxOf CX0 P w K mg base N nm (defScope st) f cdv A outer s H E).nox (defBody st) t ∧ t { nx := fun _ H' => Q .non H', rt := Q } (start N vs) H) : Fc P w K mg base (k + 1) x ps sp := by
  obtain ⟨f, fd, hm, F⟩ := D.ex
  have lk : ∃ oc od sl, K.lookup f = some ⟨oc, od, .func fd, sl⟩ := by
    obtain ⟨oc, od, dV, kV, doc, pm, an, cdv, ct, osl, e, lk, _⟩ := F.ex
    exact ⟨oc, od, osl, lk⟩
  refine ⟨f, fd, hm, F.kp, lk, F.bindsN hb, F.ok S len fun cdv A outer s H vs Q E hr h => ?_⟩
  obtain ⟨t, ht, q⟩ := hbody f cdv A outer s H vs Q E hr h
  exact ⟨t, ht.nox, q⟩
/-- the same def, called by keywords -/
theorem Df.fk (D : Df K mg x nm st) (C : Fc P w K mg base k x ps sp)
    (hk : ∀ (kV doc pm : Value) (an : Option Addr) (cdv ct : Value) (ws : List Value), ws.length = ps.length → bindArgs (PySem.W.fnOf nm nm (defArgs st) (defBody st) (defScope st) .none kV doc pm an cdv ct) ⟨[], ps.zip ws⟩ = pure (ps.zip ws)) : Fk P w K mg base k x ps sp := by
  obtain ⟨f, fd, hm, F⟩ := D.ex
  obtain ⟨f', fd', hm', kp, ⟨oc', od', sl', lk'⟩, hb, G⟩ := C.ex
  have e : f' = f := by
    have z := hm'.symm.trans hm
    injection z with z
    injection z
  subst e
  obtain ⟨oc, od, dV, kV, doc, pm, an, cdv, ct, osl, rfl, lk, _, hD, _⟩ := F.ex
  have e2 : fd' = PySem.W.fnOf nm nm (defArgs st) (defBody st) (defScope st) dV kV doc pm an cdv ct := by
    have z := lk'.symm.trans lk
    injection z with z
    injection z with _ _ z _
    injection z
  subst e2
  rcases hD with ⟨_, rfl⟩ | ⟨z, _⟩
  · refine ⟨f', _, hm, kp, ⟨fun s us ws X l1 l2 => ?_, fun _ r => r⟩, G⟩
    have e : us = [] := List.eq_nil_of_length_eq_zero l1
    subst e
    exact .of_eq (hk kV doc pm an cdv ct ws l2)
  · exact absurd rfl z
theorem Fc.mono (F : Fc P w K mg base j x ps sp) (h : j ≤ k) : Fc P w K mg base k x ps sp := by
  obtain ⟨f, fd, a, b, l, c, G⟩ := F.ex
  exact ⟨f, fd, a, b, l, c, G.mono h⟩
theorem Fc.imp (F : Fc P w K mg base k x ps sp) (h : ∀ vs H Q E, sp' vs H Q E → sp vs H Q E) : Fc P w K mg base k x ps sp' := by
  obtain ⟨f, fd, a, b, l, c, G⟩ := F.ex
  exact ⟨f, fd, a, b, l, c, G.imp h⟩
end
section
variable {X : Cx} {k : Nat} {x : Str} {ps : List Str} {sp : Sp} {p pos : Pos} {e : Expr} {es : List Expr} {kws : List Keyword} {t tk : TA}
/-- f(e, ..) -/
theorem pe_fc (F : Fc X.prog X.w X.K X.mg X.base k x ps sp) (hr : Room k X.A) (hg : Gl X x) (ha : PA X (e :: es) t) (hdb : (x == ("__debug__" : Str)) = false := by decide) (he : starEach (e :: es) X.env = (false, eval e X.env) :: starEach es X.env := by rfl) (hpl : (backTo pos (starEach es X.env)).any (·.1) = false := by rfl) :
    PE X (.Call (.Name x p) (e :: es) [] pos) (tCall sp [] E0 t) := by
  obtain ⟨f, fd, hm, kp, _, hb, G⟩ := F.ex
  exact pe_call G hr hg hm kp hb .nil pass0 ha hdb he hpl
/-- f(k = e, ..) -/
def tCK (sp : Sp) (n : Nat) (tk : TA) : TE := fun σ H Q => tk σ H fun zs H2 => zs.length = n ∧ sp zs H2 Q E0
theorem pe_fk (F : Fk X.prog X.w X.K X.mg X.base k x ps sp) (hr : Room k X.A) (hg : Gl X x) (hkw : PK X kws tk) (hall : (backToKw pos (keywordEach kws X.env)).all (·.1.isSome) = true := by rfl) (hks : (backToKw pos (keywordEach kws X.env)).filterMap (·.1) = ps := by rfl)
    (hdb : (x == ("__debug__" : Str)) = false := by decide)
    (hpl : ((backTo pos (starEach [] X.env)).any (·.1) || (backToKw pos (keywordEach kws X.env)).any (·.1.isNone)) = false := by rfl) :
    PE X (.Call (.Name x p) [] kws pos) (tCK sp ps.length tk) := by
  obtain ⟨f, fd, hm, kp, hb, G⟩ := F.ex
  refine ⟨fun pins s σ H Q I h => ?_⟩
  refine wpAny_Call_Name_kw (ld_glob I hg hm ?_ hdb)
  refine PySem.W.callWith_KW0 (h₀ := X.base) I.ok.mod.kin kp hall (thn (hkw.run pos pins s σ H _ I h) fun ws s2 ⟨zs, H2, I2, rz, l2, q2⟩ => ⟨I2.kIn, ?_⟩) hpl
  rw [hks]
  exact run_fnN (us := []) (vs := []) G hr hb pass0 I2 .nil rz rfl l2 q2
end
/-- a built-in type by its name -/
theorem pe_tyn {X : Cx} {x : Str} {T : String} {pos : Pos} (hg : Gl X x) (hm : X.mg x = none) (hv : bootBuiltins x = some (.type T)) (hn : x ≠ "__name__" := by decide) (hd : (x == ("__debug__" : Str)) = false := by decide) : PE X (.Name x pos) (tC (.ty T)) := pe_bltn (v := .ty T) hg hm hv rfl hn hd
/-! ### a table in the heap -/
theorem hw : ¬ (("wide" : Str) = "held") := by decide +kernel
def tf (n : Nat) (t : Addr) : List (Str × V) := putF "held" (.ref t) (putF "wide" (.int (n : Nat)) [])
theorem tf_eq (n : Nat) (t : Addr) : tf n t = ([("wide", V.int (n : Nat)), ("held", V.ref t)] : List (Str × V)) := by
  show (if ("wide" : Str) = "held" then [(("wide" : Str), V.ref t)] else (("wide" : Str), V.int (n : Nat)) :: putF "held" (V.ref t) []) = ([("wide", V.int (n : Nat)), ("held", V.ref t)] : List (Str × V))
  rw [if_neg hw]
  all_goals rfl
theorem tf_wide (n : Nat) (t : Addr) : (tf n t).lookup ("wide" : Str) = some (.int (n : Nat)) := by
  unfold tf
  rw [lookup_putF, if_neg hw, lookup_putF, if_pos rfl]
theorem tf_held (n : Nat) (t : Addr) : (tf n t).lookup ("held" : Str) = some (.ref t) := by
  unfold tf
  rw [lookup_putF, if_pos rfl]
theorem tf_no (n : Nat) (t : Addr) {m : Str} (h1 : ¬ m = "held") (h2 : ¬ m = "wide") : (tf n t).lookup m = none := by
  unfold tf
  rw [lookup_putF, if_neg h1, lookup_putF, if_neg h2]
  all_goals rfl
/-- a Table of width n with the bits b stands at p -/
def TabAt (C : Addr) (H : Hp) (p : Addr) (n : Nat) (b : List Int) : Prop := ∃ dx t, H p = some (.ins C dx (tf n t)) ∧ H t = some (.tup (b.map V.int))
theorem TabAt.same {C : Addr} {H H' : Hp} {p : Addr} {n : Nat} {b : List Int} (h : TabAt C H p n b) (s : Same H H') : TabAt C H' p n b := by
  obtain ⟨dx, t, h1, h2⟩ := h
  exact ⟨dx, t, s _ _ h1, s _ _ h2⟩
theorem same_upd {H : Hp} {p : Addr} {o : HO} (h : H p = none) : Same H (upd H p o) := fun b x e => by
  rw [upd_ne (ne_of_none e h)]
  exact e
/-- bits of a width -/
structure Bits (n : Nat) (b : List Int) : Prop where
  wd : n < 7
  len : b.length = 2 ^ n
  bit : ∀ v ∈ b, v = 0 ∨ v = 1
theorem pow64 {n : Nat} (h : n < 7) : 2 ^ n ≤ 64 := Nat.pow_le_pow_right (by decide : 0 < 2) (show n ≤ 6 by omega)
theorem Bits.le {n : Nat} {b : List Int} (B : Bits n b) : b.length ≤ 64 := by rw [B.len]; exact pow64 B.wd
theorem sz {n : Nat} (h : n ≤ 64) : n < sizeLine := Nat.lt_of_le_of_lt h (by decide)
theorem shl_one {n : Nat} : (1 : Int) * 2 ^ ((n : Int).toNat) = ((2 ^ n : Nat) : Int) := by
  rw [Int.toNat_natCast, Int.one_mul, Int.natCast_pow]
  rfl
theorem cpow {n : Nat} (h : n < 7) : CPow 1 (n : Int) := ⟨Int.natCast_nonneg n, by omega, by decide⟩
theorem map_get {l : List Int} {i : Nat} {y : V} (h : (l.map V.int)[i]? = some y) : ∃ z, l[i]? = some z ∧ y = V.int z := by
  rw [List.getElem?_map] at h
  cases e : l[i]? with
  | none =>
    rw [e] at h
    cases h
  | some z =>
    rw [e] at h
    exact ⟨z, rfl, (Option.some.inj h).symm⟩
theorem get_map {l : List Int} {i : Nat} {z : Int} (h : l[i]? = some z) : (l.map V.int)[i]? = some (V.int z) := by
  rw [List.getElem?_map, h]
  rfl
/-- all that was tracked but what stands at s is as it was -/
def But (s : Addr) (H H' : Hp) : Prop := ∀ b o, H b = some o → b ≠ s → H' b = some o
theorem But.refl (s : Addr) (H : Hp) : But s H H := fun _ _ h _ => h
theorem But.trans {s : Addr} {H H1 H2 : Hp} (a : But s H H1) (b : But s H1 H2) : But s H H2 := fun c o h hc => b c o (a c o h hc) hc
theorem Same.but {s : Addr} {H H' : Hp} (a : Same H H') : But s H H' := fun b o h _ => a b o h
theorem Same.none {H H' : Hp} (e : Same H H') {l : Addr} (h : H' l = Option.none) : H l = Option.none := e.free h
end K46
set_option Elab.async false
set_option linter.all false
set_option maxRecDepth 100000
set_option maxHeartbeats 4000000
namespace K46
open PySem PySem.Spec PyProof.Rows L2
/-! ### comprehensions without a test -/
section
variable {J : It} {n : Nat} {G : Hp → Prop} {Y : Nat → Hp → V → Hp → Prop}
theorem lc_rel (w : Walk J n G Y) {g : TG} {te : TE} {vs : List Nat} {σ : L2.St} {H1 : Hp} {D : Addr} {Qd : Hp → Prop} (R : Nat → V → Hp → Prop) (hn : n ≤ 64) (hD : H1 D = none) (hG : ∀ H, Same H1 H → G H)
    (hY : ∀ i H x H', Y i H x H' → Same H H') (hR : ∀ j y H H', R j y H → (∃ acc, H D = some (.lst acc)) → But D H H' → R j y H')
    (hs : ∀ i x H H' (k : V → Hp → Prop), i < n → Same H1 H → Y i H x H' → (∀ y H4, Same H' H4 → R i y H4 → k y H4) → g x (wipe σ vs) H' fun σ2 H2 => wipe σ2 vs = wipe σ vs ∧ te σ2 H2 k)
    (hd : ∀ H acc, Same H1 H → H D = some (.lst acc) → acc.length = n → (∀ j y, acc[j]? = some y → R j y H) → Qd H) :
    ∃ W : Nat → Nat → Hp → Prop, (∃ m, W 0 m (upd H1 D (.lst []))) ∧ ∀ i m H, W i m H →
      (J.stop i H ∧ Qd H) ∨ (J.go i H ∧ ∃ Nx : Hp → Prop, (∀ H', Nx H' → ∃ m', m' < m ∧ W (i + 1) m' H') ∧ ∀ x H', J.yld i H x H' → g x (wipe σ vs) H' fun σ2 H2 => wipe σ2 vs = wipe σ vs ∧ tYes σ2 H2 fun b H3 =>
        if b = true then te σ2 H3 fun y H4 => ∃ acc, H4 D = some (.lst acc) ∧ acc.length < sizeLine ∧ Nx (upd H4 D (.lst (acc ++ [y]))) else Nx H3) := by
  refine lc_it w (fun i H => Same H1 H ∧ ∃ acc, H D = some (.lst acc) ∧ acc.length = i ∧ ∀ j y, acc[j]? = some y → R j y H) ⟨same_upd hD, [], upd_same, rfl, fun j y e => by simp at e⟩ (fun i H _ h => hG H h.1) ?_ ?_
  · rintro i x H H' hi ⟨s1, acc, hA, hl, hr⟩ y
    refine hs i x H H' _ hi s1 y fun z H4 s4 r => ?_
    have sH : Same H H4 := (hY i H x H' y).trans s4
    have hA4 : H4 D = some (.lst acc) := sH _ _ hA
    have b4 : But D H4 (upd H4 D (.lst (acc ++ [z]))) := fun b o e hb => by rw [upd_ne hb]; exact e
    refine ⟨acc, hA4, sz (by omega), fun b o e => ?_, acc ++ [z], upd_same, by rw [List.length_append, hl]; rfl, fun j u e => ?_⟩
    · rw [upd_ne (ne_of_none e hD)]
      exact sH _ _ (s1 _ _ e)
    · by_cases hj : j < acc.length
      · rw [List.getElem?_append_left hj] at e
        exact hR j u H _ (hr j u e) ⟨acc, hA⟩ (fun b o q hb => b4 b o (sH _ _ q) hb)
      · rw [List.getElem?_append_right (by omega)] at e
        have ej : j = acc.length := by
          by_cases h0 : j - acc.length = 0
          · omega
          · obtain ⟨q, hq⟩ : ∃ q, j - acc.length = q + 1 := ⟨j - acc.length - 1, by omega⟩
            rw [hq] at e
            simp at e
        subst ej
        rw [Nat.sub_self] at e
        have eu : z = u := Option.some.inj e
        subst eu
        rw [hl]
        exact hR i z H4 _ r ⟨acc, hA4⟩ b4
  · rintro H ⟨s1, acc, hA, hl, hr⟩
    exact hd H acc s1 hA hl hr
theorem ints_eq {L : List Int} : ∀ {acc : List V}, acc.length = L.length → (∀ (j : Nat) (y : V), acc[j]? = some y → ∀ z, L[j]? = some z → y = V.int z) → acc = L.map V.int := by
  intro acc hl h
  refine List.ext_getElem? fun j => ?_
  rw [List.getElem?_map]
  by_cases hj : j < acc.length
  · rw [List.getElem?_eq_getElem hj, List.getElem?_eq_getElem (show j < L.length by omega), h j acc[j] (List.getElem?_eq_getElem hj) L[j] (List.getElem?_eq_getElem (by omega))]
    rfl
  · rw [List.getElem?_eq_none (by omega), List.getElem?_eq_none (by omega)]
    rfl
/-- .. whose elements are ints -/
theorem lc_ints (w : Walk J n G Y) {g : TG} {te : TE} {vs : List Nat} {σ : L2.St} {H1 : Hp} {D : Addr} {Qd : Hp → Prop} (L : List Int) (hL : L.length = n) (hn : n ≤ 64) (hD : H1 D = none) (hG : ∀ H, Same H1 H → G H)
    (hY : ∀ i H x H', Y i H x H' → Same H H')
    (hs : ∀ i x H H' z (k : V → Hp → Prop), i < n → L[i]? = some z → Same H1 H → Y i H x H' → (∀ H4, Same H' H4 → k (.int z) H4) → g x (wipe σ vs) H' fun σ2 H2 => wipe σ2 vs = wipe σ vs ∧ te σ2 H2 k)
    (hd : ∀ H, Same H1 H → H D = some (.lst (L.map V.int)) → Qd H) :
    ∃ W : Nat → Nat → Hp → Prop, (∃ m, W 0 m (upd H1 D (.lst []))) ∧ ∀ i m H, W i m H →
      (J.stop i H ∧ Qd H) ∨ (J.go i H ∧ ∃ Nx : Hp → Prop, (∀ H', Nx H' → ∃ m', m' < m ∧ W (i + 1) m' H') ∧ ∀ x H', J.yld i H x H' → g x (wipe σ vs) H' fun σ2 H2 => wipe σ2 vs = wipe σ vs ∧ tYes σ2 H2 fun b H3 =>
        if b = true then te σ2 H3 fun y H4 => ∃ acc, H4 D = some (.lst acc) ∧ acc.length < sizeLine ∧ Nx (upd H4 D (.lst (acc ++ [y]))) else Nx H3) := by
  refine lc_rel w (fun j y _ => ∀ z, L[j]? = some z → y = V.int z) hn hD hG hY (fun _ _ _ _ r _ _ => r) ?_ ?_
  · intro i x H H' k hi s1 y hk
    have hi2 : i < L.length := by omega
    refine hs i x H H' L[i] k hi (List.getElem?_eq_getElem hi2) s1 y fun H4 s4 => hk _ _ s4 fun z e => ?_
    rw [List.getElem?_eq_getElem hi2] at e
    rw [Option.some.inj e]
  · intro H acc s1 hA hl hr
    refine hd H s1 ?_
    rw [hA, ints_eq (by omega) hr]
theorem yat_same {xs : List V} : ∀ i H x H', YAt xs i H x H' → Same H H' := fun i H x H' y => by
  obtain ⟨rfl, _⟩ := y
  exact Same.refl _
theorem yfn_same {f : Nat → V} : ∀ i H x H', YFn f i H x H' → Same H H' := fun i H x H' y => by
  obtain ⟨rfl, _⟩ := y
  exact Same.refl _
theorem ypair_same {f g : Nat → Option V} : ∀ i H x H', YPair f g i H x H' → Same H H' := fun i H x H' y => by
  obtain ⟨T, _, _, _, hT, rfl, _⟩ := y
  exact same_upd hT
end
/-! ### properties -/
structure Pr (P : Program) (w : World) (K : PySem.W.Frag) (mg : Str → Option Value) (base : Heap) (C : Addr) (k : Nat) (f fl : Str) : Prop where
  ex : ∃ (p g : Addr) (fd : FuncData), PropOf K C f p g ∧ Binds K fd ["self"] [] ∧ FnOk P w K mg base CX0 k g fd ["self"] (getSp C fl)
theorem Pr.mono {P : Program} {w : World} {K : PySem.W.Frag} {mg : Str → Option Value} {base : Heap} {C : Addr} {j k : Nat} {f fl : Str} (R : Pr P w K mg base C j f fl) (h : j ≤ k) : Pr P w K mg base C k f fl := by
  obtain ⟨p, g, fd, a, b, c⟩ := R.ex
  exact ⟨p, g, fd, a, b, c.mono h⟩
theorem pe_pr {X : Cx} {C : Addr} {k : Nat} {f fl : Str} {e : Expr} {ta : TE} {pos : Pos} (R : Pr X.prog X.w X.K X.mg X.base C k f fl) (c : Cls X.K C) (he : PE X e ta) (hr : Room (k + 1) X.A) (hab : attributeBase e f X.env (eval e X.env) = eval e X.env := by rfl) :
    PE X (.Attribute e f pos) (tProp C (getSp C fl) [] E0 ta) := by
  obtain ⟨p, g, fd, hp, hb, G⟩ := R.ex
  exact pe_prop he c hp G hr hb .nil pass0 hab
end K46
set_option Elab.async false
set_option linter.all false
set_option maxRecDepth 100000
set_option maxHeartbeats 4000000
namespace K46
open PySem PySem.Spec PyProof.Rows L2
/-! ### operators on small numbers, in a plain form -/
theorem qv {Q : VK} {x y : V} {H : Hp} (e : x = y) (q : Q y H) : Q x H := by
  subst e
  exact q
theorem OpR.imp {X : Cx} {f : Value → Value → Sem Value} {r r' : R2} (h : OpR X f r) (i : ∀ x y H Q, r' x y H Q → r x y H Q) : OpR X f r' := fun pins s σ H x y v u Q I rx ry q => h pins s σ H x y v u Q I rx ry (i x y H Q q)
theorem IxR.imp {X : Cx} {r r' : R2} (h : IxR X r) (i : ∀ x y H Q, r' x y H Q → r x y H Q) : IxR X r' := fun value slice pins s σ H x y v u Q I rx ry q => h value slice pins s σ H x y v u Q I rx ry (i x y H Q q)
theorem UnR.imp {X : Cx} {f : Value → Sem Value} {r r' : V → Hp → VK → Prop} (h : UnR X f r) (i : ∀ x H Q, r' x H Q → r x H Q) : UnR X f r' := fun pins s σ H x v Q I rx q => h pins s σ H x v Q I rx (i x H Q q)
theorem band {a b : Nat} (ha : a < 64) (hb : b < 64) : Builtin.bitAnd (a : Int) (b : Int) = ((a &&& b : Nat) : Int) := by
  have h : ∀ a, a < 64 → ∀ b, b < 64 → Builtin.bitAnd (a : Nat) (b : Nat) = ((a &&& b : Nat) : Int) := by decide +kernel
  exact h a ha b hb
theorem bor {a b : Nat} (ha : a < 64) (hb : b < 64) : Builtin.bitOr (a : Int) (b : Int) = ((a ||| b : Nat) : Int) := by
  have h : ∀ a, a < 64 → ∀ b, b < 64 → Builtin.bitOr (a : Nat) (b : Nat) = ((a ||| b : Nat) : Int) := by decide +kernel
  exact h a ha b hb
theorem bxor {a b : Nat} (ha : a < 64) (hb : b < 64) : Builtin.bitXor (a : Int) (b : Int) = ((a ^^^ b : Nat) : Int) := by
  have h : ∀ a, a < 64 → ∀ b, b < 64 → Builtin.bitXor (a : Nat) (b : Nat) = ((a ^^^ b : Nat) : Int) := by decide +kernel
  exact h a ha b hb
theorem shr_nat (a b : Nat) : (a : Int) / 2 ^ ((b : Int).toNat) = ((a >>> b : Nat) : Int) := by
  rw [Int.toNat_natCast, Nat.shiftRight_eq_div_pow, Int.natCast_ediv, Int.natCast_pow]
  rfl
theorem pow_lt {n p : Nat} (h : p < n) : 2 ^ p < 2 ^ n := Nat.pow_lt_pow_right (by decide) h
section
variable {X : Cx}
def rShl1 : R2 := fun x y H Q => ∃ n : Nat, x = .int 1 ∧ y = .int (n : Int) ∧ n < 7 ∧ Q (.int ((2 ^ n : Nat) : Int)) H
theorem op_shl1 : OpR X (binaryOp .LShift) rShl1 := OpR.imp op_shl fun x y H Q ⟨n, h1, h2, h3, q⟩ => ⟨1, n, h1, h2, cpow h3, qv (congrArg V.int shl_one) q⟩
/-- two naturals below 64 -/
def rAndN : R2 := fun x y H Q => ∃ a b : Nat, x = .int (a : Int) ∧ y = .int (b : Int) ∧ a < 64 ∧ b < 64 ∧ Q (.int ((a &&& b : Nat) : Int)) H
def rOrN : R2 := fun x y H Q => ∃ a b : Nat, x = .int (a : Int) ∧ y = .int (b : Int) ∧ a < 64 ∧ b < 64 ∧ Q (.int ((a ||| b : Nat) : Int)) H
def rXorN : R2 := fun x y H Q => ∃ a b : Nat, x = .int (a : Int) ∧ y = .int (b : Int) ∧ a < 64 ∧ b < 64 ∧ Q (.int ((a ^^^ b : Nat) : Int)) H
theorem op_andN : OpR X (binaryOp .BitAnd) rAndN := OpR.imp op_and fun x y H Q ⟨a, b, h1, h2, h3, h4, q⟩ => ⟨a, b, h1, h2, qv (congrArg V.int (band h3 h4)) q⟩
theorem op_orN : OpR X (binaryOp .BitOr) rOrN := OpR.imp op_or fun x y H Q ⟨a, b, h1, h2, h3, h4, q⟩ => ⟨a, b, h1, h2, qv (congrArg V.int (bor h3 h4)) q⟩
theorem op_xorN : OpR X (binaryOp .BitXor) rXorN := OpR.imp op_xor fun x y H Q ⟨a, b, h1, h2, h3, h4, q⟩ => ⟨a, b, h1, h2, qv (congrArg V.int (bxor h3 h4)) q⟩
def rShrN : R2 := fun x y H Q => ∃ a b : Nat, x = .int (a : Int) ∧ y = .int (b : Int) ∧ Q (.int ((a >>> b : Nat) : Int)) H
theorem op_shrN : OpR X (binaryOp .RShift) rShrN := OpR.imp op_shr fun x y H Q ⟨a, b, h1, h2, q⟩ => ⟨a, b, h1, h2, Int.natCast_nonneg b, qv (congrArg V.int (shr_nat a b)) q⟩
/-- the value told by an equation -/
def rAddZ : R2 := fun x y H Q => ∃ i j z, x = .int i ∧ y = .int j ∧ z = i + j ∧ Q (.int z) H
def rSubZ : R2 := fun x y H Q => ∃ i j z, x = .int i ∧ y = .int j ∧ z = i - j ∧ Q (.int z) H
def rMulZ : R2 := fun x y H Q => ∃ i j z, x = .int i ∧ y = .int j ∧ CMul i j ∧ z = i * j ∧ Q (.int z) H
def rFdivZ : R2 := fun x y H Q => ∃ i j z, x = .int i ∧ y = .int j ∧ CDiv i j ∧ z = i / j ∧ Q (.int z) H
def rModZ : R2 := fun x y H Q => ∃ i j z, x = .int i ∧ y = .int j ∧ 0 < j ∧ z = i % j ∧ Q (.int z) H
theorem op_addZ : OpR X (binaryOp .Add) rAddZ := OpR.imp op_add fun x y H Q ⟨i, j, z, h1, h2, h3, q⟩ => ⟨i, j, h1, h2, qv (congrArg V.int h3.symm) q⟩
theorem op_subZ : OpR X (binaryOp .Sub) rSubZ := OpR.imp op_sub fun x y H Q ⟨i, j, z, h1, h2, h3, q⟩ => ⟨i, j, h1, h2, qv (congrArg V.int h3.symm) q⟩
theorem op_mulZ : OpR X (binaryOp .Mult) rMulZ := OpR.imp op_mul fun x y H Q ⟨i, j, z, h1, h2, hc, h3, q⟩ => ⟨i, j, h1, h2, hc, qv (congrArg V.int h3.symm) q⟩
theorem op_fdivZ : OpR X (binaryOp .FloorDiv) rFdivZ := OpR.imp op_fdiv fun x y H Q ⟨i, j, z, h1, h2, hc, h3, q⟩ => ⟨i, j, h1, h2, hc, qv (congrArg V.int h3.symm) q⟩
theorem op_modZ : OpR X (binaryOp .Mod) rModZ := OpR.imp op_mod fun x y H Q ⟨i, j, z, h1, h2, hc, h3, q⟩ => ⟨i, j, h1, h2, hc, qv (congrArg V.int h3.symm) q⟩
/-- a comparison of two ints -/
def rLtZ : R2 := fun x y H Q => ∃ i j c, x = .int i ∧ y = .int j ∧ decide (i < j) = c ∧ Q (.bl c) H
def rGtZ : R2 := fun x y H Q => ∃ i j c, x = .int i ∧ y = .int j ∧ decide (j < i) = c ∧ Q (.bl c) H
def rEqZ : R2 := fun x y H Q => ∃ (i j : Int) (c : Bool), x = .int i ∧ y = .int j ∧ decide (i = j) = c ∧ Q (.bl c) H
def rNeZ : R2 := fun x y H Q => ∃ (i j : Int) (c : Bool), x = .int i ∧ y = .int j ∧ (!decide (i = j)) = c ∧ Q (.bl c) H
theorem op_ltZ : OpR X (compareOp .Lt) rLtZ := OpR.imp op_lt fun x y H Q ⟨i, j, z, h1, h2, h3, q⟩ => ⟨i, j, h1, h2, qv (congrArg V.bl h3) q⟩
theorem op_gtZ : OpR X (compareOp .Gt) rGtZ := OpR.imp op_gt fun x y H Q ⟨i, j, z, h1, h2, h3, q⟩ => ⟨i, j, h1, h2, qv (congrArg V.bl h3) q⟩
theorem dec_int (i j : Int) : decide (V.int i = V.int j) = decide (i = j) := by
  by_cases e : i = j
  · subst e
    rw [decide_eq_true rfl, decide_eq_true rfl]
  · rw [decide_eq_false e, decide_eq_false (fun z => e (V.int.inj z))]
theorem op_eqZ : OpR X (compareOp .Eq) rEqZ := OpR.imp op_eq fun x y H Q ⟨i, j, z, h1, h2, h3, q⟩ => by
  subst h1 h2
  exact ⟨rfl, qv (congrArg V.bl ((dec_int i j).trans h3)) q⟩
theorem op_neZ : OpR X (compareOp .NotEq) rNeZ := OpR.imp op_ne fun x y H Q ⟨i, j, z, h1, h2, h3, q⟩ => by
  subst h1 h2
  exact ⟨rfl, qv (congrArg V.bl ((congrArg Bool.not (dec_int i j)).trans h3)) q⟩
/-- an item by its place -/
def rIxLN (K : PySem.W.Frag) : R2 := fun x y H Q => ∃ (p : Addr) (xs : List V) (j : Nat) (v : V), x = .ref p ∧ y = .int (j : Int) ∧ SqL K H p xs ∧ xs[j]? = some v ∧ Q v H
def rIxTN (K : PySem.W.Frag) : R2 := fun x y H Q => ∃ (p : Addr) (xs : List V) (j : Nat) (v : V), x = .ref p ∧ y = .int (j : Int) ∧ SqT K H p xs ∧ xs[j]? = some v ∧ Q v H
theorem ix_listN : IxR X (rIxLN X.K) := IxR.imp ix_list fun x y H Q ⟨p, xs, j, v, h1, h2, h3, h4, q⟩ => ⟨p, xs, j, v, h1, h2, h3, atI_nat h4, q⟩
theorem ix_tupN : IxR X (rIxTN X.K) := IxR.imp ix_tup fun x y H Q ⟨p, xs, j, v, h1, h2, h3, h4, q⟩ => ⟨p, xs, j, v, h1, h2, h3, atI_nat h4, q⟩
/-- xs[j] = v -/
def rSetN : V → V → V → Hp → (Hp → Prop) → Prop := fun o i v H Q => ∃ (p : Addr) (xs : List V) (j : Nat), o = .ref p ∧ i = .int (j : Int) ∧ H p = some (.lst xs) ∧ j < xs.length ∧ Q (upd H p (.lst (xs.set j v)))
theorem set_listN : PSet X rSetN := by
  intro pins s σ H o i v ov iv u Q I ro ri rv h
  obtain ⟨p, xs, j, h1, h2, h3, h4, q⟩ := h
  refine set_list pins s σ H o i v ov iv u Q I ro ri rv ⟨p, xs, j, j, h1, h2, h3, ?_, q⟩
  unfold ixN
  rw [if_pos (Int.natCast_nonneg j), if_pos (by omega), Int.toNat_natCast]
/-- the truth of a natural -/
theorem pt_nat {a : Expr} {ta : TE} (ha : PE X a ta) (he : ∀ whole, isTrue a X.env whole = (do let v ← whole; standAt a.pos; holding [v] (truthy v)) := by intro _; rfl) :
    PT X a (fun σ H Q => ta σ H fun x H' => ∃ (z : Nat) (c : Bool), x = .int (z : Int) ∧ c = decide (z ≠ 0) ∧ Q c H') := by
  refine ⟨fun pins s σ H Q I h => ?_⟩
  refine isTrue_plain (thn (ha.run pins s σ H _ I h) fun v s1 ⟨x, H1, I1, r1, z, c, e1, e2, q1⟩ => tru_ok pins s1 σ H1 x v Q I1 r1 ⟨c, ?_, q1⟩) (he _)
  subst e1 e2
  show decide (z ≠ 0) = ((z : Int) != 0)
  by_cases e : z = 0
  · subst e
    rfl
  · rw [decide_eq_true e]
    simpa using e
end
theorem CallR.imp {X : Cx} {f : Value} {r r' : List V → Hp → VK → Prop} (h : CallR X f r) (i : ∀ xs H Q, r' xs H Q → r xs H Q) : CallR X f r' := fun pins s σ H xs us Q I rx q => h pins s σ H xs us Q I rx (i xs H Q q)
def rSumZ (K : PySem.W.Frag) : List V → Hp → VK → Prop := fun vs H Q => ∃ (a : Addr) (ns : List Int) (z : Int), vs = [V.ref a] ∧ SqL K H a (ns.map V.int) ∧ z = ns.sum ∧ Q (.int z) H
theorem cr_sumZ {X : Cx} (hc : X.calm = true) : CallR X (.builtin "sum") (rSumZ X.K) := CallR.imp (cr_sum hc) fun xs H Q ⟨a, ns, z, h1, h2, h3, q⟩ => ⟨a, ns, h1, h2, qv (congrArg V.int h3.symm) q⟩
/-- the rules of a comprehension's block, K written out -/
theorem pg_tupK {X : Cx} {K : PySem.W.Frag} {es : List Expr} {kk : Nat} {t : TGs} {n : Nat} {pos : Pos} (hK : X.K = K) (hc : X.calm = true) (h : PGs X es t)
    (hn : (assignEach es X.env).length = n := by rfl) (hst : (assignEach es X.env).findIdx? (·.1) = none := by rfl) : PG X (.Tuple es kk pos) (gTup K n t) := by
  subst hK
  exact pg_tup hc h hn hst
theorem pe_ixTK {X : Cx} {K : PySem.W.Frag} {a b : Expr} {ta tb : TE} {pos : Pos} (hK : X.K = K) (ha : PE X a ta) (hb : PE X b tb) (hs : PlainIx b := by exact fun _ _ => rfl) : PE X (.Subscript a b pos) (tOp (rIxTN K) ta tb) := by
  subst hK
  exact pe_ix ix_tupN ha hb hs
theorem pe_ixLK {X : Cx} {K : PySem.W.Frag} {a b : Expr} {ta tb : TE} {pos : Pos} (hK : X.K = K) (ha : PE X a ta) (hb : PE X b tb) (hs : PlainIx b := by exact fun _ _ => rfl) : PE X (.Subscript a b pos) (tOp (rIxLN K) ta tb) := by
  subst hK
  exact pe_ix ix_listN ha hb hs
/-! ### a range from 0 -/
theorem lo62 {n : Nat} (h : n ≤ 64) : -(2 ^ 62) ≤ ((n : Nat) : Int) ∧ ((n : Nat) : Int) < 2 ^ 62 := by omega
theorem walk_nat {n : Nat} : Walk (Itr 0 n) n (fun _ => True) (YFn fun i => .int ((i : Nat) : Int)) :=
  walk_range.mono (fun _ h => h) fun i H x H' _ _ ⟨h1, h2⟩ => ⟨h1, h2.trans (congrArg V.int (Int.zero_add _))⟩
theorem for_nat {n : Nat} {g : TG} {tb : TS} {D : Ends} {σ : L2.St} {H : Hp} (Pv : Nat → L2.St → Hp → Prop) (h0 : Pv 0 σ H)
    (hs : ∀ (i : Nat) σ H, i < n → Pv i σ H → g (.int (i : Int)) σ H fun σ2 H2 => tb { D with nx := Pv (i + 1), ct := Pv (i + 1), bk := D.nx } σ2 H2) (hd : ∀ σ H, Pv n σ H → D.nx σ H) :
    ∃ W : Nat → Nat → L2.St → Hp → Prop, (∃ m, W 0 m σ H) ∧ ∀ i m σ H, W i m σ H →
      ((Itr 0 n).stop i H ∧ D.nx σ H) ∨ ((Itr 0 n).go i H ∧ ∃ N : L2.St → Hp → Prop, (∀ σ' H', N σ' H' → ∃ m', m' < m ∧ W (i + 1) m' σ' H') ∧ ∀ x H', (Itr 0 n).yld i H x H' → g x σ H' fun σ2 H2 => tb { D with nx := N, ct := N, bk := D.nx } σ2 H2) :=
  for_it walk_nat Pv h0 (fun _ _ _ _ _ => trivial) (fun i x σ H H' hi p y => by obtain ⟨rfl, rfl⟩ := y; exact hs i σ _ hi p) hd
/-! ### lists by a function -/
def tab (n : Nat) (f : Nat → Int) : List Int := (List.range n).map f
theorem tab_len (n : Nat) (f : Nat → Int) : (tab n f).length = n := by simp [tab]
theorem tab_get {n x : Nat} (f : Nat → Int) (h : x < n) : (tab n f)[x]? = some (f x) := by
  unfold tab
  rw [List.getElem?_map, List.getElem?_range h]
  rfl
theorem tab_getV {n x : Nat} (f : Nat → Int) (h : x < n) : ((tab n f).map V.int)[x]? = some (V.int (f x)) := get_map (tab_get f h)
theorem tab_lenV (n : Nat) (f : Nat → Int) : ((tab n f).map V.int).length = n := by rw [List.length_map, tab_len]
theorem tab_succ (n : Nat) (f : Nat → Int) : tab (n + 1) f = tab n f ++ [f n] := by
  unfold tab
  rw [List.range_succ, List.map_append]
  rfl
theorem tab_snoc {n : Nat} {f : Nat → Int} {z : Int} (h : z = f n) : (tab n f).map V.int ++ [V.int z] = (tab (n + 1) f).map V.int := by
  rw [tab_succ, List.map_append, h]
  rfl
theorem tab_congr {n : Nat} {f g : Nat → Int} (h : ∀ x, x < n → f x = g x) : tab n f = tab n g := List.map_congr_left fun x hx => h x (List.mem_range.mp hx)
theorem tab_val {n x : Nat} {f : Nat → Int} {z : Int} (h : (tab n f)[x]? = some z) : x < n ∧ z = f x := by
  have hx : x < n := by
    have := (List.getElem?_eq_some_iff.mp h).1
    rw [tab_len] at this
    exact this
  rw [tab_get f hx] at h
  exact ⟨hx, (Option.some.inj h).symm⟩
theorem tab_valV {n x : Nat} {f : Nat → Int} {y : V} (h : ((tab n f).map V.int)[x]? = some y) : x < n ∧ y = V.int (f x) := by
  obtain ⟨z, hz, rfl⟩ := map_get h
  obtain ⟨h1, rfl⟩ := tab_val hz
  exact ⟨h1, rfl⟩
theorem near_tab (n m : Nat) (T : List Nat) : near n m T = tab (2 ^ n) fun x => (nb m T x : Int) := rfl
/-- a new object at l changes nothing that was there when l was free -/
theorem same_set {H H' : Hp} {l : Addr} {o : HO} (s : Same H H') (hl : H l = none) : Same H (upd H' l o) := fun b u e => by
  rw [upd_ne (ne_of_none e hl)]
  exact s _ _ e
end K46
set_option Elab.async false
set_option linter.all false
set_option maxRecDepth 100000
set_option maxHeartbeats 4000000
namespace K46
open PySem PySem.Spec PyProof.Rows L2
theorem k_ib : kitB "int" "bool" = some false := by decide +kernel
theorem k_ii : kitB "int" "int" = some true := by decide +kernel
theorem k_ll : kitB "list" "list" = some true := by decide +kernel
section
variable {P : Program} {w : World} {K : PySem.W.Frag} {mg : Str → Option Value} {base : Heap} {k : Nat} {C : Addr}
/-! ### checks of integers -/
def spCIR : Sp := fun vs H Q _ => ∃ (i : Int) (x : Str), vs = [.int i, .str x] ∧ Q .non H
theorem sc_cir : FnScope ["value", "argument"] ["value", "argument"] (defScope s_check_integer_ratios) := ⟨rfl, rfl, rfl, by decide +kernel, rfl, by decide +kernel, by decide +kernel⟩
theorem c_cir (D : Df K mg "check_integer_ratios" "check_integer" s_check_integer_ratios) (Z : Fre mg) : Fc P w K mg base (k + 1) "check_integer_ratios" ["value", "argument"] spCIR := by
  refine D.fc sc_cir (fun _ _ _ _ _ _ us hl => match us, hl with | [_, _], _ => rfl) (fun vs H Q E h => ?_) (fun f cdv A outer s H vs Q E hr h => ?_)
  · obtain ⟨i, x, rfl, _⟩ := h
    rfl
  · obtain ⟨i, x, rfl, q⟩ := h
    refine ⟨_, pss_one (ps_if (PW.pt (pw_or (pt_val (pe_callB call_isi (by rfl) Z.z_isinstance boot_isinstance (pa_cons (pv 0) (pa_cons (pe_tyn (by rfl) Z.z_bool boot_bool) pa_nil))))
      (pw_or1 (pt_not (pt_val (pe_callB call_isi (by rfl) Z.z_isinstance boot_isinstance (pa_cons (pv 0) (pa_cons (pe_tyn (by rfl) Z.z_int boot_int) pa_nil)))))))) pss_never pss_nil), ?_⟩
    refine ⟨_, rfl, _, _, _, _, false, rfl, .ty _, .base (.int _), kit_ty k_ib, _, rfl, iteF ?_⟩
    refine ⟨_, rfl, _, _, _, _, true, rfl, .ty _, .base (.int _), kit_ty k_ii, _, rfl, iteF ?_⟩
    exact q
def spCIT : Sp := fun vs H Q _ => ∃ (i : Int) (x : Str), vs = [.str x, .int i] ∧ Q .non H
theorem sc_cit : FnScope ["argument", "value"] ["argument", "value"] (defScope s_check_integer_tables) := ⟨rfl, rfl, rfl, by decide +kernel, rfl, by decide +kernel, by decide +kernel⟩
theorem c_cit (D : Df K mg "check_integer_tables" "check_integer" s_check_integer_tables) (Z : Fre mg) : Fc P w K mg base (k + 1) "check_integer_tables" ["argument", "value"] spCIT := by
  refine D.fc sc_cit (fun _ _ _ _ _ _ us hl => match us, hl with | [_, _], _ => rfl) (fun vs H Q E h => ?_) (fun f cdv A outer s H vs Q E hr h => ?_)
  · obtain ⟨i, x, rfl, _⟩ := h
    rfl
  · obtain ⟨i, x, rfl, q⟩ := h
    refine ⟨_, pss_one (ps_if (PW.pt (pw_or (pt_val (pe_callB call_isi (by rfl) Z.z_isinstance boot_isinstance (pa_cons (pv 1) (pa_cons (pe_tyn (by rfl) Z.z_bool boot_bool) pa_nil))))
      (pw_or1 (pt_not (pt_val (pe_callB call_isi (by rfl) Z.z_isinstance boot_isinstance (pa_cons (pv 1) (pa_cons (pe_tyn (by rfl) Z.z_int boot_int) pa_nil)))))))) pss_never pss_nil), ?_⟩
    refine ⟨_, rfl, _, _, _, _, false, rfl, .ty _, .base (.int _), kit_ty k_ib, _, rfl, iteF ?_⟩
    refine ⟨_, rfl, _, _, _, _, true, rfl, .ty _, .base (.int _), kit_ty k_ii, _, rfl, iteF ?_⟩
    exact q
def spBet : Sp := fun vs H Q _ => ∃ (i l m : Int) (x : Str), vs = [.str x, .int i, .int l, .int m] ∧ l ≤ i ∧ i ≤ m ∧ Q .non H
theorem sc_bet : FnScope ["argument", "value", "least", "most"] ["argument", "value", "least", "most"] (defScope s_check_between) := ⟨rfl, rfl, rfl, by decide +kernel, rfl, by decide +kernel, by decide +kernel⟩
theorem c_bet (D : Df K mg "check_between" "check_between" s_check_between) (F : Fc P w K mg base (k + 1) "check_integer_tables" ["argument", "value"] spCIT) : Fc P w K mg base (k + 2) "check_between" ["argument", "value", "least", "most"] spBet := by
  refine D.fc sc_bet (fun _ _ _ _ _ _ us hl => match us, hl with | [_, _, _, _], _ => rfl) (fun vs H Q E h => ?_) (fun f cdv A outer s H vs Q E hr h => ?_)
  · obtain ⟨i, l, m, x, rfl, _⟩ := h
    rfl
  · obtain ⟨i, l, m, x, rfl, h1, h2, q⟩ := h
    refine ⟨_, pss_cons (ps_expr (pe_fc F hr (by rfl) (pa_cons (pv 0) (pa_cons (pv 1) pa_nil)))) (pss_one (ps_if (PW.pt (pw_or (pt_cmpR op_lt (pv 1) (pv 2) (nomark _)) (pw_or1 (pt_cmpR op_gt (pv 1) (pv 3) (nomark _))))) pss_never pss_nil)), ?_⟩
    refine ⟨_, rfl, _, rfl, i, x, rfl, ?_⟩
    refine ⟨_, rfl, _, rfl, _, _, rfl, rfl, _, rfl, ?_⟩
    rw [decide_eq_false (show ¬ i < l by omega)]
    refine iteF ⟨_, rfl, _, rfl, _, _, rfl, rfl, _, rfl, ?_⟩
    rw [decide_eq_false (show ¬ m < i by omega)]
    exact iteF q
def spWid : Sp := fun vs H Q _ => ∃ n : Nat, vs = [.int (n : Int)] ∧ n < 7 ∧ Q .non H
theorem sc_wid : FnScope ["width"] ["width"] (defScope s_check_width) := ⟨rfl, rfl, rfl, by decide +kernel, rfl, by decide +kernel, by decide +kernel⟩
theorem c_wid (D : Df K mg "check_width" "check_width" s_check_width) (Z : Fre mg) (F : Fc P w K mg base (k + 2) "check_between" ["argument", "value", "least", "most"] spBet) : Fc P w K mg base (k + 3) "check_width" ["width"] spWid := by
  refine D.fc sc_wid (fun _ _ _ _ _ _ us hl => match us, hl with | [_], _ => rfl) (fun vs H Q E h => ?_) (fun f cdv A outer s H vs Q E hr h => ?_)
  · obtain ⟨n, rfl, _⟩ := h
    rfl
  · obtain ⟨n, rfl, h1, q⟩ := h
    obtain ⟨t, ht⟩ := Z.most
    refine ⟨_, pss_one (ps_expr (pe_fc F hr (by rfl) (pa_cons pe_str (pa_cons (pv 0) (pa_cons pe_int (pa_cons (pe_glob (v := .int 6) (by rfl) ht ⟨_, rfl⟩) pa_nil)))))), ?_⟩
    exact ⟨_, rfl, n, 0, 6, _, rfl, by omega, by omega, q⟩
def spRow (K : PySem.W.Frag) : Sp := fun vs H Q _ => ∃ (x : Str) (a : Addr) (xs : List V) (l m : Int), vs = [.str x, .ref a, .int l, .int m] ∧ H a = some (.lst xs) ∧ l ≤ (xs.length : Int) ∧ (xs.length : Int) ≤ m ∧ ∀ H', Same H H' → Q .non H'
theorem sc_row : FnScope ["argument", "row", "least", "most"] ["argument", "row", "least", "most"] (defScope s_check_row) := ⟨rfl, rfl, rfl, by decide +kernel, rfl, by decide +kernel, by decide +kernel⟩
theorem c_row (D : Df K mg "check_row" "check_row" s_check_row) (Z : Fre mg) : Fc P w K mg base (k + 1) "check_row" ["argument", "row", "least", "most"] (spRow K) := by
  refine D.fc sc_row (fun _ _ _ _ _ _ us hl => match us, hl with | [_, _, _, _], _ => rfl) (fun vs H Q E h => ?_) (fun f cdv A outer s H vs Q E hr h => ?_)
  · obtain ⟨x, a, xs, l, m, rfl, _⟩ := h
    rfl
  · obtain ⟨x, a, xs, l, m, rfl, ha, h1, h2, q⟩ := h
    refine ⟨_, pss_cons (ps_if (pt_not (pt_val (pe_callB call_isiT (by rfl) Z.z_isinstance boot_isinstance (pa_cons (pv 1) (pa_cons (pe_tup (pa_cons (pe_tyn (by rfl) Z.z_list boot_list) (pa_cons (pe_tyn (by rfl) Z.z_tuple boot_tuple) pa_nil))) pa_nil))))) pss_never pss_nil)
      (pss_one (ps_if (PW.pt (pw_or (pt_cmpR op_lt (pe_callB call_len_seq (by rfl) Z.z_len PySem.boot_len (pa_cons (pv 1) pa_nil)) (pv 2) (nomark _)) (pw_or1 (pt_cmpR op_gt (pe_callB call_len_seq (by rfl) Z.z_len PySem.boot_len (pa_cons (pv 1) pa_nil)) (pv 3) (nomark _))))) pss_never pss_nil)), ?_⟩
    refine ⟨_, rfl, by show 2 ≤ sizeLine; decide, fun t ht => ?_⟩
    have s1 : Same H (upd H t (.tup [.ty "list", .ty "tuple"])) := same_upd ht
    have ha1 := s1 _ _ ha
    refine ⟨_, t, _, _, _, true, rfl, upd_same, .cons (.ty _) (.cons (.ty _) .nil), .base (.lst ha1), kitAny_cons (kit_ty k_ll) (fun z => by cases z) (fun _ => rfl), _, rfl, iteF ?_⟩
    refine ⟨_, rfl, a, xs, rfl, .inl (SqL.of ha1), _, rfl, _, _, rfl, rfl, _, rfl, ?_⟩
    rw [decide_eq_false (show ¬ (xs.length : Int) < l by omega)]
    refine iteF ⟨_, rfl, a, xs, rfl, .inl (SqL.of ha1), _, rfl, _, _, rfl, rfl, _, rfl, ?_⟩
    rw [decide_eq_false (show ¬ m < (xs.length : Int) by omega)]
    exact iteF (q _ s1)
def spCB : Sp := fun vs H Q _ => ∃ (a : Addr) (b : List Int) (l m : Int), vs = [.ref a, .int l, .int m] ∧ H a = some (.lst (b.map V.int)) ∧ l ≤ (b.length : Int) ∧ (b.length : Int) ≤ m ∧ (∀ v ∈ b, v = 0 ∨ v = 1) ∧ ∀ H', Same H H' → Q .non H'
theorem sc_cb : FnScope ["bits", "least", "most", "bit"] ["bits", "least", "most"] (defScope s_check_bits) := ⟨rfl, rfl, rfl, by decide +kernel, rfl, by decide +kernel, by decide +kernel⟩
theorem c_cb (D : Df K mg "check_bits" "check_bits" s_check_bits) (F : Fc P w K mg base (k + 2) "check_between" ["argument", "value", "least", "most"] spBet) (G : Fc P w K mg base (k + 1) "check_row" ["argument", "row", "least", "most"] (spRow K)) :
    Fc P w K mg base (k + 3) "check_bits" ["bits", "least", "most"] spCB := by
  refine D.fc sc_cb (fun _ _ _ _ _ _ us hl => match us, hl with | [_, _, _], _ => rfl) (fun vs H Q E h => ?_) (fun f cdv A outer s H vs Q E hr h => ?_)
  · obtain ⟨a, b, l, m, rfl, _⟩ := h
    rfl
  · obtain ⟨a, b, l, m, rfl, ha, h1, h2, hb, q⟩ := h
    refine ⟨_, pss_cons (ps_expr (pe_fc (G.mono (by omega)) hr (by rfl) (pa_cons pe_str (pa_cons (pv 0) (pa_cons (pv 1) (pa_cons (pv 2) pa_nil))))))
      (pss_one (ps_for PassesOwn.never rfl (pi_list (pv 0)) (pg_name (i := 3) sc_cb.nd rfl (Or.inl rfl)) (pss_one (ps_expr (pe_fc F hr (by rfl) (pa_cons pe_str (pa_cons (pv 3) (pa_cons pe_int (pa_cons pe_int pa_nil))))))))), ?_⟩
    refine ⟨_, rfl, _, rfl, _, rfl, _, a, _, l, m, rfl, ha, by rw [List.length_map]; exact h1, by rw [List.length_map]; exact h2, fun H1 s1 => ?_⟩
    refine ⟨_, rfl, a, rfl, ⟨_, SqL.of (s1 _ _ ha)⟩, for_list (K := K) (a := a) (xs := b.map V.int) (fun i σ H2 => ∃ v : Option V, σ = [some (.ref a), some (.int l), some (.int m), v] ∧ H2 = H1) ⟨none, rfl, rfl⟩ (fun i σ H2 _ ⟨_, _, e⟩ => by rw [e]; exact SqL.of (s1 _ _ ha)) ?_ ?_⟩
    · rintro i y σ H2 hi ⟨v, rfl, rfl⟩
      obtain ⟨z, hz, rfl⟩ := map_get hi
      have hz1 := hb z (List.mem_of_getElem? hz)
      exact ⟨_, rfl, z, 0, 1, _, rfl, by omega, by omega, _, rfl, rfl⟩
    · rintro σ H2 ⟨v, rfl, rfl⟩
      exact q _ s1
end
end K46
set_option Elab.async false
set_option linter.all false
set_option maxRecDepth 100000
set_option maxHeartbeats 4000000
namespace K46
open PySem PySem.Spec PyProof.Rows L2
section
variable {P : Program} {w : World} {K : PySem.W.Frag} {mg : Str → Option Value} {base : Heap} {k : Nat} {C : Addr}
/-! ### the class Table -/
def spInit (C : Addr) : Sp := fun vs H Q _ => ∃ (p dx a : Addr) (n : Nat) (b : List Int), vs = [.ref p, .int (n : Int), .ref a] ∧ H p = some (.ins C dx []) ∧ H a = some (.lst (b.map V.int)) ∧ Bits n b ∧
  ∀ H', TabAt C H' p n b → But p H H' → Q .non H'
/-- what making a Table asks and gives -/
structure MkT (P : Program) (w : World) (K : PySem.W.Frag) (mg : Str → Option Value) (base : Heap) (C : Addr) (k : Nat) : Prop where
  ex : ∃ (f : Addr) (fd : FuncData), Mk K C f ∧ Binds K fd ["self", "width", "bits"] [] ∧ FnOk P w K mg base CX0 k f fd ["self", "width", "bits"] (spInit C)
theorem sc_init : FnScope ["self", "width", "bits"] ["self", "width", "bits"] (defScope s_init) := ⟨rfl, rfl, rfl, by decide +kernel, rfl, by decide +kernel, by decide +kernel⟩
theorem c_init (T : Txt K mg C) (Z : Fre mg) (F : Fc P w K mg base (k + 3) "check_width" ["width"] spWid) (G : Fc P w K mg base (k + 3) "check_bits" ["bits", "least", "most"] spCB) : MkT P w K mg base C (k + 4) := by
  obtain ⟨f, fd, M, D⟩ := T.mkI
  refine ⟨f, fd, M, D.bindsN (fun _ _ _ _ _ _ us hl => match us, hl with | [_, _, _], _ => rfl), D.ok sc_init (fun vs H Q E h => ?_) (fun cdv A outer s H vs Q E hr h => ?_)⟩
  · obtain ⟨p, dx, a, n, b, rfl, _⟩ := h
    rfl
  · obtain ⟨p, dx, a, n, b, rfl, hp, ha, B, q⟩ := h
    refine ⟨_, PSs.nox (pss_cons (ps_expr (pe_fc F hr (by rfl) (pa_cons (pv 1) pa_nil)))
      (pss_cons (ps_expr (pe_fc G hr (by rfl) (pa_cons (pv 2) (pa_cons (pe_op op_shl pe_int (pv 1)) (pa_cons (pe_op op_shl pe_int (pv 1)) pa_nil)))))
      (pss_cons (ps_fld (pv 0) (pv 1) rfl) (pss_one (ps_fld (pv 0) (pe_callTy call_tuple_of (by rfl) Z.z_tuple boot_tuple (pa_cons (pv 2) pa_nil)) rfl))))), ?_⟩
    refine ⟨_, rfl, n, rfl, B.wd, ?_⟩
    refine ⟨_, rfl, _, rfl, _, _, rfl, rfl, cpow B.wd, _, rfl, _, _, rfl, rfl, cpow B.wd, ?_⟩
    refine ⟨a, b, _, _, rfl, ha, by rw [shl_one, B.len]; omega, by rw [shl_one, B.len]; omega, B.bit, fun H1 s1 => ?_⟩
    have npa : a ≠ p := ne_of ha hp (by intro z; cases z)
    refine ⟨_, rfl, _, rfl, p, C, dx, [], rfl, s1 _ _ hp, T.cl, T.nW, (by show 0 < 1000; decide), ?_⟩
    refine ⟨_, rfl, a, _, rfl, .inl ⟨SqL.of (by rw [upd_ne npa]; exact s1 _ _ ha), fun t ht => ?_⟩⟩
    have npt : p ≠ t := fun z => by
      subst z
      rw [upd_same] at ht
      cases ht
    refine ⟨_, rfl, p, C, dx, _, rfl, (by rw [upd_ne npt]; exact upd_same), T.cl, T.nH, (by show 1 < 1000; decide), ?_⟩
    have ht1 : H1 t = none := by
      rw [upd_ne npt.symm] at ht
      exact ht
    refine q _ ⟨dx, t, upd_same, ?_⟩ fun c o e hc => ?_
    · rw [upd_ne npt.symm, upd_same]
    · rw [upd_ne hc, upd_ne (ne_of_none (s1 _ _ e) ht1), upd_ne hc]
      exact s1 _ _ e
theorem sc_self : FnScope ["self"] ["self"] (defScope s_width) := ⟨rfl, rfl, rfl, by decide +kernel, rfl, by decide +kernel, by decide +kernel⟩
theorem sc_self2 : FnScope ["self"] ["self"] (defScope s_bits) := ⟨rfl, rfl, rfl, by decide +kernel, rfl, by decide +kernel, by decide +kernel⟩
theorem p_width (T : Txt K mg C) : Pr P w K mg base C (k + 1) "width" "wide" := by
  obtain ⟨p, g, fd, hp, D⟩ := T.pw
  refine ⟨p, g, fd, hp, D.bindsN (fun _ _ _ _ _ _ us hl => match us, hl with | [_], _ => rfl), D.ok sc_self (fun vs H Q E h => ?_) (fun cdv A outer s H vs Q E hr h => ?_)⟩
  · obtain ⟨a, dx, fs, v, rfl, _⟩ := h
    rfl
  · obtain ⟨a, dx, fs, v, rfl, h1, h2, q⟩ := h
    exact ⟨_, PSs.nox (pss_one (ps_ret (pe_fld (pv 0) rfl))), _, rfl, a, C, dx, fs, v, rfl, h1, T.cl, T.nW, h2, q⟩
theorem p_bits (T : Txt K mg C) : Pr P w K mg base C (k + 1) "bits" "held" := by
  obtain ⟨p, g, fd, hp, D⟩ := T.pb
  refine ⟨p, g, fd, hp, D.bindsN (fun _ _ _ _ _ _ us hl => match us, hl with | [_], _ => rfl), D.ok sc_self2 (fun vs H Q E h => ?_) (fun cdv A outer s H vs Q E hr h => ?_)⟩
  · obtain ⟨a, dx, fs, v, rfl, _⟩ := h
    rfl
  · obtain ⟨a, dx, fs, v, rfl, h1, h2, q⟩ := h
    exact ⟨_, PSs.nox (pss_one (ps_ret (pe_fld (pv 0) rfl))), _, rfl, a, C, dx, fs, v, rfl, h1, T.cl, T.nH, h2, q⟩
/-! ### signs -/
def sgl (b : List Int) : List Int := b.map fun v => 1 - 2 * v
def spSig (C : Addr) : Sp := fun vs H Q _ => ∃ (p : Addr) (n : Nat) (b : List Int), vs = [.ref p] ∧ TabAt C H p n b ∧ b.length ≤ 64 ∧ ∀ H' l, Same H H' → H l = none → H' l = some (.lst ((sgl b).map V.int)) → Q (.ref l) H'
structure MSig (P : Program) (w : World) (K : PySem.W.Frag) (mg : Str → Option Value) (base : Heap) (C : Addr) (k : Nat) : Prop where
  ex : ∃ (f : Addr) (fd : FuncData), Meth K C "signs" f ∧ Binds K fd ["self"] [] ∧ FnOk P w K mg base CX0 k f fd ["self"] (spSig C)
theorem sc_sig : FnScope ["self", "bit"] ["self"] (defScope s_signs) := ⟨rfl, rfl, rfl, by decide +kernel, rfl, by decide +kernel, by decide +kernel⟩
theorem m_sig (T : Txt K mg C) : MSig P w K mg base C (k + 1) := by
  obtain ⟨f, fd, hm, D⟩ := T.sgn
  refine ⟨f, fd, hm, D.bindsN (fun _ _ _ _ _ _ us hl => match us, hl with | [_], _ => rfl), D.ok sc_sig (fun vs H Q E h => ?_) (fun cdv A outer s H vs Q E hr h => ?_)⟩
  · obtain ⟨p, n, b, rfl, _⟩ := h
    rfl
  · obtain ⟨p, n, b, rfl, ⟨dx, t, h1, h2⟩, hl, q⟩ := h
    refine ⟨_, PSs.nox (pss_one (ps_ret (pe_lc (own := [("bit", 1)]) rfl sc_sig.nd (pi_tup (pe_fld (pv 0) rfl)) (blkOk_by (N := ["self", "bit"]) (sc := defScope s_signs) (by decide +kernel))
      (fun _ _ _ _ _ => pg_name (i := 1) sc_sig.nd rfl (Or.inl rfl)) (fun _ _ _ _ _ => pts_nil) (fun _ _ _ _ _ => pe_op op_sub pe_int (pe_op op_mul pe_int (pv 1)))))), ?_⟩
    refine ⟨_, rfl, p, C, dx, _, _, rfl, h1, T.cl, T.nH, tf_held _ _, t, rfl, ⟨_, SqT.of h2⟩, fun d hd => ?_⟩
    refine lc_ints (n := (b.map V.int).length) (walk_tup (K := K) (a := t) (xs := b.map V.int)) (sgl b) (by simp [sgl]) (by rw [List.length_map]; exact hl) hd (fun H' s => SqT.of (s _ _ h2)) yat_same ?_ fun H' s e => q H' d s hd e
    rintro i x H1 H2 z κ hi hz s ⟨rfl, hx⟩ hk
    obtain ⟨v, hv, rfl⟩ := map_get hx
    have ez : z = 1 - 2 * v := by
      unfold sgl at hz
      rw [List.getElem?_map, hv] at hz
      exact (Option.some.inj hz).symm
    subst ez
    exact ⟨rfl, _, rfl, _, _, rfl, rfl, .inl ⟨by decide, by decide⟩, _, _, rfl, rfl, hk _ (Same.refl _)⟩
/-! ### checks of tables -/
def spCT (C : Addr) : Sp := fun vs H Q _ => ∃ (p : Addr) (x : Str) (n : Nat) (b : List Int), vs = [.ref p, .str x] ∧ TabAt C H p n b ∧ Q .non H
theorem sc_cts : FnScope ["value", "argument"] ["value", "argument"] (defScope s_check_table_shades) := ⟨rfl, rfl, rfl, by decide +kernel, rfl, by decide +kernel, by decide +kernel⟩
theorem c_cts (D : Df K mg "check_table_shades" "check_table" s_check_table_shades) (T : Txt K mg C) (Z : Fre mg) : Fc P w K mg base (k + 1) "check_table_shades" ["value", "argument"] (spCT C) := by
  refine D.fc sc_cts (fun _ _ _ _ _ _ us hl => match us, hl with | [_, _], _ => rfl) (fun vs H Q E h => ?_) (fun f cdv A outer s H vs Q E hr h => ?_)
  · obtain ⟨p, x, n, b, rfl, _⟩ := h
    rfl
  · obtain ⟨p, x, n, b, rfl, ⟨dx, t, h1, h2⟩, q⟩ := h
    refine ⟨_, pss_one (ps_if (pt_not (pt_val (pe_callB (C8.call_isC T.ins) (by rfl) Z.z_isinstance boot_isinstance (pa_cons (pv 0) (pa_cons (pe_glob (v := .ref C) (by rfl) T.mgC rfl) pa_nil))))) pss_never pss_nil), ?_⟩
    exact ⟨_, rfl, p, dx, _, rfl, h1, _, rfl, iteF q⟩
theorem sc_ctp : FnScope ["value", "name"] ["value", "name"] (defScope s_check_table_pairs) := ⟨rfl, rfl, rfl, by decide +kernel, rfl, by decide +kernel, by decide +kernel⟩
theorem c_ctp (D : Df K mg "check_table_pairs" "check_table" s_check_table_pairs) (T : Txt K mg C) (Z : Fre mg) : Fc P w K mg base (k + 1) "check_table_pairs" ["value", "name"] (spCT C) := by
  refine D.fc sc_ctp (fun _ _ _ _ _ _ us hl => match us, hl with | [_, _], _ => rfl) (fun vs H Q E h => ?_) (fun f cdv A outer s H vs Q E hr h => ?_)
  · obtain ⟨p, x, n, b, rfl, _⟩ := h
    rfl
  · obtain ⟨p, x, n, b, rfl, ⟨dx, t, h1, h2⟩, q⟩ := h
    refine ⟨_, pss_one (ps_if (pt_not (pt_val (pe_callB (C8.call_isC T.ins) (by rfl) Z.z_isinstance boot_isinstance (pa_cons (pv 0) (pa_cons (pe_glob (v := .ref C) (by rfl) T.mgC rfl) pa_nil))))) pss_never pss_nil), ?_⟩
    exact ⟨_, rfl, p, dx, _, rfl, h1, _, rfl, iteF q⟩
def spCSW (C : Addr) : Sp := fun vs H Q _ => ∃ (p : Addr) (x : Str) (n : Nat) (b : List Int), vs = [.ref p, .str x, .int (n : Int)] ∧ TabAt C H p n b ∧ Q .non H
theorem sc_csw : FnScope ["value", "name", "width"] ["value", "name", "width"] (defScope s_check_same_width) := ⟨rfl, rfl, rfl, by decide +kernel, rfl, by decide +kernel, by decide +kernel⟩
theorem c_csw (D : Df K mg "check_same_width" "check_same_width" s_check_same_width) (T : Txt K mg C) (R : Pr P w K mg base C (k + 1) "width" "wide") (F : Fc P w K mg base (k + 2) "check_table_pairs" ["value", "name"] (spCT C)) :
    Fc P w K mg base (k + 3) "check_same_width" ["value", "name", "width"] (spCSW C) := by
  refine D.fc sc_csw (fun _ _ _ _ _ _ us hl => match us, hl with | [_, _, _], _ => rfl) (fun vs H Q E h => ?_) (fun f cdv A outer s H vs Q E hr h => ?_)
  · obtain ⟨p, x, n, b, rfl, _⟩ := h
    rfl
  · obtain ⟨p, x, n, b, rfl, ⟨dx, t, h1, h2⟩, q⟩ := h
    refine ⟨_, pss_cons (ps_expr (pe_fc F hr (by rfl) (pa_cons (pv 0) (pa_cons (pv 1) pa_nil)))) (pss_one (ps_if (pt_cmpR op_ne (pe_pr R T.cl (pv 0) hr) (pv 2) (nomark _)) pss_never pss_nil)), ?_⟩
    refine ⟨_, rfl, _, rfl, p, x, n, b, rfl, ⟨dx, t, h1, h2⟩, ?_⟩
    refine ⟨_, rfl, p, dx, _, rfl, h1, p, dx, _, _, rfl, h1, tf_wide _ _, _, rfl, rfl, _, rfl, iteNS rfl ?_⟩
    exact q
end
end K46
set_option Elab.async false
set_option linter.all false
set_option maxRecDepth 100000
set_option maxHeartbeats 4000000
namespace K46
open PySem PySem.Spec PyProof.Rows L2
theorem sgl_tab (n : Nat) (g : Nat → Int) : sgl (tab n g) = tab n fun x => 1 - 2 * g x := by
  unfold sgl tab
  rw [List.map_map]
  rfl
section
variable {P : Program} {w : World} {K : PySem.W.Frag} {mg : Str → Option Value} {base : Heap} {k : Nat} {C : Addr}
theorem bits_pow : ∀ n, n < 7 → Builtin.Int.intBits ((2 ^ n : Nat) : Int) = n + 1 := by decide +kernel
def spWol : Sp := fun vs H Q _ => ∃ n : Nat, vs = [.int ((2 ^ n : Nat) : Int)] ∧ n < 7 ∧ Q (.int (n : Int)) H
theorem sc_wol : FnScope ["length"] ["length"] (defScope s_width_of_length) := ⟨rfl, rfl, rfl, by decide +kernel, rfl, by decide +kernel, by decide +kernel⟩
theorem c_wol (D : Df K mg "width_of_length" "width_of_length" s_width_of_length) : Fc P w K mg base (k + 1) "width_of_length" ["length"] spWol := by
  refine D.fc sc_wol (fun _ _ _ _ _ _ us hl => match us, hl with | [_], _ => rfl) (fun vs H Q E h => ?_) (fun f cdv A outer s H vs Q E hr h => ?_)
  · obtain ⟨n, rfl, _⟩ := h
    rfl
  · obtain ⟨n, rfl, h1, q⟩ := h
    refine ⟨_, pss_one (ps_ret (pe_op op_subZ (pe_bits (pv 0)) pe_int)), ?_⟩
    exact ⟨_, rfl, _, rfl, _, _, (n : Int), rfl, rfl, by rw [bits_pow n h1]; omega, q⟩
/-! ### the steps -/
def spStep (K : PySem.W.Frag) : Sp := fun vs H Q _ => ∃ (a : Addr) (p n : Nat) (f : Nat → Int), vs = [.ref a, .int (p : Int)] ∧ H a = some (.lst ((tab (2 ^ n) f).map V.int)) ∧ p < n ∧ n < 7 ∧
  ∀ H' l, Same H H' → H l = none → H' l = some (.lst ((tab (2 ^ n) (stp f p)).map V.int)) → Q (.ref l) H'
theorem sc_step : FnScope ["row", "place", "gap", "made", "at"] ["row", "place"] (defScope s_stepped) := ⟨rfl, rfl, rfl, by decide +kernel, rfl, by decide +kernel, by decide +kernel⟩
theorem c_step (D : Df K mg "stepped" "stepped" s_stepped) (Z : Fre mg) : Fc P w K mg base (k + 1) "stepped" ["row", "place"] (spStep K) := by
  refine D.fc sc_step (fun _ _ _ _ _ _ us hl => match us, hl with | [_, _], _ => rfl) (fun vs H Q E h => ?_) (fun _ cdv A outer s H vs Q E hr h => ?_)
  · obtain ⟨a, p, n, f, rfl, _⟩ := h
    rfl
  · obtain ⟨a, p, n, f, rfl, ha, hp, hn, q⟩ := h
    have h64 := pow64 hn
    have hq := pow_lt hp
    refine ⟨_, pss_cons (ps_set (i := 2) sc_step.nd rfl (.inl rfl) (pe_op op_shl1 pe_int (pv 1)))
      (pss_cons (ps_set (i := 3) sc_step.nd rfl (.inl rfl) (pe_lst pa_nil))
      (pss_cons (ps_for PassesOwn.never rfl (pi_range1 (by rfl) Z.z_range (pa_cons (pe_callB call_len_seq (by rfl) Z.z_len PySem.boot_len (pa_cons (pv 0) pa_nil)) pa_nil)) (pg_name (i := 4) sc_step.nd rfl (.inl rfl))
        (pss_one (ps_if (pt_nat (pe_op op_andN (pv 4) (pv 2)))
          (pss_one (ps_expr (pe_bm PySem.F.plainAttrs_list PySem.F.slot_list_append PySem.F.type_list_append mt_append (pv 3) (pa_cons (pe_op op_subZ (pe_ix ix_listN (pv 0) (pe_op op_xorN (pv 4) (pv 2)) (fun _ _ => rfl)) (pe_ix ix_listN (pv 0) (pv 4) (fun _ _ => rfl))) pa_nil))))
          (pss_one (ps_expr (pe_bm PySem.F.plainAttrs_list PySem.F.slot_list_append PySem.F.type_list_append mt_append (pv 3) (pa_cons (pe_op op_addZ (pe_ix ix_listN (pv 0) (pv 4) (fun _ _ => rfl)) (pe_ix ix_listN (pv 0) (pe_op op_orN (pv 4) (pv 2)) (fun _ _ => rfl))) pa_nil)))))))
      (pss_one (ps_ret (pv 3))))), ?_⟩
    refine ⟨_, rfl, p, rfl, rfl, by omega, Nat.zero_le _, fun l hl => ?_⟩
    have s1 : Same H (upd H l (.lst [])) := same_upd hl
    refine ⟨_, rfl, a, _, rfl, .inl (SqL.of (s1 _ _ ha)), ((2 ^ n : Nat) : Int), by rw [tab_lenV], (lo62 h64).1, (lo62 h64).2, ?_⟩
    refine for_nat (n := 2 ^ n) (fun i σ H2 => ∃ v : Option V, σ = [some (.ref a), some (.int (p : Int)), some (.int ((2 ^ p : Nat) : Int)), some (.ref l), v] ∧ Same H H2 ∧ H2 l = some (.lst ((tab i (stp f p)).map V.int))) ⟨none, rfl, s1, upd_same⟩ ?_ ?_
    · rintro i σ H2 hi ⟨v, rfl, s2, hL⟩
      have ha2 := SqL.of (K := K) (s2 _ _ ha)
      have gi : ((tab (2 ^ n) f).map V.int)[i]? = some (V.int (f i)) := tab_getV f hi
      have hz : ((tab i (stp f p)).map V.int).length < sizeLine := by rw [tab_lenV]; exact sz (by omega)
      refine ⟨_, rfl, _, rfl, i, 2 ^ p, rfl, rfl, by omega, by omega, _, _, rfl, rfl, ite2 (fun hb => ?_) (fun hb => ?_)⟩
      · have hb : i &&& 2 ^ p ≠ 0 := of_decide_eq_true hb
        have go : ((tab (2 ^ n) f).map V.int)[i ^^^ 2 ^ p]? = some (V.int (f (i ^^^ 2 ^ p))) := tab_getV f (Nat.xor_lt_two_pow hi hq)
        exact ⟨_, rfl, .inl ⟨rfl, _, SqL.of hL⟩, _, rfl, _, rfl, _, rfl, i, 2 ^ p, rfl, rfl, by omega, by omega, a, _, _, _, rfl, rfl, ha2, go, _, rfl, _, rfl, a, _, _, _, rfl, rfl, ha2, gi, _, _, stp f p i, rfl, rfl, if_neg hb, l, _, _, rfl, rfl, hL, hz,
          _, rfl, same_set s2 hl, by rw [upd_same, tab_snoc rfl]⟩
      · have hb : i &&& 2 ^ p = 0 := Decidable.of_not_not fun z => hb (decide_eq_true z)
        have go : ((tab (2 ^ n) f).map V.int)[i ||| 2 ^ p]? = some (V.int (f (i ||| 2 ^ p))) := tab_getV f (Nat.or_lt_two_pow hi hq)
        exact ⟨_, rfl, .inl ⟨rfl, _, SqL.of hL⟩, _, rfl, _, rfl, a, _, _, _, rfl, rfl, ha2, gi, _, rfl, _, rfl, _, rfl, i, 2 ^ p, rfl, rfl, by omega, by omega, a, _, _, _, rfl, rfl, ha2, go, _, _, stp f p i, rfl, rfl, if_pos hb, l, _, _, rfl, rfl, hL, hz,
          _, rfl, same_set s2 hl, by rw [upd_same, tab_snoc rfl]⟩
    · rintro σ H2 ⟨v, rfl, s2, hL⟩
      exact ⟨_, rfl, q _ _ s2 hl hL⟩
def spAll (K : PySem.W.Frag) : Sp := fun vs H Q _ => ∃ (a : Addr) (n : Nat) (f : Nat → Int), vs = [.ref a] ∧ H a = some (.lst ((tab (2 ^ n) f).map V.int)) ∧ n < 7 ∧
  ∀ H' l, Same H H' → H l = none → H' l = some (.lst ((tab (2 ^ n) (wht f n)).map V.int)) → Q (.ref l) H'
theorem sc_all : FnScope ["row", "made", "place"] ["row"] (defScope s_all_steps) := ⟨rfl, rfl, rfl, by decide +kernel, rfl, by decide +kernel, by decide +kernel⟩
theorem c_all (D : Df K mg "all_steps" "all_steps" s_all_steps) (Z : Fre mg) (F : Fc P w K mg base (k + 1) "stepped" ["row", "place"] (spStep K)) (G : Fc P w K mg base (k + 1) "width_of_length" ["length"] spWol) : Fc P w K mg base (k + 2) "all_steps" ["row"] (spAll K) := by
  refine D.fc sc_all (fun _ _ _ _ _ _ us hl => match us, hl with | [_], _ => rfl) (fun vs H Q E h => ?_) (fun _ cdv A outer s H vs Q E hr h => ?_)
  · obtain ⟨a, n, f, rfl, _⟩ := h
    rfl
  · obtain ⟨a, n, f, rfl, ha, hn, q⟩ := h
    have h64 := pow64 hn
    refine ⟨_, pss_cons (ps_set (i := 1) sc_all.nd rfl (.inl rfl) (pe_callTy call_list_of (by rfl) Z.z_list boot_list (pa_cons (pv 0) pa_nil)))
      (pss_cons (ps_for PassesOwn.never rfl (pi_range1 (by rfl) Z.z_range (pa_cons (pe_fc G hr (by rfl) (pa_cons (pe_callB call_len_seq (by rfl) Z.z_len PySem.boot_len (pa_cons (pv 0) pa_nil)) pa_nil)) pa_nil)) (pg_name (i := 2) sc_all.nd rfl (.inl rfl))
        (pss_one (ps_set (i := 1) sc_all.nd rfl (.inl rfl) (pe_fc F hr (by rfl) (pa_cons (pv 1) (pa_cons (pv 2) pa_nil))))))
      (pss_one (ps_ret (pv 1)))), ?_⟩
    refine ⟨_, rfl, a, _, rfl, .inl (SqL.of ha), fun l hl => ?_⟩
    have s1 : Same H (upd H l (.lst ((tab (2 ^ n) f).map V.int))) := same_upd hl
    refine ⟨_, rfl, a, _, rfl, .inl (SqL.of (s1 _ _ ha)), ?_⟩
    refine ⟨n, by rw [tab_lenV]; rfl, hn, _, rfl, by omega, by omega, ?_⟩
    refine for_nat (n := n) (fun i σ H2 => ∃ (v : Option V) (l : Addr), σ = [some (.ref a), some (.ref l), v] ∧ Same H H2 ∧ H l = none ∧ H2 l = some (.lst ((tab (2 ^ n) (wht f i)).map V.int))) ⟨none, l, rfl, s1, hl, upd_same⟩ ?_ ?_
    · rintro i σ H2 hi ⟨v, l2, rfl, s2, hl2, hL⟩
      refine ⟨_, rfl, _, rfl, l2, i, n, wht f i, rfl, hL, hi, hn, fun H3 l3 s3 hl3 h3 => ?_⟩
      exact ⟨_, l3, rfl, s2.trans s3, s2.free hl3, h3⟩
    · rintro σ H2 ⟨v, l2, rfl, s2, hl2, hL⟩
      exact ⟨_, rfl, q _ _ s2 hl2 hL⟩
def spSco (C : Addr) : Sp := fun vs H Q _ => ∃ (p : Addr) (n : Nat) (g : Nat → Int), vs = [.ref p] ∧ TabAt C H p n (tab (2 ^ n) g) ∧ n < 7 ∧
  ∀ H' l, Same H H' → H l = none → H' l = some (.lst ((tab (2 ^ n) (wht (fun x => 1 - 2 * g x) n)).map V.int)) → Q (.ref l) H'
theorem sc_sco : FnScope ["table"] ["table"] (defScope s_scores) := ⟨rfl, rfl, rfl, by decide +kernel, rfl, by decide +kernel, by decide +kernel⟩
theorem c_sco (D : Df K mg "scores" "scores" s_scores) (T : Txt K mg C) (M : MSig P w K mg base C (k + 2)) (F : Fc P w K mg base (k + 2) "check_table_shades" ["value", "argument"] (spCT C)) (G : Fc P w K mg base (k + 2) "all_steps" ["row"] (spAll K)) :
    Fc P w K mg base (k + 3) "scores" ["table"] (spSco C) := by
  obtain ⟨fm, fdm, hm, bm, Gm⟩ := M.ex
  refine D.fc sc_sco (fun _ _ _ _ _ _ us hl => match us, hl with | [_], _ => rfl) (fun vs H Q E h => ?_) (fun _ cdv A outer s H vs Q E hr h => ?_)
  · obtain ⟨p, n, g, rfl, _⟩ := h
    rfl
  · obtain ⟨p, n, g, rfl, hT, hn, q⟩ := h
    obtain ⟨dx, t, h1, h2⟩ := _root_.id hT
    refine ⟨_, pss_cons (ps_expr (pe_fc F hr (by rfl) (pa_cons (pv 0) (pa_cons pe_str pa_nil)))) (pss_one (ps_ret (pe_fc G hr (by rfl) (pa_cons (pe_meth0 (pv 0) T.cl hm Gm hr bm .nil pass0) pa_nil)))), ?_⟩
    refine ⟨_, rfl, p, _, n, _, rfl, hT, ?_⟩
    refine ⟨_, rfl, p, dx, _, rfl, h1, tf_no _ _ (by decide +kernel) (by decide +kernel), p, n, _, rfl, hT, by rw [tab_len]; exact pow64 hn, fun H1 l s1 hl h3 => ?_⟩
    rw [sgl_tab] at h3
    exact ⟨l, n, _, rfl, h3, hn, fun H2 l2 s2 hl2 h4 => q H2 l2 (s1.trans s2) (s1.free hl2) h4⟩
end
end K46
set_option Elab.async false
set_option linter.all false
set_option maxRecDepth 100000
set_option maxHeartbeats 4000000
namespace K46
open PySem PySem.Spec PyProof.Rows L2
/-! ### votes -/
def vt (n : Nat) (g : Nat → Nat) (x : Nat) : Int := sg (fun y => df (g y) (g (x ^^^ y))) (2 ^ n)
def mbt (n : Nat) (g : Nat → Nat) (x : Nat) : Int := if vt n g x < ((2 ^ n : Nat) : Int) - vt n g x then 0 else if ((2 ^ n : Nat) : Int) - vt n g x < vt n g x then 1 else (g x : Int)
theorem xor_df {a b : Nat} (ha : a < 2) (hb : b < 2) : ((a ^^^ b : Nat) : Int) = df a b := by
  have h1 : a = 0 ∨ a = 1 := by omega
  have h2 : b = 0 ∨ b = 1 := by omega
  rcases h1 with rfl | rfl <;> rcases h2 with rfl | rfl <;> decide
/-- the bits of a table, by a function -/
def bt (n : Nat) (g : Nat → Nat) : List Int := tab (2 ^ n) fun x => (g x : Int)
theorem bt_bits {n : Nat} {g : Nat → Nat} (hn : n < 7) (hg : ∀ x, g x < 2) : Bits n (bt n g) := by
  refine ⟨hn, tab_len _ _, fun v hv => ?_⟩
  obtain ⟨x, _, rfl⟩ := List.mem_map.mp hv
  have := hg x
  omega
theorem bt_get {n x : Nat} {g : Nat → Nat} (h : x < 2 ^ n) : ((bt n g).map V.int)[x]? = some (V.int (g x : Int)) := tab_getV _ h
theorem bt_len (n : Nat) (g : Nat → Nat) : ((bt n g).map V.int).length = 2 ^ n := tab_lenV _ _
section
variable {P : Program} {w : World} {K : PySem.W.Frag} {mg : Str → Option Value} {base : Heap} {k : Nat} {C : Addr}
def spCV (K : PySem.W.Frag) : Sp := fun vs H Q _ => ∃ (t : Addr) (n x : Nat) (g : Nat → Nat), vs = [.ref t, .int (x : Int)] ∧ H t = some (.tup ((bt n g).map V.int)) ∧ (∀ y, g y < 2) ∧ n < 7 ∧ x < 2 ^ n ∧
  ∀ H' p, Same H H' → H p = none → H' p = some (.tup [.int (((2 ^ n : Nat) : Int) - vt n g x), .int (vt n g x)]) → Q (.ref p) H'
theorem sc_cv : FnScope ["bits", "word", "ones", "other"] ["bits", "word"] (defScope s_counted_votes) := ⟨rfl, rfl, rfl, by decide +kernel, rfl, by decide +kernel, by decide +kernel⟩
theorem c_cv (D : Df K mg "counted_votes" "counted_votes" s_counted_votes) (Z : Fre mg) : Fc P w K mg base (k + 1) "counted_votes" ["bits", "word"] (spCV K) := by
  refine D.fc sc_cv (fun _ _ _ _ _ _ us hl => match us, hl with | [_, _], _ => rfl) (fun vs H Q E h => ?_) (fun _ cdv A outer s H vs Q E hr h => ?_)
  · obtain ⟨t, n, x, g, rfl, _⟩ := h
    rfl
  · obtain ⟨t, n, x, g, rfl, ht, hg, hn, hx, q⟩ := h
    have h64 := pow64 hn
    refine ⟨_, pss_cons (ps_set (i := 2) sc_cv.nd rfl (.inl rfl) (pe_callB (cr_sumZ rfl) (by rfl) Z.z_sum boot_sum (pa_cons
      (pe_lc (own := [("other", 3)]) rfl sc_cv.nd (pi_range1 (by rfl) Z.z_range (pa_cons (pe_callB call_len_seq (by rfl) Z.z_len PySem.boot_len (pa_cons (pv 0) pa_nil)) pa_nil)) (blkOk_by (N := ["bits", "word", "ones", "other"]) (sc := defScope s_counted_votes) (by decide +kernel))
        (fun _ _ _ _ _ => pg_name (i := 3) sc_cv.nd rfl (.inl rfl)) (fun _ _ _ _ _ => pts_nil)
        (fun _ _ _ _ _ => pe_op op_xorN (pe_ixTK (K := K) rfl (pv 0) (pv 3)) (pe_ixTK (K := K) rfl (pv 0) (pe_op op_xorN (pv 1) (pv 3))))) pa_nil)))
      (pss_one (ps_ret (pe_tup (pa_cons (pe_op op_subZ (pe_callB call_len_seq (by rfl) Z.z_len PySem.boot_len (pa_cons (pv 0) pa_nil)) (pv 2)) (pa_cons (pv 2) pa_nil))))), ?_⟩
    refine ⟨_, rfl, t, _, rfl, .inr (SqT.of ht), ((2 ^ n : Nat) : Int), by rw [bt_len], (lo62 h64).1, (lo62 h64).2, fun d hd => ?_⟩
    refine lc_ints (n := 2 ^ n) walk_nat (tab (2 ^ n) fun y => df (g y) (g (x ^^^ y))) (tab_len _ _) h64 hd (fun _ _ => trivial) yfn_same ?_ fun H1 s1 e1 => ?_
    · rintro y u H1 H2 z κ hy hz s1 ⟨rfl, rfl⟩ hk
      obtain ⟨_, rfl⟩ := tab_val hz
      have ht1 := SqT.of (K := K) (s1 _ _ ht)
      have h1 : g y < 64 := Nat.lt_trans (hg _) (by decide)
      have h2 : g (x ^^^ y) < 64 := Nat.lt_trans (hg _) (by decide)
      refine ⟨rfl, _, rfl, _, rfl, t, _, y, _, rfl, rfl, ht1, bt_get hy, _, rfl, _, rfl, _, rfl, x, y, rfl, rfl, by omega, by omega, t, _, x ^^^ y, _, rfl, rfl, ht1, bt_get (Nat.xor_lt_two_pow hx hy), g y, g (x ^^^ y), rfl, rfl, h1, h2, ?_⟩
      exact qv (congrArg V.int (xor_df (hg _) (hg _))) (hk _ (Same.refl _))
    · have es : (tab (2 ^ n) fun y => df (g y) (g (x ^^^ y))).sum = vt n g x := sg_list _ _
      refine ⟨d, _, vt n g x, rfl, SqL.of e1, es.symm, ?_⟩
      refine ⟨_, rfl, t, _, rfl, .inr (SqT.of (s1 _ _ ht)), _, rfl, _, _, ((2 ^ n : Nat) : Int) - vt n g x, rfl, rfl, by rw [bt_len], _, rfl, by show 2 ≤ sizeLine; decide, fun p hp => ?_⟩
      exact q _ p (s1.trans (same_upd hp)) (s1.free hp) upd_same
def spAV (C : Addr) : Sp := fun vs H Q _ => ∃ (p : Addr) (n : Nat) (g : Nat → Nat), vs = [.ref p] ∧ TabAt C H p n (bt n g) ∧ (∀ y, g y < 2) ∧ n < 7 ∧
  ∀ H' l acc, Same H H' → H l = none → H' l = some (.lst acc) → acc.length = 2 ^ n → (∀ j y, acc[j]? = some y → ∃ a, y = .ref a ∧ H' a = some (.tup [.int (((2 ^ n : Nat) : Int) - vt n g j), .int (vt n g j)])) → Q (.ref l) H'
theorem sc_av : FnScope ["table", "bits", "word"] ["table"] (defScope s_all_votes) := ⟨rfl, rfl, rfl, by decide +kernel, rfl, by decide +kernel, by decide +kernel⟩
/-- a relation that tells of a tuple bears a change at a list -/
theorem tup_mono {φ : Nat → List V} : ∀ (D : Addr) (j : Nat) (y : V) (H H' : Hp), (∃ a, y = V.ref a ∧ H a = some (.tup (φ j))) → (∃ acc, H D = some (.lst acc)) → But D H H' → ∃ a, y = V.ref a ∧ H' a = some (.tup (φ j)) := by
  rintro D j y H H' ⟨a, rfl, ha⟩ ⟨acc, hA⟩ b
  exact ⟨a, rfl, b _ _ ha (ne_of ha hA (by intro z; cases z))⟩
theorem c_av (D : Df K mg "all_votes" "all_votes" s_all_votes) (T : Txt K mg C) (Z : Fre mg) (R : Pr P w K mg base C (k + 1) "bits" "held") (F : Fc P w K mg base (k + 1) "counted_votes" ["bits", "word"] (spCV K)) : Fc P w K mg base (k + 3) "all_votes" ["table"] (spAV C) := by
  refine D.fc sc_av (fun _ _ _ _ _ _ us hl => match us, hl with | [_], _ => rfl) (fun vs H Q E h => ?_) (fun _ cdv A outer s H vs Q E hr h => ?_)
  · obtain ⟨p, n, g, rfl, _⟩ := h
    rfl
  · obtain ⟨p, n, g, rfl, ⟨dx, t, h1, ht⟩, hg, hn, q⟩ := h
    have h64 := pow64 hn
    have hr1 : Room (k + 1) _ := hr.mono (by omega)
    refine ⟨_, pss_cons (ps_set (i := 1) sc_av.nd rfl (.inr rfl) (pe_pr R T.cl (pv 0) hr))
      (pss_one (ps_ret (pe_lc (own := [("word", 2)]) rfl sc_av.nd (pi_range1 (by rfl) Z.z_range (pa_cons (pe_callB call_len_seq (by rfl) Z.z_len PySem.boot_len (pa_cons (pv 1) pa_nil)) pa_nil)) (blkOk_by (N := ["table", "bits", "word"]) (sc := defScope s_all_votes) (by decide +kernel))
        (fun _ _ _ _ _ => pg_name (i := 2) sc_av.nd rfl (.inl rfl)) (fun _ _ _ _ _ => pts_nil)
        (fun _ _ _ _ _ => pe_fc F hr1 (by rfl) (pa_cons (pv 1) (pa_cons (pv 2) pa_nil)))))), ?_⟩
    refine ⟨_, rfl, p, dx, _, rfl, h1, p, dx, _, _, rfl, h1, tf_held _ _, ?_⟩
    refine ⟨_, rfl, t, _, rfl, .inr (SqT.of ht), ((2 ^ n : Nat) : Int), by rw [bt_len], (lo62 h64).1, (lo62 h64).2, fun d hd => ?_⟩
    refine lc_rel (n := 2 ^ n) walk_nat (fun j y H' => ∃ a, y = V.ref a ∧ H' a = some (.tup [.int (((2 ^ n : Nat) : Int) - vt n g j), .int (vt n g j)])) h64 hd (fun _ _ => trivial) yfn_same (tup_mono d) ?_ fun H1 acc s1 e1 hl hr => ?_
    · rintro y u H1 H2 κ hy s1 ⟨rfl, rfl⟩ hk
      refine ⟨rfl, _, rfl, _, rfl, t, n, y, g, rfl, s1 _ _ ht, hg, hn, hy, fun H3 a s3 ha e3 => ?_⟩
      exact hk _ H3 s3 ⟨a, rfl, e3⟩
    · exact q H1 d acc s1 hd e1 hl hr
def spMB : Sp := fun vs H Q _ => ∃ z o b : Int, vs = [.int z, .int o, .int b] ∧ Q (.int (if o < z then 0 else if z < o then 1 else b)) H
theorem sc_mb : FnScope ["zeros", "ones", "bit"] ["zeros", "ones", "bit"] (defScope s_mended_bit) := ⟨rfl, rfl, rfl, by decide +kernel, rfl, by decide +kernel, by decide +kernel⟩
theorem c_mb (D : Df K mg "mended_bit" "mended_bit" s_mended_bit) : Fc P w K mg base (k + 1) "mended_bit" ["zeros", "ones", "bit"] spMB := by
  refine D.fc sc_mb (fun _ _ _ _ _ _ us hl => match us, hl with | [_, _, _], _ => rfl) (fun vs H Q E h => ?_) (fun _ cdv A outer s H vs Q E hr h => ?_)
  · obtain ⟨z, o, b, rfl, _⟩ := h
    rfl
  · obtain ⟨z, o, b, rfl, q⟩ := h
    refine ⟨_, pss_cons (ps_if (pt_cmpR op_gtZ (pv 0) (pv 1) (nomark _)) (pss_one (ps_ret pe_int)) pss_nil) (pss_cons (ps_if (pt_cmpR op_ltZ (pv 0) (pv 1) (nomark _)) (pss_one (ps_ret pe_int)) pss_nil) (pss_one (ps_ret (pv 2)))), ?_⟩
    refine ⟨_, rfl, _, rfl, z, o, _, rfl, rfl, rfl, _, rfl, ite2 (fun h => ?_) (fun h => ?_)⟩
    · rw [if_pos (of_decide_eq_true h)] at q
      exact q
    · rw [if_neg (fun e => h (decide_eq_true e))] at q
      refine ⟨_, rfl, _, rfl, z, o, _, rfl, rfl, rfl, _, rfl, ite2 (fun h => ?_) (fun h => ?_)⟩
      · rw [if_pos (of_decide_eq_true h)] at q
        exact q
      · rw [if_neg (fun e => h (decide_eq_true e))] at q
        exact ⟨_, rfl, q⟩
def spMar (C : Addr) : Sp := fun vs H Q _ => ∃ (p : Addr) (n : Nat) (g : Nat → Nat), vs = [.ref p] ∧ TabAt C H p n (bt n g) ∧ (∀ y, g y < 2) ∧ n < 7 ∧
  ∀ H' l, Same H H' → H l = none → H' l = some (.lst ((tab (2 ^ n) fun x => ((2 ^ n : Nat) : Int) - vt n g x - vt n g x).map V.int)) → Q (.ref l) H'
theorem sc_mar : FnScope ["table", "zeros", "ones"] ["table"] (defScope s_margins) := ⟨rfl, rfl, rfl, by decide +kernel, rfl, by decide +kernel, by decide +kernel⟩
theorem c_mar (D : Df K mg "margins" "margins" s_margins) (F : Fc P w K mg base (k + 3) "check_table_pairs" ["value", "name"] (spCT C)) (G : Fc P w K mg base (k + 3) "all_votes" ["table"] (spAV C)) : Fc P w K mg base (k + 4) "margins" ["table"] (spMar C) := by
  refine D.fc sc_mar (fun _ _ _ _ _ _ us hl => match us, hl with | [_], _ => rfl) (fun vs H Q E h => ?_) (fun _ cdv A outer s H vs Q E hr h => ?_)
  · obtain ⟨p, n, g, rfl, _⟩ := h
    rfl
  · obtain ⟨p, n, g, rfl, hT, hg, hn, q⟩ := h
    have h64 := pow64 hn
    refine ⟨_, pss_cons (ps_expr (pe_fc F hr (by rfl) (pa_cons (pv 0) (pa_cons pe_str pa_nil)))) (pss_one (ps_ret (pe_lc (own := [("zeros", 1), ("ones", 2)]) rfl sc_mar.nd (pi_list (pe_fc G hr (by rfl) (pa_cons (pv 0) pa_nil)))
        (blkOk_by (N := ["table", "zeros", "ones"]) (sc := defScope s_margins) (by decide +kernel))
        (fun _ _ _ _ _ => pg_tupK (K := K) (n := 2) rfl rfl (pgs_cons (pg_name (i := 1) sc_mar.nd rfl (.inl rfl)) (pgs_cons (pg_name (i := 2) sc_mar.nd rfl (.inl rfl)) pgs_nil))) (fun _ _ _ _ _ => pts_nil)
        (fun _ _ _ _ _ => pe_op op_subZ (pv 1) (pv 2))))), ?_⟩
    refine ⟨_, rfl, p, _, n, _, rfl, hT, ?_⟩
    refine ⟨_, rfl, p, n, g, rfl, hT, hg, hn, fun H1 l acc s1 hl e1 el er => ?_⟩
    refine ⟨l, rfl, ⟨_, SqL.of e1⟩, fun d hd => ?_⟩
    refine lc_ints (n := acc.length) (walk_list (K := K) (a := l) (xs := acc)) (tab (2 ^ n) fun x => ((2 ^ n : Nat) : Int) - vt n g x - vt n g x) (by rw [tab_len, el]) (by omega) hd (fun H' s => SqL.of (s _ _ e1)) yat_same ?_ fun H' s e => q H' d (s1.trans s) (s1.free hd) e
    rintro i x H2 H3 z κ hi hz s2 ⟨rfl, hx⟩ hk
    obtain ⟨a, rfl, ha⟩ := er i x hx
    obtain ⟨_, rfl⟩ := tab_val hz
    exact ⟨a, _, rfl, SqT.of (s2 _ _ ha), rfl, _, _, rfl, _, _, rfl, rfl, rfl, _, rfl, _, rfl, _, _, _, rfl, rfl, rfl, hk _ (Same.refl _)⟩
def mrow (n : Nat) (g : Nat → Nat) (j : Nat) : List V := [.int (j : Int), .int (((2 ^ n : Nat) : Int) - vt n g j), .int (vt n g j), .int (mbt n g j)]
def spML (C : Addr) : Sp := fun vs H Q _ => ∃ (p : Addr) (n : Nat) (g : Nat → Nat), vs = [.ref p] ∧ TabAt C H p n (bt n g) ∧ (∀ y, g y < 2) ∧ n < 7 ∧
  ∀ H' l acc, Same H H' → H l = none → H' l = some (.lst acc) → acc.length = 2 ^ n → (∀ j y, acc[j]? = some y → ∃ a, y = .ref a ∧ H' a = some (.tup (mrow n g j))) → Q (.ref l) H'
theorem sc_ml : FnScope ["table", "bits", "word", "zeros", "ones"] ["table"] (defScope s_mend_log) := ⟨rfl, rfl, rfl, by decide +kernel, rfl, by decide +kernel, by decide +kernel⟩
theorem c_ml (D : Df K mg "mend_log" "mend_log" s_mend_log) (T : Txt K mg C) (Z : Fre mg) (R : Pr P w K mg base C (k + 2) "bits" "held") (F : Fc P w K mg base (k + 3) "check_table_pairs" ["value", "name"] (spCT C)) (G : Fc P w K mg base (k + 3) "all_votes" ["table"] (spAV C))
    (B : Fc P w K mg base (k + 3) "mended_bit" ["zeros", "ones", "bit"] spMB) : Fc P w K mg base (k + 4) "mend_log" ["table"] (spML C) := by
  refine D.fc sc_ml (fun _ _ _ _ _ _ us hl => match us, hl with | [_], _ => rfl) (fun vs H Q E h => ?_) (fun _ cdv A outer s H vs Q E hr h => ?_)
  · obtain ⟨p, n, g, rfl, _⟩ := h
    rfl
  · obtain ⟨p, n, g, rfl, hT, hg, hn, q⟩ := h
    obtain ⟨dx, t, h1, ht⟩ := _root_.id hT
    have h64 := pow64 hn
    refine ⟨_, pss_cons (ps_expr (pe_fc F hr (by rfl) (pa_cons (pv 0) (pa_cons pe_str pa_nil)))) (pss_cons (ps_set (i := 1) sc_ml.nd rfl (.inr rfl) (pe_pr R T.cl (pv 0) hr))
      (pss_one (ps_ret (pe_lc (own := [("word", 2), ("zeros", 3), ("ones", 4)]) rfl sc_ml.nd (pi_enum (by rfl) Z.z_enumerate (pa_cons (pe_fc G hr (by rfl) (pa_cons (pv 0) pa_nil)) pa_nil))
        (blkOk_by (N := ["table", "bits", "word", "zeros", "ones"]) (sc := defScope s_mend_log) (by decide +kernel))
        (fun _ _ _ _ _ => pg_tupK (K := K) (n := 2) rfl rfl (pgs_cons (pg_name (i := 2) sc_ml.nd rfl (.inl rfl)) (pgs_cons (pg_tupK (K := K) (n := 2) rfl rfl (pgs_cons (pg_name (i := 3) sc_ml.nd rfl (.inl rfl)) (pgs_cons (pg_name (i := 4) sc_ml.nd rfl (.inl rfl)) pgs_nil))) pgs_nil)))
        (fun _ _ _ _ _ => pts_nil)
        (fun _ _ _ _ _ => pe_tup (pa_cons (pv 2) (pa_cons (pv 3) (pa_cons (pv 4) (pa_cons (pe_fc B hr (by rfl) (pa_cons (pv 3) (pa_cons (pv 4) (pa_cons (pe_ixTK (K := K) rfl (pv 1) (pv 2)) pa_nil)))) pa_nil))))))))), ?_⟩
    refine ⟨_, rfl, p, _, n, _, rfl, hT, ?_⟩
    refine ⟨_, rfl, p, dx, _, rfl, h1, p, dx, _, _, rfl, h1, tf_held _ _, ?_⟩
    refine ⟨_, rfl, p, n, g, rfl, hT, hg, hn, fun H1 l acc s1 hl e1 el er => ?_⟩
    refine ⟨l, acc, rfl, SqL.of e1, fun d hd => ?_⟩
    refine lc_rel (n := acc.length) (walk_enum (K := K) (a := l) (xs := acc)) (fun j y H' => ∃ a, y = V.ref a ∧ H' a = some (.tup (mrow n g j))) (by omega) hd (fun H' s => SqL.of (s _ _ e1)) ypair_same (tup_mono d) ?_ fun H2 acc2 s2 e2 el2 er2 => ?_
    · rintro i x H2 H3 κ hi s2 ⟨X, u, v, rfl, hX, rfl, hu, hv⟩ hk
      have eu : V.int ((i : Nat) : Int) = u := Option.some.inj hu
      subst eu
      obtain ⟨a, rfl, ha⟩ := er i v hv
      have hi2 : i < 2 ^ n := by omega
      have s3 : Same H2 (upd H2 X (.tup [V.int ((i : Nat) : Int), V.ref a])) := same_upd hX
      have ha3 := s3 _ _ (s2 _ _ ha)
      have ht3 := SqT.of (K := K) (s3 _ _ (s2 _ _ (s1 _ _ ht)))
      refine ⟨X, _, rfl, SqT.of upd_same, rfl, _, _, rfl, _, _, rfl, ⟨a, _, rfl, SqT.of ha3, rfl, _, _, rfl, _, _, rfl, rfl, rfl, rfl, ?_⟩⟩
      refine ⟨_, rfl, _, rfl, _, rfl, _, rfl, _, rfl, _, rfl, _, rfl, t, _, i, _, rfl, rfl, ht3, bt_get hi2, _, _, _, rfl, ?_⟩
      refine ⟨by show 4 ≤ sizeLine; decide, fun b hb => hk _ _ (same_upd hb) ⟨b, rfl, upd_same⟩⟩
    · exact q H2 d acc2 (s1.trans s2) (s1.free hd) e2 (by omega) er2
end
end K46
set_option Elab.async false
set_option linter.all false
set_option maxRecDepth 100000
set_option maxHeartbeats 4000000
namespace K46
open PySem PySem.Spec PyProof.Rows L2
section
variable {P : Program} {w : World} {K : PySem.W.Frag} {mg : Str → Option Value} {base : Heap} {k : Nat} {C : Addr}
/-! ### mended -/
def spMen (C : Addr) : Sp := fun vs H Q _ => ∃ (p : Addr) (n : Nat) (g h : Nat → Nat), vs = [.ref p] ∧ TabAt C H p n (bt n g) ∧ (∀ y, g y < 2) ∧ (∀ y, h y < 2) ∧ n < 7 ∧ (∀ x, x < 2 ^ n → mbt n g x = (h x : Int)) ∧
  ∀ H' r, Same H H' → H r = none → TabAt C H' r n (bt n h) → Q (.ref r) H'
theorem sc_men : FnScope ["table", "row"] ["table"] (defScope s_mended) := ⟨rfl, rfl, rfl, by decide +kernel, rfl, by decide +kernel, by decide +kernel⟩
theorem c_men (D : Df K mg "mended" "mended" s_mended) (T : Txt K mg C) (R : Pr P w K mg base C (k + 4) "width" "wide") (F : Fc P w K mg base (k + 5) "check_table_pairs" ["value", "name"] (spCT C)) (G : Fc P w K mg base (k + 5) "mend_log" ["table"] (spML C))
    (M : MkT P w K mg base C (k + 4)) : Fc P w K mg base (k + 6) "mended" ["table"] (spMen C) := by
  obtain ⟨fm, fdm, Mk1, bm, GM⟩ := M.ex
  refine D.fc sc_men (fun _ _ _ _ _ _ us hl => match us, hl with | [_], _ => rfl) (fun vs H Q E h => ?_) (fun _ cdv A outer s H vs Q E hr h => ?_)
  · obtain ⟨p, n, g, h, rfl, _⟩ := h
    rfl
  · obtain ⟨p, n, g, h, rfl, hT, hg, hh, hn, hm, q⟩ := h
    obtain ⟨dx, t, h1, ht⟩ := _root_.id hT
    have h64 := pow64 hn
    refine ⟨_, pss_cons (ps_expr (pe_fc F hr (by rfl) (pa_cons (pv 0) (pa_cons pe_str pa_nil)))) (pss_one (ps_ret (pe_make Mk1 GM hr (by rfl) T.mgC bm .nil pass0 (pa_cons (pe_pr R T.cl (pv 0) hr) (pa_cons
      (pe_lc (own := [("row", 1)]) rfl sc_men.nd (pi_list (pe_fc G hr (by rfl) (pa_cons (pv 0) pa_nil))) (blkOk_by (N := ["table", "row"]) (sc := defScope s_mended) (by decide +kernel))
        (fun _ _ _ _ _ => pg_name (i := 1) sc_men.nd rfl (.inl rfl)) (fun _ _ _ _ _ => pts_nil) (fun _ _ _ _ _ => pe_ixTK (K := K) rfl (pv 1) pe_int)) pa_nil))))), ?_⟩
    refine ⟨_, rfl, p, _, n, _, rfl, hT, ?_⟩
    refine ⟨_, rfl, p, dx, _, rfl, h1, p, dx, _, _, rfl, h1, tf_wide _ _, ?_⟩
    refine ⟨_, rfl, p, n, g, rfl, hT, hg, hn, fun H1 l acc s1 hl e1 el er => ?_⟩
    refine ⟨l, rfl, ⟨_, SqL.of e1⟩, fun d hd => ?_⟩
    refine lc_ints (n := acc.length) (walk_list (K := K) (a := l) (xs := acc)) (bt n h) (by unfold bt; rw [tab_len, el]) (by omega) hd (fun H' s => SqL.of (s _ _ e1)) yat_same ?_ fun H2 s2 e2 => ?_
    · rintro i x H2 H3 z κ hi hz s2 ⟨rfl, hx⟩ hk
      obtain ⟨a, rfl, ha⟩ := er i x hx
      obtain ⟨hi2, rfl⟩ := tab_val hz
      rw [← hm i hi2] at hk
      exact ⟨rfl, _, rfl, a, _, 3, _, rfl, rfl, SqT.of (s2 _ _ ha), rfl, hk _ (Same.refl _)⟩
    · intro x dx2 nx ndx nex
      have s3 : Same H2 (upd (upd H2 dx2 (.own x)) x (.ins C dx2 [])) := fun b o e => by
        rw [upd_ne (ne_of_none e nx), upd_ne (ne_of_none e ndx)]
        exact e
      refine ⟨x, dx2, d, n, bt n h, rfl, upd_same, s3 _ _ e2, bt_bits hn hh, fun H3 t3 b3 => ⟨rfl, ?_⟩⟩
      have s03 : Same H H2 := s1.trans s2
      exact q H3 x (fun b o e => b3 b o (s3 _ _ (s03 _ _ e)) (ne_of_none (s03 _ _ e) nx)) (s03.free nx) t3
/-! ### unlike -/
theorem walk_zipT {a b : Addr} {xs ys : List V} {n : Nat} (hx : xs.length = n) (hy : ys.length = n) : Walk (RZ.ItzT K a b) n (fun H => SqT K H a xs ∧ SqT K H b ys) (YPair (fun i => xs[i]?) (fun i => ys[i]?)) := by
  refine ⟨fun i H hi q => ?_, fun H q => ⟨xs, ys, q.1, q.2, by omega⟩, fun i H v H' _ q y => ?_⟩
  · have h1 : i < xs.length := by omega
    have h2 : i < ys.length := by omega
    exact ⟨xs, ys, xs[i], ys[i], q.1, q.2, by simp [h1], by simp [h2]⟩
  · obtain ⟨T, x, z, h1, h2, h3, h4, h5⟩ := y
    exact ⟨T, x, z, h1, h2, h3, h4 xs q.1, h5 ys q.2⟩
def spUnl (C : Addr) : Sp := fun vs H Q _ => ∃ (p r : Addr) (n : Nat) (g h : Nat → Nat), vs = [.ref p, .ref r] ∧ TabAt C H p n (bt n g) ∧ TabAt C H r n (bt n h) ∧ (∀ y, g y < 2) ∧ (∀ y, h y < 2) ∧ n < 7 ∧
  ∀ H', Same H H' → Q (.int (sg (fun x => df (g x) (h x)) (2 ^ n))) H'
theorem sc_unl : FnScope ["first", "second", "one", "two"] ["first", "second"] (defScope s_unlike) := ⟨rfl, rfl, rfl, by decide +kernel, rfl, by decide +kernel, by decide +kernel⟩
theorem c_unl (D : Df K mg "unlike" "unlike" s_unlike) (T : Txt K mg C) (Z : Fre mg) (R : Pr P w K mg base C (k + 2) "width" "wide") (S : Pr P w K mg base C (k + 2) "bits" "held") (F : Fc P w K mg base (k + 3) "check_table_pairs" ["value", "name"] (spCT C))
    (G : Fc P w K mg base (k + 3) "check_same_width" ["value", "name", "width"] (spCSW C)) : Fc P w K mg base (k + 4) "unlike" ["first", "second"] (spUnl C) := by
  refine D.fc sc_unl (fun _ _ _ _ _ _ us hl => match us, hl with | [_, _], _ => rfl) (fun vs H Q E h => ?_) (fun _ cdv A outer s H vs Q E hr h => ?_)
  · obtain ⟨p, r, n, g, h, rfl, _⟩ := h
    rfl
  · obtain ⟨p, r, n, g, h, rfl, hT, hT2, hg, hh, hn, q⟩ := h
    obtain ⟨dx, t, h1, ht⟩ := _root_.id hT
    obtain ⟨dx2, t2, h2, ht2⟩ := _root_.id hT2
    have h64 := pow64 hn
    refine ⟨_, pss_cons (ps_expr (pe_fc F hr (by rfl) (pa_cons (pv 0) (pa_cons pe_str pa_nil)))) (pss_cons (ps_expr (pe_fc G hr (by rfl) (pa_cons (pv 1) (pa_cons pe_str (pa_cons (pe_pr R T.cl (pv 0) hr) pa_nil)))))
      (pss_one (ps_ret (pe_callB (cr_sumZ rfl) (by rfl) Z.z_sum boot_sum (pa_cons (pe_lc (own := [("one", 2), ("two", 3)]) rfl sc_unl.nd (RZ.pi_zipA (by rfl) Z.z_zip (pa_cons (pe_pr S T.cl (pv 0) hr) (pa_cons (pe_pr S T.cl (pv 1) hr) pa_nil)))
        (blkOk_by (N := ["first", "second", "one", "two"]) (sc := defScope s_unlike) (by decide +kernel))
        (fun _ _ _ _ _ => pg_tupK (K := K) (n := 2) rfl rfl (pgs_cons (pg_name (i := 2) sc_unl.nd rfl (.inl rfl)) (pgs_cons (pg_name (i := 3) sc_unl.nd rfl (.inl rfl)) pgs_nil))) (fun _ _ _ _ _ => pts_nil)
        (fun _ _ _ _ _ => pe_op op_xorN (pv 2) (pv 3))) pa_nil))))), ?_⟩
    refine ⟨_, rfl, p, _, n, _, rfl, hT, ?_⟩
    refine ⟨_, rfl, _, rfl, p, dx, _, rfl, h1, p, dx, _, _, rfl, h1, tf_wide _ _, r, _, n, _, rfl, hT2, ?_⟩
    refine ⟨_, rfl, p, dx, _, rfl, h1, p, dx, _, _, rfl, h1, tf_held _ _, _, rfl, r, dx2, _, rfl, h2, r, dx2, _, _, rfl, h2, tf_held _ _, ?_⟩
    refine ⟨t, t2, _, _, rfl, .inr ⟨SqT.of ht, SqT.of ht2, fun d hd => ?_⟩⟩
    refine lc_ints (n := 2 ^ n) (walk_zipT (K := K) (a := t) (b := t2) (bt_len n g) (bt_len n h)) (tab (2 ^ n) fun x => df (g x) (h x)) (tab_len _ _) h64 hd (fun H' s => ⟨SqT.of (s _ _ ht), SqT.of (s _ _ ht2)⟩) ypair_same ?_ fun H2 s2 e2 => ?_
    · rintro i x H2 H3 z κ hi hz s2 ⟨X, u, v, rfl, hX, rfl, hu, hv⟩ hk
      obtain ⟨_, rfl⟩ := tab_val hz
      have eu : V.int (g i : Int) = u := Option.some.inj ((bt_get hi).symm.trans hu)
      have ev : V.int (h i : Int) = v := Option.some.inj ((bt_get hi).symm.trans hv)
      subst eu ev
      refine ⟨X, _, rfl, SqT.of upd_same, rfl, _, _, rfl, _, _, rfl, rfl, rfl, _, rfl, _, rfl, g i, h i, rfl, rfl, Nat.lt_trans (hg _) (by decide), Nat.lt_trans (hh _) (by decide), ?_⟩
      exact qv (congrArg V.int (xor_df (hg _) (hh _))) (hk _ (Same.refl _))
    · exact ⟨d, _, _, rfl, SqL.of e2, (sg_list _ _).symm, q H2 s2⟩
/-! ### the nearest sum-tables -/
def ct (n : Nat) (g : Nat → Nat) (x : Nat) : Int := (((2 ^ n : Nat) : Int) - wht (fun y => si (g y)) n x) / 2
def spDis (C : Addr) : Sp := fun vs H Q _ => ∃ (p : Addr) (n : Nat) (g : Nat → Nat), vs = [.ref p] ∧ TabAt C H p n (bt n g) ∧ n < 7 ∧
  ∀ H' l, Same H H' → H l = none → H' l = some (.lst ((tab (2 ^ n) (ct n g)).map V.int)) → Q (.ref l) H'
theorem sc_dis : FnScope ["table", "size", "mark"] ["table"] (defScope s_distances) := ⟨rfl, rfl, rfl, by decide +kernel, rfl, by decide +kernel, by decide +kernel⟩
theorem c_dis (D : Df K mg "distances" "distances" s_distances) (T : Txt K mg C) (R : Pr P w K mg base C (k + 2) "width" "wide") (F : Fc P w K mg base (k + 3) "check_table_pairs" ["value", "name"] (spCT C)) (G : Fc P w K mg base (k + 3) "scores" ["table"] (spSco C)) :
    Fc P w K mg base (k + 4) "distances" ["table"] (spDis C) := by
  refine D.fc sc_dis (fun _ _ _ _ _ _ us hl => match us, hl with | [_], _ => rfl) (fun vs H Q E h => ?_) (fun _ cdv A outer s H vs Q E hr h => ?_)
  · obtain ⟨p, n, g, rfl, _⟩ := h
    rfl
  · obtain ⟨p, n, g, rfl, hT, hn, q⟩ := h
    obtain ⟨dx, t, h1, ht⟩ := _root_.id hT
    have h64 := pow64 hn
    refine ⟨_, pss_cons (ps_expr (pe_fc F hr (by rfl) (pa_cons (pv 0) (pa_cons pe_str pa_nil)))) (pss_cons (ps_set (i := 1) sc_dis.nd rfl (.inr rfl) (pe_op op_shl1 pe_int (pe_pr R T.cl (pv 0) hr)))
      (pss_one (ps_ret (pe_lc (own := [("mark", 2)]) rfl sc_dis.nd (pi_list (pe_fc G hr (by rfl) (pa_cons (pv 0) pa_nil))) (blkOk_by (N := ["table", "size", "mark"]) (sc := defScope s_distances) (by decide +kernel))
        (fun _ _ _ _ _ => pg_name (i := 2) sc_dis.nd rfl (.inl rfl)) (fun _ _ _ _ _ => pts_nil) (fun _ _ _ _ _ => pe_op op_fdivZ (pe_op op_subZ (pv 1) (pv 2)) pe_int))))), ?_⟩
    refine ⟨_, rfl, p, _, n, _, rfl, hT, ?_⟩
    refine ⟨_, rfl, p, dx, _, rfl, h1, p, dx, _, _, rfl, h1, tf_wide _ _, n, rfl, rfl, hn, ?_⟩
    refine ⟨_, rfl, p, n, _, rfl, hT, hn, fun H1 l s1 hl e1 => ?_⟩
    refine ⟨l, rfl, ⟨_, SqL.of e1⟩, fun d hd => ?_⟩
    refine lc_ints (n := ((tab (2 ^ n) (wht (fun y => si (g y)) n)).map V.int).length) (walk_list (K := K) (a := l) (xs := (tab (2 ^ n) (wht (fun y => si (g y)) n)).map V.int)) (tab (2 ^ n) (ct n g)) (by rw [tab_len, tab_lenV]) (by rw [tab_lenV]; exact h64) hd (fun H' s => SqL.of (s _ _ e1)) yat_same ?_ fun H2 s2 e2 => q H2 d (s1.trans s2) (s1.free hd) e2
    rintro i x H2 H3 z κ hi hz s2 ⟨rfl, hx⟩ hk
    obtain ⟨_, rfl⟩ := tab_val hz
    obtain ⟨_, rfl⟩ := tab_valV hx
    exact ⟨rfl, _, rfl, _, rfl, _, _, _, rfl, rfl, rfl, _, _, _, rfl, rfl, ⟨by decide, by decide⟩, rfl, hk _ (Same.refl _)⟩
/-- m is the one set with the least count, L -/
structure One (n : Nat) (g : Nat → Nat) (m : Nat) (L : Int) : Prop where
  wd : n < 7
  lt : m < 2 ^ n
  eq : ct n g m = L
  gt : ∀ x, x < 2 ^ n → x ≠ m → L < ct n g x
theorem One.min {n : Nat} {g : Nat → Nat} {m : Nat} {L y : Int} (O : One n g m L) (h1 : y ∈ tab (2 ^ n) (ct n g)) (h2 : ∀ z, z ∈ tab (2 ^ n) (ct n g) → y ≤ z) : y = L := by
  have a := h2 _ (List.mem_map.mpr ⟨m, List.mem_range.mpr O.lt, rfl⟩)
  rw [O.eq] at a
  obtain ⟨x, hx, rfl⟩ := List.mem_map.mp h1
  by_cases e : x = m
  · rw [e, O.eq]
  · have := O.gt x (List.mem_range.mp hx) e
    omega
def spNea (C : Addr) : Sp := fun vs H Q _ => ∃ (p : Addr) (n : Nat) (g : Nat → Nat) (m : Nat) (L : Int), vs = [.ref p] ∧ TabAt C H p n (bt n g) ∧ One n g m L ∧
  ∀ H' l t, Same H H' → H l = none → H t = none → l ≠ t → H' l = some (.lst [.int (m : Int)]) → H' t = some (.tup [.int L, .ref l]) → Q (.ref t) H'
theorem sc_nea : FnScope ["table", "counts", "least", "chosen", "count"] ["table"] (defScope s_nearest) := ⟨rfl, rfl, rfl, by decide +kernel, rfl, by decide +kernel, by decide +kernel⟩
theorem c_nea (D : Df K mg "nearest" "nearest" s_nearest) (Z : Fre mg) (F : Fc P w K mg base (k + 1) "distances" ["table"] (spDis C)) : Fc P w K mg base (k + 2) "nearest" ["table"] (spNea C) := by
  refine D.fc sc_nea (fun _ _ _ _ _ _ us hl => match us, hl with | [_], _ => rfl) (fun vs H Q E h => ?_) (fun _ cdv A outer s H vs Q E hr h => ?_)
  · obtain ⟨p, n, g, m, L, rfl, _⟩ := h
    rfl
  · obtain ⟨p, n, g, m, L, rfl, hT, O, q⟩ := h
    have h64 := pow64 O.wd
    refine ⟨_, pss_cons (ps_set (i := 1) sc_nea.nd rfl (.inl rfl) (pe_fc F hr (by rfl) (pa_cons (pv 0) pa_nil)))
      (pss_cons (ps_set (i := 2) sc_nea.nd rfl (.inr rfl) (pe_callB (cr_min rfl) (by rfl) Z.z_min boot_min (pa_cons (pv 1) pa_nil)))
      (pss_one (ps_ret (pe_tup (pa_cons (pv 2) (pa_cons (pe_lc (own := [("chosen", 3), ("count", 4)]) rfl sc_nea.nd (pi_enum (by rfl) Z.z_enumerate (pa_cons (pv 1) pa_nil)) (blkOk_by (N := ["table", "counts", "least", "chosen", "count"]) (sc := defScope s_nearest) (by decide +kernel))
        (fun _ _ _ _ _ => pg_tupK (K := K) (n := 2) rfl rfl (pgs_cons (pg_name (i := 3) sc_nea.nd rfl (.inl rfl)) (pgs_cons (pg_name (i := 4) sc_nea.nd rfl (.inl rfl)) pgs_nil)))
        (fun _ _ _ _ _ => pts_one (pt_cmpR op_eqZ (pv 4) (pv 2) (nomark _))) (fun _ _ _ _ _ => pv 3)) pa_nil)))))), ?_⟩
    refine ⟨_, rfl, p, n, g, rfl, hT, O.wd, fun H1 l s1 hl e1 => ?_⟩
    refine ⟨_, rfl, l, _, rfl, SqL.of e1, by rw [tab_len]; exact Nat.lt_of_le_of_lt (Nat.zero_le m) O.lt, fun y hy1 hy2 => ?_⟩
    obtain rfl := O.min hy1 hy2
    refine ⟨_, rfl, _, rfl, l, _, rfl, SqL.of e1, fun d hd => ?_⟩
    refine lc_it (n := ((tab (2 ^ n) (ct n g)).map V.int).length) (walk_enum (K := K) (a := l) (xs := (tab (2 ^ n) (ct n g)).map V.int)) (fun i H2 => Same H1 H2 ∧ H2 d = some (.lst ((least m i).map V.int))) ⟨same_upd hd, upd_same⟩ (fun i H2 _ h => SqL.of (h.1 _ _ e1)) ?_ ?_
    · rintro i x H2 H3 hi ⟨s2, e2⟩ ⟨X, u, v, rfl, hX, rfl, hu, hv⟩
      have eu : V.int ((i : Nat) : Int) = u := Option.some.inj hu
      subst eu
      obtain ⟨hi2, rfl⟩ := tab_valV hv
      have s3 : Same H2 (upd H2 X (.tup [V.int ((i : Nat) : Int), V.int (ct n g i)])) := same_upd hX
      refine ⟨X, _, rfl, SqT.of upd_same, rfl, _, _, rfl, _, _, rfl, rfl, rfl, _, rfl, _, rfl, _, _, _, rfl, rfl, rfl, _, rfl, ite2 (fun hb => ?_) (fun hb => ?_)⟩
      · have hb : ct n g i = y := of_decide_eq_true hb
        have ei : i = m := by
          by_cases e : i = m
          · exact e
          · have := O.gt i hi2 e
            omega
        subst ei
        have el : least i (i + 1) = least i i ++ [(i : Int)] := by
          unfold least
          rw [if_pos (Nat.lt_succ_self i), if_neg (Nat.lt_irrefl i)]
          rfl
        refine ⟨_, rfl, _, s3 _ _ e2, ?_, same_set (s2.trans s3) hd, ?_⟩
        · unfold least
          rw [if_neg (Nat.lt_irrefl i)]
          show 0 < sizeLine
          decide
        · rw [upd_same, el, List.map_append]
          rfl
      · have hb : ct n g i ≠ y := fun e => hb (decide_eq_true e)
        have ei : i ≠ m := fun e => hb (by rw [e, O.eq])
        have el : least m (i + 1) = least m i := by
          unfold least
          by_cases h : m < i
          · rw [if_pos h, if_pos (by omega)]
          · rw [if_neg h, if_neg (by omega)]
        exact ⟨s2.trans s3, by rw [el]; exact s3 _ _ e2⟩
    · rintro H2 ⟨s2, e2⟩
      rw [tab_lenV, show least m (2 ^ n) = [(m : Int)] from if_pos O.lt] at e2
      refine ⟨by show 2 ≤ sizeLine; decide, fun t ht => ?_⟩
      have hl2 : H d = none := s1.free hd
      have s02 : Same H H2 := s1.trans s2
      have ndt : d ≠ t := ne_of_none e2 ht
      exact q _ d t (s02.trans (same_upd ht)) hl2 (s02.free ht) ndt (by rw [upd_ne ndt]; exact e2) upd_same
def spUN (C : Addr) : Sp := fun vs H Q _ => ∃ (p : Addr) (n : Nat) (g : Nat → Nat) (m : Nat) (L : Int), vs = [.ref p] ∧ TabAt C H p n (bt n g) ∧ One n g m L ∧ 4 * L < ((2 ^ n : Nat) : Int) ∧
  ∀ H', Same H H' → Q (.int (m : Int)) H'
theorem sc_un : FnScope ["table", "least", "sets"] ["table"] (defScope s_unique_nearest) := ⟨rfl, rfl, rfl, by decide +kernel, rfl, by decide +kernel, by decide +kernel⟩
theorem c_un (D : Df K mg "unique_nearest" "unique_nearest" s_unique_nearest) (T : Txt K mg C) (R : Pr P w K mg base C (k + 1) "width" "wide") (F : Fc P w K mg base (k + 2) "nearest" ["table"] (spNea C)) : Fc P w K mg base (k + 3) "unique_nearest" ["table"] (spUN C) := by
  refine D.fc sc_un (fun _ _ _ _ _ _ us hl => match us, hl with | [_], _ => rfl) (fun vs H Q E h => ?_) (fun _ cdv A outer s H vs Q E hr h => ?_)
  · obtain ⟨p, n, g, m, L, rfl, _⟩ := h
    rfl
  · obtain ⟨p, n, g, m, L, rfl, hT, O, h4, q⟩ := h
    refine ⟨_, pss_cons (ps_asg (pe_fc F hr (by rfl) (pa_cons (pv 0) pa_nil)) (pg_tupK (K := K) (n := 2) rfl rfl (pgs_cons (pg_name (i := 1) sc_un.nd rfl (.inl rfl)) (pgs_cons (pg_name (i := 2) sc_un.nd rfl (.inl rfl)) pgs_nil))))
      (pss_cons (ps_if (pt_cmpR op_ltZ (pe_op op_mulZ pe_int (pv 1)) (pe_op op_shl1 pe_int (pe_pr R T.cl (pv 0) hr)) (nomark _)) (pss_one (ps_ret (pe_ixLK (K := K) rfl (pv 2) pe_int))) pss_nil) (pss_never)), ?_⟩
    refine ⟨_, rfl, p, n, g, m, L, rfl, hT, O, fun H1 l t s1 hl ht ne e1 e2 => ?_⟩
    obtain ⟨dx, t2, h1, _⟩ := hT.same s1
    refine ⟨t, _, rfl, SqT.of e2, rfl, _, _, rfl, _, _, rfl, rfl, ?_⟩
    refine ⟨_, rfl, _, _, 4 * L, rfl, rfl, .inl ⟨by decide, by decide⟩, rfl, _, rfl, p, dx, _, rfl, h1, p, dx, _, _, rfl, h1, tf_wide _ _, n, rfl, rfl, O.wd, _, _, true, rfl, rfl, decide_eq_true h4, _, rfl, iteT ?_⟩
    exact ⟨_, rfl, l, _, 0, _, rfl, rfl, SqL.of e1, rfl, q _ s1⟩
/-! ### ratios -/
def spGcd : Sp := fun vs H Q _ => ∃ a b : Nat, vs = [.int (a : Int), .int (b : Int)] ∧ Q (.int ((Nat.gcd a b : Nat) : Int)) H
theorem abs_nat (a : Nat) : (if (a : Int) < 0 then -(a : Int) else (a : Int)) = (a : Int) := if_neg (by omega)
def rAbsN : List V → Hp → VK → Prop := fun xs H Q => ∃ a : Nat, xs = [.int (a : Int)] ∧ Q (.int (a : Int)) H
theorem call_absN {X : Cx} : CallR X (.builtin "abs") rAbsN := CallR.imp call_abs fun xs H Q ⟨a, h1, q⟩ => ⟨a, h1, qv (congrArg V.int (abs_nat a)) q⟩
theorem sc_gcd : FnScope ["one", "other", "great", "small"] ["one", "other"] (defScope s_common_divisor) := ⟨rfl, rfl, rfl, by decide +kernel, rfl, by decide +kernel, by decide +kernel⟩
theorem c_gcd (D : Df K mg "common_divisor" "common_divisor" s_common_divisor) (Z : Fre mg) : Fc P w K mg base (k + 1) "common_divisor" ["one", "other"] spGcd := by
  refine D.fc sc_gcd (fun _ _ _ _ _ _ us hl => match us, hl with | [_, _], _ => rfl) (fun vs H Q E h => ?_) (fun _ cdv A outer s H vs Q E hr h => ?_)
  · obtain ⟨a, b, rfl, _⟩ := h
    rfl
  · obtain ⟨a, b, rfl, q⟩ := h
    refine ⟨_, pss_cons (ps_set (i := 2) sc_gcd.nd rfl (.inl rfl) (pe_callB call_absN (by rfl) Z.z_abs boot_abs (pa_cons (pv 0) pa_nil))) (pss_cons (ps_set (i := 3) sc_gcd.nd rfl (.inl rfl) (pe_callB call_absN (by rfl) Z.z_abs boot_abs (pa_cons (pv 1) pa_nil)))
      (pss_cons (ps_while PassesOwn.never (pt_cmpR op_gtZ (pv 3) pe_int (nomark _)) (pss_one (ps_par (i := 2) (j := 3) rfl sc_gcd.nd rfl rfl (by decide) rfl rfl (pa_cons (pv 3) (pa_cons (pe_op op_modZ (pv 2) (pv 3)) pa_nil)) rfl))) (pss_one (ps_ret (pv 2))))), ?_⟩
    refine ⟨_, rfl, a, rfl, _, rfl, b, rfl, ?_⟩
    refine ⟨fun m σ H' => ∃ x : Nat, σ = [some (.int (a : Int)), some (.int (b : Int)), some (.int (x : Int)), some (.int (m : Int))] ∧ Nat.gcd x m = Nat.gcd a b ∧ H' = H, ⟨b, a, rfl, rfl, rfl⟩, ?_⟩
    rintro m σ H' ⟨x, rfl, hg, rfl⟩
    refine ⟨_, rfl, _, _, _, rfl, rfl, rfl, _, rfl, ite2 (fun hb => ?_) (fun hb => ?_)⟩
    · have hb : (0 : Int) < (m : Int) := of_decide_eq_true hb
      refine ⟨fun σ' H'' => σ' = [some (.int (a : Int)), some (.int (b : Int)), some (.int (m : Int)), some (.int ((x % m : Nat) : Int))] ∧ H'' = H', ?_, ?_⟩
      · rintro σ' H'' ⟨rfl, rfl⟩
        refine ⟨x % m, Nat.mod_lt _ (by omega), m, rfl, ?_, rfl⟩
        rw [← hg, Nat.gcd_comm, ← Nat.gcd_rec, Nat.gcd_comm]
      · exact ⟨_, rfl, _, rfl, _, rfl, _, _, ((x % m : Nat) : Int), rfl, rfl, hb, by omega, _, _, rfl, rfl, rfl⟩
    · have hb : ¬ (0 : Int) < (m : Int) := fun e => hb (decide_eq_true e)
      have hm : m = 0 := by omega
      subst hm
      rw [Nat.gcd_zero_right] at hg
      subst hg
      exact ⟨_, rfl, q⟩
def spLow : Sp := fun vs H Q _ => ∃ a b : Nat, vs = [.int (a : Int), .int (b : Int)] ∧ 0 < b ∧ b ≤ 64 ∧ ∀ H' t, Same H H' → H t = none → H' t = some (.tup [.int ((a / Nat.gcd a b : Nat) : Int), .int ((b / Nat.gcd a b : Nat) : Int)]) → Q (.ref t) H'
theorem sc_low : FnScope ["top", "bottom", "shared"] ["top", "bottom"] (defScope s_lowest) := ⟨rfl, rfl, rfl, by decide +kernel, rfl, by decide +kernel, by decide +kernel⟩
theorem gcd_c {a b : Nat} (h : 0 < b) (h2 : b ≤ 64) (i : Int) : CDiv i ((Nat.gcd a b : Nat) : Int) := by
  have h3 := Nat.gcd_pos_of_pos_right a h
  have h4 := Nat.gcd_le_right a h
  exact ⟨by omega, by omega⟩
theorem c_low (D : Df K mg "lowest" "lowest" s_lowest) (F : Fc P w K mg base (k + 1) "common_divisor" ["one", "other"] spGcd) : Fc P w K mg base (k + 2) "lowest" ["top", "bottom"] spLow := by
  refine D.fc sc_low (fun _ _ _ _ _ _ us hl => match us, hl with | [_, _], _ => rfl) (fun vs H Q E h => ?_) (fun _ cdv A outer s H vs Q E hr h => ?_)
  · obtain ⟨a, b, rfl, _⟩ := h
    rfl
  · obtain ⟨a, b, rfl, h0, h64, q⟩ := h
    refine ⟨_, pss_cons (ps_if (pt_cmpR op_ltZ (pv 1) pe_int (nomark _)) pss_never pss_nil) (pss_cons (ps_set (i := 2) sc_low.nd rfl (.inl rfl) (pe_fc F hr (by rfl) (pa_cons (pv 0) (pa_cons (pv 1) pa_nil))))
      (pss_one (ps_ret (pe_tup (pa_cons (pe_op op_fdivZ (pv 0) (pv 2)) (pa_cons (pe_op op_fdivZ (pv 1) (pv 2)) pa_nil)))))), ?_⟩
    refine ⟨_, rfl, _, _, false, rfl, rfl, decide_eq_false (by omega), _, rfl, iteF ?_⟩
    refine ⟨_, rfl, _, rfl, a, b, rfl, ?_⟩
    refine ⟨_, rfl, _, rfl, _, _, ((a / Nat.gcd a b : Nat) : Int), rfl, rfl, gcd_c h0 h64 _, by rw [Int.natCast_ediv], _, rfl, _, rfl, _, _, ((b / Nat.gcd a b : Nat) : Int), rfl, rfl, gcd_c h0 h64 _, by rw [Int.natCast_ediv], by show 2 ≤ sizeLine; decide, fun t ht => ?_⟩
    exact q _ t (same_upd ht) ht upd_same
theorem sc_rat : FnScope ["top", "bottom"] ["top", "bottom"] (defScope s_ratio) := ⟨rfl, rfl, rfl, by decide +kernel, rfl, by decide +kernel, by decide +kernel⟩
theorem c_rat (D : Df K mg "ratio" "ratio" s_ratio) (F : Fc P w K mg base (k + 2) "check_integer_ratios" ["value", "argument"] spCIR) (G : Fc P w K mg base (k + 2) "lowest" ["top", "bottom"] spLow) : Fc P w K mg base (k + 3) "ratio" ["top", "bottom"] spLow := by
  refine D.fc sc_rat (fun _ _ _ _ _ _ us hl => match us, hl with | [_, _], _ => rfl) (fun vs H Q E h => ?_) (fun _ cdv A outer s H vs Q E hr h => ?_)
  · obtain ⟨a, b, rfl, _⟩ := h
    rfl
  · obtain ⟨a, b, rfl, h0, h64, q⟩ := h
    refine ⟨_, pss_cons (ps_expr (pe_fc F hr (by rfl) (pa_cons (pv 0) (pa_cons pe_str pa_nil)))) (pss_cons (ps_expr (pe_fc F hr (by rfl) (pa_cons (pv 1) (pa_cons pe_str pa_nil)))) (pss_cons (ps_if (pt_cmpR op_eqZ (pv 1) pe_int (nomark _)) pss_never pss_nil)
      (pss_one (ps_ret (pe_fc G hr (by rfl) (pa_cons (pv 0) (pa_cons (pv 1) pa_nil))))))), ?_⟩
    refine ⟨_, rfl, _, _, rfl, ?_⟩
    refine ⟨_, rfl, _, _, rfl, ?_⟩
    refine ⟨_, rfl, _, _, false, rfl, rfl, decide_eq_false (by omega), _, rfl, iteF ?_⟩
    exact ⟨_, rfl, _, rfl, a, b, rfl, h0, h64, q⟩
def spSD (C : Addr) : Sp := fun vs H Q _ => ∃ (p : Addr) (n : Nat) (g : Nat → Nat) (m L : Nat), vs = [.ref p] ∧ TabAt C H p n (bt n g) ∧ One n g m (L : Int) ∧
  ∀ H' t, Same H H' → H t = none → H' t = some (.tup [.int ((L / Nat.gcd L (2 ^ n) : Nat) : Int), .int ((2 ^ n / Nat.gcd L (2 ^ n) : Nat) : Int)]) → Q (.ref t) H'
theorem sc_sd : FnScope ["table", "least"] ["table"] (defScope s_sum_distance) := ⟨rfl, rfl, rfl, by decide +kernel, rfl, by decide +kernel, by decide +kernel⟩
theorem c_sd (D : Df K mg "sum_distance" "sum_distance" s_sum_distance) (T : Txt K mg C) (Z : Fre mg) (R : Pr P w K mg base C (k + 2) "width" "wide") (F : Fc P w K mg base (k + 3) "distances" ["table"] (spDis C)) (G : Fc P w K mg base (k + 3) "ratio" ["top", "bottom"] spLow) :
    Fc P w K mg base (k + 4) "sum_distance" ["table"] (spSD C) := by
  refine D.fc sc_sd (fun _ _ _ _ _ _ us hl => match us, hl with | [_], _ => rfl) (fun vs H Q E h => ?_) (fun _ cdv A outer s H vs Q E hr h => ?_)
  · obtain ⟨p, n, g, m, L, rfl, _⟩ := h
    rfl
  · obtain ⟨p, n, g, m, L, rfl, hT, O, q⟩ := h
    have h64 := pow64 O.wd
    refine ⟨_, pss_cons (ps_set (i := 1) sc_sd.nd rfl (.inl rfl) (pe_callB (cr_min rfl) (by rfl) Z.z_min boot_min (pa_cons (pe_fc F hr (by rfl) (pa_cons (pv 0) pa_nil)) pa_nil)))
      (pss_one (ps_ret (pe_fc G hr (by rfl) (pa_cons (pv 1) (pa_cons (pe_op op_shl1 pe_int (pe_pr R T.cl (pv 0) hr)) pa_nil))))), ?_⟩
    refine ⟨_, rfl, p, n, g, rfl, hT, O.wd, fun H1 l s1 hl e1 => ?_⟩
    refine ⟨l, _, rfl, SqL.of e1, by rw [tab_len]; exact Nat.lt_of_le_of_lt (Nat.zero_le m) O.lt, fun y hy1 hy2 => ?_⟩
    obtain rfl := O.min hy1 hy2
    obtain ⟨dx, t2, h1, _⟩ := hT.same s1
    refine ⟨_, rfl, _, rfl, p, dx, _, rfl, h1, p, dx, _, _, rfl, h1, tf_wide _ _, n, rfl, rfl, O.wd, L, 2 ^ n, rfl, Nat.pow_pos (by decide), h64, fun H2 t s2 ht e2 => ?_⟩
    exact q H2 t (s1.trans s2) (s1.free ht) e2
end
end K46
set_option Elab.async false
set_option linter.all false
set_option maxRecDepth 100000
set_option maxHeartbeats 4000000
namespace K46
open PySem PySem.Spec PyProof.Rows L2
/-! ### the law's draws -/
def rInt1 : List V → Hp → VK → Prop := fun xs H Q => ∃ i : Int, xs = [.int i] ∧ Q (.int i) H
theorem call_int1Z {X : Cx} : CallR X (.type "int") rInt1 := CallR.imp call_int1 fun xs H Q ⟨i, h, q⟩ => .inl ⟨i, h, q⟩
section
variable {P : Program} {w : World} {K : PySem.W.Frag} {mg : Str → Option Value} {base : Heap} {k : Nat} {C : Addr}
def spMix : Sp := fun vs H Q _ => ∃ c t : Int, vs = [.int c, .int t] ∧ ∀ z : Int, 0 ≤ z → Q (.int z) H
theorem sc_mix : FnScope ["_law_cell", "_law_nth", "_law_low", "_law_high"] ["_law_cell", "_law_nth"] (defScope s_law_mixed) := ⟨rfl, rfl, rfl, by decide +kernel, rfl, by decide +kernel, by decide +kernel⟩
theorem c_mix (D : Df K mg "_law_mixed" "_law_mixed" s_law_mixed) (Z : Fre mg) : Fc P w K mg base (k + 1) "_law_mixed" ["_law_cell", "_law_nth"] spMix := by
  refine D.fc sc_mix (fun _ _ _ _ _ _ us hl => match us, hl with | [_, _], _ => rfl) (fun vs H Q E h => ?_) (fun _ cdv A outer s H vs Q E hr h => ?_)
  · obtain ⟨c, t, rfl, _⟩ := h
    rfl
  · obtain ⟨c, t, rfl, q⟩ := h
    refine ⟨_, pss_cons (ps_set (i := 2) sc_mix.nd rfl (.inl rfl) (pe_op op_modZ (pe_callTy call_int1Z (by rfl) Z.z_int boot_int (pa_cons
        (pe_op op_addZ (pe_op op_addZ (pe_op op_mulZ (pe_op op_modZ (pe_callTy call_int1Z (by rfl) Z.z_int boot_int (pa_cons (pv 0) pa_nil)) pe_int) pe_int) (pe_op op_mulZ (pv 1) pe_int)) pe_int) pa_nil)) pe_int))
      (pss_cons (ps_set (i := 3) sc_mix.nd rfl (.inl rfl) (pe_op op_modZ (pe_callTy call_int1Z (by rfl) Z.z_int boot_int (pa_cons
        (pe_op op_addZ (pe_op op_addZ (pe_op op_mulZ (pv 2) (pv 2)) (pe_op op_mulZ (pv 1) pe_int)) pe_int) pa_nil)) pe_int))
      (pss_one (ps_ret (pe_op op_modZ (pe_callTy call_int1Z (by rfl) Z.z_int boot_int (pa_cons
        (pe_op op_addZ (pe_op op_addZ (pe_op op_mulZ (pe_op op_fdivZ (pv 3) pe_int) pe_int) (pe_op op_mulZ (pe_op op_modZ (pe_callTy call_int1Z (by rfl) Z.z_int boot_int (pa_cons (pv 3) pa_nil)) pe_int) pe_int))
          (pe_op op_modZ (pe_callTy call_int1Z (by rfl) Z.z_int boot_int (pa_cons (pv 2) pa_nil)) pe_int)) pa_nil)) pe_int)))), ?_⟩
    refine ⟨_, rfl, _, rfl, _, _, _, rfl, rfl, by decide, rfl, _, _, _, rfl, rfl, .inr ⟨by decide, by decide⟩, rfl, _, rfl, _, _, _, rfl, rfl, .inr ⟨by decide, by decide⟩, rfl, _, _, _, rfl, rfl, rfl, _, _, _, rfl, rfl, rfl, _, rfl, _, _, _, rfl, rfl, by decide, rfl, ?_⟩
    have hl : ∀ u : Int, -(2 ^ 64) < u % 2147483647 ∧ u % 2147483647 < 2 ^ 64 := fun u => by omega
    refine ⟨_, rfl, _, rfl, _, _, _, rfl, rfl, .inl (hl _), rfl, _, rfl, _, _, _, rfl, rfl, .inr ⟨by decide, by decide⟩, rfl, _, _, _, rfl, rfl, rfl, _, _, _, rfl, rfl, rfl, _, rfl, _, _, _, rfl, rfl, by decide, rfl, ?_⟩
    refine ⟨_, rfl, _, _, _, rfl, rfl, ⟨by decide, by decide⟩, rfl, _, _, _, rfl, rfl, .inr ⟨by decide, by decide⟩, rfl, ?_⟩
    refine ⟨_, rfl, _, rfl, _, _, _, rfl, rfl, by decide, rfl, _, _, _, rfl, rfl, .inr ⟨by decide, by decide⟩, rfl, _, _, _, rfl, rfl, rfl, ?_⟩
    refine ⟨_, rfl, _, rfl, _, _, _, rfl, rfl, by decide, rfl, _, _, _, rfl, rfl, rfl, _, rfl, _, _, _, rfl, rfl, by decide, rfl, ?_⟩
    exact q _ (Int.emod_nonneg _ (by decide))
theorem bits_small : ∀ m, m < 65 → ((Builtin.Int.intBits ((m : Nat) : Int) : Nat) : Int) / 20 = 0 := by decide +kernel
def spWide : Sp := fun vs H Q _ => ∃ (c t : Int) (m : Nat), vs = [.int c, .int t, .int (m : Int)] ∧ 0 < m ∧ m ≤ 64 ∧ ∀ z : Nat, z < m → Q (.int (z : Int)) H
theorem sc_wide : FnScope ["_law_cell", "_law_nth", "_law_many", "_law_told", "_law_k"] ["_law_cell", "_law_nth", "_law_many"] (defScope s_law_wide) := ⟨rfl, rfl, rfl, by decide +kernel, rfl, by decide +kernel, by decide +kernel⟩
theorem c_wide (D : Df K mg "_law_wide" "_law_wide" s_law_wide) (Z : Fre mg) (F : Fc P w K mg base (k + 1) "_law_mixed" ["_law_cell", "_law_nth"] spMix) : Fc P w K mg base (k + 2) "_law_wide" ["_law_cell", "_law_nth", "_law_many"] spWide := by
  refine D.fc sc_wide (fun _ _ _ _ _ _ us hl => match us, hl with | [_, _, _], _ => rfl) (fun vs H Q E h => ?_) (fun _ cdv A outer s H vs Q E hr h => ?_)
  · obtain ⟨c, t, m, rfl, _⟩ := h
    rfl
  · obtain ⟨c, t, m, rfl, h0, h64, q⟩ := h
    refine ⟨_, pss_cons (ps_set (i := 3) sc_wide.nd rfl (.inl rfl) (pe_fc F hr (by rfl) (pa_cons (pv 0) (pa_cons (pv 1) pa_nil))))
      (pss_cons (ps_for PassesOwn.never rfl (pi_range1 (by rfl) Z.z_range (pa_cons (pe_op op_fdivZ (pe_bits (pv 2)) pe_int) pa_nil)) (pg_name (i := 4) sc_wide.nd rfl (.inl rfl)) pss_never)
      (pss_one (ps_ret (pe_op op_modZ (pe_callTy call_int1Z (by rfl) Z.z_int boot_int (pa_cons (pv 3) pa_nil)) (pv 2))))), ?_⟩
    refine ⟨_, rfl, _, rfl, c, t, rfl, fun z hz => ?_⟩
    refine ⟨_, rfl, _, rfl, _, _, 0, rfl, rfl, ⟨by decide, by decide⟩, (bits_small m (by omega)).symm, 0, rfl, by decide, by decide, ?_⟩
    refine for_nat (n := 0) (fun i σ H2 => ∃ v : Option V, σ = [some (.int c), some (.int t), some (.int (m : Int)), some (.int z), v] ∧ H2 = H) ⟨none, rfl, rfl⟩ (fun i σ H2 hi _ => absurd hi (Nat.not_lt_zero i)) ?_
    rintro σ H2 ⟨v, rfl, rfl⟩
    have h1 : 0 ≤ z % (m : Int) := Int.emod_nonneg _ (by omega)
    have h2 : z % (m : Int) < (m : Int) := Int.emod_lt_of_pos _ (by omega)
    obtain ⟨u, hu⟩ : ∃ u : Nat, z % (m : Int) = (u : Int) := ⟨(z % (m : Int)).toNat, by omega⟩
    exact ⟨_, rfl, _, rfl, _, rfl, _, _, (u : Int), rfl, rfl, by omega, hu.symm, q u (by omega)⟩
/-! the store of draws -/
def st5 (c : Addr) (pos : Nat) (big mix nth : Int) : List V := [.ref c, .int (pos : Int), .int big, .int mix, .int nth]
def StoreAt (H : Hp) (s c : Addr) : Prop := ∃ (ns : List Int) (pos : Nat) (big mix nth : Int), H s = some (.lst (st5 c pos big mix nth)) ∧ H c = some (.lst (ns.map V.int))
theorem st5_ne {c : Addr} {pos : Nat} {big mix nth : Int} {ns : List Int} : HO.lst (st5 c pos big mix nth) ≠ HO.lst (ns.map V.int) := by
  intro e
  injection e with e
  cases ns with
  | nil => cases e
  | cons a r =>
    unfold st5 at e
    rw [List.map_cons] at e
    injection e with e1 _
    cases e1
theorem StoreAt.same {H H' : Hp} {s c : Addr} (h : StoreAt H s c) (a : Same H H') : StoreAt H' s c := by
  obtain ⟨ns, pos, big, mix, nth, h1, h2⟩ := h
  exact ⟨ns, pos, big, mix, nth, a _ _ h1, a _ _ h2⟩
theorem StoreAt.ne {H : Hp} {s c l : Addr} (h : StoreAt H s c) (hl : H l = none) : l ≠ s ∧ l ≠ c := by
  obtain ⟨ns, pos, big, mix, nth, h1, h2⟩ := h
  exact ⟨(ne_of_none h1 hl).symm, (ne_of_none h2 hl).symm⟩
theorem StoreAt.set {H : Hp} {s c l : Addr} {o : HO} (h : StoreAt H s c) (h1 : l ≠ s) (h2 : l ≠ c) : StoreAt (upd H l o) s c := by
  obtain ⟨ns, pos, big, mix, nth, e1, e2⟩ := h
  exact ⟨ns, pos, big, mix, nth, by rw [upd_ne h1.symm]; exact e1, by rw [upd_ne h2.symm]; exact e2⟩
def spSto (K : PySem.W.Frag) : Sp := fun vs H Q _ => ∃ (a : Addr) (ns : List Int), vs = [.ref a] ∧ SqL K H a (ns.map V.int) ∧ ∀ H' s c, Same H H' → H s = none → StoreAt H' s c → Q (.ref s) H'
theorem sc_sto : FnScope ["_law_script", "_law_mixture", "_law_cell"] ["_law_script"] (defScope s_law_store) := ⟨rfl, rfl, rfl, by decide +kernel, rfl, by decide +kernel, by decide +kernel⟩
theorem c_sto (D : Df K mg "_law_store" "_law_store" s_law_store) (Z : Fre mg) : Fc P w K mg base (k + 1) "_law_store" ["_law_script"] (spSto K) := by
  refine D.fc sc_sto (fun _ _ _ _ _ _ us hl => match us, hl with | [_], _ => rfl) (fun vs H Q E h => ?_) (fun _ cdv A outer s H vs Q E hr h => ?_)
  · obtain ⟨a, ns, rfl, _⟩ := h
    rfl
  · obtain ⟨a, ns, rfl, hS, q⟩ := h
    refine ⟨_, pss_cons (ps_set (i := 1) sc_sto.nd rfl (.inl rfl) pe_int)
      (pss_cons (ps_for PassesOwn.never rfl (pi_list (pv 0)) (pg_name (i := 2) sc_sto.nd rfl (.inl rfl)) (pss_one (ps_set (i := 1) sc_sto.nd rfl (.inl rfl) (pe_op op_modZ (pe_callTy call_int1Z (by rfl) Z.z_int boot_int (pa_cons
        (pe_op op_addZ (pe_op op_addZ (pe_op op_mulZ (pv 1) pe_int) (pe_op op_modZ (pe_callTy call_int1Z (by rfl) Z.z_int boot_int (pa_cons (pv 2) pa_nil)) pe_int)) pe_int) pa_nil)) pe_int))))
      (pss_one (ps_ret (pe_lst (pa_cons (pe_callTy call_list_of (by rfl) Z.z_list boot_list (pa_cons (pv 0) pa_nil)) (pa_cons pe_int (pa_cons pe_int (pa_cons (pv 1) (pa_cons pe_int pa_nil))))))))), ?_⟩
    refine ⟨_, rfl, a, rfl, ⟨_, hS⟩, for_list (K := K) (a := a) (xs := ns.map V.int) (fun i σ H2 => ∃ (z : Int) (v : Option V), σ = [some (.ref a), some (.int z), v] ∧ H2 = H) ⟨_, none, rfl, rfl⟩ (fun i σ H2 _ ⟨_, _, _, e⟩ => by rw [e]; exact hS) ?_ ?_⟩
    · rintro i y σ H2 hi ⟨z, v, rfl, rfl⟩
      obtain ⟨u, hu, rfl⟩ := map_get hi
      exact ⟨_, rfl, _, _, _, rfl, rfl, .inr ⟨by decide, by decide⟩, rfl, _, rfl, _, rfl, _, _, _, rfl, rfl, by decide, rfl, _, _, _, rfl, rfl, rfl, _, _, _, rfl, rfl, rfl, _, rfl, _, _, _, rfl, rfl, by decide, rfl, _, _, rfl, rfl⟩
    · rintro σ H2 ⟨z, v, rfl, rfl⟩
      refine ⟨_, rfl, a, _, rfl, .inl hS, fun c hc => ⟨_, rfl, by show 5 ≤ sizeLine; decide, fun l hl => ?_⟩⟩
      have s1 := same_upd (o := .lst (ns.map V.int)) hc
      have ncl : c ≠ l := fun e => by
        subst e
        rw [upd_same] at hl
        cases hl
      refine q _ l c (s1.trans (same_upd hl)) (s1.free hl) ⟨ns, 0, 0, z, 0, upd_same, ?_⟩
      rw [upd_ne ncl, upd_same]
/-- store[j] = z -/
theorem st_upd {H : Hp} {s : Addr} {o : HO} : But s H (upd H s o) := fun b u e hb => by
  rw [upd_ne hb]
  exact e
def spTake : Sp := fun vs H Q _ => ∃ (s c : Addr) (m : Nat), vs = [.ref s, .int (m : Int)] ∧ m ≤ 64 ∧ StoreAt H s c ∧ ∀ H' (z : Nat), (z < m ∨ z = 0) → StoreAt H' s c → But s H H' → Q (.int (z : Int)) H'
theorem sc_take : FnScope ["_law_store_here", "_law_many", "_law_cell", "_law_told"] ["_law_store_here", "_law_many"] (defScope s_law_take) := ⟨rfl, rfl, rfl, by decide +kernel, rfl, by decide +kernel, by decide +kernel⟩
theorem c_take (D : Df K mg "_law_take" "_law_take" s_law_take) (Z : Fre mg) (F : Fc P w K mg base (k + 2) "_law_wide" ["_law_cell", "_law_nth", "_law_many"] spWide) : Fc P w K mg base (k + 3) "_law_take" ["_law_store_here", "_law_many"] spTake := by
  refine D.fc sc_take (fun _ _ _ _ _ _ us hl => match us, hl with | [_, _], _ => rfl) (fun vs H Q E h => ?_) (fun _ cdv A outer s H vs Q E hr h => ?_)
  · obtain ⟨s, c, m, rfl, _⟩ := h
    rfl
  · obtain ⟨s, c, m, rfl, h64, hS, q⟩ := h
    refine ⟨_, pss_cons (ps_if (pt_cmpR op_ltZ (pv 1) pe_int (nomark _)) (pss_one (ps_ret pe_int)) pss_nil)
      (pss_cons (ps_asg (pe_op op_addZ (pe_ix ix_listN (pv 0) pe_int (fun _ _ => rfl)) pe_int) (pg_sub (pv 0) pe_int set_listN))
      (C8.pss_cut (ps_if (PW.pt (pw_and (pt_cmpR op_eqZ (pe_ix ix_listN (pv 0) pe_int (fun _ _ => rfl)) pe_int (nomark _)) (pw_and1 (pt_cmpR op_ltZ (pe_ix ix_listN (pv 0) pe_int (fun _ _ => rfl)) (pe_callB call_len_seq (by rfl) Z.z_len PySem.boot_len (pa_cons (pe_ix ix_listN (pv 0) pe_int (fun _ _ => rfl)) pa_nil)) (nomark _)))))
        (pss_cons (ps_set (i := 2) sc_take.nd rfl (.inl rfl) (pe_callTy call_int1Z (by rfl) Z.z_int boot_int (pa_cons (pe_ix ix_listN (pe_ix ix_listN (pv 0) pe_int (fun _ _ => rfl)) (pe_ix ix_listN (pv 0) pe_int (fun _ _ => rfl)) (fun _ _ => rfl)) pa_nil)))
        (pss_cons (ps_asg (pe_op op_addZ (pe_ix ix_listN (pv 0) pe_int (fun _ _ => rfl)) pe_int) (pg_sub (pv 0) pe_int set_listN))
        (pss_cons (ps_if (pt_cmpR op_lt (pv 2) (pe_op op_pow pe_int pe_int) (nomark _)) (pss_one (ps_ret (pe_fc F hr (by rfl) (pa_cons (pv 2) (pa_cons (pe_ix ix_listN (pv 0) pe_int (fun _ _ => rfl)) (pa_cons (pv 1) pa_nil)))))) pss_nil)
        (pss_one (ps_asg (pv 2) (pg_sub (pv 0) pe_int set_listN)))))) pss_nil)
      (pss_cons (ps_if (pt_cmpR op_gtZ (pe_ix ix_listN (pv 0) pe_int (fun _ _ => rfl)) pe_int (nomark _))
        (pss_cons (ps_set (i := 3) sc_take.nd rfl (.inl rfl) (pe_op op_modZ (pe_callTy call_int1Z (by rfl) Z.z_int boot_int (pa_cons (pe_ix ix_listN (pv 0) pe_int (fun _ _ => rfl)) pa_nil)) (pv 1)))
        (pss_cons (ps_asg (pe_op op_fdivZ (pe_callTy call_int1Z (by rfl) Z.z_int boot_int (pa_cons (pe_ix ix_listN (pv 0) pe_int (fun _ _ => rfl)) pa_nil)) (pv 1)) (pg_sub (pv 0) pe_int set_listN))
        (pss_one (ps_ret (pv 3))))) pss_nil)
      (pss_one (ps_ret (pe_fc F hr (by rfl) (pa_cons (pe_ix ix_listN (pv 0) pe_int (fun _ _ => rfl)) (pa_cons (pe_ix ix_listN (pv 0) pe_int (fun _ _ => rfl)) (pa_cons (pv 1) pa_nil))))))))), ?_⟩
    refine ⟨_, rfl, _, _, _, rfl, rfl, rfl, _, rfl, ite2 (fun hb => q H 0 (.inr rfl) hS (But.refl s H)) (fun hb => ?_)⟩
    have h2 : 2 ≤ m := by
      have : ¬ (m : Int) < 2 := fun e => hb (decide_eq_true e)
      omega
    obtain ⟨ns, pos, big, mix, nth, h1, hc⟩ := hS
    have ncs : c ≠ s := (ne_of h1 hc st5_ne).symm
    -- store[4] = store[4] + 1
    refine ⟨_, rfl, s, _, 4, _, rfl, rfl, SqL.of h1, rfl, _, _, _, rfl, rfl, rfl, _, rfl, s, _, 4, rfl, rfl, h1, (by show 4 < 5; decide), ?_⟩
    have e1 : (upd H s (.lst (st5 c pos big mix (nth + 1)))) s = some (.lst (st5 c pos big mix (nth + 1))) := upd_same
    have c1 : (upd H s (.lst (st5 c pos big mix (nth + 1)))) c = some (.lst (ns.map V.int)) := by rw [upd_ne ncs]; exact hc
    have b1 : But s H (upd H s (.lst (st5 c pos big mix (nth + 1)))) := st_upd
    show C8.tCut _ _ _ _ (upd H s (.lst (st5 c pos big mix (nth + 1))))
    refine ⟨fun σ' H' => ∃ (v2 v3 : Option V) (pos : Nat) (big mix nth : Int), σ' = [some (.ref s), some (.int (m : Int)), v2, v3] ∧ H' s = some (.lst (st5 c pos big mix nth)) ∧ H' c = some (.lst (ns.map V.int)) ∧ But s H H', ?_, ?_⟩
    · refine ⟨_, rfl, s, _, 2, _, rfl, rfl, SqL.of e1, rfl, _, _, _, rfl, rfl, rfl, _, rfl, ite2 (fun hb => ?_) (fun hb => ?_)⟩
      · refine ⟨_, rfl, s, _, 1, _, rfl, rfl, SqL.of e1, rfl, _, rfl, s, _, 0, _, rfl, rfl, SqL.of e1, rfl, c, _, rfl, .inl (SqL.of c1), _, _, _, rfl, rfl, rfl, _, rfl, ite2 (fun hb2 => ?_) (fun hb2 => ?_)⟩
        · have hp : pos < ns.length := by
            have z : (pos : Int) < ((ns.map V.int).length : Int) := of_decide_eq_true hb2
            rw [List.length_map] at z
            omega
          have gp : (ns.map V.int)[pos]? = some (V.int ns[pos]) := get_map (List.getElem?_eq_getElem hp)
          refine ⟨_, rfl, s, _, 0, _, rfl, rfl, SqL.of e1, rfl, _, rfl, s, _, 1, _, rfl, rfl, SqL.of e1, rfl, c, _, pos, _, rfl, rfl, SqL.of c1, gp, _, rfl, ?_⟩
          refine ⟨_, rfl, s, _, 1, _, rfl, rfl, SqL.of e1, rfl, _, _, ((pos + 1 : Nat) : Int), rfl, rfl, by omega, _, rfl, s, _, 1, rfl, rfl, e1, (by show 1 < 5; decide), ?_⟩
          rw [upd_upd]
          show tSeq _ _ _ _ (upd H s (.lst (st5 c (pos + 1) big mix (nth + 1))))
          have e2 : (upd H s (.lst (st5 c (pos + 1) big mix (nth + 1)))) s = some (.lst (st5 c (pos + 1) big mix (nth + 1))) := upd_same
          have c2 : (upd H s (.lst (st5 c (pos + 1) big mix (nth + 1)))) c = some (.lst (ns.map V.int)) := by rw [upd_ne ncs]; exact hc
          refine ⟨_, rfl, _, _, rfl, rfl, ⟨by decide, by decide, by decide⟩, _, _, rfl, rfl, _, rfl, ite2 (fun hb3 => ?_) (fun hb3 => ?_)⟩
          · exact ⟨_, rfl, _, rfl, s, _, 4, _, rfl, rfl, SqL.of e2, rfl, _, rfl, _, _, m, rfl, by omega, h64, fun z hz => q _ z (.inl hz) ⟨ns, _, _, _, _, e2, c2⟩ st_upd⟩
          · refine ⟨_, rfl, _, rfl, s, _, 2, rfl, rfl, e2, (by show 2 < 5; decide), ?_⟩
            rw [upd_upd]
            exact ⟨_, _, pos + 1, ns[pos], mix, nth + 1, rfl, upd_same, by rw [upd_ne ncs]; exact hc, st_upd⟩
        · exact ⟨_, _, pos, big, mix, nth + 1, rfl, e1, c1, b1⟩
      · exact ⟨_, _, pos, big, mix, nth + 1, rfl, e1, c1, b1⟩
    · rintro σ' H' ⟨v2, v3, pos, big, mix, nth, rfl, e1, c1, b1⟩
      refine ⟨_, rfl, s, _, 2, _, rfl, rfl, SqL.of e1, rfl, _, _, _, rfl, rfl, rfl, _, rfl, ite2 (fun hb => ?_) (fun hb => ?_)⟩
      · have h3 : 0 ≤ big % (m : Int) := Int.emod_nonneg _ (by omega)
        have h4 : big % (m : Int) < (m : Int) := Int.emod_lt_of_pos _ (by omega)
        obtain ⟨u, hu⟩ : ∃ u : Nat, big % (m : Int) = (u : Int) := ⟨(big % (m : Int)).toNat, by omega⟩
        refine ⟨_, rfl, s, _, 2, _, rfl, rfl, SqL.of e1, rfl, _, rfl, _, rfl, _, _, (u : Int), rfl, rfl, by omega, hu.symm, ?_⟩
        refine ⟨_, rfl, s, _, 2, _, rfl, rfl, SqL.of e1, rfl, _, rfl, _, rfl, _, _, _, rfl, rfl, ⟨by omega, by omega⟩, rfl, _, rfl, s, _, 2, rfl, rfl, e1, (by show 2 < 5; decide), ?_⟩
        exact ⟨_, rfl, q _ u (.inl (by omega)) ⟨ns, pos, big / (m : Int), mix, nth, upd_same, by rw [upd_ne ncs]; exact c1⟩ (b1.trans st_upd)⟩
      · exact ⟨_, rfl, s, _, 3, _, rfl, rfl, SqL.of e1, rfl, _, rfl, s, _, 4, _, rfl, rfl, SqL.of e1, rfl, _, rfl, _, _, m, rfl, by omega, h64, fun z hz => q _ z (.inl hz) ⟨ns, _, _, _, _, e1, c1⟩ b1⟩
end
end K46
set_option Elab.async false
set_option linter.all false
set_option maxRecDepth 100000
set_option maxHeartbeats 4000000
namespace K46
open PySem PySem.Spec PyProof.Rows L2
theorem But.new {s l : Addr} {H H' : Hp} {o : HO} (b : But s H H') (hl : H' l = none) : But s H (upd H' l o) := fun c u e hc => by
  have h := b c u e hc
  rw [upd_ne (ne_of_none h hl)]
  exact h
theorem But.at_ {s l : Addr} {H H' : Hp} {o : HO} (b : But s H H') (e : H l = some o) (h : l ≠ s) : H' l = some o := b l o e h
def rMin2 : List V → Hp → VK → Prop := fun xs H Q => ∃ i j z : Int, xs = [.int i, .int j] ∧ z = (if j < i then j else i) ∧ Q (.int z) H
def rMax2 : List V → Hp → VK → Prop := fun xs H Q => ∃ i j z : Int, xs = [.int i, .int j] ∧ z = (if j > i then j else i) ∧ Q (.int z) H
theorem call_min2Z {X : Cx} (hc : X.calm = true) : CallR X (.builtin "min") rMin2 := CallR.imp (call_min2 hc) fun xs H Q ⟨i, j, z, h1, h2, q⟩ => ⟨i, j, h1, qv (congrArg V.int h2.symm) q⟩
theorem call_max2Z {X : Cx} (hc : X.calm = true) : CallR X (.builtin "max") rMax2 := CallR.imp (call_max2 hc) fun xs H Q ⟨i, j, z, h1, h2, q⟩ => ⟨i, j, h1, qv (congrArg V.int h2.symm) q⟩
section
variable {P : Program} {w : World} {K : PySem.W.Frag} {mg : Str → Option Value} {base : Heap} {k : Nat} {C : Addr}
def spNear : Sp := fun vs H Q _ => ∃ (s c : Addr) (M : Nat), vs = [.ref s, .int 0, .int (M : Int)] ∧ M ≤ 15 ∧ StoreAt H s c ∧ ∀ H' (z : Nat), z ≤ M → StoreAt H' s c → But s H H' → Q (.int (z : Int)) H'
theorem sc_near : FnScope ["_law_store_here", "_law_low", "_law_high", "_law_kind"] ["_law_store_here", "_law_low", "_law_high"] (defScope s_law_near) := ⟨rfl, rfl, rfl, by decide +kernel, rfl, by decide +kernel, by decide +kernel⟩
theorem StoreAt.new {H : Hp} {s c l : Addr} {o : HO} (h : StoreAt H s c) (hl : H l = none) : StoreAt (upd H l o) s c := h.same (same_upd hl)
theorem c_near (D : Df K mg "_law_near" "_law_near" s_law_near) (Z : Fre mg) (F : Fc P w K mg base (k + 1) "_law_take" ["_law_store_here", "_law_many"] spTake) : Fc P w K mg base (k + 2) "_law_near" ["_law_store_here", "_law_low", "_law_high"] spNear := by
  refine D.fc sc_near (fun _ _ _ _ _ _ us hl => match us, hl with | [_, _, _], _ => rfl) (fun vs H Q E h => ?_) (fun _ cdv A outer s H vs Q E hr h => ?_)
  · obtain ⟨s, c, M, rfl, _⟩ := h
    rfl
  · obtain ⟨s, c, M, rfl, hM, hS, q⟩ := h
    refine ⟨_, pss_cons (ps_set (i := 3) sc_near.nd rfl (.inl rfl) (pe_fc F hr (by rfl) (pa_cons (pv 0) (pa_cons pe_int pa_nil))))
      (pss_cons (ps_if (pt_cmpR op_ltZ (pv 3) pe_int (nomark _)) (pss_one (ps_ret (pe_ix ix_listN (pe_lst (pa_cons (pv 1) (pa_cons (pv 2) (pa_cons (pe_callB (call_min2Z rfl) (by rfl) Z.z_min boot_min (pa_cons (pe_op op_addZ (pv 1) pe_int) (pa_cons (pv 2) pa_nil)))
        (pa_cons (pe_callB (call_max2Z rfl) (by rfl) Z.z_max boot_max (pa_cons (pe_op op_subZ (pv 2) pe_int) (pa_cons (pv 1) pa_nil))) pa_nil))))) (pv 3) (fun _ _ => rfl)))) pss_nil)
      (pss_one (ps_ret (pe_op op_addZ (pv 1) (pe_fc F hr (by rfl) (pa_cons (pv 0) (pa_cons (pe_op op_addZ (pe_op op_subZ (pv 2) (pv 1)) pe_int) pa_nil))))))), ?_⟩
    refine ⟨_, rfl, s, c, 12, rfl, by decide, hS, fun H1 z hz S1 b1 => ?_⟩
    refine ⟨_, rfl, _, _, _, rfl, rfl, rfl, _, rfl, ite2 (fun hb => ?_) (fun hb => ?_)⟩
    · have hb : (z : Int) < 4 := of_decide_eq_true hb
      refine ⟨_, rfl, _, rfl, _, rfl, _, _, 1, rfl, rfl, rfl, _, rfl, _, _, ((min 1 M : Nat) : Int), rfl, (by split <;> omega), _, rfl, _, _, ((M : Int) - 1), rfl, rfl, rfl, _, rfl, _, _, ((M - 1 : Nat) : Int), rfl, (by split <;> omega), by show 4 ≤ sizeLine; decide, fun l hl => ?_⟩
      have S2 := S1.new (o := .lst [.int 0, .int (M : Int), .int ((min 1 M : Nat) : Int), .int ((M - 1 : Nat) : Int)]) hl
      have b2 := b1.new (o := .lst [.int 0, .int (M : Int), .int ((min 1 M : Nat) : Int), .int ((M - 1 : Nat) : Int)]) hl
      have h4 : z = 0 ∨ z = 1 ∨ z = 2 ∨ z = 3 := by omega
      rcases h4 with rfl | rfl | rfl | rfl
      · exact ⟨_, rfl, l, _, 0, _, rfl, rfl, SqL.of upd_same, rfl, q _ 0 (by omega) S2 b2⟩
      · exact ⟨_, rfl, l, _, 1, _, rfl, rfl, SqL.of upd_same, rfl, q _ M (by omega) S2 b2⟩
      · exact ⟨_, rfl, l, _, 2, _, rfl, rfl, SqL.of upd_same, rfl, q _ (min 1 M) (by omega) S2 b2⟩
      · exact ⟨_, rfl, l, _, 3, _, rfl, rfl, SqL.of upd_same, rfl, q _ (M - 1) (by omega) S2 b2⟩
    · refine ⟨_, rfl, _, rfl, _, rfl, _, rfl, _, _, (M : Int), rfl, rfl, by omega, _, _, ((M + 1 : Nat) : Int), rfl, rfl, by omega, s, c, M + 1, rfl, by omega, S1, fun H2 z2 hz2 S2 b2 => ?_⟩
      exact ⟨_, _, (z2 : Int), rfl, rfl, by omega, q _ z2 (by omega) S2 (b1.trans b2)⟩
def l16 : List Nat := [0, 1, 1, 2, 2, 2, 3, 3, 3, 3, 4, 4, 4, 5, 5, 6]
theorem l16_at : ∀ z, z < 16 → l16[z]? = some (l16.getD z 0) ∧ l16.getD z 0 < 7 := by decide
def spWd : Sp := fun vs H Q _ => ∃ (s c : Addr), vs = [.ref s, .int 0, .int 6] ∧ StoreAt H s c ∧ ∀ H' (z : Nat), z < 7 → StoreAt H' s c → But s H H' → Q (.int (z : Int)) H'
theorem sc_wd : FnScope ["_law_store_here", "_law_least", "_law_most", "_law_wide_here"] ["_law_store_here", "_law_least", "_law_most"] (defScope s_law_width) := ⟨rfl, rfl, rfl, by decide +kernel, rfl, by decide +kernel, by decide +kernel⟩
theorem c_wd (D : Df K mg "_law_width" "_law_width" s_law_width) (Z : Fre mg) (F : Fc P w K mg base (k + 1) "_law_take" ["_law_store_here", "_law_many"] spTake) : Fc P w K mg base (k + 2) "_law_width" ["_law_store_here", "_law_least", "_law_most"] spWd := by
  refine D.fc sc_wd (fun _ _ _ _ _ _ us hl => match us, hl with | [_, _, _], _ => rfl) (fun vs H Q E h => ?_) (fun _ cdv A outer s H vs Q E hr h => ?_)
  · obtain ⟨s, c, rfl, _⟩ := h
    rfl
  · obtain ⟨s, c, rfl, hS, q⟩ := h
    refine ⟨_, pss_cons (ps_set (i := 3) sc_wd.nd rfl (.inl rfl) (pe_ix ix_listN (pe_lst (pa_cons pe_int (pa_cons pe_int (pa_cons pe_int (pa_cons pe_int (pa_cons pe_int (pa_cons pe_int (pa_cons pe_int (pa_cons pe_int (pa_cons pe_int (pa_cons pe_int (pa_cons pe_int (pa_cons pe_int (pa_cons pe_int (pa_cons pe_int (pa_cons pe_int (pa_cons pe_int pa_nil)))))))))))))))))
        (pe_fc F hr (by rfl) (pa_cons (pv 0) (pa_cons pe_int pa_nil))) (fun _ _ => rfl)))
      (pss_one (ps_ret (pe_callB (call_max2Z rfl) (by rfl) Z.z_max boot_max (pa_cons (pv 1) (pa_cons (pe_callB (call_min2Z rfl) (by rfl) Z.z_min boot_min (pa_cons (pv 2) (pa_cons (pv 3) pa_nil))) pa_nil))))), ?_⟩
    refine ⟨by show 16 ≤ sizeLine; decide, fun l hl => ?_⟩
    have nls : l ≠ s := (hS.ne hl).1
    refine ⟨_, rfl, s, c, 16, rfl, by decide, hS.new hl, fun H1 z hz S1 b1 => ?_⟩
    have hz : z < 16 := by omega
    obtain ⟨g1, g2⟩ := l16_at z hz
    have e1 : H1 l = some (.lst (l16.map fun (v : Nat) => V.int (v : Int))) := b1 l _ upd_same nls
    refine ⟨l, l16.map fun (v : Nat) => V.int (v : Int), z, V.int ((l16.getD z 0 : Nat) : Int), rfl, rfl, SqL.of e1, by rw [List.getElem?_map, g1]; rfl, ?_⟩
    refine ⟨_, rfl, _, rfl, _, rfl, _, _, ((l16.getD z 0 : Nat) : Int), rfl, (by split <;> omega), _, _, ((l16.getD z 0 : Nat) : Int), rfl, (by split <;> omega), ?_⟩
    exact q H1 _ g2 S1 fun b u e hb => b1 b u (same_upd hl _ _ e) hb
def spWord : Sp := fun vs H Q _ => ∃ (s c : Addr) (n : Nat), vs = [.ref s, .int (n : Int)] ∧ n < 7 ∧ StoreAt H s c ∧ ∀ H' (z : Nat), z < 2 ^ n → StoreAt H' s c → But s H H' → Q (.int (z : Int)) H'
theorem sc_word : FnScope ["_law_store_here", "_law_wide_here", "_law_full", "_law_kind", "_law_one"] ["_law_store_here", "_law_wide_here"] (defScope s_law_word) := ⟨rfl, rfl, rfl, by decide +kernel, rfl, by decide +kernel, by decide +kernel⟩
theorem c_word (D : Df K mg "_law_word" "_law_word" s_law_word) (Z : Fre mg) (F : Fc P w K mg base (k + 1) "_law_take" ["_law_store_here", "_law_many"] spTake) : Fc P w K mg base (k + 2) "_law_word" ["_law_store_here", "_law_wide_here"] spWord := by
  refine D.fc sc_word (fun _ _ _ _ _ _ us hl => match us, hl with | [_, _], _ => rfl) (fun vs H Q E h => ?_) (fun _ cdv A outer s H vs Q E hr h => ?_)
  · obtain ⟨s, c, n, rfl, _⟩ := h
    rfl
  · obtain ⟨s, c, n, rfl, hn, hS, q⟩ := h
    have h64 := pow64 hn
    have hp : 0 < 2 ^ n := Nat.pow_pos (by decide)
    refine ⟨_, pss_cons (ps_set (i := 2) sc_word.nd rfl (.inl rfl) (pe_op op_subZ (pe_op op_shl1 pe_int (pv 1)) pe_int))
      (pss_cons (ps_set (i := 3) sc_word.nd rfl (.inl rfl) (pe_fc F hr (by rfl) (pa_cons (pv 0) (pa_cons pe_int pa_nil))))
      (pss_cons (ps_if (pt_cmpR op_ltZ (pv 3) pe_int (nomark _)) (pss_one (ps_ret (pe_ix ix_listN (pe_lst (pa_cons pe_int (pa_cons (pv 2) pa_nil))) (pv 3) (fun _ _ => rfl)))) pss_nil)
      (pss_cons (ps_if (PW.pt (pw_and (pt_cmpR op_ltZ (pv 3) pe_int (nomark _)) (pw_and1 (pt_cmpR op_gtZ (pv 1) pe_int (nomark _)))))
        (pss_cons (ps_set (i := 4) sc_word.nd rfl (.inl rfl) (pe_op op_shl1 pe_int (pe_fc F hr (by rfl) (pa_cons (pv 0) (pa_cons (pv 1) pa_nil)))))
          (pss_one (ps_ret (pe_ix ix_listN (pe_lst (pa_cons (pv 4) (pa_cons (pe_op op_subZ (pv 2) (pv 4)) pa_nil))) (pe_op op_subZ (pv 3) pe_int) (fun _ _ => rfl))))) pss_nil)
      (pss_one (ps_ret (pe_fc F hr (by rfl) (pa_cons (pv 0) (pa_cons (pe_op op_addZ (pv 2) pe_int) pa_nil)))))))), ?_⟩
    refine ⟨_, rfl, n, rfl, rfl, hn, _, _, ((2 ^ n - 1 : Nat) : Int), rfl, rfl, by omega, ?_⟩
    refine ⟨_, rfl, s, c, 12, rfl, by decide, hS, fun H1 z hz S1 b1 => ?_⟩
    refine ⟨_, rfl, _, _, _, rfl, rfl, rfl, _, rfl, ite2 (fun hb => ?_) (fun hb => ?_)⟩
    · have hb : (z : Int) < 2 := of_decide_eq_true hb
      refine ⟨_, rfl, by show 2 ≤ sizeLine; decide, fun l hl => ?_⟩
      have S2 := S1.new (o := .lst [.int 0, .int ((2 ^ n - 1 : Nat) : Int)]) hl
      have b2 := b1.new (o := .lst [.int 0, .int ((2 ^ n - 1 : Nat) : Int)]) hl
      have h4 : z = 0 ∨ z = 1 := by omega
      rcases h4 with rfl | rfl
      · exact ⟨_, rfl, l, _, 0, _, rfl, rfl, SqL.of upd_same, rfl, q _ 0 hp S2 b2⟩
      · exact ⟨_, rfl, l, _, 1, _, rfl, rfl, SqL.of upd_same, rfl, q _ (2 ^ n - 1) (by omega) S2 b2⟩
    · have hb : ¬ (z : Int) < 2 := fun e => hb (decide_eq_true e)
      have fin : ∀ {D : Ends}, D.rt = Q → tRet (tCall spTake [] E0 (tCons (tVar 0) (tCons (tOp rAddZ (tVar 2) (tC (.int 1))) tNil))) D [some (.ref s), some (.int (n : Int)), some (.int ((2 ^ n - 1 : Nat) : Int)), some (.int (z : Int)), none] H1 := by
        intro D hD
        refine ⟨_, rfl, _, rfl, _, _, ((2 ^ n : Nat) : Int), rfl, rfl, by omega, s, c, 2 ^ n, rfl, h64, S1, fun H2 z2 hz2 S2 b2 => ?_⟩
        rw [hD]
        exact q _ z2 (by omega) S2 (b1.trans b2)
      refine ⟨_, rfl, _, _, _, rfl, rfl, rfl, _, rfl, ite2 (fun hb2 => ?_) (fun hb2 => fin rfl)⟩
      have hb2 : (z : Int) < 4 := of_decide_eq_true hb2
      refine ⟨_, rfl, _, _, _, rfl, rfl, rfl, _, rfl, ite2 (fun hb3 => ?_) (fun hb3 => fin rfl)⟩
      have hb3 : (0 : Int) < (n : Int) := of_decide_eq_true hb3
      refine ⟨_, rfl, _, rfl, s, c, n, rfl, by omega, S1, fun H2 z2 hz2 S2 b2 => ?_⟩
      have hz2 : z2 < n := by omega
      have hlt := pow_lt hz2
      have hp2 : 0 < 2 ^ z2 := Nat.pow_pos (by decide)
      refine ⟨z2, rfl, rfl, by omega, ?_⟩
      refine ⟨_, rfl, _, rfl, _, rfl, _, _, ((2 ^ n - 1 - 2 ^ z2 : Nat) : Int), rfl, rfl, by omega, by show 2 ≤ sizeLine; decide, fun l hl => ?_⟩
      have S3 := S2.new (o := .lst [.int ((2 ^ z2 : Nat) : Int), .int ((2 ^ n - 1 - 2 ^ z2 : Nat) : Int)]) hl
      have b3 := (b1.trans b2).new (o := .lst [.int ((2 ^ z2 : Nat) : Int), .int ((2 ^ n - 1 - 2 ^ z2 : Nat) : Int)]) hl
      have h4 : z = 2 ∨ z = 3 := by omega
      rcases h4 with rfl | rfl
      · exact ⟨_, rfl, _, _, ((0 : Nat) : Int), rfl, rfl, by decide, l, _, 0, _, rfl, rfl, SqL.of upd_same, rfl, q _ (2 ^ z2) hlt S3 b3⟩
      · exact ⟨_, rfl, _, _, ((1 : Nat) : Int), rfl, rfl, by decide, l, _, 1, _, rfl, rfl, SqL.of upd_same, rfl, q _ (2 ^ n - 1 - 2 ^ z2) (by omega) S3 b3⟩
/-! ### sizes and parities -/
def spSize : Sp := fun vs H Q _ => ∃ m : Nat, vs = [.int (m : Int)] ∧ m < 64 ∧ Q (.int ((pc m : Nat) : Int)) H
theorem sc_size : FnScope ["_law_mask", "_law_many", "_law_k"] ["_law_mask"] (defScope s_law_size) := ⟨rfl, rfl, rfl, by decide +kernel, rfl, by decide +kernel, by decide +kernel⟩
theorem c_size (D : Df K mg "_law_size" "_law_size" s_law_size) (Z : Fre mg) : Fc P w K mg base (k + 1) "_law_size" ["_law_mask"] spSize := by
  refine D.fc sc_size (fun _ _ _ _ _ _ us hl => match us, hl with | [_], _ => rfl) (fun vs H Q E h => ?_) (fun _ cdv A outer s H vs Q E hr h => ?_)
  · obtain ⟨m, rfl, _⟩ := h
    rfl
  · obtain ⟨m, rfl, hm, q⟩ := h
    refine ⟨_, pss_cons (ps_set (i := 1) sc_size.nd rfl (.inl rfl) pe_int)
      (pss_cons (ps_for PassesOwn.never rfl (pi_range1 (by rfl) Z.z_range (pa_cons pe_int pa_nil)) (pg_name (i := 2) sc_size.nd rfl (.inl rfl))
        (pss_cons (ps_set (i := 1) sc_size.nd rfl (.inl rfl) (pe_op op_addZ (pv 1) (pe_op op_andN (pe_op op_shrN (pv 0) (pv 2)) pe_int)))
          (pss_one (ps_if (pt_cmpR op_ltZ (pe_op op_shrN (pv 0) (pv 2)) pe_int (nomark _)) (pss_one ps_break) pss_nil))))
      (pss_one (ps_ret (pv 1)))), ?_⟩
    refine ⟨20, rfl, by decide, by decide, ?_⟩
    refine for_nat (n := 20) (fun i σ H2 => ∃ v : Option V, σ = [some (.int (m : Int)), some (.int ((pcTo m i : Nat) : Int)), v] ∧ i ≤ 5 ∧ H2 = H) ⟨none, rfl, by decide, rfl⟩ ?_ ?_
    · rintro i σ H2 hi ⟨v, rfl, h5, rfl⟩
      have hle : m >>> i ≤ m := by rw [Nat.shiftRight_eq_div_pow]; exact Nat.div_le_self _ _
      refine ⟨_, rfl, _, rfl, _, rfl, m, i, rfl, rfl, m >>> i, 1, rfl, rfl, by omega, by decide, _, _, ((pcTo m (i + 1) : Nat) : Int), rfl, rfl, ?_, ?_⟩
      · rw [Nat.and_one_is_mod, ← Int.natCast_add]
        rfl
      refine ⟨_, rfl, _, rfl, m, i, rfl, rfl, _, _, _, rfl, rfl, rfl, _, rfl, ite2 (fun hb => ?_) (fun hb => ?_)⟩
      · have hb : ((m >>> i : Nat) : Int) < 2 := of_decide_eq_true hb
        have e := pc_stop m hm i (by omega) (by omega)
        refine ⟨_, rfl, ?_⟩
        rw [e]
        exact q
      · have hb : ¬ ((m >>> i : Nat) : Int) < 2 := fun e => hb (decide_eq_true e)
        have h6 : i ≠ 5 := fun e => hb (by
          subst e
          have := pc_go m hm
          omega)
        exact ⟨_, rfl, by omega, rfl⟩
    · rintro σ H2 ⟨v, rfl, h5, rfl⟩
      exact absurd h5 (by decide)
def spPar : Sp := fun vs H Q _ => ∃ m x : Nat, vs = [.int (m : Int), .int (x : Int)] ∧ m < 64 ∧ x < 64 ∧ Q (.int ((chi m x : Nat) : Int)) H
theorem sc_par : FnScope ["_law_mask", "_law_here"] ["_law_mask", "_law_here"] (defScope s_law_parity) := ⟨rfl, rfl, rfl, by decide +kernel, rfl, by decide +kernel, by decide +kernel⟩
theorem c_par (D : Df K mg "_law_parity" "_law_parity" s_law_parity) (Z : Fre mg) (F : Fc P w K mg base (k + 1) "_law_size" ["_law_mask"] spSize) : Fc P w K mg base (k + 2) "_law_parity" ["_law_mask", "_law_here"] spPar := by
  refine D.fc sc_par (fun _ _ _ _ _ _ us hl => match us, hl with | [_, _], _ => rfl) (fun vs H Q E h => ?_) (fun _ cdv A outer s H vs Q E hr h => ?_)
  · obtain ⟨m, x, rfl, _⟩ := h
    rfl
  · obtain ⟨m, x, rfl, hm, hx, q⟩ := h
    refine ⟨_, pss_one (ps_ret (pe_op op_modZ (pe_callTy call_int1Z (by rfl) Z.z_int boot_int (pa_cons (pe_fc F hr (by rfl) (pa_cons (pe_op op_andN (pv 0) (pv 1)) pa_nil)) pa_nil)) pe_int)), ?_⟩
    exact ⟨_, rfl, _, rfl, m, x, rfl, rfl, hm, hx, _, rfl, and64 hm, _, rfl, _, _, ((chi m x : Nat) : Int), rfl, rfl, by decide, by unfold chi; rw [Int.natCast_emod]; rfl, q⟩
/-! ### shuffled -/
theorem erase_perm {α : Type} : ∀ (l : List α) (i : Nat) (x : α), l[i]? = some x → (x :: l.eraseIdx i).Perm l
  | [], i, x, h => by simp at h
  | a :: r, 0, x, h => by
    have e : a = x := Option.some.inj h
    subst e
    exact List.Perm.refl _
  | a :: r, i + 1, x, h => by
    have ih := erase_perm r i x h
    show (x :: a :: r.eraseIdx i).Perm (a :: r)
    exact (List.Perm.swap a x _).trans (ih.cons a)
def nl (l : List Nat) : List V := l.map fun (v : Nat) => V.int (v : Int)
theorem nl_get {l : List Nat} {i x : Nat} (h : l[i]? = some x) : (nl l)[i]? = some (V.int (x : Int)) := by
  unfold nl
  rw [List.getElem?_map, h]
  rfl
theorem nl_len (l : List Nat) : (nl l).length = l.length := by
  unfold nl
  rw [List.length_map]
theorem nl_erase : ∀ (l : List Nat) (i : Nat), (nl l).eraseIdx i = nl (l.eraseIdx i)
  | [], _ => rfl
  | _ :: _, 0 => rfl
  | a :: r, i + 1 => by
    show V.int (a : Int) :: (nl r).eraseIdx i = V.int (a : Int) :: nl (r.eraseIdx i)
    rw [nl_erase r i]
theorem nl_snoc (l : List Nat) (x : Nat) : nl l ++ [V.int (x : Int)] = nl (l ++ [x]) := by
  unfold nl
  rw [List.map_append]
  rfl
theorem seq_nat {i n : Nat} (h : i < n) : seqIndex? (i : Int) n = some i := by
  unfold seqIndex?
  rw [if_neg (show ¬ (i : Int) < 0 by omega)]
  simp
  omega
def spShu : Sp := fun vs H Q _ => ∃ (s c a : Addr) (xs : List Nat), vs = [.ref s, .ref a] ∧ H a = some (.lst (nl xs)) ∧ xs.length ≤ 64 ∧ StoreAt H s c ∧ a ≠ s ∧
  ∀ H' l ys, ys.Perm xs → H l = none → H' l = some (.lst (nl ys)) → StoreAt H' s c → But s H H' → Q (.ref l) H'
theorem sc_shu : FnScope ["_law_store_here", "_law_row", "_law_left", "_law_found", "_law_k"] ["_law_store_here", "_law_row"] (defScope s_law_shuffled) := ⟨rfl, rfl, rfl, by decide +kernel, rfl, by decide +kernel, by decide +kernel⟩
theorem c_shu (D : Df K mg "_law_shuffled" "_law_shuffled" s_law_shuffled) (Z : Fre mg) (F : Fc P w K mg base (k + 1) "_law_take" ["_law_store_here", "_law_many"] spTake) : Fc P w K mg base (k + 2) "_law_shuffled" ["_law_store_here", "_law_row"] spShu := by
  refine D.fc sc_shu (fun _ _ _ _ _ _ us hl => match us, hl with | [_, _], _ => rfl) (fun vs H Q E h => ?_) (fun _ cdv A outer s H vs Q E hr h => ?_)
  · obtain ⟨s, c, a, xs, rfl, _⟩ := h
    rfl
  · obtain ⟨s, c, a, xs, rfl, ha, h64, hS, nas, q⟩ := h
    refine ⟨_, pss_cons (ps_set (i := 2) sc_shu.nd rfl (.inl rfl) (pe_callTy call_list_of (by rfl) Z.z_list boot_list (pa_cons (pv 1) pa_nil)))
      (pss_cons (ps_set (i := 3) sc_shu.nd rfl (.inl rfl) (pe_lst pa_nil))
      (pss_cons (ps_for PassesOwn.never rfl (pi_range1 (by rfl) Z.z_range (pa_cons (pe_callB call_len_seq (by rfl) Z.z_len PySem.boot_len (pa_cons (pv 1) pa_nil)) pa_nil)) (pg_name (i := 4) sc_shu.nd rfl (.inl rfl))
        (pss_one (ps_expr (pe_bm PySem.F.plainAttrs_list PySem.F.slot_list_append PySem.F.type_list_append mt_append (pv 3) (pa_cons
          (pe_bm PySem.F.plainAttrs_list PySem.F.slot_list_pop PySem.F.type_list_pop mt_popAt (pv 2) (pa_cons (pe_fc F hr (by rfl) (pa_cons (pv 0) (pa_cons (pe_callB call_len_seq (by rfl) Z.z_len PySem.boot_len (pa_cons (pv 2) pa_nil)) pa_nil))) pa_nil)) pa_nil)))))
      (pss_one (ps_ret (pv 3))))), ?_⟩
    refine ⟨_, rfl, a, _, rfl, .inl (SqL.of ha), fun l hl => ⟨Nat.zero_le _, fun f hf => ?_⟩⟩
    have e0 : (upd H l (.lst (nl xs))) l = some (.lst (nl xs)) := upd_same
    have nlf : l ≠ f := ne_of_none e0 hf
    have hf0 : H f = none := (same_upd hl).free hf
    obtain ⟨nls, nlc⟩ := hS.ne hl
    obtain ⟨nfs, nfc⟩ := hS.ne hf0
    have s1 : Same H (upd (upd H l (.lst (nl xs))) f (.lst [])) := (same_upd hl).trans (same_upd hf)
    refine ⟨_, rfl, a, _, rfl, .inl (SqL.of (s1 _ _ ha)), ((xs.length : Nat) : Int), by rw [nl_len], (lo62 h64).1, (lo62 h64).2, ?_⟩
    refine for_nat (n := xs.length) (fun i σ H2 => ∃ (v : Option V) (L F : List Nat), σ = [some (.ref s), some (.ref a), some (.ref l), some (.ref f), v] ∧ (F ++ L).Perm xs ∧ F.length = i ∧ H2 l = some (.lst (nl L)) ∧ H2 f = some (.lst (nl F)) ∧ StoreAt H2 s c ∧ But s H H2)
      ⟨none, xs, [], rfl, List.Perm.refl _, rfl, by rw [upd_ne nlf]; exact e0, upd_same (o := .lst (nl [])), hS.same s1, Same.but s1⟩ ?_ ?_
    · rintro i σ H2 hi ⟨v, L, F, rfl, hp, hF, eL, eF, S2, b2⟩
      have hlen : F.length + L.length = xs.length := by
        have := hp.length_eq
        rw [List.length_append] at this
        exact this
      refine ⟨_, rfl, .inl ⟨rfl, _, SqL.of eF⟩, _, rfl, .inl ⟨rfl, _, SqL.of eL⟩, _, rfl, _, rfl, l, _, rfl, .inl (SqL.of eL), s, c, L.length, by rw [nl_len]; rfl, by omega, S2, fun H3 z hz S3 b3 => ?_⟩
      have hz : z < L.length := by omega
      have eL3 := b3 l _ eL nls
      have eF3 := b3 f _ eF nfs
      have gz : L[z]? = some L[z] := List.getElem?_eq_getElem hz
      refine ⟨l, _, _, z, _, rfl, rfl, eL3, by omega, by omega, by rw [nl_len]; exact seq_nat hz, nl_get gz, ?_⟩
      refine ⟨f, _, _, rfl, rfl, by rw [upd_ne nlf.symm]; exact eF3, by rw [nl_len]; exact sz (by omega), ?_⟩
      refine ⟨_, L.eraseIdx z, F ++ [L[z]], rfl, ?_, by rw [List.length_append, hF]; rfl, ?_, ?_, (S3.set nls nlc).set nfs nfc, ?_⟩
      · refine List.Perm.trans ?_ hp
        rw [List.append_assoc]
        exact (erase_perm L z _ gz).append_left F
      · rw [upd_ne nlf, upd_same, nl_erase]
      · rw [upd_same, nl_snoc]
      · intro b u e hb
        rw [upd_ne (ne_of_none e hf0), upd_ne (ne_of_none e hl)]
        exact (b2.trans b3) b u e hb
    · rintro σ H2 ⟨v, L, F, rfl, hp, hF, eL, eF, S2, b2⟩
      have hlen : F.length + L.length = xs.length := by
        have := hp.length_eq
        rw [List.length_append] at this
        exact this
      have hL : L = [] := List.eq_nil_of_length_eq_zero (by omega)
      subst hL
      rw [List.append_nil] at hp
      exact ⟨_, rfl, q H2 f F hp hf0 eF S2 b2⟩
end
end K46
set_option Elab.async false
set_option linter.all false
set_option maxRecDepth 100000
set_option maxHeartbeats 4000000
namespace K46
open PySem PySem.Spec PyProof.Rows L2
section
variable {P : Program} {w : World} {K : PySem.W.Frag} {mg : Str → Option Value} {base : Heap} {k : Nat} {C : Addr}
/-! ### the law's own votes -/
def spVot : Sp := fun vs H Q _ => ∃ (a : Addr) (n x : Nat) (g : Nat → Nat), vs = [.ref a, .int (x : Int)] ∧ H a = some (.lst ((bt n g).map V.int)) ∧ n < 7 ∧ x < 2 ^ n ∧
  ∀ H' t, Same H H' → H t = none → H' t = some (.tup [.int (((2 ^ n : Nat) : Int) - vt n g x), .int (vt n g x)]) → Q (.ref t) H'
theorem sc_vot : FnScope ["_law_mine", "_law_here", "_law_zeros", "_law_y"] ["_law_mine", "_law_here"] (defScope s_law_votes) := ⟨rfl, rfl, rfl, by decide +kernel, rfl, by decide +kernel, by decide +kernel⟩
theorem c_vot (D : Df K mg "_law_votes" "_law_votes" s_law_votes) (Z : Fre mg) : Fc P w K mg base (k + 1) "_law_votes" ["_law_mine", "_law_here"] spVot := by
  refine D.fc sc_vot (fun _ _ _ _ _ _ us hl => match us, hl with | [_, _], _ => rfl) (fun vs H Q E h => ?_) (fun _ cdv A outer s H vs Q E hr h => ?_)
  · obtain ⟨a, n, x, g, rfl, _⟩ := h
    rfl
  · obtain ⟨a, n, x, g, rfl, ha, hn, hx, q⟩ := h
    have h64 := pow64 hn
    refine ⟨_, pss_cons (ps_set (i := 2) sc_vot.nd rfl (.inl rfl) pe_int)
      (pss_cons (ps_for PassesOwn.never rfl (pi_range1 (by rfl) Z.z_range (pa_cons (pe_callB call_len_seq (by rfl) Z.z_len PySem.boot_len (pa_cons (pv 0) pa_nil)) pa_nil)) (pg_name (i := 3) sc_vot.nd rfl (.inl rfl))
        (pss_one (ps_if (pt_cmpR op_eqZ (pe_ix ix_listN (pv 0) (pv 3) (fun _ _ => rfl)) (pe_ix ix_listN (pv 0) (pe_op op_xorN (pv 1) (pv 3)) (fun _ _ => rfl)) (nomark _)) (pss_one (ps_set (i := 2) sc_vot.nd rfl (.inl rfl) (pe_op op_addZ (pv 2) pe_int))) pss_nil)))
      (pss_one (ps_ret (pe_tup (pa_cons (pv 2) (pa_cons (pe_op op_subZ (pe_callB call_len_seq (by rfl) Z.z_len PySem.boot_len (pa_cons (pv 0) pa_nil)) (pv 2)) pa_nil)))))), ?_⟩
    refine ⟨_, rfl, a, _, rfl, .inl (SqL.of ha), ((2 ^ n : Nat) : Int), by rw [bt_len], (lo62 h64).1, (lo62 h64).2, ?_⟩
    refine for_nat (n := 2 ^ n) (fun i σ H2 => ∃ v : Option V, σ = [some (.ref a), some (.int (x : Int)), some (.int ((i : Int) - sg (fun y => df (g y) (g (x ^^^ y))) i)), v] ∧ H2 = H) ⟨none, rfl, rfl⟩ ?_ ?_
    · rintro i σ H2 hi ⟨v, rfl, rfl⟩
      refine ⟨_, rfl, _, rfl, a, _, i, _, rfl, rfl, SqL.of ha, bt_get hi, _, rfl, _, rfl, _, rfl, x, i, rfl, rfl, by omega, by omega, a, _, x ^^^ i, _, rfl, rfl, SqL.of ha, bt_get (Nat.xor_lt_two_pow hx hi), _, _, _, rfl, rfl, rfl, _, rfl, ite2 (fun hb => ?_) (fun hb => ?_)⟩
      · have hb : (g i : Int) = (g (x ^^^ i) : Int) := of_decide_eq_true hb
        have e : df (g i) (g (x ^^^ i)) = 0 := if_pos (by omega)
        refine ⟨_, rfl, _, _, ((i + 1 : Nat) : Int) - sg (fun y => df (g y) (g (x ^^^ y))) (i + 1), rfl, rfl, ?_, _, rfl, rfl⟩
        show ((i + 1 : Nat) : Int) - (sg (fun y => df (g y) (g (x ^^^ y))) i + df (g i) (g (x ^^^ i))) = _
        rw [e]
        omega
      · have hb : ¬ (g i : Int) = (g (x ^^^ i) : Int) := fun e => hb (decide_eq_true e)
        have e : df (g i) (g (x ^^^ i)) = 1 := if_neg (by omega)
        refine ⟨some (.int (i : Int)), ?_, rfl⟩
        have e2 : (i : Int) - sg (fun y => df (g y) (g (x ^^^ y))) i = ((i + 1 : Nat) : Int) - sg (fun y => df (g y) (g (x ^^^ y))) (i + 1) := by
          show _ = ((i + 1 : Nat) : Int) - (sg (fun y => df (g y) (g (x ^^^ y))) i + df (g i) (g (x ^^^ i)))
          rw [e]
          omega
        rw [e2]
        rfl
    · rintro σ H2 ⟨v, rfl, rfl⟩
      have z1 : (((2 ^ n : Nat) : Int) - sg (fun y => df (g y) (g (x ^^^ y))) (2 ^ n)) = ((2 ^ n : Nat) : Int) - vt n g x := rfl
      refine ⟨_, rfl, _, rfl, a, _, rfl, .inl (SqL.of ha), _, rfl, _, _, vt n g x, rfl, rfl, ?_, by show 2 ≤ sizeLine; decide, fun t ht => q _ t (same_upd ht) ht upd_same⟩
      rw [bt_len, z1]
      omega
/-! ### lowest terms -/
def spLLow : Sp := fun vs H Q _ => ∃ a n : Nat, vs = [.int (a : Int), .int ((2 ^ n : Nat) : Int)] ∧ a < 16 ∧ n < 7 ∧ ∀ H' t, Same H H' → H t = none → H' t = some (.tup [.int ((a / Nat.gcd a (2 ^ n) : Nat) : Int), .int ((2 ^ n / Nat.gcd a (2 ^ n) : Nat) : Int)]) → Q (.ref t) H'
theorem sc_llow : FnScope ["_law_top", "_law_low", "_law_one", "_law_two", "_law_k", "_law_rest"] ["_law_top", "_law_low"] (defScope s_law_lowest) := ⟨rfl, rfl, rfl, by decide +kernel, rfl, by decide +kernel, by decide +kernel⟩
theorem bits_two : ∀ n, n < 7 → (2 * ((Builtin.Int.intBits ((2 ^ n : Nat) : Int) : Nat) : Int)) = ((2 * (n + 1) : Nat) : Int) := by decide +kernel
def rAbsM : List V → Hp → VK → Prop := fun xs H Q => ∃ a : Nat, xs = [.int (a : Int)] ∧ Q (.int (a : Int)) H
theorem call_absM {X : Cx} : CallR X (.builtin "abs") rAbsM := CallR.imp call_abs fun xs H Q ⟨a, h1, q⟩ => ⟨a, h1, qv (congrArg V.int (if_neg (show ¬ (a : Int) < 0 by omega))) q⟩
theorem c_llow (D : Df K mg "_law_lowest" "_law_lowest" s_law_lowest) (Z : Fre mg) : Fc P w K mg base (k + 1) "_law_lowest" ["_law_top", "_law_low"] spLLow := by
  refine D.fc sc_llow (fun _ _ _ _ _ _ us hl => match us, hl with | [_, _], _ => rfl) (fun vs H Q E h => ?_) (fun _ cdv A outer s H vs Q E hr h => ?_)
  · obtain ⟨a, n, rfl, _⟩ := h
    rfl
  · obtain ⟨a, n, rfl, ha, hn, q⟩ := h
    have h64 := pow64 hn
    have hp : 0 < 2 ^ n := Nat.pow_pos (by decide)
    refine ⟨_, pss_cons (ps_set (i := 2) sc_llow.nd rfl (.inl rfl) (pe_callB call_absM (by rfl) Z.z_abs boot_abs (pa_cons (pv 0) pa_nil)))
      (pss_cons (ps_set (i := 3) sc_llow.nd rfl (.inl rfl) (pe_callB call_absM (by rfl) Z.z_abs boot_abs (pa_cons (pv 1) pa_nil)))
      (C8.pss_cut (ps_for PassesOwn.never rfl (pi_range1 (by rfl) Z.z_range (pa_cons (pe_op op_addZ (pe_op op_mulZ pe_int (pe_bits (pv 3))) pe_int) pa_nil)) (pg_name (i := 4) sc_llow.nd rfl (.inl rfl))
        (pss_cons (ps_if (pt_cmpR op_eqZ (pv 3) pe_int (nomark _)) (pss_one ps_break) pss_nil)
        (pss_cons (ps_set (i := 5) sc_llow.nd rfl (.inl rfl) (pe_op op_modZ (pe_callTy call_int1Z (by rfl) Z.z_int boot_int (pa_cons (pv 2) pa_nil)) (pv 3)))
        (pss_cons (ps_set (i := 2) sc_llow.nd rfl (.inl rfl) (pv 3)) (pss_one (ps_set (i := 3) sc_llow.nd rfl (.inl rfl) (pv 5)))))))
      (pss_cons (ps_if (pt_cmpR op_ltZ (pv 1) pe_int (nomark _)) pss_never pss_nil)
      (pss_one (ps_ret (pe_tup (pa_cons (pe_op op_fdivZ (pv 0) (pv 2)) (pa_cons (pe_op op_fdivZ (pv 1) (pv 2)) pa_nil)))))))), ?_⟩
    refine ⟨_, rfl, a, rfl, _, rfl, 2 ^ n, rfl, ?_⟩
    refine ⟨fun σ' H' => ∃ v3 v4 v5 : Option V, σ' = [some (.int (a : Int)), some (.int ((2 ^ n : Nat) : Int)), some (.int ((Nat.gcd a (2 ^ n) : Nat) : Int)), v3, v4, v5] ∧ H' = H, ?_, ?_⟩
    · refine ⟨_, rfl, _, rfl, _, _, ((2 * (n + 1) : Nat) : Int), rfl, rfl, .inl ⟨by decide, by decide⟩, (bits_two n hn).symm, _, _, ((2 * (n + 1) + 3 : Nat) : Int), rfl, rfl, by omega, _, rfl, by omega, by omega, ?_⟩
      refine for_nat (n := 2 * (n + 1) + 3) (fun i σ H2 => ∃ v4 v5 : Option V, σ = [some (.int (a : Int)), some (.int ((2 ^ n : Nat) : Int)), some (.int (((eu a (2 ^ n) i).1 : Nat) : Int)), some (.int (((eu a (2 ^ n) i).2 : Nat) : Int)), v4, v5] ∧ H2 = H) ⟨none, none, rfl, rfl⟩ ?_ ?_
      · rintro i σ H2 hi ⟨v4, v5, rfl, rfl⟩
        have hg := eu_gcd a (2 ^ n) i
        refine ⟨_, rfl, _, _, _, rfl, rfl, rfl, _, rfl, ite2 (fun hb => ?_) (fun hb => ?_)⟩
        · have hb : (((eu a (2 ^ n) i).2 : Nat) : Int) = 0 := of_decide_eq_true hb
          have h0 : (eu a (2 ^ n) i).2 = 0 := by omega
          rw [h0, Nat.gcd_zero_right] at hg
          rw [hg]
          exact ⟨_, _, _, rfl, rfl⟩
        · have hb : ¬ (((eu a (2 ^ n) i).2 : Nat) : Int) = 0 := fun e => hb (decide_eq_true e)
          have h0 : ¬ (eu a (2 ^ n) i).2 = 0 := by omega
          have e2 : eu a (2 ^ n) (i + 1) = ((eu a (2 ^ n) i).2, (eu a (2 ^ n) i).1 % (eu a (2 ^ n) i).2) := if_neg h0
          refine ⟨_, rfl, _, rfl, _, rfl, _, _, (((eu a (2 ^ n) i).1 % (eu a (2 ^ n) i).2 : Nat) : Int), rfl, rfl, by omega, by omega, _, rfl, _, rfl, ?_⟩
          refine ⟨some (.int (i : Int)), some (.int (((eu a (2 ^ n) i).1 % (eu a (2 ^ n) i).2 : Nat) : Int)), ?_, rfl⟩
          rw [e2]
          rfl
      · rintro σ H2 ⟨v4, v5, rfl, rfl⟩
        have hg := eu_gcd a (2 ^ n) (2 * (n + 1) + 3)
        rw [eu_end n hn a ha, Nat.gcd_zero_right] at hg
        refine ⟨some (.int (((eu a (2 ^ n) (2 * (n + 1) + 3)).2 : Nat) : Int)), v4, v5, ?_, rfl⟩
        rw [hg]
    · rintro σ' H' ⟨v3, v4, v5, rfl, rfl⟩
      refine ⟨_, rfl, _, _, false, rfl, rfl, decide_eq_false (by omega), _, rfl, iteF ?_⟩
      have hc : ∀ i : Int, CDiv i ((Nat.gcd a (2 ^ n) : Nat) : Int) := fun i => by
        have h3 := Nat.gcd_pos_of_pos_right a hp
        have h4 := Nat.gcd_le_right a hp
        exact ⟨by omega, by omega⟩
      refine ⟨_, rfl, _, rfl, _, _, ((a / Nat.gcd a (2 ^ n) : Nat) : Int), rfl, rfl, hc _, by rw [Int.natCast_ediv], _, rfl, _, rfl, _, _, ((2 ^ n / Nat.gcd a (2 ^ n) : Nat) : Int), rfl, rfl, hc _, by rw [Int.natCast_ediv], by show 2 ≤ sizeLine; decide, fun t ht => q _ t (same_upd ht) ht upd_same⟩
/-! ### a near sum-table -/
/-- what was drawn: the set, the turned words -/
structure Drawn (n m : Nat) (T : List Nat) : Prop where
  wd : n < 7
  lt : m < 2 ^ n
  nd : T.Nodup
  le : ∀ t ∈ T, t < 2 ^ n
  few : 4 * T.length < 2 ^ n
/-- the tuple of a near sum-table stands at t -/
def HeldAt (H : Hp) (t n m : Nat) (T : List Nat) : Prop := ∃ a b : Addr, H t = some (.tup [.int (m : Int), .int (T.length : Int), .ref a, .ref b]) ∧ H a = some (.lst ((bt n (nb m [])).map V.int)) ∧ H b = some (.lst ((bt n (nb m T)).map V.int))
theorem HeldAt.same {H H' : Hp} {t n m : Nat} {T : List Nat} (h : HeldAt H t n m T) (s : Same H H') : HeldAt H' t n m T := by
  obtain ⟨a, b, h1, h2, h3⟩ := h
  exact ⟨a, b, s _ _ h1, s _ _ h2, s _ _ h3⟩
theorem HeldAt.but {H H' : Hp} {t n m s c : Nat} {T : List Nat} (h : HeldAt H t n m T) (S : StoreAt H s c) (s1 : But s H H') : HeldAt H' t n m T := by
  obtain ⟨a, b, h1, h2, h3⟩ := h
  obtain ⟨ns, pos, big, mix, nth, e1, e2⟩ := S
  exact ⟨a, b, s1 _ _ h1 (ne_of h1 e1 (by intro z; cases z)), s1 _ _ h2 (ne_of e1 h2 st5_ne).symm, s1 _ _ h3 (ne_of e1 h3 st5_ne).symm⟩
def spNS : Sp := fun vs H Q _ => ∃ (s c : Addr) (n : Nat), vs = [.ref s, .int (n : Int)] ∧ n < 7 ∧ StoreAt H s c ∧
  ∀ H' t m T, But s H H' → StoreAt H' s c → Drawn n m T → HeldAt H' t n m T → Q (.ref t) H'
theorem sc_ns : FnScope ["_law_store_here", "_law_wide_here", "_law_size_here", "_law_mask", "_law_most", "_law_many", "_law_at_row", "_law_due", "_law_mine", "_law_x"] ["_law_store_here", "_law_wide_here"] (defScope s_law_near_sum) := ⟨rfl, rfl, rfl, by decide +kernel, rfl, by decide +kernel, by decide +kernel⟩
theorem bt_near_set {n m : Nat} {T : List Nat} {x : Nat} (hx : x < 2 ^ n) (hn : x ∉ T) : ((bt n (nb m T)).map V.int).set x (V.int (1 - ((nb m T x : Nat) : Int))) = (bt n (nb m (T ++ [x]))).map V.int := by
  refine List.ext_getElem? fun j => ?_
  by_cases hj : j < 2 ^ n
  · rw [bt_get hj]
    by_cases e : x = j
    · subst e
      rw [List.getElem?_set_self (by rw [bt_len]; exact hx)]
      have := chi_lt m x
      unfold nb
      rw [if_neg hn, if_pos (by simp)]
      congr 2
      omega
    · rw [List.getElem?_set_ne e, bt_get hj]
      unfold nb
      by_cases h : j ∈ T
      · rw [if_pos h, if_pos (by simp [h])]
      · rw [if_neg h, if_neg (by simp [h]; exact fun z => e z.symm)]
  · rw [List.getElem?_eq_none (by rw [List.length_set, bt_len]; omega), List.getElem?_eq_none (by rw [bt_len]; omega)]
theorem cut_none (xs : List V) (m : Nat) : cutV xs none (some (m : Int)) = xs.take m := by
  unfold cutV
  rw [HT.sIx_none, HT.sIx_nat, List.drop_zero, Nat.sub_zero]
  by_cases h : m ≤ xs.length
  · rw [Nat.min_eq_left h]
  · rw [Nat.min_eq_right (by omega), List.take_of_length_le (Nat.le_refl _), List.take_of_length_le (by omega)]
theorem nl_take (l : List Nat) (i : Nat) : (nl l).take i = nl (l.take i) := by
  unfold nl
  rw [List.map_take]
end
end K46
set_option Elab.async false
set_option linter.all false
set_option maxRecDepth 100000
set_option maxHeartbeats 4000000
namespace K46
open PySem PySem.Spec PyProof.Rows L2
theorem tab_nl (N : Nat) : (tab N fun x => (x : Int)).map V.int = nl (List.range N) := by
  unfold tab nl
  rw [List.map_map]
  rfl
section
variable {P : Program} {w : World} {K : PySem.W.Frag} {mg : Str → Option Value} {base : Heap} {k : Nat} {C : Addr}
theorem c_ns (D : Df K mg "_law_near_sum" "_law_near_sum" s_law_near_sum) (Z : Fre mg) (FT : Fc P w K mg base (k + 2) "_law_take" ["_law_store_here", "_law_many"] spTake) (FN : Fc P w K mg base (k + 2) "_law_near" ["_law_store_here", "_law_low", "_law_high"] spNear)
    (FW : Fc P w K mg base (k + 2) "_law_word" ["_law_store_here", "_law_wide_here"] spWord) (FS : Fc P w K mg base (k + 2) "_law_shuffled" ["_law_store_here", "_law_row"] spShu) (FP : Fc P w K mg base (k + 2) "_law_parity" ["_law_mask", "_law_here"] spPar) :
    Fc P w K mg base (k + 3) "_law_near_sum" ["_law_store_here", "_law_wide_here"] spNS := by
  refine D.fc sc_ns (fun _ _ _ _ _ _ us hl => match us, hl with | [_, _], _ => rfl) (fun vs H Q E h => ?_) (fun _ cdv A outer st H vs Q E hr h => ?_)
  · obtain ⟨s, c, n, rfl, _⟩ := h
    rfl
  · obtain ⟨s, c, n, rfl, hn, hS, q⟩ := h
    have h64 := pow64 hn
    have hp : 0 < 2 ^ n := Nat.pow_pos (by decide)
    refine ⟨_, pss_cons (ps_set (i := 2) sc_ns.nd rfl (.inl rfl) (pe_op op_shl1 pe_int (pv 1)))
      (pss_cons (ps_set (i := 3) sc_ns.nd rfl (.inr rfl) (pe_fc FW hr (by rfl) (pa_cons (pv 0) (pa_cons (pv 1) pa_nil))))
      (pss_cons (ps_set (i := 4) sc_ns.nd rfl (.inl rfl) (pe_op op_fdivZ (pe_op op_subZ (pv 2) pe_int) pe_int))
      (pss_cons (ps_set (i := 5) sc_ns.nd rfl (.inl rfl) (pv 4))
      (C8.pss_cut (ps_if (pt_cmpR op_gtZ (pe_fc FT hr (by rfl) (pa_cons (pv 0) (pa_cons pe_int pa_nil))) pe_int (nomark _)) (pss_one (ps_set (i := 5) sc_ns.nd rfl (.inl rfl) (pe_fc FN hr (by rfl) (pa_cons (pv 0) (pa_cons pe_int (pa_cons (pv 4) pa_nil)))))) pss_nil)
      (pss_cons (ps_set (i := 6) sc_ns.nd rfl (.inl rfl) (pe_slice sl_list (pe_fc FS hr (by rfl) (pa_cons (pv 0) (pa_cons
          (pe_lc (own := [("_law_x", 9)]) rfl sc_ns.nd (pi_range1 (by rfl) Z.z_range (pa_cons (pv 2) pa_nil)) (blkOk_by (N := ["_law_store_here", "_law_wide_here", "_law_size_here", "_law_mask", "_law_most", "_law_many", "_law_at_row", "_law_due", "_law_mine", "_law_x"]) (sc := defScope s_law_near_sum) (by decide +kernel))
            (fun _ _ _ _ _ => pg_name (i := 9) sc_ns.nd rfl (.inl rfl)) (fun _ _ _ _ _ => pts_nil) (fun _ _ _ _ _ => pv 9)) pa_nil))) po_none (po_some (pv 5))))
      (pss_cons (ps_setLc (i := 7) (own := [("_law_x", 9)]) rfl sc_ns.nd rfl rfl (sw_true rfl rfl rfl (by decide +kernel)) (pi_range1 (by rfl) Z.z_range (pa_cons (pv 2) pa_nil)) (blkOk_by (N := ["_law_store_here", "_law_wide_here", "_law_size_here", "_law_mask", "_law_most", "_law_many", "_law_at_row", "_law_due", "_law_mine", "_law_x"]) (sc := defScope s_law_near_sum) (by decide +kernel))
            (fun _ _ _ _ _ => pg_name (i := 9) sc_ns.nd rfl (.inl rfl)) (fun _ _ _ _ _ => pts_nil) (fun _ _ _ _ _ => pe_fc FP hr (by rfl) (pa_cons (pv 3) (pa_cons (pv 9) pa_nil))))
      (pss_cons (ps_set (i := 8) sc_ns.nd rfl (.inl rfl) (pe_callTy call_list_of (by rfl) Z.z_list boot_list (pa_cons (pv 7) pa_nil)))
      (pss_cons (ps_for PassesOwn.never rfl (pi_list (pv 6)) (pg_name (i := 9) sc_ns.nd rfl (.inl rfl)) (pss_one (ps_asg (pe_op op_subZ pe_int (pe_ix ix_listN (pv 8) (pv 9) (fun _ _ => rfl))) (pg_sub (pv 8) (pv 9) set_listN))))
      (pss_one (ps_ret (pe_tup (pa_cons (pv 3) (pa_cons (pv 5) (pa_cons (pv 7) (pa_cons (pv 8) pa_nil))))))))))))))), ?_⟩
    refine ⟨_, rfl, n, rfl, rfl, hn, ?_⟩
    refine ⟨_, rfl, _, rfl, s, c, n, rfl, hn, hS, fun H1 m hm S1 b1 => ?_⟩
    refine ⟨_, rfl, _, _, _, rfl, rfl, rfl, _, _, (((2 ^ n - 1) / 4 : Nat) : Int), rfl, rfl, ⟨by decide, by decide⟩, by omega, ?_⟩
    refine ⟨_, rfl, ?_⟩
    refine ⟨fun σ' H' => ∃ M : Nat, σ' = [some (.ref s), some (.int (n : Int)), some (.int ((2 ^ n : Nat) : Int)), some (.int (m : Int)), some (.int (((2 ^ n - 1) / 4 : Nat) : Int)), some (.int (M : Int)), none, none, none, none] ∧ 4 * M < 2 ^ n ∧ StoreAt H' s c ∧ But s H H', ?_, ?_⟩
    · refine ⟨_, rfl, s, c, 3, rfl, by decide, S1, fun H2 z hz S2 b2 => ⟨_, _, _, rfl, rfl, rfl, _, rfl, ite2 (fun hb => ?_) (fun hb => ?_)⟩⟩
      · refine ⟨_, rfl, _, rfl, s, c, (2 ^ n - 1) / 4, rfl, by omega, S2, fun H3 M hM S3 b3 => ?_⟩
        exact ⟨M, rfl, by omega, S3, (b1.trans b2).trans b3⟩
      · exact ⟨(2 ^ n - 1) / 4, rfl, by omega, S2, b1.trans b2⟩
    · rintro σ' H2 ⟨M, rfl, hM, S2, b2⟩
      -- at_row
      refine ⟨_, rfl, _, rfl, ((2 ^ n : Nat) : Int), rfl, (lo62 h64).1, (lo62 h64).2, fun d hd => ?_⟩
      refine lc_ints (n := 2 ^ n) walk_nat (tab (2 ^ n) fun x => (x : Int)) (tab_len _ _) h64 hd (fun _ _ => trivial) yfn_same ?_ fun H3 s3 e3 => ?_
      · rintro x u H3 H4 z κ hx hz s3 ⟨rfl, rfl⟩ hk
        obtain ⟨_, rfl⟩ := tab_val hz
        exact ⟨rfl, _, rfl, hk _ (Same.refl _)⟩
      rw [tab_nl] at e3
      have S3 := S2.same s3
      refine ⟨s, c, d, List.range (2 ^ n), rfl, e3, by rw [List.length_range]; exact h64, S3, (S2.ne hd).1, fun H4 l ys hy hl e4 S4 b4 => ?_⟩
      refine ⟨_, rfl, M, rfl, l, _, rfl, SqL.of e4, fun r hr4 => ?_⟩
      rw [cut_none, nl_take]
      have hlen : ys.length = 2 ^ n := by rw [hy.length_eq, List.length_range]
      have hTl : (ys.take M).length = M := by rw [List.length_take, hlen]; omega
      have hnd : (ys.take M).Nodup := (hy.nodup_iff.mpr List.nodup_range).sublist (List.take_sublist _ _)
      have hle : ∀ t ∈ ys.take M, t < 2 ^ n := fun t ht => List.mem_range.mp (hy.mem_iff.mp (List.mem_of_mem_take ht))
      generalize hT : ys.take M = T at hTl hnd hle
      have b5 : But s H (upd H4 r (.lst (nl T))) := ((b2.trans (Same.but s3)).trans b4).new hr4
      have S5 : StoreAt (upd H4 r (.lst (nl T))) s c := S4.new hr4
      have e5 : (upd H4 r (.lst (nl T))) r = some (.lst (nl T)) := upd_same
      generalize upd H4 r (.lst (nl T)) = H5 at b5 S5 e5
      -- due
      refine ⟨_, rfl, ((2 ^ n : Nat) : Int), rfl, (lo62 h64).1, (lo62 h64).2, fun du hdu => ?_⟩
      refine lc_ints (n := 2 ^ n) walk_nat (bt n (nb m [])) (tab_len _ _) h64 hdu (fun _ _ => trivial) yfn_same ?_ fun H6 s6 e6 => ?_
      · rintro x u H6 H7 z κ hx hz s6 ⟨rfl, rfl⟩ hk
        obtain ⟨_, rfl⟩ := tab_val hz
        refine ⟨rfl, _, rfl, _, rfl, m, x, rfl, by omega, by omega, ?_⟩
        have e : chi m x = nb m [] x := by
          unfold nb
          rw [if_neg (by simp)]
        rw [e]
        exact hk _ (Same.refl _)
      -- mine
      refine ⟨_, rfl, du, _, rfl, .inl (SqL.of e6), fun mi hmi => ?_⟩
      have b6 : But s H H6 := b5.trans (Same.but s6)
      have S6 := S5.same s6
      have er6 := s6 _ _ e5
      have nmr : mi ≠ r := (ne_of_none er6 hmi).symm
      have nmd : mi ≠ du := (ne_of_none e6 hmi).symm
      obtain ⟨nms, nmc⟩ := S6.ne hmi
      refine ⟨_, rfl, r, rfl, ⟨_, SqL.of (by rw [upd_ne nmr.symm]; exact er6)⟩, for_list (K := K) (a := r) (xs := nl T) (fun i σ H7 => ∃ v : Option V, σ = [some (.ref s), some (.int (n : Int)), some (.int ((2 ^ n : Nat) : Int)), some (.int (m : Int)), some (.int (((2 ^ n - 1) / 4 : Nat) : Int)), some (.int (M : Int)), some (.ref r), some (.ref du), some (.ref mi), v]
          ∧ H7 mi = some (.lst ((bt n (nb m (T.take i))).map V.int)) ∧ H7 du = some (.lst ((bt n (nb m [])).map V.int)) ∧ H7 r = some (.lst (nl T)) ∧ StoreAt H7 s c ∧ But s H H7)
        ⟨none, rfl, upd_same, by rw [upd_ne nmd.symm]; exact e6, by rw [upd_ne nmr.symm]; exact er6, S6.new hmi, b6.new hmi⟩ (fun i σ H7 _ ⟨_, _, _, _, e, _⟩ => SqL.of e) ?_ ?_⟩
      · rintro i y σ H7 hi ⟨v, rfl, em, ed, er, S7, b7⟩
        have hiT : i < T.length := by
          have := (List.getElem?_eq_some_iff.mp hi).1
          rw [nl_len] at this
          exact this
        have gx : T[i]? = some T[i] := List.getElem?_eq_getElem hiT
        have ey : y = V.int (T[i] : Int) := Option.some.inj (hi.symm.trans (nl_get gx))
        subst ey
        have hx : T[i] < 2 ^ n := hle _ (List.getElem_mem hiT)
        have hxn : T[i] ∉ T.take i := fun hm => by
          obtain ⟨j, hj, ej⟩ := List.mem_take_iff_getElem.mp hm
          have := (List.getElem_inj hnd).mp ej
          omega
        refine ⟨_, rfl, _, rfl, mi, _, T[i], _, rfl, rfl, SqL.of em, bt_get hx, _, _, _, rfl, rfl, rfl, ?_⟩
        refine ⟨_, rfl, _, rfl, mi, _, T[i], rfl, rfl, em, by rw [bt_len]; exact hx, ?_⟩
        refine ⟨_, rfl, ?_, by rw [upd_ne nmd.symm]; exact ed, by rw [upd_ne nmr.symm]; exact er, S7.set nms nmc, ?_⟩
        · rw [upd_same, bt_near_set hx hxn, List.take_add_one, gx]
          rfl
        · intro b o e hb
          have hne : b ≠ mi := by
            rintro rfl
            have := b6 b o e hb
            rw [hmi] at this
            cases this
          rw [upd_ne hne]
          exact b7 b o e hb
      · rintro σ H7 ⟨v, rfl, em, ed, er, S7, b7⟩
        rw [nl_len, List.take_of_length_le (Nat.le_refl _)] at em
        refine ⟨_, rfl, _, rfl, _, rfl, _, rfl, by show 4 ≤ sizeLine; decide, fun t ht => ?_⟩
        refine q _ t m T (b7.new ht) (S7.new ht) ⟨hn, hm, hnd, hle, by omega⟩ ⟨du, mi, ?_, ?_, ?_⟩
        · rw [upd_same, hTl]
        · rw [upd_ne (ne_of_none ed ht)]
          exact ed
        · rw [upd_ne (ne_of_none em ht)]
          exact em
end
end K46
set_option Elab.async false
set_option linter.all false
set_option maxRecDepth 100000
set_option maxHeartbeats 4000000
namespace K46
open PySem PySem.Spec PyProof.Rows L2
/-! ### equal data -/
def EqD : Nat → Hp → V → V → Prop
  | 0, _, x, y => ∃ i : Int, x = .int i ∧ y = .int i
  | d + 1, H, x, y => (∃ i : Int, x = .int i ∧ y = .int i) ∨ ∃ (a b : Addr) (xs ys : List V), x = .ref a ∧ y = .ref b ∧ ((H a = some (.lst xs) ∧ H b = some (.lst ys)) ∨ (H a = some (.tup xs) ∧ H b = some (.tup ys))) ∧
      xs.length = ys.length ∧ xs.length ≤ 64 ∧ ∀ (i : Nat) (x y : V), xs[i]? = some x → ys[i]? = some y → EqD d H x y
theorem EqD.int {d : Nat} {H : Hp} (i : Int) : EqD d H (.int i) (.int i) := by
  cases d with
  | zero => exact ⟨i, rfl, rfl⟩
  | succ d => exact .inl ⟨i, rfl, rfl⟩
theorem EqD.up {d : Nat} {H : Hp} {x y : V} (h : EqD d H x y) : (∃ i : Int, x = .int i ∧ y = .int i) ∨ ∃ e, d = e + 1 ∧ ∃ (a b : Addr) (xs ys : List V), x = .ref a ∧ y = .ref b ∧ ((H a = some (.lst xs) ∧ H b = some (.lst ys)) ∨ (H a = some (.tup xs) ∧ H b = some (.tup ys))) ∧
      xs.length = ys.length ∧ xs.length ≤ 64 ∧ ∀ (i : Nat) (x y : V), xs[i]? = some x → ys[i]? = some y → EqD e H x y := by
  cases d with
  | zero => exact .inl h
  | succ d =>
    rcases h with h | h
    · exact .inl h
    · exact .inr ⟨d, rfl, h⟩
theorem ints_items {d : Nat} {H : Hp} (b : List Int) : ∀ (i : Nat) (x y : V), (b.map V.int)[i]? = some x → (b.map V.int)[i]? = some y → EqD d H x y := by
  intro i x y h1 h2
  obtain ⟨z, _, rfl⟩ := map_get h1
  have e := Option.some.inj (h1.symm.trans h2)
  rw [← e]
  exact EqD.int z
def rIsNZ : R2 := fun x y H Q => ∃ c : Bool, y = .non ∧ decide (x = .non) = c ∧ Q (.bl c) H
theorem op_isNZ {X : Cx} : OpR X (compareOp .Is) rIsNZ := OpR.imp op_isN fun x y H Q ⟨c, h1, h2, q⟩ => ⟨h1, qv (congrArg V.bl h2) q⟩
theorem ix_LT {X : Cx} : IxR X (fun x y H Q => rIxLN X.K x y H Q ∨ rIxTN X.K x y H Q) := ix_listN.or ix_tupN
theorem k_is' : kitB "int" "str" = some false := by decide +kernel
theorem k_lb : kitB "list" "bool" = some false := by decide +kernel
theorem k_li : kitB "list" "int" = some false := by decide +kernel
theorem k_ls : kitB "list" "str" = some false := by decide +kernel
theorem k_lt : kitB "list" "tuple" = some false := by decide +kernel
theorem k_tb : kitB "tuple" "bool" = some false := by decide +kernel
theorem k_ti : kitB "tuple" "int" = some false := by decide +kernel
theorem k_ts : kitB "tuple" "str" = some false := by decide +kernel
theorem k_tl : kitB "tuple" "list" = some false := by decide +kernel
theorem k_tt : kitB "tuple" "tuple" = some true := by decide +kernel
theorem k_il : kitB "int" "list" = some false := by decide +kernel
theorem k_it : kitB "int" "tuple" = some false := by decide +kernel
section
variable {P : Program} {w : World} {K : PySem.W.Frag} {mg : Str → Option Value} {base : Heap} {k : Nat} {C : Addr}
def spSame (d : Nat) : Sp := fun vs H Q _ => ∃ x y : V, vs = [x, y] ∧ EqD d H x y ∧ Q (.bl true) H
theorem sc_same : FnScope ["_law_told", "_law_due", "_law_k"] ["_law_told", "_law_due"] (defScope s_law_same) := ⟨rfl, rfl, rfl, by decide +kernel, rfl, by decide +kernel, by decide +kernel⟩
theorem c_same (D : Df K mg "_law_same" "_law_same" s_law_same) (Z : Fre mg) : ∀ d : Nat, Fc P w K mg base (d + 1) "_law_same" ["_law_told", "_law_due"] (spSame d) := by
  intro d
  induction d with
  | zero =>
    refine D.fc sc_same (fun _ _ _ _ _ _ us hl => match us, hl with | [_, _], _ => rfl) (fun vs H Q E h => ?_) (fun _ cdv A outer s H vs Q E hr h => ?_)
    · obtain ⟨x, y, rfl, _⟩ := h
      rfl
    · obtain ⟨x, y, rfl, ⟨i, rfl, rfl⟩, q⟩ := h
      refine ⟨_, pss_cons (ps_if (pt_cmpR op_isNZ (pv 1) pe_non (nomark _)) pss_never pss_nil)
        (pss_cons (ps_if (pt_val (pe_callB call_isi (by rfl) Z.z_isinstance boot_isinstance (pa_cons (pv 1) (pa_cons (pe_tyn (by rfl) Z.z_bool boot_bool) pa_nil)))) pss_never pss_nil)
        (pss_cons (ps_if (pt_val (pe_callB call_isi (by rfl) Z.z_isinstance boot_isinstance (pa_cons (pv 1) (pa_cons (pe_tyn (by rfl) Z.z_int boot_int) pa_nil))))
          (pss_one (ps_ret (pe_and (pe_callB call_isi (by rfl) Z.z_isinstance boot_isinstance (pa_cons (pv 0) (pa_cons (pe_tyn (by rfl) Z.z_int boot_int) pa_nil)))
            (pe_and (pe_not (pe_callB call_isi (by rfl) Z.z_isinstance boot_isinstance (pa_cons (pv 0) (pa_cons (pe_tyn (by rfl) Z.z_bool boot_bool) pa_nil)))) (pe_one (pe_cmpR op_eqZ (pv 0) (pv 1) (nomark _))))))) pss_nil)
        pss_never)), ?_⟩
      refine ⟨_, rfl, false, rfl, rfl, _, rfl, iteF ?_⟩
      refine ⟨_, rfl, _, _, _, _, false, rfl, .ty _, .base (.int _), kit_ty k_ib, _, rfl, iteF ?_⟩
      refine ⟨_, rfl, _, _, _, _, true, rfl, .ty _, .base (.int _), kit_ty k_ii, _, rfl, iteT ?_⟩
      refine ⟨_, rfl, _, _, _, _, true, rfl, .ty _, .base (.int _), kit_ty k_ii, _, rfl, iteT ?_⟩
      refine ⟨_, rfl, _, _, _, _, false, rfl, .ty _, .base (.int _), kit_ty k_ib, _, rfl, _, rfl, iteT ?_⟩
      exact ⟨_, rfl, _, rfl, i, i, true, rfl, rfl, decide_eq_true rfl, q⟩
  | succ d ih =>
    refine D.fc sc_same (fun _ _ _ _ _ _ us hl => match us, hl with | [_, _], _ => rfl) (fun vs H Q E h => ?_) (fun _ cdv A outer s H vs Q E hr h => ?_)
    · obtain ⟨x, y, rfl, _⟩ := h
      rfl
    · obtain ⟨x, y, rfl, hE, q⟩ := h
      rcases hE with ⟨i, rfl, rfl⟩ | ⟨a, b, xs, ys, rfl, rfl, hk, hl, h64, hi⟩
      · refine ⟨_, pss_cons (ps_if (pt_cmpR op_isNZ (pv 1) pe_non (nomark _)) pss_never pss_nil)
          (pss_cons (ps_if (pt_val (pe_callB call_isi (by rfl) Z.z_isinstance boot_isinstance (pa_cons (pv 1) (pa_cons (pe_tyn (by rfl) Z.z_bool boot_bool) pa_nil)))) pss_never pss_nil)
          (pss_cons (ps_if (pt_val (pe_callB call_isi (by rfl) Z.z_isinstance boot_isinstance (pa_cons (pv 1) (pa_cons (pe_tyn (by rfl) Z.z_int boot_int) pa_nil))))
            (pss_one (ps_ret (pe_and (pe_callB call_isi (by rfl) Z.z_isinstance boot_isinstance (pa_cons (pv 0) (pa_cons (pe_tyn (by rfl) Z.z_int boot_int) pa_nil)))
              (pe_and (pe_not (pe_callB call_isi (by rfl) Z.z_isinstance boot_isinstance (pa_cons (pv 0) (pa_cons (pe_tyn (by rfl) Z.z_bool boot_bool) pa_nil)))) (pe_one (pe_cmpR op_eqZ (pv 0) (pv 1) (nomark _))))))) pss_nil)
          pss_never)), ?_⟩
        refine ⟨_, rfl, false, rfl, rfl, _, rfl, iteF ?_⟩
        refine ⟨_, rfl, _, _, _, _, false, rfl, .ty _, .base (.int _), kit_ty k_ib, _, rfl, iteF ?_⟩
        refine ⟨_, rfl, _, _, _, _, true, rfl, .ty _, .base (.int _), kit_ty k_ii, _, rfl, iteT ?_⟩
        refine ⟨_, rfl, _, _, _, _, true, rfl, .ty _, .base (.int _), kit_ty k_ii, _, rfl, iteT ?_⟩
        refine ⟨_, rfl, _, _, _, _, false, rfl, .ty _, .base (.int _), kit_ty k_ib, _, rfl, _, rfl, iteT ?_⟩
        exact ⟨_, rfl, _, rfl, i, i, true, rfl, rfl, decide_eq_true rfl, q⟩
      · refine ⟨_, pss_cons (ps_if (pt_cmpR op_isNZ (pv 1) pe_non (nomark _)) pss_never pss_nil)
          (pss_cons (ps_if (pt_val (pe_callB call_isi (by rfl) Z.z_isinstance boot_isinstance (pa_cons (pv 1) (pa_cons (pe_tyn (by rfl) Z.z_bool boot_bool) pa_nil)))) pss_never pss_nil)
          (pss_cons (ps_if (pt_val (pe_callB call_isi (by rfl) Z.z_isinstance boot_isinstance (pa_cons (pv 1) (pa_cons (pe_tyn (by rfl) Z.z_int boot_int) pa_nil)))) pss_never pss_nil)
          (pss_cons (ps_if (pt_val (pe_callB call_isi (by rfl) Z.z_isinstance boot_isinstance (pa_cons (pv 1) (pa_cons (pe_tyn (by rfl) Z.z_str boot_str) pa_nil)))) pss_never pss_nil)
          (C8.pss_cut (ps_if (PW.pt (pw_and (pt_val (pe_callB call_isi (by rfl) Z.z_isinstance boot_isinstance (pa_cons (pv 1) (pa_cons (pe_tyn (by rfl) Z.z_list boot_list) pa_nil)))) (pw_and1 (pt_not (pt_val (pe_callB call_isi (by rfl) Z.z_isinstance boot_isinstance (pa_cons (pv 0) (pa_cons (pe_tyn (by rfl) Z.z_list boot_list) pa_nil)))))))) pss_never pss_nil)
          (C8.pss_cut (ps_if (PW.pt (pw_and (pt_val (pe_callB call_isi (by rfl) Z.z_isinstance boot_isinstance (pa_cons (pv 1) (pa_cons (pe_tyn (by rfl) Z.z_tuple boot_tuple) pa_nil)))) (pw_and1 (pt_not (pt_val (pe_callB call_isi (by rfl) Z.z_isinstance boot_isinstance (pa_cons (pv 0) (pa_cons (pe_tyn (by rfl) Z.z_tuple boot_tuple) pa_nil)))))))) pss_never pss_nil)
          (pss_cons (ps_if (pt_cmpR op_neZ (pe_callB call_len_seq (by rfl) Z.z_len PySem.boot_len (pa_cons (pv 0) pa_nil)) (pe_callB call_len_seq (by rfl) Z.z_len PySem.boot_len (pa_cons (pv 1) pa_nil)) (nomark _)) pss_never pss_nil)
          (pss_cons (ps_for PassesOwn.never rfl (pi_range1 (by rfl) Z.z_range (pa_cons (pe_callB call_len_seq (by rfl) Z.z_len PySem.boot_len (pa_cons (pv 1) pa_nil)) pa_nil)) (pg_name (i := 2) sc_same.nd rfl (.inl rfl))
            (pss_one (ps_if (pt_not (pt_val (pe_fc ih hr (by rfl) (pa_cons (pe_ix ix_LT (pv 0) (pv 2) (fun _ _ => rfl)) (pa_cons (pe_ix ix_LT (pv 1) (pv 2) (fun _ _ => rfl)) pa_nil))))) pss_never pss_nil)))
          (pss_one (ps_ret pe_bl))))))))), ?_⟩
        refine ⟨_, rfl, false, rfl, rfl, _, rfl, iteF ?_⟩
        rcases hk with ⟨ha, hb⟩ | ⟨ha, hb⟩
        · refine ⟨_, rfl, _, _, _, _, false, rfl, .ty _, .base (.lst hb), kit_ty k_lb, _, rfl, iteF ?_⟩
          refine ⟨_, rfl, _, _, _, _, false, rfl, .ty _, .base (.lst hb), kit_ty k_li, _, rfl, iteF ?_⟩
          refine ⟨_, rfl, _, _, _, _, false, rfl, .ty _, .base (.lst hb), kit_ty k_ls, _, rfl, iteF ?_⟩
          refine ⟨fun σ' H' => σ' = [some (.ref a), some (.ref b), none] ∧ H' = H, ?_, ?_⟩
          · refine ⟨_, rfl, _, _, _, _, true, rfl, .ty _, .base (.lst hb), kit_ty k_ll, _, rfl, iteT ?_⟩
            exact ⟨_, rfl, _, _, _, _, true, rfl, .ty _, .base (.lst ha), kit_ty k_ll, _, rfl, iteF ⟨rfl, rfl⟩⟩
          rintro σ' H' ⟨rfl, rfl⟩
          refine ⟨fun σ' H'' => σ' = [some (.ref a), some (.ref b), none] ∧ H'' = H', ?_, ?_⟩
          · exact ⟨_, rfl, _, _, _, _, false, rfl, .ty _, .base (.lst hb), kit_ty k_lt, _, rfl, iteF ⟨rfl, rfl⟩⟩
          rintro σ' H'' ⟨rfl, rfl⟩
          refine ⟨_, rfl, a, xs, rfl, .inl (SqL.of ha), _, rfl, b, ys, rfl, .inl (SqL.of hb), _, _, false, rfl, rfl, by rw [hl, decide_eq_true rfl]; rfl, _, rfl, iteF ?_⟩
          refine ⟨_, rfl, b, ys, rfl, .inl (SqL.of hb), ((ys.length : Nat) : Int), rfl, (lo62 (by omega)).1, (lo62 (by omega)).2, ?_⟩
          refine for_nat (n := ys.length) (fun i σ H2 => ∃ v : Option V, σ = [some (.ref a), some (.ref b), v] ∧ H2 = H'') ⟨none, rfl, rfl⟩ ?_ ?_
          · rintro i σ H2 hi2 ⟨v, rfl, rfl⟩
            have gx : xs[i]? = some xs[i] := List.getElem?_eq_getElem (by omega)
            have gy : ys[i]? = some ys[i] := List.getElem?_eq_getElem hi2
            exact ⟨_, rfl, _, rfl, .inl ⟨a, xs, i, _, rfl, rfl, SqL.of ha, gx, _, rfl, _, rfl, .inl ⟨b, ys, i, _, rfl, rfl, SqL.of hb, gy, _, _, rfl, hi i _ _ gx gy, true, rfl, iteF ⟨_, rfl, rfl⟩⟩⟩⟩
          · rintro σ H2 ⟨v, rfl, rfl⟩
            exact q
        · refine ⟨_, rfl, _, _, _, _, false, rfl, .ty _, .base (.tup hb), kit_ty k_tb, _, rfl, iteF ?_⟩
          refine ⟨_, rfl, _, _, _, _, false, rfl, .ty _, .base (.tup hb), kit_ty k_ti, _, rfl, iteF ?_⟩
          refine ⟨_, rfl, _, _, _, _, false, rfl, .ty _, .base (.tup hb), kit_ty k_ts, _, rfl, iteF ?_⟩
          refine ⟨fun σ' H' => σ' = [some (.ref a), some (.ref b), none] ∧ H' = H, ?_, ?_⟩
          · exact ⟨_, rfl, _, _, _, _, false, rfl, .ty _, .base (.tup hb), kit_ty k_tl, _, rfl, iteF ⟨rfl, rfl⟩⟩
          rintro σ' H' ⟨rfl, rfl⟩
          refine ⟨fun σ' H'' => σ' = [some (.ref a), some (.ref b), none] ∧ H'' = H', ?_, ?_⟩
          · refine ⟨_, rfl, _, _, _, _, true, rfl, .ty _, .base (.tup hb), kit_ty k_tt, _, rfl, iteT ?_⟩
            exact ⟨_, rfl, _, _, _, _, true, rfl, .ty _, .base (.tup ha), kit_ty k_tt, _, rfl, iteF ⟨rfl, rfl⟩⟩
          rintro σ' H'' ⟨rfl, rfl⟩
          refine ⟨_, rfl, a, xs, rfl, .inr (SqT.of ha), _, rfl, b, ys, rfl, .inr (SqT.of hb), _, _, false, rfl, rfl, by rw [hl, decide_eq_true rfl]; rfl, _, rfl, iteF ?_⟩
          refine ⟨_, rfl, b, ys, rfl, .inr (SqT.of hb), ((ys.length : Nat) : Int), rfl, (lo62 (by omega)).1, (lo62 (by omega)).2, ?_⟩
          refine for_nat (n := ys.length) (fun i σ H2 => ∃ v : Option V, σ = [some (.ref a), some (.ref b), v] ∧ H2 = H'') ⟨none, rfl, rfl⟩ ?_ ?_
          · rintro i σ H2 hi2 ⟨v, rfl, rfl⟩
            have gx : xs[i]? = some xs[i] := List.getElem?_eq_getElem (by omega)
            have gy : ys[i]? = some ys[i] := List.getElem?_eq_getElem hi2
            exact ⟨_, rfl, _, rfl, .inr ⟨a, xs, i, _, rfl, rfl, SqT.of ha, gx, _, rfl, _, rfl, .inr ⟨b, ys, i, _, rfl, rfl, SqT.of hb, gy, _, _, rfl, hi i _ _ gx gy, true, rfl, iteF ⟨_, rfl, rfl⟩⟩⟩⟩
          · rintro σ H2 ⟨v, rfl, rfl⟩
            exact q
/-! ### a table as it is due -/
def spIsT (C : Addr) : Sp := fun vs H Q _ => ∃ (p a : Addr) (n : Nat) (b : List Int), vs = [.ref p, .int (n : Int), .ref a] ∧ TabAt C H p n b ∧ H a = some (.lst (b.map V.int)) ∧ b.length ≤ 64 ∧ ∀ H', Same H H' → Q (.bl true) H'
theorem sc_ist : FnScope ["_law_given", "_law_wide_here", "_law_due"] ["_law_given", "_law_wide_here", "_law_due"] (defScope s_law_is_table) := ⟨rfl, rfl, rfl, by decide +kernel, rfl, by decide +kernel, by decide +kernel⟩
theorem c_ist (D : Df K mg "_law_is_table" "_law_is_table" s_law_is_table) (T : Txt K mg C) (Z : Fre mg) (R : Pr P w K mg base C (k + 2) "width" "wide") (S : Pr P w K mg base C (k + 2) "bits" "held") (F : Fc P w K mg base (k + 3) "_law_same" ["_law_told", "_law_due"] (spSame 1)) :
    Fc P w K mg base (k + 4) "_law_is_table" ["_law_given", "_law_wide_here", "_law_due"] (spIsT C) := by
  refine D.fc sc_ist (fun _ _ _ _ _ _ us hl => match us, hl with | [_, _, _], _ => rfl) (fun vs H Q E h => ?_) (fun _ cdv A outer s H vs Q E hr h => ?_)
  · obtain ⟨p, a, n, b, rfl, _⟩ := h
    rfl
  · obtain ⟨p, a, n, b, rfl, ⟨dx, t, h1, h2⟩, ha, h64, q⟩ := h
    refine ⟨_, pss_cons (ps_if (pt_not (pt_val (pe_callB (C8.call_isC T.ins) (by rfl) Z.z_isinstance boot_isinstance (pa_cons (pv 0) (pa_cons (pe_glob (v := .ref C) (by rfl) T.mgC rfl) pa_nil))))) pss_never pss_nil)
      (pss_one (ps_ret (pe_and (pe_fc F hr (by rfl) (pa_cons (pe_pr R T.cl (pv 0) hr) (pa_cons (pv 1) pa_nil))) (pe_one (pe_fc F hr (by rfl) (pa_cons (pe_pr S T.cl (pv 0) hr) (pa_cons (pe_callTy call_tuple_of (by rfl) Z.z_tuple boot_tuple (pa_cons (pv 2) pa_nil)) pa_nil))))))), ?_⟩
    refine ⟨_, rfl, p, dx, _, rfl, h1, _, rfl, iteF ?_⟩
    refine ⟨_, rfl, p, dx, _, rfl, h1, p, dx, _, _, rfl, h1, tf_wide _ _, _, rfl, _, _, rfl, EqD.int _, true, rfl, iteT ?_⟩
    refine ⟨_, rfl, p, dx, _, rfl, h1, p, dx, _, _, rfl, h1, tf_held _ _, _, rfl, a, _, rfl, .inl ⟨SqL.of ha, fun u hu => ?_⟩⟩
    exact ⟨_, _, rfl, .inr ⟨t, u, _, _, rfl, rfl, .inr ⟨same_upd hu _ _ h2, upd_same⟩, rfl, by rw [List.length_map]; exact h64, ints_items b⟩, q _ (same_upd hu)⟩
end
end K46
set_option Elab.async false
set_option linter.all false
set_option maxRecDepth 100000
set_option maxHeartbeats 4000000
namespace K46
open PySem PySem.Spec PyProof.Rows L2
section
variable {P : Program} {w : World} {K : PySem.W.Frag} {mg : Str → Option Value} {base : Heap} {k : Nat} {C : Addr}
/-! ### spoiling -/
def spS0 : Sp := fun vs H Q _ => ∃ i : Int, vs = [.int i] ∧ ∀ H', Same H H' → Q .non H'
theorem sc_sp : FnScope ["_law_given", "_law_item"] ["_law_given"] (defScope s_law_spoil) := ⟨rfl, rfl, rfl, by decide +kernel, rfl, by decide +kernel, by decide +kernel⟩
theorem c_sp0 (D : Df K mg "_law_spoil" "_law_spoil" s_law_spoil) (Z : Fre mg) : Fc P w K mg base (k + 1) "_law_spoil" ["_law_given"] spS0 := by
  refine D.fc sc_sp (fun _ _ _ _ _ _ us hl => match us, hl with | [_], _ => rfl) (fun vs H Q E h => ?_) (fun _ cdv A outer s H vs Q E hr h => ?_)
  · obtain ⟨i, rfl, _⟩ := h
    rfl
  · obtain ⟨i, rfl, q⟩ := h
    refine ⟨_, pss_cons (ps_if (pt_val (pe_callB call_isiT (by rfl) Z.z_isinstance boot_isinstance (pa_cons (pv 0) (pa_cons (pe_tup (pa_cons (pe_tyn (by rfl) Z.z_list boot_list) (pa_cons (pe_tyn (by rfl) Z.z_tuple boot_tuple) pa_nil))) pa_nil)))) pss_never pss_nil)
      (pss_one (ps_if (pt_val (pe_callB call_isi (by rfl) Z.z_isinstance boot_isinstance (pa_cons (pv 0) (pa_cons (pe_tyn (by rfl) Z.z_list boot_list) pa_nil)))) pss_never pss_nil)), ?_⟩
    refine ⟨_, rfl, by show 2 ≤ sizeLine; decide, fun t ht => ?_⟩
    refine ⟨_, t, _, _, _, false, rfl, upd_same, .cons (.ty _) (.cons (.ty _) .nil), .base (.int _), kitAny_cons (kit_ty k_il) (fun _ => kitAny_cons (kit_ty k_it) (fun _ => kitAny_nil) (fun z => by cases z)) (fun z => by cases z), _, rfl, iteF ?_⟩
    refine ⟨_, rfl, _, _, _, _, false, rfl, .ty _, .base (.int _), kit_ty k_il, _, rfl, iteF ?_⟩
    exact q _ (same_upd ht)
def spS1 : Sp := fun vs H Q _ => (∃ i : Int, vs = [.int i] ∧ ∀ H', Same H H' → Q .non H') ∨ ∃ (a : Addr) (ns : List Int), vs = [.ref a] ∧ H a = some (.lst (ns.map V.int)) ∧ ns.length ≤ 64 ∧ ∀ H', But a H H' → Q .non H'
theorem c_sp1 (D : Df K mg "_law_spoil" "_law_spoil" s_law_spoil) (Z : Fre mg) (F : Fc P w K mg base (k + 1) "_law_spoil" ["_law_given"] spS0) : Fc P w K mg base (k + 2) "_law_spoil" ["_law_given"] spS1 := by
  refine D.fc sc_sp (fun _ _ _ _ _ _ us hl => match us, hl with | [_], _ => rfl) (fun vs H Q E h => ?_) (fun _ cdv A outer s H vs Q E hr h => ?_)
  · rcases h with ⟨i, rfl, _⟩ | ⟨a, ns, rfl, _⟩ <;> rfl
  · rcases h with ⟨i, rfl, q⟩ | ⟨a, ns, rfl, ha, h64, q⟩
    · refine ⟨_, pss_cons (ps_if (pt_val (pe_callB call_isiT (by rfl) Z.z_isinstance boot_isinstance (pa_cons (pv 0) (pa_cons (pe_tup (pa_cons (pe_tyn (by rfl) Z.z_list boot_list) (pa_cons (pe_tyn (by rfl) Z.z_tuple boot_tuple) pa_nil))) pa_nil)))) pss_never pss_nil)
        (pss_one (ps_if (pt_val (pe_callB call_isi (by rfl) Z.z_isinstance boot_isinstance (pa_cons (pv 0) (pa_cons (pe_tyn (by rfl) Z.z_list boot_list) pa_nil)))) pss_never pss_nil)), ?_⟩
      refine ⟨_, rfl, by show 2 ≤ sizeLine; decide, fun t ht => ?_⟩
      refine ⟨_, t, _, _, _, false, rfl, upd_same, .cons (.ty _) (.cons (.ty _) .nil), .base (.int _), kitAny_cons (kit_ty k_il) (fun _ => kitAny_cons (kit_ty k_it) (fun _ => kitAny_nil) (fun z => by cases z)) (fun z => by cases z), _, rfl, iteF ?_⟩
      refine ⟨_, rfl, _, _, _, _, false, rfl, .ty _, .base (.int _), kit_ty k_il, _, rfl, iteF ?_⟩
      exact q _ (same_upd ht)
    · refine ⟨_, pss_cons (ps_if (pt_val (pe_callB call_isiT (by rfl) Z.z_isinstance boot_isinstance (pa_cons (pv 0) (pa_cons (pe_tup (pa_cons (pe_tyn (by rfl) Z.z_list boot_list) (pa_cons (pe_tyn (by rfl) Z.z_tuple boot_tuple) pa_nil))) pa_nil))))
          (pss_one (ps_for PassesOwn.never rfl (pi_list (pe_callTy call_list_of (by rfl) Z.z_list boot_list (pa_cons (pv 0) pa_nil))) (pg_name (i := 1) sc_sp.nd rfl (.inl rfl)) (pss_one (ps_expr (pe_fc F hr (by rfl) (pa_cons (pv 1) pa_nil)))))) pss_nil)
        (pss_one (ps_if (pt_val (pe_callB call_isi (by rfl) Z.z_isinstance boot_isinstance (pa_cons (pv 0) (pa_cons (pe_tyn (by rfl) Z.z_list boot_list) pa_nil))))
          (pss_cons (ps_expr (pe_bm0 PySem.F.plainAttrs_list PySem.F.slot_list_reverse PySem.F.type_list_reverse mt_reverse (pv 0)))
          (pss_cons (ps_expr (pe_bm PySem.F.plainAttrs_list PySem.F.slot_list_append PySem.F.type_list_append mt_append (pv 0) (pa_cons pe_str pa_nil)))
          (pss_one (ps_asg pe_str (pg_sub (pv 0) pe_int set_listN))))) pss_nil)), ?_⟩
      refine ⟨_, rfl, by show 2 ≤ sizeLine; decide, fun t ht => ?_⟩
      have s1 : Same H (upd H t (.tup [.ty "list", .ty "tuple"])) := same_upd ht
      have ha1 := s1 _ _ ha
      refine ⟨_, t, _, _, _, true, rfl, upd_same, .cons (.ty _) (.cons (.ty _) .nil), .base (.lst ha1), kitAny_cons (kit_ty k_ll) (fun z => by cases z) (fun _ => rfl), _, rfl, iteT ?_⟩
      refine ⟨_, rfl, a, _, rfl, .inl (SqL.of ha1), fun c hc => ?_⟩
      have s2 : Same H (upd (upd H t (.tup [.ty "list", .ty "tuple"])) c (.lst (ns.map V.int))) := s1.trans (same_upd hc)
      refine ⟨c, rfl, ⟨_, SqL.of upd_same⟩, for_list (K := K) (a := c) (xs := ns.map V.int) (fun i σ H2 => ∃ v : Option V, σ = [some (.ref a), v] ∧ Same H H2 ∧ H2 c = some (.lst (ns.map V.int))) ⟨none, rfl, s2, upd_same⟩ (fun i σ H2 _ ⟨_, _, _, e⟩ => SqL.of e) ?_ ?_⟩
      · rintro i y σ H2 hi ⟨v, rfl, s2, e2⟩
        obtain ⟨z, _, rfl⟩ := map_get hi
        exact ⟨_, rfl, z, rfl, fun H3 s3 => ⟨_, rfl, s2.trans s3, s3 _ _ e2⟩⟩
      · rintro σ H2 ⟨v, rfl, s2, e2⟩
        have ha2 := s2 _ _ ha
        refine ⟨_, rfl, _, _, _, _, true, rfl, .ty _, .base (.lst ha2), kit_ty k_ll, _, rfl, iteT ?_⟩
        refine ⟨_, rfl, .inl ⟨rfl, _, SqL.of ha2⟩, a, _, rfl, rfl, ha2, ?_⟩
        refine ⟨_, rfl, .inl ⟨rfl, _, SqL.of upd_same⟩, a, _, _, rfl, rfl, upd_same, by rw [List.length_reverse, List.length_map]; exact sz h64, ?_⟩
        refine ⟨_, rfl, a, _, 0, rfl, rfl, upd_same, by rw [List.length_append]; exact Nat.lt_of_lt_of_le (by decide) (Nat.le_add_left _ _), ?_⟩
        exact q _ fun b o e hb => by
          rw [upd_ne hb, upd_ne hb, upd_ne hb]
          exact s2 _ _ e
def spS2 : Sp := fun vs H Q _ => ∃ (t l : Addr) (L : Int) (ns : List Int), vs = [.ref t] ∧ H t = some (.tup [.int L, .ref l]) ∧ H l = some (.lst (ns.map V.int)) ∧ ns.length ≤ 64 ∧ ∀ H', But l H H' → Q .non H'
theorem c_sp2 (D : Df K mg "_law_spoil" "_law_spoil" s_law_spoil) (Z : Fre mg) (F : Fc P w K mg base (k + 2) "_law_spoil" ["_law_given"] spS1) : Fc P w K mg base (k + 3) "_law_spoil" ["_law_given"] spS2 := by
  refine D.fc sc_sp (fun _ _ _ _ _ _ us hl => match us, hl with | [_], _ => rfl) (fun vs H Q E h => ?_) (fun _ cdv A outer s H vs Q E hr h => ?_)
  · obtain ⟨t, l, L, ns, rfl, _⟩ := h
    rfl
  · obtain ⟨t, l, L, ns, rfl, ht, hl, h64, q⟩ := h
    have ntl : t ≠ l := ne_of ht hl (by intro z; cases z)
    refine ⟨_, pss_cons (ps_if (pt_val (pe_callB call_isiT (by rfl) Z.z_isinstance boot_isinstance (pa_cons (pv 0) (pa_cons (pe_tup (pa_cons (pe_tyn (by rfl) Z.z_list boot_list) (pa_cons (pe_tyn (by rfl) Z.z_tuple boot_tuple) pa_nil))) pa_nil))))
        (pss_one (ps_for PassesOwn.never rfl (pi_list (pe_callTy call_list_of (by rfl) Z.z_list boot_list (pa_cons (pv 0) pa_nil))) (pg_name (i := 1) sc_sp.nd rfl (.inl rfl)) (pss_one (ps_expr (pe_fc F hr (by rfl) (pa_cons (pv 1) pa_nil)))))) pss_nil)
      (pss_one (ps_if (pt_val (pe_callB call_isi (by rfl) Z.z_isinstance boot_isinstance (pa_cons (pv 0) (pa_cons (pe_tyn (by rfl) Z.z_list boot_list) pa_nil)))) pss_never pss_nil)), ?_⟩
    refine ⟨_, rfl, by show 2 ≤ sizeLine; decide, fun u hu => ?_⟩
    have s1 : Same H (upd H u (.tup [.ty "list", .ty "tuple"])) := same_upd hu
    have ht1 := s1 _ _ ht
    refine ⟨_, u, _, _, _, true, rfl, upd_same, .cons (.ty _) (.cons (.ty _) .nil), .base (.tup ht1), kitAny_cons (kit_ty k_tl) (fun _ => kitAny_cons (kit_ty k_tt) (fun z => by cases z) (fun _ => rfl)) (fun z => by cases z), _, rfl, iteT ?_⟩
    refine ⟨_, rfl, t, _, rfl, .inr (SqT.of ht1), fun c hc => ?_⟩
    have s2 : Same H (upd (upd H u (.tup [.ty "list", .ty "tuple"])) c (.lst [.int L, .ref l])) := s1.trans (same_upd hc)
    have ncl : c ≠ l := (ne_of_none (s1 _ _ hl) hc).symm
    refine ⟨c, rfl, ⟨_, SqL.of upd_same⟩, for_list (K := K) (a := c) (xs := [.int L, .ref l]) (fun i σ H2 => ∃ v : Option V, σ = [some (.ref t), v] ∧ But l H H2 ∧ H2 c = some (.lst [.int L, .ref l]) ∧ (i ≤ 1 → H2 l = some (.lst (ns.map V.int)))) ⟨none, rfl, Same.but s2, upd_same, fun _ => s2 _ _ hl⟩ (fun i σ H2 _ ⟨_, _, _, e, _⟩ => SqL.of e) ?_ ?_⟩
    · rintro i y σ H2 hi ⟨v, rfl, b2, e2, el⟩
      match i, hi, el with
      | 0, hi, el =>
        have ey : V.int L = y := Option.some.inj hi
        subst ey
        exact ⟨_, rfl, .inl ⟨L, rfl, fun H3 s3 => ⟨_, rfl, b2.trans (Same.but s3), s3 _ _ e2, fun _ => s3 _ _ (el (Nat.zero_le _))⟩⟩⟩
      | 1, hi, el =>
        have ey : V.ref l = y := Option.some.inj hi
        subst ey
        exact ⟨_, rfl, .inr ⟨l, ns, rfl, el (Nat.le_refl _), h64, fun H3 b3 => ⟨_, rfl, b2.trans b3, b3 _ _ e2 ncl, fun h => absurd h (by decide)⟩⟩⟩
      | i + 2, hi, _ => simp at hi
    · rintro σ H2 ⟨v, rfl, b2, e2, _⟩
      have ht2 := b2 _ _ ht ntl
      refine ⟨_, rfl, _, _, _, _, false, rfl, .ty _, .base (.tup ht2), kit_ty k_tl, _, rfl, iteF ?_⟩
      exact q _ b2
end
end K46
set_option Elab.async false
set_option linter.all false
set_option maxRecDepth 100000
set_option maxHeartbeats 8000000
namespace K46
open PySem PySem.Spec PyProof.Rows L2
/-! ### what a drawn table's functions answer, in plain words -/
section
variable {n m : Nat} {T : List Nat}
theorem Drawn.m64 (D : Drawn n m T) : m < 64 := Nat.lt_of_lt_of_le D.lt (pow64 D.wd)
theorem Drawn.nil (D : Drawn n m T) : Drawn n m [] := ⟨D.wd, D.lt, List.nodup_nil, (fun t h => by simp at h), by simp; exact Nat.pow_pos (by decide)⟩
theorem nb_nil (m x : Nat) : nb m [] x = chi m x := if_neg (by simp)
theorem Drawn.mend (D : Drawn n m T) {x : Nat} (hx : x < 2 ^ n) : mbt n (nb m T) x = ((nb m [] x : Nat) : Int) := by
  rw [nb_nil]
  exact mb_eq D.m64 hx D.nd D.le D.few
theorem Drawn.unl (D : Drawn n m T) : sg (fun x => df (nb m T x) (nb m [] x)) (2 ^ n) = (T.length : Int) := unl_eq D.nd D.le
theorem Drawn.one (D : Drawn n m T) : One n (nb m T) m (T.length : Int) := ⟨D.wd, D.lt, cnt_m D.wd D.lt D.nd D.le, fun x hx ne => cnt_gt D.wd D.lt hx D.nd D.le D.few ne⟩
theorem Drawn.few16 (D : Drawn n m T) : T.length < 16 := by
  have h1 := D.few
  have h2 := pow64 D.wd
  omega
theorem Drawn.marg (D : Drawn n m T) {x : Nat} (hx : x < 2 ^ n) : ((2 ^ n : Nat) : Int) - 4 * (T.length : Int) ≤ (((2 ^ n : Nat) : Int) - vt n (nb m T) x - vt n (nb m T) x) * (1 - 2 * ((nb m [] x : Nat) : Int)) := by
  rw [nb_nil]
  exact marg_ge D.m64 hx D.nd D.le
end
theorem same_but {H0 H1 H2 : Hp} {l : Addr} (s : Same H0 H1) (hl : H0 l = none) (b : But l H1 H2) : Same H0 H2 := fun c o e => b _ _ (s _ _ e) (ne_of_none e hl)
section
variable {P : Program} {w : World} {K : PySem.W.Frag} {mg : Str → Option Value} {base : Heap} {k : Nat} {C : Addr}
def spGood (C : Addr) : Sp := fun vs H Q _ => ∃ (t p n m : Nat) (T : List Nat), vs = [.int (n : Int), .ref t, .ref p] ∧ Drawn n m T ∧ HeldAt H t n m T ∧ TabAt C H p n (bt n (nb m T)) ∧ ∀ H', Same H H' → Q (.bl true) H'
theorem sc_good : FnScope ["_law_wide_here", "_law_held", "_law_one", "_law_size_here", "_law_repaired", "_law_told", "_law_due", "_law_x", "_law_votes_here", "_law_row"] ["_law_wide_here", "_law_held", "_law_one"] (defScope s_law_good) := ⟨rfl, rfl, rfl, by decide +kernel, rfl, by decide +kernel, by decide +kernel⟩
/-- what the law's check of one table calls -/
structure Callees (P : Program) (w : World) (K : PySem.W.Frag) (mg : Str → Option Value) (base : Heap) (C : Addr) (k : Nat) : Prop where
  men : Fc P w K mg base k "mended" ["table"] (spMen C)
  ist : Fc P w K mg base k "_law_is_table" ["_law_given", "_law_wide_here", "_law_due"] (spIsT C)
  same : Fc P w K mg base k "_law_same" ["_law_told", "_law_due"] (spSame 2)
  unl : Fc P w K mg base k "unlike" ["first", "second"] (spUnl C)
  nea : Fc P w K mg base k "nearest" ["table"] (spNea C)
  un : Fc P w K mg base k "unique_nearest" ["table"] (spUN C)
  sd : Fc P w K mg base k "sum_distance" ["table"] (spSD C)
  llow : Fc P w K mg base k "_law_lowest" ["_law_top", "_law_low"] spLLow
  vot : Fc P w K mg base k "_law_votes" ["_law_mine", "_law_here"] spVot
  mar : Fc P w K mg base k "margins" ["table"] (spMar C)
  mark : Fk P w K mg base k "margins" ["table"] (spMar C)
  menk : Fk P w K mg base k "mended" ["table"] (spMen C)
  sp1 : Fc P w K mg base k "_law_spoil" ["_law_given"] spS1
  sp2 : Fc P w K mg base k "_law_spoil" ["_law_given"] spS2
theorem c_good (D : Df K mg "_law_good" "_law_good" s_law_good) (Z : Fre mg) (L : Callees P w K mg base C k) : Fc P w K mg base (k + 1) "_law_good" ["_law_wide_here", "_law_held", "_law_one"] (spGood C) := by
  refine D.fc sc_good (fun _ _ _ _ _ _ us hl => match us, hl with | [_, _, _], _ => rfl) (fun vs H Q E h => ?_) (fun _ cdv A outer st H vs Q E hr h => ?_)
  · obtain ⟨t, p, n, m, T, rfl, _⟩ := h
    rfl
  · obtain ⟨t, p, n, m, T, rfl, W, hH, hT, q⟩ := h
    have hn := W.wd
    have h64 := pow64 hn
    have hp : 0 < 2 ^ n := Nat.pow_pos (by decide)
    obtain ⟨da, mi, ht, hda, hmi⟩ := _root_.id hH
    have l0 : (bt n (nb m [])).length ≤ 64 := by unfold bt; rw [tab_len]; exact h64
    have lT : (bt n (nb m T)).length ≤ 64 := by unfold bt; rw [tab_len]; exact h64
    refine ⟨_, pss_cons (ps_set (i := 3) sc_good.nd rfl (.inl rfl) (pe_op op_shl1 pe_int (pv 0)))
      (pss_cons (ps_set (i := 4) sc_good.nd rfl (.inl rfl) (pe_fc L.men hr (by rfl) (pa_cons (pv 2) pa_nil)))
      (pss_cons (ps_if (PW.pt (pw_or (pt_not (pt_val (pe_fc L.ist hr (by rfl) (pa_cons (pv 4) (pa_cons (pv 0) (pa_cons (pe_ix ix_tupN (pv 1) pe_int (fun _ _ => rfl)) pa_nil))))))
          (pw_or1 (pt_not (pt_val (pe_fc L.same hr (by rfl) (pa_cons (pe_fc L.unl hr (by rfl) (pa_cons (pv 2) (pa_cons (pv 4) pa_nil))) (pa_cons (pe_ix ix_tupN (pv 1) pe_int (fun _ _ => rfl)) pa_nil)))))))) pss_never pss_nil)
      (pss_cons (ps_set (i := 5) sc_good.nd rfl (.inl rfl) (pe_fc L.nea hr (by rfl) (pa_cons (pv 2) pa_nil)))
      (pss_cons (ps_if (PW.pt (pw_or (pt_not (pt_val (pe_fc L.same hr (by rfl) (pa_cons (pv 5) (pa_cons (pe_tup (pa_cons (pe_ix ix_tupN (pv 1) pe_int (fun _ _ => rfl)) (pa_cons (pe_lst (pa_cons (pe_ix ix_tupN (pv 1) pe_int (fun _ _ => rfl)) pa_nil)) pa_nil))) pa_nil)))))
          (pw_or1 (pt_not (pt_val (pe_fc L.same hr (by rfl) (pa_cons (pe_fc L.un hr (by rfl) (pa_cons (pv 2) pa_nil)) (pa_cons (pe_ix ix_tupN (pv 1) pe_int (fun _ _ => rfl)) pa_nil)))))))) pss_never pss_nil)
      (pss_cons (ps_if (pt_not (pt_val (pe_fc L.same hr (by rfl) (pa_cons (pe_fc L.sd hr (by rfl) (pa_cons (pv 2) pa_nil)) (pa_cons (pe_fc L.llow hr (by rfl) (pa_cons (pe_ix ix_tupN (pv 1) pe_int (fun _ _ => rfl)) (pa_cons (pv 3) pa_nil))) pa_nil))))) pss_never pss_nil)
      (pss_cons (ps_set (i := 6) sc_good.nd rfl (.inl rfl) (pe_lst pa_nil))
      (pss_cons (ps_for PassesOwn.never rfl (pi_range1 (by rfl) Z.z_range (pa_cons (pv 3) pa_nil)) (pg_name (i := 7) sc_good.nd rfl (.inl rfl))
        (pss_cons (ps_set (i := 8) sc_good.nd rfl (.inl rfl) (pe_fc L.vot hr (by rfl) (pa_cons (pe_ix ix_tupN (pv 1) pe_int (fun _ _ => rfl)) (pa_cons (pv 7) pa_nil))))
          (pss_one (ps_expr (pe_bm PySem.F.plainAttrs_list PySem.F.slot_list_append PySem.F.type_list_append mt_append (pv 6) (pa_cons (pe_op op_subZ (pe_ix ix_tupN (pv 8) pe_int (fun _ _ => rfl)) (pe_ix ix_tupN (pv 8) pe_int (fun _ _ => rfl))) pa_nil))))))
      (pss_cons (ps_set (i := 9) sc_good.nd rfl (.inl rfl) (pe_fc L.mar hr (by rfl) (pa_cons (pv 2) pa_nil)))
      (pss_cons (ps_if (pt_not (pt_val (pe_fc L.same hr (by rfl) (pa_cons (pv 9) (pa_cons (pv 6) pa_nil))))) pss_never pss_nil)
      (pss_cons (ps_for PassesOwn.never rfl (pi_range1 (by rfl) Z.z_range (pa_cons (pv 3) pa_nil)) (pg_name (i := 7) sc_good.nd rfl (.inl rfl))
        (pss_one (ps_if (pt_cmpR op_ltZ (pe_op op_mulZ (pe_ix ix_listN (pv 9) (pv 7) (fun _ _ => rfl)) (pe_op op_subZ pe_int (pe_op op_mulZ pe_int (pe_ix ix_listN (pe_ix ix_tupN (pv 1) pe_int (fun _ _ => rfl)) (pv 7) (fun _ _ => rfl)))))
          (pe_op op_subZ (pv 3) (pe_op op_mulZ pe_int (pe_ix ix_tupN (pv 1) pe_int (fun _ _ => rfl)))) (nomark _)) pss_never pss_nil)))
      (pss_cons (ps_expr (pe_fc L.sp2 hr (by rfl) (pa_cons (pv 5) pa_nil)))
      (pss_cons (ps_expr (pe_fc L.sp1 hr (by rfl) (pa_cons (pv 9) pa_nil)))
      (pss_cons (ps_if (pt_not (pt_val (pe_fc L.same hr (by rfl) (pa_cons (pe_fk L.mark hr (by rfl) (pk_cons (pv 2) pk_nil)) (pa_cons (pv 6) pa_nil))))) pss_never pss_nil)
      (pss_cons (ps_if (pt_not (pt_val (pe_fc L.ist hr (by rfl) (pa_cons (pe_fc L.men hr (by rfl) (pa_cons (pv 4) pa_nil)) (pa_cons (pv 0) (pa_cons (pe_ix ix_tupN (pv 1) pe_int (fun _ _ => rfl)) pa_nil)))))) pss_never pss_nil)
      (pss_one (ps_ret (pe_and (pe_fc L.ist hr (by rfl) (pa_cons (pv 4) (pa_cons (pv 0) (pa_cons (pe_ix ix_tupN (pv 1) pe_int (fun _ _ => rfl)) pa_nil))))
        (pe_one (pe_fc L.ist hr (by rfl) (pa_cons (pv 2) (pa_cons (pv 0) (pa_cons (pe_ix ix_tupN (pv 1) pe_int (fun _ _ => rfl)) pa_nil)))))))))))))))))))))), ?_⟩
    -- size; mended
    refine ⟨_, rfl, n, rfl, rfl, hn, ?_⟩
    refine ⟨_, rfl, p, n, nb m T, nb m [], rfl, hT, nb_lt m T, nb_lt m [], hn, fun x hx => W.mend hx, fun H1 rp s1 hrp T1 => ?_⟩
    -- is_table(repaired); unlike
    refine ⟨_, rfl, _, rfl, _, rfl, t, _, 2, _, rfl, rfl, SqT.of (s1 _ _ ht), rfl, rp, da, n, bt n (nb m []), rfl, T1, s1 _ _ hda, l0, fun H2 s2 => ⟨true, rfl, iteF ?_⟩⟩
    have S2 : Same H H2 := s1.trans s2
    have T2 := T1.same s2
    refine ⟨_, rfl, _, rfl, p, rp, n, nb m T, nb m [], rfl, hT.same S2, T2, nb_lt m T, nb_lt m [], hn, fun H3 s3 => ?_⟩
    have S3 : Same H H3 := S2.trans s3
    have T3 := T2.same s3
    refine ⟨_, rfl, t, _, 1, _, rfl, rfl, SqT.of (S3 _ _ ht), rfl, _, _, rfl, (by rw [W.unl]; exact EqD.int _), true, rfl, iteF ?_⟩
    -- nearest
    refine ⟨_, rfl, p, n, nb m T, m, _, rfl, hT.same S3, W.one, fun H4 l tt s4 hl htt ntl e4l e4t => ?_⟩
    have S4 : Same H H4 := S3.trans s4
    refine ⟨_, rfl, _, rfl, t, _, 1, _, rfl, rfl, SqT.of (S4 _ _ ht), rfl, _, rfl, t, _, 0, _, rfl, rfl, SqT.of (S4 _ _ ht), rfl, by show 1 ≤ sizeLine; decide, fun d1 hd1 => ⟨by show 2 ≤ sizeLine; decide, fun d2 hd2 => ?_⟩⟩
    have s5 : Same H4 (upd (upd H4 d1 (.lst [.int (m : Int)])) d2 (.tup [.int (T.length : Int), .ref d1])) := (same_upd hd1).trans (same_upd hd2)
    have e5d1 : (upd (upd H4 d1 (.lst [.int (m : Int)])) d2 (.tup [.int (T.length : Int), .ref d1])) d1 = some (.lst [.int (m : Int)]) := same_upd hd2 _ _ upd_same
    have e5d2 : (upd (upd H4 d1 (.lst [.int (m : Int)])) d2 (.tup [.int (T.length : Int), .ref d1])) d2 = some (.tup [.int (T.length : Int), .ref d1]) := upd_same
    generalize upd (upd H4 d1 (.lst [.int (m : Int)])) d2 (.tup [.int (T.length : Int), .ref d1]) = H5 at s5 e5d1 e5d2
    have S5 : Same H H5 := S4.trans s5
    have e5l := s5 _ _ e4l
    have e5t := s5 _ _ e4t
    refine ⟨_, _, rfl, ?_, true, rfl, iteF ?_⟩
    · refine .inr ⟨tt, d2, _, _, rfl, rfl, .inr ⟨e5t, e5d2⟩, rfl, by show 2 ≤ 64; decide, fun i x y hx hy => ?_⟩
      match i, hx, hy with
      | 0, hx, hy =>
        have ex : V.int (T.length : Int) = x := Option.some.inj hx
        have ey : V.int (T.length : Int) = y := Option.some.inj hy
        subst ex ey
        exact EqD.int _
      | 1, hx, hy =>
        have ex : V.ref l = x := Option.some.inj hx
        have ey : V.ref d1 = y := Option.some.inj hy
        subst ex ey
        exact .inr ⟨l, d1, _, _, rfl, rfl, .inl ⟨e5l, e5d1⟩, rfl, by show 1 ≤ 64; decide, ints_items [(m : Int)]⟩
      | i + 2, hx, _ => simp at hx
    -- unique_nearest
    have h4 : 4 * (T.length : Int) < ((2 ^ n : Nat) : Int) := by
      have := W.few
      omega
    refine ⟨_, rfl, p, n, nb m T, m, _, rfl, hT.same S5, W.one, h4, fun H6 s6 => ?_⟩
    have S6 : Same H H6 := S5.trans s6
    refine ⟨_, rfl, t, _, 0, _, rfl, rfl, SqT.of (S6 _ _ ht), rfl, _, _, rfl, EqD.int _, true, rfl, iteF ?_⟩
    -- sum_distance
    refine ⟨_, rfl, p, n, nb m T, m, T.length, rfl, hT.same S6, W.one, fun H7 u7 s7 hu7 e7 => ?_⟩
    have S7 : Same H H7 := S6.trans s7
    refine ⟨_, rfl, t, _, 1, _, rfl, rfl, SqT.of (S7 _ _ ht), rfl, _, rfl, T.length, n, rfl, W.few16, hn, fun H8 u8 s8 hu8 e8 => ?_⟩
    have S8 : Same H H8 := S7.trans s8
    refine ⟨_, _, rfl, .inr ⟨u7, u8, _, _, rfl, rfl, .inr ⟨s8 _ _ e7, e8⟩, rfl, by show 2 ≤ 64; decide, ?_⟩, true, rfl, iteF ?_⟩
    · exact ints_items [((T.length / Nat.gcd T.length (2 ^ n) : Nat) : Int), ((2 ^ n / Nat.gcd T.length (2 ^ n) : Nat) : Int)]
    -- the law's margins
    refine ⟨Nat.zero_le _, fun du hdu => ?_⟩
    have s48 : Same H4 H8 := ((s5.trans s6).trans s7).trans s8
    have S38 : Same H3 H8 := s4.trans s48
    have e8l := s48 _ _ e4l
    have e8t := s48 _ _ e4t
    have ndl : du ≠ l := (ne_of_none e8l hdu).symm
    refine ⟨_, rfl, ((2 ^ n : Nat) : Int), rfl, (lo62 h64).1, (lo62 h64).2, ?_⟩
    refine for_nat (n := 2 ^ n) (fun i σ H9 => ∃ v7 v8 : Option V, σ = [some (.int (n : Int)), some (.ref t), some (.ref p), some (.int ((2 ^ n : Nat) : Int)), some (.ref rp), some (.ref tt), some (.ref du), v7, v8, none] ∧ Same H8 H9 ∧ H9 du = some (.lst ((tab i fun x => ((2 ^ n : Nat) : Int) - vt n (nb m T) x - vt n (nb m T) x).map V.int)))
      ⟨none, none, rfl, same_upd hdu, upd_same⟩ ?_ ?_
    · rintro i σ H9 hi ⟨v7, v8, rfl, s9, e9⟩
      refine ⟨_, rfl, t, _, 3, _, rfl, rfl, SqT.of (s9 _ _ (S8 _ _ ht)), rfl, _, rfl, mi, n, i, nb m T, rfl, s9 _ _ (S8 _ _ hmi), hn, hi, fun H10 vv s10 hvv e10 => ?_⟩
      have e10d := s10 _ _ e9
      refine ⟨_, rfl, .inl ⟨rfl, _, SqL.of e10d⟩, _, rfl, vv, _, 0, _, rfl, rfl, SqT.of e10, rfl, _, rfl, vv, _, 1, _, rfl, rfl, SqT.of e10, rfl, _, _, _, rfl, rfl, rfl, du, _, _, rfl, rfl, e10d, by rw [tab_lenV]; exact sz (by omega), ?_⟩
      exact ⟨_, _, rfl, same_set (s9.trans s10) hdu, by rw [upd_same, tab_snoc rfl]⟩
    rintro σ H9 ⟨v7, v8, rfl, s9, e9⟩
    have S9 : Same H H9 := S8.trans s9
    -- margins
    refine ⟨_, rfl, p, n, nb m T, rfl, hT.same S9, nb_lt m T, hn, fun H10 r s10 hr10 e10 => ?_⟩
    have S10 : Same H H10 := S9.trans s10
    have e10d := s10 _ _ e9
    have e10l := s10 _ _ (s9 _ _ e8l)
    have e10t := s10 _ _ (s9 _ _ e8t)
    refine ⟨_, rfl, _, rfl, _, _, rfl, .inr ⟨r, du, _, _, rfl, rfl, .inl ⟨e10, e10d⟩, rfl, by rw [tab_lenV]; exact h64, ints_items _⟩, true, rfl, iteF ?_⟩
    -- the margins' bound
    refine ⟨_, rfl, ((2 ^ n : Nat) : Int), rfl, (lo62 h64).1, (lo62 h64).2, ?_⟩
    refine for_nat (n := 2 ^ n) (fun i σ H11 => ∃ v7 v8 : Option V, σ = [some (.int (n : Int)), some (.ref t), some (.ref p), some (.int ((2 ^ n : Nat) : Int)), some (.ref rp), some (.ref tt), some (.ref du), v7, v8, some (.ref r)] ∧ H11 = H10) ⟨_, _, rfl, rfl⟩ ?_ ?_
    · rintro i σ H11 hi ⟨v7, v8, rfl, rfl⟩
      have hb1 := nb_lt m [] i
      refine ⟨_, rfl, _, rfl, r, _, i, _, rfl, rfl, SqL.of e10, tab_getV _ hi, ?_⟩
      refine ⟨_, rfl, t, _, 2, _, rfl, rfl, SqT.of (S10 _ _ ht), rfl, _, rfl, da, _, i, _, rfl, rfl, SqL.of (S10 _ _ hda), bt_get hi, _, _, _, rfl, rfl, .inl ⟨by decide, by decide⟩, rfl, _, _, (1 - 2 * ((nb m [] i : Nat) : Int)), rfl, rfl, rfl, ?_⟩
      refine ⟨_, _, _, rfl, rfl, .inr ⟨by omega, by omega⟩, rfl, ?_⟩
      refine ⟨_, rfl, _, rfl, t, _, 1, _, rfl, rfl, SqT.of (S10 _ _ ht), rfl, _, _, _, rfl, rfl, .inl ⟨by decide, by decide⟩, rfl, _, _, _, rfl, rfl, rfl, ?_⟩
      refine ⟨_, _, false, rfl, rfl, decide_eq_false (Int.not_lt.mpr (W.marg hi)), _, rfl, iteF ?_⟩
      exact ⟨_, _, rfl, rfl⟩
    rintro σ H11 ⟨v7, v8, rfl, rfl⟩
    -- spoilt
    refine ⟨_, rfl, tt, l, _, [(m : Int)], rfl, e10t, e10l, by show 1 ≤ 64; decide, fun H12 b12 => ?_⟩
    have S12 : Same H3 H12 := same_but ((S38.trans s9).trans s10) hl b12
    have nrl : r ≠ l := (ne_of_none (s9 _ _ e8l) hr10).symm
    have ndr : du ≠ r := ne_of_none e9 hr10
    have e12r := b12 _ _ e10 nrl
    have e12d := b12 _ _ e10d ndl
    refine ⟨_, rfl, .inr ⟨r, _, rfl, e12r, by rw [tab_len]; exact h64, fun H13 b13 => ?_⟩⟩
    have hr3 : H3 r = none := S38.free (s9.free hr10)
    have S13 : Same H3 H13 := same_but S12 hr3 b13
    have e13d := b13 _ _ e12d ndr
    have SH : Same H H13 := S3.trans S13
    have TR : TabAt C H13 rp n (bt n (nb m [])) := T3.same S13
    clear b12 b13 S12 e12r e12d e10 e10d e10l e10t s10 hr10 e9 s9 e8l e8t
    -- margins again
    refine ⟨_, rfl, rfl, p, n, nb m T, rfl, hT.same SH, nb_lt m T, hn, fun H14 r2 s14 hr14 e14 => ?_⟩
    have SH14 : Same H H14 := SH.trans s14
    refine ⟨_, rfl, _, _, rfl, .inr ⟨r2, du, _, _, rfl, rfl, .inl ⟨e14, s14 _ _ e13d⟩, rfl, by rw [tab_lenV]; exact h64, ints_items _⟩, true, rfl, iteF ?_⟩
    -- mended twice
    refine ⟨_, rfl, rp, n, nb m [], nb m [], rfl, TR.same s14, nb_lt m [], nb_lt m [], hn, fun x hx => W.nil.mend hx, fun H15 r3 s15 hr15 T15 => ?_⟩
    have SH15 : Same H H15 := SH14.trans s15
    refine ⟨_, rfl, _, rfl, t, _, 2, _, rfl, rfl, SqT.of (SH15 _ _ ht), rfl, r3, da, n, bt n (nb m []), rfl, T15, SH15 _ _ hda, l0, fun H16 s16 => ⟨true, rfl, iteF ?_⟩⟩
    have SH16 : Same H H16 := SH15.trans s16
    refine ⟨_, rfl, _, rfl, _, rfl, t, _, 2, _, rfl, rfl, SqT.of (SH16 _ _ ht), rfl, rp, da, n, bt n (nb m []), rfl, (TR.same s14).same (s15.trans s16), SH16 _ _ hda, l0, fun H17 s17 => ⟨true, rfl, iteT ?_⟩⟩
    have SH17 : Same H H17 := SH16.trans s17
    exact ⟨_, rfl, _, rfl, _, rfl, t, _, 3, _, rfl, rfl, SqT.of (SH17 _ _ ht), rfl, p, mi, n, bt n (nb m T), rfl, hT.same SH17, SH17 _ _ hmi, lT, fun H18 s18 => q _ (SH17.trans s18)⟩
end
end K46
set_option Elab.async false
set_option linter.all false
set_option maxRecDepth 100000
set_option maxHeartbeats 8000000
namespace K46
open PySem PySem.Spec PyProof.Rows L2
section
variable {P : Program} {w : World} {K : PySem.W.Frag} {mg : Str → Option Value} {base : Heap} {k : Nat} {C : Addr}
def spLaw (K : PySem.W.Frag) : Sp := fun vs H Q _ => ∃ (a : Addr) (ns : List Int), vs = [.ref a] ∧ SqL K H a (ns.map V.int) ∧ ∀ H', Q (.bl true) H'
theorem sc_law : FnScope ["_law_script", "_law_store_here", "_law_wide_here", "_law_held", "_law_other", "_law_one", "_law_two"] ["_law_script"] (defScope s_law) := ⟨rfl, rfl, rfl, by decide +kernel, rfl, by decide +kernel, by decide +kernel⟩
/-- a new Table leaves all that was tracked as it was -/
theorem same_made {H H3 : Hp} {x dx C : Addr} (nx : H x = none) (ndx : H dx = none) (b3 : But x (upd (upd H dx (.own x)) x (.ins C dx [])) H3) : Same H H3 := fun b o e =>
  b3 b o (by rw [upd_ne (ne_of_none e nx), upd_ne (ne_of_none e ndx)]; exact e) (ne_of_none e nx)
theorem c_law (D : Df K mg "law" "law" s_law) (T : Txt K mg C) (Z : Fre mg) (M : MkT P w K mg base C k) (FS : Fc P w K mg base (k + 1) "_law_store" ["_law_script"] (spSto K)) (FW : Fc P w K mg base (k + 1) "_law_width" ["_law_store_here", "_law_least", "_law_most"] spWd)
    (FN : Fc P w K mg base (k + 1) "_law_near_sum" ["_law_store_here", "_law_wide_here"] spNS) (FG : Fc P w K mg base (k + 1) "_law_good" ["_law_wide_here", "_law_held", "_law_one"] (spGood C)) (L : Callees P w K mg base C (k + 1)) :
    Fc P w K mg base (k + 2) "law" ["_law_script"] (spLaw K) := by
  obtain ⟨fm, fdm, Mk1, bm, GM⟩ := M.ex
  refine D.fc sc_law (fun _ _ _ _ _ _ us hl => match us, hl with | [_], _ => rfl) (fun vs H Q E h => ?_) (fun _ cdv A outer st H vs Q E hr h => ?_)
  · obtain ⟨a, ns, rfl, _⟩ := h
    rfl
  · obtain ⟨a, ns, rfl, hS, q⟩ := h
    refine ⟨_, pss_cons (ps_set (i := 1) sc_law.nd rfl (.inl rfl) (pe_fc FS hr (by rfl) (pa_cons (pv 0) pa_nil)))
      (pss_cons (ps_set (i := 2) sc_law.nd rfl (.inl rfl) (pe_fc FW hr (by rfl) (pa_cons (pv 1) (pa_cons pe_int (pa_cons pe_int pa_nil)))))
      (pss_cons (ps_set (i := 3) sc_law.nd rfl (.inl rfl) (pe_fc FN hr (by rfl) (pa_cons (pv 1) (pa_cons (pv 2) pa_nil))))
      (pss_cons (ps_set (i := 4) sc_law.nd rfl (.inl rfl) (pe_fc FN hr (by rfl) (pa_cons (pv 1) (pa_cons (pv 2) pa_nil))))
      (pss_cons (ps_set (i := 5) sc_law.nd rfl (.inl rfl) (pe_make Mk1 GM hr (by rfl) T.mgC bm .nil pass0 (pa_cons (pv 2) (pa_cons (pe_callTy call_list_of (by rfl) Z.z_list boot_list (pa_cons (pe_ix ix_tupN (pv 3) pe_int (fun _ _ => rfl)) pa_nil)) pa_nil))))
      (pss_cons (ps_set (i := 6) sc_law.nd rfl (.inl rfl) (pe_make Mk1 GM hr (by rfl) T.mgC bm .nil pass0 (pa_cons (pv 2) (pa_cons (pe_callTy call_list_of (by rfl) Z.z_list boot_list (pa_cons (pe_ix ix_tupN (pv 4) pe_int (fun _ _ => rfl)) pa_nil)) pa_nil))))
      (pss_cons (ps_if (PW.pt (pw_or (pt_not (pt_val (pe_fc FG hr (by rfl) (pa_cons (pv 2) (pa_cons (pv 3) (pa_cons (pv 5) pa_nil)))))) (pw_or1 (pt_not (pt_val (pe_fc FG hr (by rfl) (pa_cons (pv 2) (pa_cons (pv 4) (pa_cons (pv 6) pa_nil))))))))) pss_never pss_nil)
      (pss_cons (ps_if (pt_not (pt_val (pe_fc L.ist hr (by rfl) (pa_cons (pe_fk L.menk hr (by rfl) (pk_cons (pv 5) pk_nil)) (pa_cons (pv 2) (pa_cons (pe_ix ix_tupN (pv 3) pe_int (fun _ _ => rfl)) pa_nil)))))) pss_never pss_nil)
      (pss_one (ps_ret (pe_and (pe_fc L.same hr (by rfl) (pa_cons (pe_fc L.nea hr (by rfl) (pa_cons (pv 5) pa_nil)) (pa_cons (pe_tup (pa_cons (pe_ix ix_tupN (pv 3) pe_int (fun _ _ => rfl)) (pa_cons (pe_lst (pa_cons (pe_ix ix_tupN (pv 3) pe_int (fun _ _ => rfl)) pa_nil)) pa_nil))) pa_nil)))
        (pe_one (pe_fc L.ist hr (by rfl) (pa_cons (pv 6) (pa_cons (pv 2) (pa_cons (pe_ix ix_tupN (pv 4) pe_int (fun _ _ => rfl)) pa_nil))))))))))))))), ?_⟩
    -- the draws
    refine ⟨_, rfl, a, ns, rfl, hS, fun H1 s c s1 hs S1 => ?_⟩
    refine ⟨_, rfl, s, c, rfl, S1, fun H2 n hn S2 b2 => ?_⟩
    refine ⟨_, rfl, _, rfl, s, c, n, rfl, hn, S2, fun H3 t m U b3 S3 W hH3 => ?_⟩
    refine ⟨_, rfl, _, rfl, s, c, n, rfl, hn, S3, fun H4 t' m' U' b4 S4 W' hH4' => ?_⟩
    have hH4 : HeldAt H4 t n m U := hH3.but S3 b4
    clear hH3 S1 S2 S3 S4 b2 b3 b4 s1
    have hp : 0 < 2 ^ n := Nat.pow_pos (by decide)
    have h64 := pow64 hn
    have l0 : ∀ (m : Nat) (T : List Nat), (bt n (nb m T)).length ≤ 64 := fun m T => by unfold bt; rw [tab_len]; exact h64
    obtain ⟨da, mi, ht, hda, hmi⟩ := _root_.id hH4
    obtain ⟨da', mi', ht', hda', hmi'⟩ := _root_.id hH4'
    -- one = Table(..)
    refine ⟨_, rfl, _, rfl, t, _, 3, _, rfl, rfl, SqT.of ht, rfl, mi, _, rfl, .inl (SqL.of hmi), fun l1 hl1 => ?_⟩
    have s5 : Same H4 (upd H4 l1 (.lst ((bt n (nb m U)).map V.int))) := same_upd hl1
    have e5 : (upd H4 l1 (.lst ((bt n (nb m U)).map V.int))) l1 = some (.lst ((bt n (nb m U)).map V.int)) := upd_same
    generalize upd H4 l1 (.lst ((bt n (nb m U)).map V.int)) = H5 at s5 e5
    intro x dx nx ndx nex
    refine ⟨x, dx, l1, n, bt n (nb m U), rfl, upd_same, ?_, bt_bits hn (nb_lt m U), fun H6 t6 b6 => ⟨rfl, ?_⟩⟩
    · rw [upd_ne (ne_of_none e5 nx), upd_ne (ne_of_none e5 ndx)]
      exact e5
    have s46 : Same H4 H6 := s5.trans (same_made nx ndx b6)
    clear b6 nx ndx nex
    -- two = Table(..)
    refine ⟨_, rfl, _, rfl, t', _, 3, _, rfl, rfl, SqT.of (s46 _ _ ht'), rfl, mi', _, rfl, .inl (SqL.of (s46 _ _ hmi')), fun l2 hl2 => ?_⟩
    have s7 : Same H6 (upd H6 l2 (.lst ((bt n (nb m' U')).map V.int))) := same_upd hl2
    have e7 : (upd H6 l2 (.lst ((bt n (nb m' U')).map V.int))) l2 = some (.lst ((bt n (nb m' U')).map V.int)) := upd_same
    generalize upd H6 l2 (.lst ((bt n (nb m' U')).map V.int)) = H7 at s7 e7
    intro y dy ny ndy ney
    refine ⟨y, dy, l2, n, bt n (nb m' U'), rfl, upd_same, ?_, bt_bits hn (nb_lt m' U'), fun H8 t8 b8 => ⟨rfl, ?_⟩⟩
    · rw [upd_ne (ne_of_none e7 ny), upd_ne (ne_of_none e7 ndy)]
      exact e7
    have s68 : Same H6 H8 := s7.trans (same_made ny ndy b8)
    have s48 : Same H4 H8 := s46.trans s68
    have TA := t6.same s68
    clear b8 ny ndy ney
    -- both are good
    refine ⟨_, rfl, _, rfl, _, rfl, t, x, n, m, U, rfl, W, hH4.same s48, TA, fun H9 s9 => ⟨true, rfl, iteF ?_⟩⟩
    refine ⟨_, rfl, _, rfl, _, rfl, t', y, n, m', U', rfl, W', (hH4'.same s48).same s9, t8.same s9, fun H10 s10 => ⟨true, rfl, iteF ?_⟩⟩
    have s4a : Same H4 H10 := (s48.trans s9).trans s10
    have TA10 := (TA.same s9).same s10
    have TB10 := (t8.same s9).same s10
    -- mended again
    refine ⟨_, rfl, rfl, x, n, nb m U, nb m [], rfl, TA10, nb_lt m U, nb_lt m [], hn, fun z hz => W.mend hz, fun H11 r s11 hr11 T11 => ?_⟩
    have s4b : Same H4 H11 := s4a.trans s11
    refine ⟨_, rfl, _, rfl, t, _, 2, _, rfl, rfl, SqT.of (s4b _ _ ht), rfl, r, da, n, bt n (nb m []), rfl, T11, s4b _ _ hda, l0 _ _, fun H12 s12 => ⟨true, rfl, iteF ?_⟩⟩
    have s4c : Same H4 H12 := s4b.trans s12
    -- nearest again
    refine ⟨_, rfl, x, n, nb m U, m, _, rfl, (TA10.same s11).same s12, W.one, fun H13 l tt s13 hl htt ntl e13l e13t => ?_⟩
    have s4d : Same H4 H13 := s4c.trans s13
    refine ⟨_, rfl, t, _, 1, _, rfl, rfl, SqT.of (s4d _ _ ht), rfl, _, rfl, t, _, 0, _, rfl, rfl, SqT.of (s4d _ _ ht), rfl, by show 1 ≤ sizeLine; decide, fun d1 hd1 => ⟨by show 2 ≤ sizeLine; decide, fun d2 hd2 => ?_⟩⟩
    have s14 : Same H13 (upd (upd H13 d1 (.lst [.int (m : Int)])) d2 (.tup [.int (U.length : Int), .ref d1])) := (same_upd hd1).trans (same_upd hd2)
    have e14d1 : (upd (upd H13 d1 (.lst [.int (m : Int)])) d2 (.tup [.int (U.length : Int), .ref d1])) d1 = some (.lst [.int (m : Int)]) := same_upd hd2 _ _ upd_same
    have e14d2 : (upd (upd H13 d1 (.lst [.int (m : Int)])) d2 (.tup [.int (U.length : Int), .ref d1])) d2 = some (.tup [.int (U.length : Int), .ref d1]) := upd_same
    generalize upd (upd H13 d1 (.lst [.int (m : Int)])) d2 (.tup [.int (U.length : Int), .ref d1]) = H14 at s14 e14d1 e14d2
    refine ⟨_, _, rfl, ?_, true, rfl, iteT ?_⟩
    · refine .inr ⟨tt, d2, _, _, rfl, rfl, .inr ⟨s14 _ _ e13t, e14d2⟩, rfl, by show 2 ≤ 64; decide, fun i u v hu hv => ?_⟩
      match i, hu, hv with
      | 0, hu, hv =>
        have eu : V.int (U.length : Int) = u := Option.some.inj hu
        have ev : V.int (U.length : Int) = v := Option.some.inj hv
        subst eu ev
        exact EqD.int _
      | 1, hu, hv =>
        have eu : V.ref l = u := Option.some.inj hu
        have ev : V.ref d1 = v := Option.some.inj hv
        subst eu ev
        exact .inr ⟨l, d1, _, _, rfl, rfl, .inl ⟨s14 _ _ e13l, e14d1⟩, rfl, by show 1 ≤ 64; decide, ints_items [(m : Int)]⟩
      | i + 2, hu, _ => simp at hu
    have s4e : Same H4 H14 := s4d.trans s14
    exact ⟨_, rfl, _, rfl, _, rfl, t', _, 3, _, rfl, rfl, SqT.of (s4e _ _ ht'), rfl, y, mi', n, bt n (nb m' U'), rfl, (((TB10.same s11).same s12).same s13).same s14, s4e _ _ hmi', l0 _ _, fun H15 _ => q H15⟩
end
end K46
set_option Elab.async false
set_option linter.all false
set_option maxRecDepth 100000
set_option maxHeartbeats 0
namespace K46
open PySem PySem.Spec PyProof.Rows L2
/-! ### the head: facts by names, the run -/
def d_check_integer_ratios : He.DefD := ⟨("check_integer_ratios", none), "check_integer", "check_integer", defArgs s_check_integer_ratios, defBody s_check_integer_ratios, defScope s_check_integer_ratios, [], []⟩
def d_common_divisor : He.DefD := ⟨("common_divisor", none), "common_divisor", "common_divisor", defArgs s_common_divisor, defBody s_common_divisor, defScope s_common_divisor, [], []⟩
def d_lowest : He.DefD := ⟨("lowest", none), "lowest", "lowest", defArgs s_lowest, defBody s_lowest, defScope s_lowest, [], []⟩
def d_ratio : He.DefD := ⟨("ratio", none), "ratio", "ratio", defArgs s_ratio, defBody s_ratio, defScope s_ratio, [], []⟩
def d_check_integer_tables : He.DefD := ⟨("check_integer_tables", none), "check_integer", "check_integer", defArgs s_check_integer_tables, defBody s_check_integer_tables, defScope s_check_integer_tables, [], []⟩
def d_check_between : He.DefD := ⟨("check_between", none), "check_between", "check_between", defArgs s_check_between, defBody s_check_between, defScope s_check_between, [], []⟩
def d_check_width : He.DefD := ⟨("check_width", none), "check_width", "check_width", defArgs s_check_width, defBody s_check_width, defScope s_check_width, [], []⟩
def d_check_word : He.DefD := ⟨("check_word", none), "check_word", "check_word", defArgs s_check_word, defBody s_check_word, defScope s_check_word, [], []⟩
def d_check_row : He.DefD := ⟨("check_row", none), "check_row", "check_row", defArgs s_check_row, defBody s_check_row, defScope s_check_row, [], []⟩
def d_check_bits : He.DefD := ⟨("check_bits", none), "check_bits", "check_bits", defArgs s_check_bits, defBody s_check_bits, defScope s_check_bits, [], []⟩
def d_check_table_shades : He.DefD := ⟨("check_table_shades", none), "check_table", "check_table", defArgs s_check_table_shades, defBody s_check_table_shades, defScope s_check_table_shades, [], []⟩
def d_width_of_length : He.DefD := ⟨("width_of_length", none), "width_of_length", "width_of_length", defArgs s_width_of_length, defBody s_width_of_length, defScope s_width_of_length, [], []⟩
def d_stepped : He.DefD := ⟨("stepped", none), "stepped", "stepped", defArgs s_stepped, defBody s_stepped, defScope s_stepped, [], []⟩
def d_all_steps : He.DefD := ⟨("all_steps", none), "all_steps", "all_steps", defArgs s_all_steps, defBody s_all_steps, defScope s_all_steps, [], []⟩
def d_scores : He.DefD := ⟨("scores", none), "scores", "scores", defArgs s_scores, defBody s_scores, defScope s_scores, [], []⟩
def d_check_table_pairs : He.DefD := ⟨("check_table_pairs", none), "check_table", "check_table", defArgs s_check_table_pairs, defBody s_check_table_pairs, defScope s_check_table_pairs, [], []⟩
def d_check_same_width : He.DefD := ⟨("check_same_width", none), "check_same_width", "check_same_width", defArgs s_check_same_width, defBody s_check_same_width, defScope s_check_same_width, [], []⟩
def d_counted_votes : He.DefD := ⟨("counted_votes", none), "counted_votes", "counted_votes", defArgs s_counted_votes, defBody s_counted_votes, defScope s_counted_votes, [], []⟩
def d_all_votes : He.DefD := ⟨("all_votes", none), "all_votes", "all_votes", defArgs s_all_votes, defBody s_all_votes, defScope s_all_votes, [], []⟩
def d_mended_bit : He.DefD := ⟨("mended_bit", none), "mended_bit", "mended_bit", defArgs s_mended_bit, defBody s_mended_bit, defScope s_mended_bit, [], []⟩
def d_margins : He.DefD := ⟨("margins", none), "margins", "margins", defArgs s_margins, defBody s_margins, defScope s_margins, [], []⟩
def d_mend_log : He.DefD := ⟨("mend_log", none), "mend_log", "mend_log", defArgs s_mend_log, defBody s_mend_log, defScope s_mend_log, [], []⟩
def d_mended : He.DefD := ⟨("mended", none), "mended", "mended", defArgs s_mended, defBody s_mended, defScope s_mended, [], []⟩
def d_unlike : He.DefD := ⟨("unlike", none), "unlike", "unlike", defArgs s_unlike, defBody s_unlike, defScope s_unlike, [], []⟩
def d_distances : He.DefD := ⟨("distances", none), "distances", "distances", defArgs s_distances, defBody s_distances, defScope s_distances, [], []⟩
def d_nearest : He.DefD := ⟨("nearest", none), "nearest", "nearest", defArgs s_nearest, defBody s_nearest, defScope s_nearest, [], []⟩
def d_sum_distance : He.DefD := ⟨("sum_distance", none), "sum_distance", "sum_distance", defArgs s_sum_distance, defBody s_sum_distance, defScope s_sum_distance, [], []⟩
def d_unique_nearest : He.DefD := ⟨("unique_nearest", none), "unique_nearest", "unique_nearest", defArgs s_unique_nearest, defBody s_unique_nearest, defScope s_unique_nearest, [], []⟩
def d_law_mixed : He.DefD := ⟨("_law_mixed", none), "_law_mixed", "_law_mixed", defArgs s_law_mixed, defBody s_law_mixed, defScope s_law_mixed, [], []⟩
def d_law_wide : He.DefD := ⟨("_law_wide", none), "_law_wide", "_law_wide", defArgs s_law_wide, defBody s_law_wide, defScope s_law_wide, [], []⟩
def d_law_store : He.DefD := ⟨("_law_store", none), "_law_store", "_law_store", defArgs s_law_store, defBody s_law_store, defScope s_law_store, [], []⟩
def d_law_take : He.DefD := ⟨("_law_take", none), "_law_take", "_law_take", defArgs s_law_take, defBody s_law_take, defScope s_law_take, [], []⟩
def d_law_near : He.DefD := ⟨("_law_near", none), "_law_near", "_law_near", defArgs s_law_near, defBody s_law_near, defScope s_law_near, [], []⟩
def d_law_same : He.DefD := ⟨("_law_same", none), "_law_same", "_law_same", defArgs s_law_same, defBody s_law_same, defScope s_law_same, [], []⟩
def d_law_spoil : He.DefD := ⟨("_law_spoil", none), "_law_spoil", "_law_spoil", defArgs s_law_spoil, defBody s_law_spoil, defScope s_law_spoil, [], []⟩
def d_law_is_table : He.DefD := ⟨("_law_is_table", none), "_law_is_table", "_law_is_table", defArgs s_law_is_table, defBody s_law_is_table, defScope s_law_is_table, [], []⟩
def d_law_size : He.DefD := ⟨("_law_size", none), "_law_size", "_law_size", defArgs s_law_size, defBody s_law_size, defScope s_law_size, [], []⟩
def d_law_parity : He.DefD := ⟨("_law_parity", none), "_law_parity", "_law_parity", defArgs s_law_parity, defBody s_law_parity, defScope s_law_parity, [], []⟩
def d_law_width : He.DefD := ⟨("_law_width", none), "_law_width", "_law_width", defArgs s_law_width, defBody s_law_width, defScope s_law_width, [], []⟩
def d_law_word : He.DefD := ⟨("_law_word", none), "_law_word", "_law_word", defArgs s_law_word, defBody s_law_word, defScope s_law_word, [], []⟩
def d_law_shuffled : He.DefD := ⟨("_law_shuffled", none), "_law_shuffled", "_law_shuffled", defArgs s_law_shuffled, defBody s_law_shuffled, defScope s_law_shuffled, [], []⟩
def d_law_lowest : He.DefD := ⟨("_law_lowest", none), "_law_lowest", "_law_lowest", defArgs s_law_lowest, defBody s_law_lowest, defScope s_law_lowest, [], []⟩
def d_law_votes : He.DefD := ⟨("_law_votes", none), "_law_votes", "_law_votes", defArgs s_law_votes, defBody s_law_votes, defScope s_law_votes, [], []⟩
def d_law_near_sum : He.DefD := ⟨("_law_near_sum", none), "_law_near_sum", "_law_near_sum", defArgs s_law_near_sum, defBody s_law_near_sum, defScope s_law_near_sum, [], []⟩
def d_law_good : He.DefD := ⟨("_law_good", none), "_law_good", "_law_good", defArgs s_law_good, defBody s_law_good, defScope s_law_good, [], []⟩
def d_law : He.DefD := ⟨("law", none), "law", "law", defArgs s_law, defBody s_law, defScope s_law, [], []⟩
def d_init : He.DefD := ⟨("Table", some "__init__"), "__init__", "Table.__init__", defArgs s_init, defBody s_init, defScope s_init, [], []⟩
def d_signs : He.DefD := ⟨("Table", some "signs"), "signs", "Table.signs", defArgs s_signs, defBody s_signs, defScope s_signs, [], []⟩
def fn1 : List He.DefD := [d_check_integer_ratios, d_common_divisor, d_lowest, d_ratio, d_check_integer_tables, d_check_between, d_check_width, d_check_word, d_check_row, d_check_bits, d_check_table_shades, d_width_of_length, d_stepped, d_all_steps, d_scores, d_check_table_pairs, d_check_same_width, d_counted_votes, d_all_votes, d_mended_bit, d_margins, d_mend_log, d_mended, d_unlike, d_distances, d_nearest, d_sum_distance, d_unique_nearest, d_law_mixed, d_law_wide]
def fn2 : List He.DefD := [d_law_store, d_law_take, d_law_near, d_law_same, d_law_spoil, d_law_is_table, d_law_size, d_law_parity, d_law_width, d_law_word, d_law_shuffled, d_law_lowest, d_law_votes, d_law_near_sum, d_law_good, d_law, d_init, d_signs]
def fn : List He.DefD := fn1 ++ fn2
def fa1 : List He.Fa := [.glo "check_integer_ratios", .glo "common_divisor", .glo "lowest", .glo "ratio", .glo "check_integer_tables", .glo "check_between", .glo "check_width", .glo "check_word", .glo "check_row", .glo "check_bits", .glo "check_table_shades", .glo "width_of_length", .glo "stepped", .glo "all_steps", .glo "scores", .glo "check_table_pairs", .glo "check_same_width", .glo "counted_votes", .glo "all_votes", .glo "mended_bit", .glo "margins", .glo "mend_log", .glo "mended", .glo "unlike", .glo "distances", .glo "nearest", .glo "sum_distance", .glo "unique_nearest", .glo "_law_mixed", .glo "_law_wide"]
def fa2 : List He.Fa := [.glo "_law_store", .glo "_law_take", .glo "_law_near", .glo "_law_same", .glo "_law_spoil", .glo "_law_is_table", .glo "_law_size", .glo "_law_parity", .glo "_law_width", .glo "_law_word", .glo "_law_shuffled", .glo "_law_lowest", .glo "_law_votes", .glo "_law_near_sum", .glo "_law_good", .glo "law"]
def fa3 : List He.Fa := [.free "isinstance", .free "int", .free "bool", .free "list", .free "tuple", .free "str", .free "len", .free "range", .free "abs", .free "min", .free "max", .free "sum", .free "zip", .free "enumerate", .int "MOST_WIDTH" 6, .glo "Table", .cls "Table", .noat "Table" "wide", .noat "Table" "held", .mkr "Table", .meth "Table" "signs", .keep "Table"]
def fa : List He.Fa := fa1 ++ (fa2 ++ fa3)
/-! what else is asked: isinstance against Table, its two properties -/
def prA (K : PySem.W.Frag) (f : Str) : Addr := match PySem.W.findIn K (.ref (He.ga K "Table")) f with
  | some (some (.ref p)) => p
  | _ => 0
def geA (K : PySem.W.Frag) (f : Str) : Addr := match PySem.W.recIn K (prA K f) "property" with
  | some (.ref g :: _) => g
  | _ => 0
def propB (K : PySem.W.Frag) (f : Str) : Bool := He.eqO (PySem.W.findIn K (.ref (He.ga K "Table")) f) (some (some (.ref (prA K f)))) && (He.eqO (PySem.W.specialIn K (.ref (prA K f)) "__get__") (some (some (.builtin "property.__get__"))) && (decide (PySem.W.takesIn K (.ref (prA K f)) = some true) && (match PySem.W.recIn K (prA K f) "property" with
  | some (.ref _ :: _) => true
  | _ => false)))
theorem propB_ok {K : PySem.W.Frag} {f : Str} (h : propB K f = true) : PropOf K (He.ga K "Table") f (prA K f) (geA K f) := by
  obtain ⟨h1, h⟩ := He.ba h
  obtain ⟨h2, h⟩ := He.ba h
  obtain ⟨h3, h4⟩ := He.ba h
  refine ⟨He.eqO_ok h1, He.eqO_ok h2, of_decide_eq_true h3, ?_⟩
  unfold geA
  split at h4
  · rename_i g r e
    rw [e]
    exact ⟨r, rfl⟩
  · cases h4
def insB (K : PySem.W.Frag) : Bool := He.eqO (PySem.W.findIn K (.ref (He.ga K "Table")) "__class__") (some (some (.builtin "object.__class__"))) && (He.eqO (PySem.W.specialIn K (.builtin "object.__class__") "__get__") (some (some (.builtin "getset_descriptor.__get__"))) && (decide (PySem.W.takesIn K (.builtin "object.__class__") = some true) && (decide (PySem.W.mroIn K (He.ga K "Table") (.type "object") = some true) && decide (PySem.W.kitOne K (.ref (He.ga K "Table")) (.ref (He.ga K "Table")) = some true))))
theorem insB_ok {K : PySem.W.Frag} (h : insB K = true) (c : Cls K (He.ga K "Table")) : C8.InsC K (He.ga K "Table") := by
  obtain ⟨h1, h⟩ := He.ba h
  obtain ⟨h2, h⟩ := He.ba h
  obtain ⟨h3, h⟩ := He.ba h
  obtain ⟨h4, h5⟩ := He.ba h
  exact ⟨c, He.eqO_ok h1, He.eqO_ok h2, of_decide_eq_true h3, of_decide_eq_true h4, of_decide_eq_true h5⟩
/-- a def at an address -/
def fnA (K : PySem.W.Frag) (a : Addr) : He.FnW := match K.lookup a with
  | some ⟨_, _, .func fd, _⟩ => some (fd.name, fd.qualname, fd.params, fd.body, fd.scope, fd.globals, fd.closure, fd.builtins)
  | _ => none
def okA (K : PySem.W.Frag) (a : Addr) (q : Str) : Bool := PySem.W.keepIn K (.ref a) && (match K.lookup a with
  | some ⟨_, _, .func fd, _⟩ => PySem.W.codeIn K fd.code q && (He.dflB K fd.defaults [] && He.kwdB K fd.kwdefaults [])
  | _ => false)
theorem funA {K : PySem.W.Frag} {a : Addr} {x q : Str} {ps : Arguments} {b : List Stmt} {sc : Scope} (e : fnA K a = some (x, q, ps, .stmts b, sc, mainGlobals, [], builtinsNs)) (c : okA K a q = true) : ∃ fd, FunD K x q ps b sc [] [] a fd := by
  obtain ⟨kp, c2⟩ := He.ba c
  unfold fnA at e
  cases z : K.lookup a with
  | none =>
    rw [z] at c2
    cases c2
  | some o =>
    obtain ⟨oc, od, dt, osl⟩ := o
    rw [z] at c2 e
    cases dt with
    | func fd =>
      obtain ⟨n1, n2, n3, n4, n5, n6, n7, n8, n9, n10, n11, n12, n13, n14, n15⟩ := fd
      have e2 : (some (n1, n2, n3, n4, n5, n6, n7, n15) : He.FnW) = some (x, q, ps, .stmts b, sc, mainGlobals, [], builtinsNs) := e
      simp only [Option.some.injEq, Prod.mk.injEq] at e2
      obtain ⟨h1, h2, h3, h4, h5, h6, h7, h8⟩ := e2
      subst h1 h2 h3 h4 h5 h6 h7 h8
      have c3 : (PySem.W.codeIn K n13 n2 && (He.dflB K n8 [] && He.kwdB K n9 [])) = true := c2
      obtain ⟨k1, k2⟩ := He.ba c3
      obtain ⟨k3, k4⟩ := He.ba k2
      exact ⟨_, ⟨oc, od, n8, n9, n10, n11, n12, n13, n14, osl, rfl, z, k1, He.dflB_ok k3, He.kwdB_ok k4⟩, kp⟩
    | _ => cases c2
abbrev AlP : Type := He.AlD × Bool × List He.FnW
def obsP (K : PySem.W.Frag) : AlP := (He.obsD fa fn K, insB K && (propB K "width" && (propB K "bits" && (okA K (geA K "width") "Table.width" && okA K (geA K "bits") "Table.bits"))), [fnA K (geA K "width"), fnA K (geA K "bits")])
def valP : AlP := (He.valD fn, true, [some ("width", "Table.width", defArgs s_width, .stmts (defBody s_width), defScope s_width, mainGlobals, [], builtinsNs), some ("bits", "Table.bits", defArgs s_bits, .stmts (defBody s_bits), defScope s_bits, mainGlobals, [], builtinsNs)])
def obsPG (n : Nat) (g : Addr → Option Obj) : AlP := obsP (He.frG g (He.asD g n))
def hookP (n : Nat) : PySem.W.Hook where
  α := AlP
  obs := fun s => obsPG n s.heap.get?
  val := fun _ => valP
  says := fun _ h => ∃ K : PySem.W.Frag, K.In h ∧ obsP K = valP
  of := fun _ _ e => ⟨_, He.frG_in, e⟩
  keeps := fun _ _ _ ⟨K, hK, c⟩ k => ⟨K, PySem.W.Frag.In.keeps hK k, c⟩
theorem obsPG_eq {n : Nat} {g : Addr → Option Obj} {s : Shared} (h : ∀ a, g a = s.heap.get? a) : obsPG n g = (hookP n).obs s := by
  have e : g = s.heap.get? := funext h
  rw [e] <;> rfl
abbrev R : PySem.W.OpenRow := PySem.W.OpenLaw.row PySem.Challenge.rw_bitshades_k46_whole_mends_a_near_sum
abbrev hk : PySem.W.Hook := hookP 6
def ob (s : PySem.W.SharedT) : AlP := obsPG 6 (HandSHeadRun.getT s)
theorem ob_eq (s : PySem.W.SharedT) : ob s = hk.obs s.abs := obsPG_eq (HandSHeadRun.getT_eq s)

def names1 : List Str := ["_wall", "ShadeError", "WrongKind", "WrongSize", "OutOfRange", "check_integer", "check_integer_ratios", "common_divisor", "lowest", "ratio", "MOST_WIDTH", "check_integer_tables", "check_between", "check_width", "check_word", "check_row", "check_bits", "Table", "check_table", "check_table_shades", "width_of_length", "stepped", "all_steps", "scores", "check_table_pairs", "check_same_width", "counted_votes", "all_votes", "mended_bit", "margins"]
def names2 : List Str := ["mend_log", "mended", "unlike", "distances", "nearest", "sum_distance", "unique_nearest", "_law_mixed", "_law_wide", "_law_store", "_law_take", "_law_near", "_law_same", "_law_spoil", "_law_is_table", "_law_size", "_law_parity", "_law_width", "_law_word", "_law_shuffled", "_law_lowest", "_law_votes", "_law_near_sum", "_law_good"]
def names : List Str := names1 ++ names2
theorem run (w : World) : HandSHeadRun.RunEq R (PySem.W.view R.prog [64]) hk ob 8000 names w := by
  intro os
  kernel_rfl
end K46
set_option Elab.async false
set_option linter.all false
set_option maxRecDepth 100000
set_option maxHeartbeats 8000000
namespace K46
open PySem PySem.Spec PyProof.Rows L2
section
variable {P : Program} {w : World} {K : PySem.W.Frag} {mg : Str → Option Value} {base : Heap} {h : Heap} {j k : Nat} {C : Addr}
theorem MkT.mono (M : MkT P w K mg base C j) (l : j ≤ k) : MkT P w K mg base C k := by
  obtain ⟨f, fd, a, b, G⟩ := M.ex
  exact ⟨f, fd, a, b, G.mono l⟩
theorem Fk.mono {x : Str} {ps : List Str} {sp : Sp} (F : Fk P w K mg base j x ps sp) (l : j ≤ k) : Fk P w K mg base k x ps sp := by
  obtain ⟨f, fd, a, b, c, G⟩ := F.ex
  exact ⟨f, fd, a, b, c, G.mono l⟩
theorem df_of (X : K.In h) (G : h.Ns mainGlobals mg) (c : He.SaysD fa fn K) (i : Nat) {x nm : Str} {st : Stmt} (h1 : fa[i]? = some (.glo x)) (h2 : fn[i]? = some ⟨(x, none), nm, nm, defArgs st, defBody st, defScope st, [], []⟩) : Df K mg x nm st := by
  obtain ⟨fd, F⟩ := c.def_ i h2
  exact ⟨He.ga K x, fd, He.glo_ok X G (c.fact i h1), F⟩
theorem fre_of (X : K.In h) (G : h.Ns mainGlobals mg) (c : He.SaysD fa fn K) : Fre mg :=
  ⟨He.free_ok X G (c.fact 46 (f := .free "isinstance") rfl), He.free_ok X G (c.fact 47 (f := .free "int") rfl), He.free_ok X G (c.fact 48 (f := .free "bool") rfl), He.free_ok X G (c.fact 49 (f := .free "list") rfl), He.free_ok X G (c.fact 50 (f := .free "tuple") rfl), He.free_ok X G (c.fact 51 (f := .free "str") rfl), He.free_ok X G (c.fact 52 (f := .free "len") rfl), He.free_ok X G (c.fact 53 (f := .free "range") rfl), He.free_ok X G (c.fact 54 (f := .free "abs") rfl), He.free_ok X G (c.fact 55 (f := .free "min") rfl), He.free_ok X G (c.fact 56 (f := .free "max") rfl), He.free_ok X G (c.fact 57 (f := .free "sum") rfl), He.free_ok X G (c.fact 58 (f := .free "zip") rfl), He.free_ok X G (c.fact 59 (f := .free "enumerate") rfl), He.int_ok X G (c.fact 60 (f := .int "MOST_WIDTH" 6) rfl)⟩
theorem txt_of (X : K.In h) (G : h.Ns mainGlobals mg) (e : obsP K = valP) : Txt K mg (He.ga K "Table") := by
  have c : He.SaysD fa fn K := congrArg (fun z : AlP => z.1) e
  have e2 : (insB K && (propB K "width" && (propB K "bits" && (okA K (geA K "width") "Table.width" && okA K (geA K "bits") "Table.bits")))) = true := congrArg (fun z : AlP => z.2.1) e
  have e3 : [fnA K (geA K "width"), fnA K (geA K "bits")] = _ := congrArg (fun z : AlP => z.2.2) e
  obtain ⟨i1, e2⟩ := He.ba e2
  obtain ⟨i2, e2⟩ := He.ba e2
  obtain ⟨i3, e2⟩ := He.ba e2
  obtain ⟨i4, i5⟩ := He.ba e2
  injection e3 with f1 e3
  injection e3 with f2 _
  have cl : Cls K (He.ga K "Table") := He.cls_ok (c.fact 62 (f := .cls "Table") rfl)
  obtain ⟨fd1, F1⟩ := c.def_ 46 (d := d_init) rfl
  obtain ⟨fd2, F2⟩ := c.def_ 47 (d := d_signs) rfl
  obtain ⟨fd3, F3⟩ := funA f1 i4
  obtain ⟨fd4, F4⟩ := funA f2 i5
  exact ⟨cl, insB_ok i1 cl, He.noat_ok (c.fact 63 (f := .noat "Table" "wide") rfl), He.noat_ok (c.fact 64 (f := .noat "Table" "held") rfl), He.glo_ok X G (c.fact 61 (f := .glo "Table") rfl), He.keep_ok (c.fact 67 (f := .keep "Table") rfl),
    ⟨_, fd1, He.mkr_ok (c.fact 65 (f := .mkr "Table") rfl), F1⟩, ⟨_, fd2, He.meth_ok (c.fact 66 (f := .meth "Table" "signs") rfl), F2⟩, ⟨_, _, fd3, propB_ok i2, F3⟩, ⟨_, _, fd4, propB_ok i3, F4⟩⟩
/-- the law keeps its promise, from what the head tells -/
theorem law_all (X : K.In h) (G : h.Ns mainGlobals mg) (e : obsP K = valP) : Fc P w K mg base 22 "law" ["_law_script"] (spLaw K) := by
  have c : He.SaysD fa fn K := congrArg (fun z : AlP => z.1) e
  have T := txt_of X G e
  have Z := fre_of X G c
  have wd : ∀ k, Pr P w K mg base (He.ga K "Table") (k + 1) "width" "wide" := fun k => p_width T
  have bs : ∀ k, Pr P w K mg base (He.ga K "Table") (k + 1) "bits" "held" := fun k => p_bits T
  have cit : Fc P w K mg base (0 + 1) "check_integer_tables" ["argument", "value"] spCIT := c_cit (df_of X G c 4 rfl rfl) Z
  have cir : Fc P w K mg base (0 + 1) "check_integer_ratios" ["value", "argument"] spCIR := c_cir (df_of X G c 0 rfl rfl) Z
  have bet := c_bet (df_of X G c 5 rfl rfl) cit
  have wid := c_wid (df_of X G c 6 rfl rfl) Z bet
  have row : Fc P w K mg base (0 + 1) "check_row" ["argument", "row", "least", "most"] (spRow K) := c_row (df_of X G c 8 rfl rfl) Z
  have cb := c_cb (df_of X G c 9 rfl rfl) bet row
  have mk := c_init T Z wid cb
  have sig := (m_sig T : MSig P w K mg base (He.ga K "Table") (1 + 1))
  have ctp : Fc P w K mg base (0 + 1) "check_table_pairs" ["value", "name"] (spCT (He.ga K "Table")) := c_ctp (df_of X G c 15 rfl rfl) T Z
  have cts : Fc P w K mg base (0 + 1) "check_table_shades" ["value", "argument"] (spCT (He.ga K "Table")) := c_cts (df_of X G c 10 rfl rfl) T Z
  have csw := c_csw (k := 0) (df_of X G c 16 rfl rfl) T (wd 0) (ctp.mono (by decide))
  have wol : Fc P w K mg base (0 + 1) "width_of_length" ["length"] spWol := c_wol (df_of X G c 11 rfl rfl)
  have step : Fc P w K mg base (0 + 1) "stepped" ["row", "place"] (spStep K) := c_step (df_of X G c 12 rfl rfl) Z
  have all := c_all (df_of X G c 13 rfl rfl) Z step wol
  have sco := c_sco (k := 0) (df_of X G c 14 rfl rfl) T sig (cts.mono (by decide)) all
  have cv : Fc P w K mg base (0 + 1) "counted_votes" ["bits", "word"] (spCV K) := c_cv (df_of X G c 17 rfl rfl) Z
  have av := c_av (k := 0) (df_of X G c 18 rfl rfl) T Z (bs 0) cv
  have mbd : Fc P w K mg base (0 + 1) "mended_bit" ["zeros", "ones", "bit"] spMB := c_mb (df_of X G c 19 rfl rfl)
  have mar := c_mar (k := 0) (df_of X G c 20 rfl rfl) (ctp.mono (by decide)) av
  have ml := c_ml (k := 0) (df_of X G c 21 rfl rfl) T Z (bs 1) (ctp.mono (by decide)) av (mbd.mono (by decide))
  have men := c_men (k := 0) (df_of X G c 22 rfl rfl) T (wd 3) (ctp.mono (by decide)) (ml.mono (by decide)) mk
  have un1 := c_unl (k := 0) (df_of X G c 23 rfl rfl) T Z (wd 1) (bs 1) (ctp.mono (by decide)) csw
  have dis := c_dis (k := 0) (df_of X G c 24 rfl rfl) T (wd 1) (ctp.mono (by decide)) sco
  have nea := c_nea (k := 3) (df_of X G c 25 rfl rfl) Z dis
  have un2 := c_un (k := 3) (df_of X G c 27 rfl rfl) T (wd 3) nea
  have gcd : Fc P w K mg base (0 + 1) "common_divisor" ["one", "other"] spGcd := c_gcd (df_of X G c 1 rfl rfl) Z
  have low := c_low (df_of X G c 2 rfl rfl) gcd
  have rat := c_rat (k := 0) (df_of X G c 3 rfl rfl) (cir.mono (by decide)) low
  have sd := c_sd (k := 1) (df_of X G c 26 rfl rfl) T Z (wd 2) dis (rat.mono (by decide))
  have mix : Fc P w K mg base (0 + 1) "_law_mixed" ["_law_cell", "_law_nth"] spMix := c_mix (df_of X G c 28 rfl rfl) Z
  have wide := c_wide (df_of X G c 29 rfl rfl) Z mix
  have sto : Fc P w K mg base (0 + 1) "_law_store" ["_law_script"] (spSto K) := c_sto (df_of X G c 30 rfl rfl) Z
  have take := c_take (k := 0) (df_of X G c 31 rfl rfl) Z wide
  have near := c_near (k := 2) (df_of X G c 32 rfl rfl) Z take
  have lwd := c_wd (k := 2) (df_of X G c 38 rfl rfl) Z take
  have word := c_word (k := 2) (df_of X G c 39 rfl rfl) Z take
  have shu := c_shu (k := 2) (df_of X G c 40 rfl rfl) Z take
  have size : Fc P w K mg base (0 + 1) "_law_size" ["_law_mask"] spSize := c_size (df_of X G c 36 rfl rfl) Z
  have par := c_par (df_of X G c 37 rfl rfl) Z size
  have ns := c_ns (k := 2) (df_of X G c 43 rfl rfl) Z (take.mono (by decide)) near word shu (par.mono (by decide))
  have vot : Fc P w K mg base (0 + 1) "_law_votes" ["_law_mine", "_law_here"] spVot := c_vot (df_of X G c 42 rfl rfl) Z
  have llow : Fc P w K mg base (0 + 1) "_law_lowest" ["_law_top", "_law_low"] spLLow := c_llow (df_of X G c 41 rfl rfl) Z
  have same := (c_same (P := P) (w := w) (base := base) (df_of X G c 33 rfl rfl) Z)
  have ist := c_ist (k := 0) (df_of X G c 35 rfl rfl) T Z (wd 1) (bs 1) ((same 1).mono (by decide))
  have sp0 : Fc P w K mg base (0 + 1) "_law_spoil" ["_law_given"] spS0 := c_sp0 (df_of X G c 34 rfl rfl) Z
  have sp1 := c_sp1 (df_of X G c 34 rfl rfl) Z sp0
  have sp2 := c_sp2 (df_of X G c 34 rfl rfl) Z sp1
  have mark := (df_of X G c 20 rfl rfl).fk mar (fun _ _ _ _ _ _ ws hl => match ws, hl with | [_], _ => rfl)
  have menk := (df_of X G c 22 rfl rfl).fk men (fun _ _ _ _ _ _ ws hl => match ws, hl with | [_], _ => rfl)
  have L : ∀ k, 8 ≤ k → Callees P w K mg base (He.ga K "Table") k := fun k hk => ⟨men.mono (by omega), ist.mono (by omega), (same 2).mono (by omega), un1.mono (by omega), nea.mono (by omega), un2.mono (by omega), sd.mono (by omega), llow.mono (by omega), vot.mono (by omega), mar.mono (by omega),
    mark.mono (by omega), menk.mono (by omega), sp1.mono (by omega), sp2.mono (by omega)⟩
  have good := c_good (k := 20) (df_of X G c 44 rfl rfl) Z (L 20 (by decide))
  exact c_law (k := 20) (df_of X G c 45 rfl rfl) T Z (mk.mono (by decide)) (sto.mono (by decide)) (lwd.mono (by decide)) (ns.mono (by decide)) good (L 21 (by decide))
/-- the law's own function object -/
theorem law_fn (X : K.In h) (G : h.Ns mainGlobals mg) (e : obsP K = valP) {f0 : Addr} (hf : mg ("law" : Str) = some (.ref f0)) :
    ∃ fd : FuncData, (∀ (s : Shared) (v : Value), BindsTo s fd ⟨[v], []⟩ [("_law_script", v)]) ∧ ∀ base : Heap, FnOk P w K mg base CX0 22 f0 fd ["_law_script"] (spLaw K) := by
  have c : He.SaysD fa fn K := congrArg (fun z : AlP => z.1) e
  have D : Df K mg "law" "law" s_law := df_of X G c 45 rfl rfl
  obtain ⟨f, fd, hm, F⟩ := D.ex
  have e1 : f = f0 := by
    have z := hm.symm.trans hf
    injection z with z
    injection z
  subst e1
  refine ⟨fd, fun s v => F.bindsA (ps := ["_law_script"]) (fun _ _ _ _ _ _ us hl => match us, hl with | [_], _ => rfl) s [v] rfl, fun base => ?_⟩
  obtain ⟨f', fd', hm', kp, ⟨oc', od', sl', lk'⟩, hb, GG⟩ := (law_all (P := P) (w := w) (base := base) X G e).ex
  have e2 : f' = f := by
    have z := hm'.symm.trans hm
    injection z with z
    injection z
  subst e2
  obtain ⟨oc, od, dV, kV, doc, pm, an, cdv, ct, osl, e3, lk, _⟩ := F.ex
  have e4 : fd' = fd := by
    have z := lk'.symm.trans lk
    injection z with z
    injection z with _ _ z _
    injection z
  subst e4
  exact GG
end
end K46
open PySem PySem.W PySem.Calls PyProof.Rows
set_option maxHeartbeats 0 in
theorem PySem.Challenge.cw_bitshades_k46_whole_mends_a_near_sum_holds : PySem.Challenge.rw_bitshades_k46_whole_mends_a_near_sum.Holds := by
  w_on; o_law
  refine HandSHeadRun.head_any (r := OpenLaw.row PySem.Challenge.rw_bitshades_k46_whole_mends_a_near_sum) (q := view (OpenLaw.row PySem.Challenge.rw_bitshades_k46_whole_mends_a_near_sum).prog [64]) (H := K46.hk) (ob := K46.ob) (M := 8000) (loose := K46.names) (d := HandSHeadRun.topDef (OpenLaw.row PySem.Challenge.rw_bitshades_k46_whole_mends_a_near_sum).prog 64) (kwd := []) K46.ob_eq
    (by kernel_rfl) (fun s => by kernel_rfl) K46.run (by kernel_rfl) (by kernel_rfl) (by kernel_rfl) (by rfl) (by first | assumption | decide +kernel) (by decide +kernel) ⟨rfl, rfl, rfl, rfl, rfl, by decide +kernel⟩ ?hw ?hc
  case hw => w_witness2
  case hc =>
    refine L2.walk_ofE (l := PySem.Challenge.rw_bitshades_k46_whole_mends_a_near_sum) (n := 63) (k := 22) (x := "_law_script") (CX := L2.CX0) rfl (by decide) (by kernel_rfl) ⟨rfl, by decide, by decide⟩ ?F (fun _ _ _ _ z => z)
    intro w mg fa h Y G hmg0
    obtain ⟨K, KX, c⟩ := Y
    have hmg : mg ("law" : PySem.Str) = some (.ref fa) := by
      have e : (HandSHeadRun.topDef (OpenLaw.row PySem.Challenge.rw_bitshades_k46_whole_mends_a_near_sum).prog 64).name = ("law" : PySem.Str) := by kernel_rfl
      rw [← e]
      exact hmg0
    obtain ⟨fd, hb, hF⟩ := K46.law_fn (P := (PySem.Challenge.rw_bitshades_k46_whole_mends_a_near_sum).prog) (w := w) KX G c hmg
    exact ⟨K, fd, K46.spLaw K, KX, hb, fun H a ns hl _ hS => ⟨a, ns, rfl, hS, fun _ => rfl⟩, fun base _ _ => hF base⟩
#print axioms PySem.Challenge.cw_bitshades_k46_whole_mends_a_near_sum_holds
