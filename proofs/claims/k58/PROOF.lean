import PyProof.Rows.All
import Wide.All
import OpenK.AllK
import Wide.FinOn
import HandS.ForMost
import HandS.ForExc
import HandS.Walk
import HandS.Wide
import HandS.CallLocal
import HandS.Conv
import KE.GoesEnum
import HandS.More
import HandS.ClsMeth
import KE.SortData
import PyProof.EqAt
import PyProof.EqKinds
import PyProof.TupleCall
import HandS.Exc
import HandS.ExcOwn
import HandS.WordsExc
import HandS.FStr
import KE.KExcSuper
import KE.KSuper
import HandS.IsInst
import PySem.Challenge.RW_everyfield_k58_whole_bases_and_circuits
set_option Elab.async false
set_option linter.all false
set_option maxRecDepth 100000
set_option maxHeartbeats 4000000
/-! Ma1: finite sums, linear dependence in an integral domain Z/(p), the rank of a matrix (a function of two places). -/
namespace Ev
abbrev Mx := Nat → Nat → Int
/-- the sum of f 0 .. f (n - 1) -/
def S : Nat → (Nat → Int) → Int
  | 0, _ => 0
  | n + 1, f => S n f + f n
theorem S_congr {f g : Nat → Int} : ∀ {n : Nat}, (∀ i, i < n → f i = g i) → S n f = S n g
  | 0, _ => rfl
  | n + 1, h => by
    show S n f + f n = S n g + g n
    rw [S_congr (n := n) fun i hi => h i (by omega), h n (by omega)]
theorem S_add (f g : Nat → Int) : ∀ n : Nat, S n (fun i => f i + g i) = S n f + S n g
  | 0 => rfl
  | n + 1 => by
    show S n (fun i => f i + g i) + (f n + g n) = (S n f + f n) + (S n g + g n)
    rw [S_add f g n]
    omega
theorem S_mul (c : Int) (f : Nat → Int) : ∀ n : Nat, S n (fun i => c * f i) = c * S n f
  | 0 => by show (0 : Int) = c * 0; rw [Int.mul_zero]
  | n + 1 => by
    show S n (fun i => c * f i) + c * f n = c * (S n f + f n)
    rw [S_mul c f n, Int.mul_add]
theorem S_zero : ∀ n : Nat, S n (fun _ => 0) = 0
  | 0 => rfl
  | n + 1 => by
    show S n (fun _ => 0) + 0 = 0
    rw [S_zero n]
    rfl
theorem S_dvd {p : Int} {f : Nat → Int} : ∀ {n : Nat}, (∀ i, i < n → p ∣ f i) → p ∣ S n f
  | 0, _ => Int.dvd_zero p
  | n + 1, h => Int.dvd_add (S_dvd (n := n) fun i hi => h i (by omega)) (h n (by omega))
theorem S_single (a : Nat) (x : Int) : ∀ n : Nat, S n (fun i => if i = a then x else 0) = if a < n then x else 0
  | 0 => by rw [if_neg (by omega)]; rfl
  | n + 1 => by
    show S n (fun i => if i = a then x else 0) + (if n = a then x else 0) = if a < n + 1 then x else 0
    rw [S_single a x n]
    by_cases h : a < n
    · rw [if_pos h, if_neg (by omega), if_pos (by omega)]; omega
    · by_cases e : n = a
      · rw [if_neg h, if_pos e, if_pos (by omega)]; omega
      · rw [if_neg h, if_neg e, if_neg (by omega)]; rfl
theorem S_comm (f : Nat → Nat → Int) (n : Nat) : ∀ m : Nat, S m (fun i => S n (fun j => f i j)) = S n (fun j => S m (fun i => f i j))
  | 0 => by
    show (0 : Int) = S n (fun _ => 0)
    rw [S_zero]
  | m + 1 => by
    show S m (fun i => S n (fun j => f i j)) + S n (fun j => f m j) = S n (fun j => S m (fun i => f i j) + f m j)
    rw [S_comm f n m, S_add]
/-- two places changed -/
def sw (a b i : Nat) : Nat := if i = a then b else if i = b then a else i
theorem sw_a (a b : Nat) : sw a b a = b := if_pos rfl
theorem sw_b (a b : Nat) : sw a b b = a := by
  unfold sw
  by_cases h : b = a
  · rw [if_pos h]; exact h
  · rw [if_neg h, if_pos rfl]
theorem sw_ne {a b i : Nat} (h : i ≠ a) (h' : i ≠ b) : sw a b i = i := by
  unfold sw
  rw [if_neg h, if_neg h']
theorem sw_sw (a b i : Nat) : sw a b (sw a b i) = i := by
  by_cases h : i = a
  · subst h; rw [sw_a, sw_b]
  · by_cases h' : i = b
    · subst h'; rw [sw_b, sw_a]
    · rw [sw_ne h h', sw_ne h h']
theorem sw_lt {a b i n : Nat} (ha : a < n) (hb : b < n) (hi : i < n) : sw a b i < n := by
  unfold sw
  split
  · exact hb
  · split
    · exact ha
    · exact hi
theorem S_swap {a b n : Nat} (f : Nat → Int) (ha : a < n) (hb : b < n) : S n (fun i => f (sw a b i)) = S n f := by
  by_cases hab : a = b
  · subst hab
    refine S_congr fun i _ => ?_
    by_cases h : i = a
    · subst h; rw [sw_a]
    · rw [sw_ne h h]
  · have e : S n (fun i => f (sw a b i)) = S n (fun i => f i + ((if i = a then f b - f a else 0) + (if i = b then f a - f b else 0))) := by
      refine S_congr fun i _ => ?_
      by_cases h : i = a
      · subst h; rw [sw_a, if_pos rfl, if_neg hab]; omega
      · by_cases h' : i = b
        · subst h'; rw [sw_b, if_neg h, if_pos rfl]; omega
        · rw [sw_ne h h', if_neg h, if_neg h']; omega
    rw [e, S_add, S_add, S_single, S_single, if_pos ha, if_pos hb]
    omega

/-- Z/(p) is an integral domain -/
structure Dom (p : Int) : Prop where
  one : ¬ p ∣ 1
  mul : ∀ a b : Int, p ∣ a * b → p ∣ a ∨ p ∣ b
theorem Dom.right {p a b : Int} (d : Dom p) (h : p ∣ a * b) (ha : ¬ p ∣ a) : p ∣ b := (d.mul a b h).resolve_left ha
theorem Dom.left {p a b : Int} (d : Dom p) (h : p ∣ a * b) (hb : ¬ p ∣ b) : p ∣ a := (d.mul a b h).resolve_right hb
theorem Dom.nmul {p a b : Int} (d : Dom p) (ha : ¬ p ∣ a) (hb : ¬ p ∣ b) : ¬ p ∣ a * b := fun h => (d.mul a b h).elim ha hb
theorem dom0 : Dom 0 := ⟨by decide, fun a b h => by
  have e : a * b = 0 := Int.zero_dvd.mp h
  rcases Int.mul_eq_zero.mp e with e | e
  · exact .inl (by rw [e]; exact Int.dvd_zero _)
  · exact .inr (by rw [e]; exact Int.dvd_zero _)⟩

/-- r equations in more than r unknowns have a solution that is not 0 -/
theorem steinitz {p : Int} (hp : Dom p) : ∀ (r k : Nat) (G : Nat → Nat → Int), r < k → ∃ y : Nat → Int, (∃ l, l < k ∧ ¬ p ∣ y l) ∧ ∀ t, t < r → p ∣ S k (fun l => G t l * y l)
  | 0, k, _, h => ⟨fun _ => 1, ⟨0, h, hp.one⟩, fun t ht => absurd ht (Nat.not_lt_zero t)⟩
  | r + 1, k, G, h => by
    by_cases hz : ∀ l, l < k → p ∣ G r l
    · obtain ⟨y, hy, he⟩ := steinitz hp r k G (by omega)
      refine ⟨y, hy, fun t ht => ?_⟩
      by_cases e : t = r
      · subst e
        exact S_dvd fun i hi => Int.dvd_trans (hz i hi) (Int.dvd_mul_right _ _)
      · exact he t (by omega)
    · obtain ⟨l0, hl0, hn⟩ : ∃ l, l < k ∧ ¬ p ∣ G r l := by
        refine Classical.byContradiction fun q => hz fun l hl => Classical.byContradiction fun z => q ⟨l, hl, z⟩
      obtain ⟨k', rfl⟩ : ∃ k', k = k' + 1 := ⟨k - 1, by omega⟩
      let G1 : Nat → Nat → Int := fun t l => G t (sw l0 k' l)
      have ea : G1 r k' = G r l0 := by show G r (sw l0 k' k') = _; rw [sw_b]
      obtain ⟨y', ⟨l1, hl1, hy1⟩, he⟩ := steinitz hp r k' (fun t l => G r l0 * G1 t l - G1 t k' * G1 r l) (by omega)
      let z : Nat → Int := fun l => if l = k' then - S k' (fun l => G1 r l * y' l) else G r l0 * y' l
      have hs : ∀ t, S (k' + 1) (fun l => G t l * z (sw l0 k' l)) = S k' (fun l => (G r l0 * G1 t l - G1 t k' * G1 r l) * y' l) := by
        intro t
        have e1 : S (k' + 1) (fun l => G t l * z (sw l0 k' l)) = S (k' + 1) (fun l => G1 t l * z l) := by
          rw [← S_swap (a := l0) (b := k') (fun l => G1 t l * z l) hl0 (by omega)]
          refine S_congr fun l _ => ?_
          show G t l * z (sw l0 k' l) = G t (sw l0 k' (sw l0 k' l)) * z (sw l0 k' l)
          rw [sw_sw]
        rw [e1]
        show S k' (fun l => G1 t l * z l) + G1 t k' * z k' = _
        have e2 : S k' (fun l => G1 t l * z l) = S k' (fun l => G r l0 * (G1 t l * y' l)) := by
          refine S_congr fun l hl => ?_
          show G1 t l * (if l = k' then _ else G r l0 * y' l) = _
          rw [if_neg (by omega), Int.mul_left_comm]
        have e3 : z k' = - S k' (fun l => G1 r l * y' l) := if_pos rfl
        have e4 : S k' (fun l => (G r l0 * G1 t l - G1 t k' * G1 r l) * y' l) = S k' (fun l => G r l0 * (G1 t l * y' l) + (- G1 t k') * (G1 r l * y' l)) := by
          refine S_congr fun l _ => ?_
          rw [Int.sub_mul, Int.mul_assoc, Int.mul_assoc, Int.neg_mul, Int.sub_eq_add_neg]
        rw [e2, e3, e4, S_add, S_mul, S_mul, Int.mul_neg, Int.neg_mul]
      refine ⟨fun l => z (sw l0 k' l), ⟨sw l0 k' l1, sw_lt hl0 (by omega) (by omega), ?_⟩, fun t ht => ?_⟩
      · show ¬ p ∣ z (sw l0 k' (sw l0 k' l1))
        rw [sw_sw]
        show ¬ p ∣ if l1 = k' then _ else G r l0 * y' l1
        rw [if_neg (by omega)]
        exact hp.nmul hn hy1
      · show p ∣ S (k' + 1) (fun l => G t l * z (sw l0 k' l))
        rw [hs t]
        by_cases e : t = r
        · subst e
          refine S_dvd fun l _ => ?_
          rw [ea, Int.sub_self, Int.zero_mul]
          exact Int.dvd_zero _
        · exact he t (by omega)

/-! ### a matrix at a vector; what it kills; its rank -/
def ap (w : Nat) (M : Mx) (v : Nat → Int) (i : Nat) : Int := S w (fun j => M i j * v j)
def Ker (p : Int) (h w : Nat) (M : Mx) (v : Nat → Int) : Prop := ∀ i, i < h → p ∣ ap w M v i
/-- y 0 times the vector C 0, and so on -/
def cb (k : Nat) (C : Nat → Nat → Int) (y : Nat → Int) (j : Nat) : Int := S k (fun l => y l * C l j)
/-- the rank is at least k -/
def Rk (p : Int) (h w : Nat) (M : Mx) (k : Nat) : Prop := ∃ C : Nat → Nat → Int, ∀ y, Ker p h w M (cb k C y) → ∀ l, l < k → p ∣ y l
theorem Rk.ker {p : Int} {h h' w : Nat} {M M' : Mx} {k : Nat} (e : ∀ v, Ker p h' w M' v → Ker p h w M v) (r : Rk p h w M k) : Rk p h' w M' k := by
  obtain ⟨C, hC⟩ := r
  exact ⟨C, fun y hy => hC y (e _ hy)⟩
theorem Rk.map {p : Int} {h w : Nat} {M M' : Mx} {k : Nat} (V : (Nat → Int) → Nat → Int) (e : ∀ v i, i < h → ap w M' v i = ap w M (V v) i) (lin : ∀ C y, V (cb k C y) = cb k (fun l => V (C l)) y) (r : Rk p h w M' k) : Rk p h w M k := by
  obtain ⟨C, hC⟩ := r
  refine ⟨fun l => V (C l), fun y hy => hC y fun i hi => ?_⟩
  rw [e _ i hi, lin]
  exact hy i hi
theorem ap_cb (w k : Nat) (M : Mx) (C : Nat → Nat → Int) (y : Nat → Int) (i : Nat) : ap w M (cb k C y) i = S k (fun l => ap w M (C l) i * y l) := by
  show S w (fun j => M i j * S k (fun l => y l * C l j)) = _
  have e1 : S w (fun j => M i j * S k (fun l => y l * C l j)) = S w (fun j => S k (fun l => M i j * (y l * C l j))) := S_congr fun j _ => (S_mul _ _ _).symm
  rw [e1, S_comm (fun j l => M i j * (y l * C l j))]
  refine S_congr fun l _ => ?_
  show S w (fun j => M i j * (y l * C l j)) = S w (fun j => M i j * C l j) * y l
  rw [Int.mul_comm _ (y l), ← S_mul]
  refine S_congr fun j _ => ?_
  rw [Int.mul_left_comm]
/-- a unit vector -/
def ev (a : Nat) (j : Nat) : Int := if j = a then 1 else 0
theorem ap_ev {w a : Nat} (M : Mx) (i : Nat) (h : a < w) : ap w M (ev a) i = M i a := by
  show S w (fun j => M i j * ev a j) = _
  have e : S w (fun j => M i j * ev a j) = S w (fun j => if j = a then M i a else 0) := by
    refine S_congr fun j _ => ?_
    unfold ev
    by_cases q : j = a
    · subst q; rw [if_pos rfl, if_pos rfl, Int.mul_one]
    · rw [if_neg q, if_neg q, Int.mul_zero]
  rw [e, S_single, if_pos h]
/-- pivots: at (ro t, co t) for t < r, no multiple of p; zeros at earlier pivots' columns; all other rows 0 -/
structure Piv (p : Int) (h w : Nat) (M : Mx) (r : Nat) (ro co : Nat → Nat) : Prop where
  ro_lt : ∀ t, t < r → ro t < h
  co_lt : ∀ t, t < r → co t < w
  at_ : ∀ t, t < r → ¬ p ∣ M (ro t) (co t)
  low : ∀ s t, s < t → t < r → p ∣ M (ro t) (co s)
  out : ∀ i, i < h → (∀ t, t < r → i ≠ ro t) → ∀ j, j < w → p ∣ M i j
theorem S_from {p : Int} {f : Nat → Int} {t : Nat} : ∀ {n : Nat}, t < n → (∀ i, i < n → i ≠ t → p ∣ f i) → p ∣ S n f → p ∣ f t
  | 0, h, _, _ => absurd h (Nat.not_lt_zero t)
  | n + 1, h, hz, hs => by
    by_cases e : t = n
    · subst e
      have q : p ∣ S t f := S_dvd fun i hi => hz i (by omega) (by omega)
      exact (Int.dvd_iff_dvd_of_dvd_add hs).mp q
    · have q : p ∣ f n := hz n (by omega) (by omega)
      have q2 : p ∣ S n f := by
        have hs' : p ∣ f n + S n f := by rw [Int.add_comm]; exact hs
        exact (Int.dvd_iff_dvd_of_dvd_add hs').mp q
      exact S_from (n := n) (by omega) (fun i hi => hz i (by omega)) q2
theorem Piv.rk {p : Int} {h w r : Nat} {M : Mx} {ro co : Nat → Nat} (hp : Dom p) (P : Piv p h w M r ro co) (k : Nat) : Rk p h w M k ↔ k ≤ r := by
  constructor
  · intro hk
    refine Classical.byContradiction fun hn => ?_
    obtain ⟨C, hC⟩ := hk
    obtain ⟨y, ⟨l, hl, hy⟩, he⟩ := steinitz hp r k (fun t l => ap w M (C l) (ro t)) (by omega)
    refine hy (hC y (fun i hi => ?_) l hl)
    by_cases q : ∃ t, t < r ∧ i = ro t
    · obtain ⟨t, ht, rfl⟩ := q
      rw [ap_cb]
      exact he t ht
    · exact S_dvd fun j hj => Int.dvd_trans (P.out i hi (fun t ht e => q ⟨t, ht, e⟩) j hj) (Int.dvd_mul_right _ _)
  · intro hk
    refine ⟨fun l => ev (co l), fun y hy => ?_⟩
    have all : ∀ n t, t + n = k → ∀ l, t ≤ l → l < k → p ∣ y l := by
      intro n
      induction n with
      | zero =>
        intro t ht l h1 h2
        omega
      | succ n ih =>
        intro t ht l h1 h2
        by_cases e : l = t
        · subst e
          have q := hy (ro l) (P.ro_lt l (by omega))
          rw [ap_cb] at q
          have q2 := S_from (t := l) h2 (fun i hi ne => ?_) q
          · rw [ap_ev M _ (P.co_lt l (by omega))] at q2
            exact hp.right q2 (P.at_ l (by omega))
          · by_cases hil : i < l
            · rw [ap_ev M _ (P.co_lt i (by omega))]
              exact Int.dvd_trans (P.low i l hil (by omega)) (Int.dvd_mul_right _ _)
            · exact Int.dvd_trans (ih (l + 1) (by omega) i (by omega) hi) (Int.dvd_mul_left _ _)
        · exact ih (t + 1) (by omega) l (by omega) h2
    exact fun l hl => all k 0 (by omega) l (Nat.zero_le _) hl
/-- the columns are independent -/
def Ind (p : Int) (h n : Nat) (M : Mx) : Prop := ∀ v, Ker p h n M v → ∀ j, j < n → p ∣ v j
theorem ker_congr {p : Int} {h n : Nat} {M : Mx} {u v : Nat → Int} (e : ∀ j, j < n → u j = v j) (k : Ker p h n M u) : Ker p h n M v := fun i hi => by
  have q := k i hi
  have z : ap n M u i = ap n M v i := S_congr fun j hj => by rw [e j hj]
  rw [← z]
  exact q
theorem rk_full {p : Int} {h n : Nat} {M : Mx} (hp : Dom p) : Rk p h n M n ↔ Ind p h n M := by
  constructor
  · rintro ⟨C, hC⟩ v hv j hj
    obtain ⟨y, ⟨l, hl, hy⟩, he⟩ := steinitz hp n (n + 1) (fun t l => if l = n then v t else C l t) (by omega)
    have he' : ∀ t, t < n → p ∣ cb n C y t + y n * v t := fun t ht => by
      have q := he t ht
      have e : S (n + 1) (fun l => (if l = n then v t else C l t) * y l) = cb n C y t + y n * v t := by
        show S n (fun l => (if l = n then v t else C l t) * y l) + (if n = n then v t else C n t) * y n = _
        rw [if_pos rfl, Int.mul_comm (v t)]
        congr 1
        refine S_congr fun l hl => ?_
        rw [if_neg (by omega), Int.mul_comm]
      rw [e] at q
      exact q
    have k1 : Ker p h n M (cb n C y) := fun i hi => by
      have q1 : p ∣ S n (fun j => M i j * (cb n C y j + y n * v j)) := S_dvd fun j hj => Int.dvd_trans (he' j hj) (Int.dvd_mul_left _ _)
      have e : S n (fun j => M i j * (cb n C y j + y n * v j)) = ap n M (cb n C y) i + y n * ap n M v i := by
        show _ = S n (fun j => M i j * cb n C y j) + y n * S n (fun j => M i j * v j)
        rw [← S_mul, ← S_add]
        refine S_congr fun j _ => ?_
        rw [Int.mul_add, Int.mul_left_comm]
      rw [e, Int.add_comm] at q1
      exact (Int.dvd_iff_dvd_of_dvd_add q1).mp (Int.dvd_trans (hv i hi) (Int.dvd_mul_left _ _))
    have hyl : ∀ l, l < n → p ∣ y l := hC y k1
    have hyn : ¬ p ∣ y n := fun z => hy (by
      by_cases e : l = n
      · rw [e]; exact z
      · exact hyl l (by omega))
    have q := he' j hj
    have q2 : p ∣ cb n C y j := S_dvd fun l hl => Int.dvd_trans (hyl l hl) (Int.dvd_mul_right _ _)
    exact hp.right ((Int.dvd_iff_dvd_of_dvd_add q).mp q2) hyn
  · intro hI
    refine ⟨ev, fun y hy l hl => ?_⟩
    refine hI y (ker_congr (fun j hj => ?_) hy) l hl
    show S n (fun l => y l * ev l j) = y j
    have e : S n (fun l => y l * ev l j) = S n (fun l => if l = j then y j else 0) := by
      refine S_congr fun l _ => ?_
      unfold ev
      by_cases q : j = l
      · subst q; rw [if_pos rfl, if_pos rfl, Int.mul_one]
      · rw [if_neg q, if_neg (fun z => q z.symm), Int.mul_zero]
    rw [e, S_single, if_pos hj]

/-! ### elementary steps -/
def rowSwap (M : Mx) (a b : Nat) : Mx := fun i j => M (sw a b i) j
def colSwap (M : Mx) (a b : Nat) : Mx := fun i j => M i (sw a b j)
/-- c times row s is added to row t -/
def rowAdd (M : Mx) (t s : Nat) (c : Int) : Mx := fun i j => if i = t then M t j + c * M s j else M i j
def colAdd (M : Mx) (t s : Nat) (c : Int) : Mx := fun i j => if j = t then M i t + c * M i s else M i j
def rowNeg (M : Mx) (a : Nat) : Mx := fun i j => if i = a then - M a j else M i j
/-- the same ranks over every field -/
def RE (h w : Nat) (M M' : Mx) : Prop := ∀ p, Dom p → ∀ k, Rk p h w M k ↔ Rk p h w M' k
theorem RE.refl {h w : Nat} (M : Mx) : RE h w M M := fun _ _ _ => Iff.rfl
theorem RE.trans {h w : Nat} {M M1 M2 : Mx} (a : RE h w M M1) (b : RE h w M1 M2) : RE h w M M2 := fun p d k => (a p d k).trans (b p d k)
theorem RE.of_ker {h w : Nat} {M M' : Mx} (e : ∀ p, Dom p → ∀ v, Ker p h w M v ↔ Ker p h w M' v) : RE h w M M' := fun p d _ => ⟨Rk.ker fun v => (e p d v).mpr, Rk.ker fun v => (e p d v).mp⟩
theorem re_rowSwap {h w a b : Nat} (M : Mx) (ha : a < h) (hb : b < h) : RE h w M (rowSwap M a b) := RE.of_ker fun p _ v => by
  constructor
  · intro k i hi
    exact k (sw a b i) (sw_lt ha hb hi)
  · intro k i hi
    have q := k (sw a b i) (sw_lt ha hb hi)
    have e : ap w (rowSwap M a b) v (sw a b i) = ap w M v i := S_congr fun j _ => by
      show M (sw a b (sw a b i)) j * v j = _
      rw [sw_sw]
    rw [e] at q
    exact q
theorem ap_rowAdd (w : Nat) (M : Mx) (t s : Nat) (c : Int) (v : Nat → Int) (i : Nat) : ap w (rowAdd M t s c) v i = if i = t then ap w M v t + c * ap w M v s else ap w M v i := by
  by_cases e : i = t
  · subst e
    rw [if_pos rfl]
    show S w (fun j => (if i = i then M i j + c * M s j else M i j) * v j) = S w _ + c * S w _
    rw [← S_mul, ← S_add]
    refine S_congr fun j _ => ?_
    rw [if_pos rfl, Int.add_mul, Int.mul_assoc]
  · rw [if_neg e]
    refine S_congr fun j _ => ?_
    show (if i = t then _ else M i j) * v j = _
    rw [if_neg e]
theorem re_rowAdd {h w t s : Nat} (M : Mx) (c : Int) (hs : s < h) (ne : t ≠ s) : RE h w M (rowAdd M t s c) := RE.of_ker fun p _ v => by
  constructor
  · intro k i hi
    rw [ap_rowAdd]
    by_cases e : i = t
    · subst e
      rw [if_pos rfl]
      exact Int.dvd_add (k i hi) (Int.dvd_trans (k s hs) (Int.dvd_mul_left _ _))
    · rw [if_neg e]
      exact k i hi
  · intro k i hi
    have ks := k s hs
    rw [ap_rowAdd, if_neg (fun z => ne z.symm)] at ks
    have q := k i hi
    rw [ap_rowAdd] at q
    by_cases e : i = t
    · subst e
      rw [if_pos rfl, Int.add_comm] at q
      exact (Int.dvd_iff_dvd_of_dvd_add q).mp (Int.dvd_trans ks (Int.dvd_mul_left _ _))
    · rw [if_neg e] at q
      exact q
theorem re_rowNeg {h w : Nat} (M : Mx) (a : Nat) : RE h w M (rowNeg M a) := RE.of_ker fun p _ v => by
  have e : ∀ i, ap w (rowNeg M a) v i = if i = a then - ap w M v a else ap w M v i := fun i => by
    by_cases e : i = a
    · subst e
      rw [if_pos rfl]
      show S w (fun j => (if i = i then - M i j else M i j) * v j) = - S w _
      rw [show ∀ x : Int, -x = (-1) * x from fun x => by omega, ← S_mul]
      refine S_congr fun j _ => ?_
      rw [if_pos rfl, Int.neg_mul, Int.neg_mul, Int.one_mul]
    · rw [if_neg e]
      refine S_congr fun j _ => ?_
      show (if i = a then _ else M i j) * v j = _
      rw [if_neg e]
  constructor
  · intro k i hi
    rw [e]
    by_cases q : i = a
    · subst q
      rw [if_pos rfl]
      exact Int.dvd_neg.mpr (k i hi)
    · rw [if_neg q]
      exact k i hi
  · intro k i hi
    have q := k i hi
    rw [e] at q
    by_cases z : i = a
    · subst z
      rw [if_pos rfl] at q
      exact Int.dvd_neg.mp q
    · rw [if_neg z] at q
      exact q
theorem re_colSwap {h w a b : Nat} (M : Mx) (ha : a < w) (hb : b < w) : RE h w M (colSwap M a b) := by
  have e : ∀ (M : Mx) (v : Nat → Int) (i : Nat), ap w (colSwap M a b) v i = ap w M (fun j => v (sw a b j)) i := fun M v i => by
    show S w (fun j => M i (sw a b j) * v j) = S w (fun j => M i j * v (sw a b j))
    rw [← S_swap (fun j => M i j * v (sw a b j)) ha hb]
    refine S_congr fun j _ => ?_
    rw [sw_sw]
  have e2 : colSwap (colSwap M a b) a b = M := by
    funext i j
    show M i (sw a b (sw a b j)) = M i j
    rw [sw_sw]
  intro p _ k
  constructor
  · refine Rk.map (fun v j => v (sw a b j)) (fun v i _ => ?_) (fun C y => rfl)
    rw [← e (colSwap M a b) v i, e2]
  · exact Rk.map (fun v j => v (sw a b j)) (fun v i _ => e M v i) (fun C y => rfl)
theorem re_colAdd {h w t s : Nat} (M : Mx) (c : Int) (ht : t < w) (hs : s < w) (ne : t ≠ s) : RE h w M (colAdd M t s c) := by
  have e : ∀ (M : Mx) (c : Int) (v : Nat → Int) (i : Nat), ap w (colAdd M t s c) v i = ap w M (fun j => if j = s then v s + c * v t else v j) i := fun M c v i => by
    have a1 : ap w (colAdd M t s c) v i = S w (fun j => M i j * v j + (if j = t then c * M i s * v t else 0)) := by
      refine S_congr fun j _ => ?_
      show (if j = t then M i t + c * M i s else M i j) * v j = _
      by_cases q : j = t
      · subst q; rw [if_pos rfl, if_pos rfl, Int.add_mul]
      · rw [if_neg q, if_neg q]; omega
    have a2 : ap w M (fun j => if j = s then v s + c * v t else v j) i = S w (fun j => M i j * v j + (if j = s then c * M i s * v t else 0)) := by
      refine S_congr fun j _ => ?_
      show M i j * (if j = s then v s + c * v t else v j) = _
      by_cases q : j = s
      · subst q; rw [if_pos rfl, if_pos rfl, Int.mul_add, ← Int.mul_assoc, Int.mul_comm (M i j) c]
      · rw [if_neg q, if_neg q]; omega
    rw [a1, a2, S_add, S_add, S_single, S_single, if_pos ht, if_pos hs]
  have e2 : colAdd (colAdd M t s c) t s (-c) = M := by
    funext i j
    show (if j = t then colAdd M t s c i t + (-c) * colAdd M t s c i s else colAdd M t s c i j) = M i j
    have b1 : colAdd M t s c i t = M i t + c * M i s := if_pos rfl
    have b2 : colAdd M t s c i s = M i s := if_neg fun z => ne z.symm
    by_cases q : j = t
    · subst q
      rw [if_pos rfl, b1, b2, Int.neg_mul]
      omega
    · rw [if_neg q]
      exact if_neg q
  have lin : ∀ (k : Nat) (c : Int) (C : Nat → Nat → Int) (y : Nat → Int), (fun j => if j = s then cb k C y s + c * cb k C y t else cb k C y j) = cb k (fun l j => if j = s then C l s + c * C l t else C l j) y := by
    intro k c C y
    funext j
    by_cases q : j = s
    · subst q
      rw [if_pos rfl]
      show S k (fun l => y l * C l j) + c * S k (fun l => y l * C l t) = S k (fun l => y l * (if j = j then C l j + c * C l t else C l j))
      rw [← S_mul, ← S_add]
      refine S_congr fun l _ => ?_
      rw [if_pos rfl, Int.mul_add, Int.mul_left_comm]
    · rw [if_neg q]
      refine S_congr fun l _ => ?_
      show y l * C l j = y l * (if j = s then _ else C l j)
      rw [if_neg q]
  intro p _ k
  constructor
  · refine Rk.map (fun v j => if j = s then v s + (-c) * v t else v j) (fun v i _ => ?_) (fun C y => lin k (-c) C y)
    rw [← e (colAdd M t s c) (-c) v i, e2]
  · exact Rk.map (fun v j => if j = s then v s + c * v t else v j) (fun v i _ => e M c v i) (fun C y => lin k c C y)
end Ev
/-! Ma2: the diagonal form's steps on functions of two places: closed forms, what a turn of its loop leaves. -/
namespace Ev
/-! ### floor division and remainder in size -/
theorem fmod_lt (x : Int) {P : Int} (hP : P ≠ 0) : (x.fmod P).natAbs < P.natAbs := by
  rcases Int.lt_or_gt_of_ne hP with h | h
  · have a := Int.fmod_lt_of_pos (-x) (show 0 < -P by omega)
    have b := Int.fmod_nonneg_of_pos (-x) (show 0 < -P by omega)
    rw [Int.neg_fmod_neg] at a b
    omega
  · have a := Int.fmod_lt_of_pos x h
    have b := Int.fmod_nonneg_of_pos x h
    omega
theorem fdiv_mul (x : Int) {P : Int} (hP : P ≠ 0) : P.natAbs * (x.fdiv P).natAbs ≤ x.natAbs + P.natAbs - 1 := by
  have h := Int.mul_fdiv_add_fmod x P
  have h2 := fmod_lt x hP
  rw [← Int.natAbs_mul]
  omega
theorem fdiv_le (x : Int) {P : Int} (hP : P ≠ 0) : (x.fdiv P).natAbs ≤ x.natAbs := by
  refine Classical.byContradiction fun hn => ?_
  have h := fdiv_mul x hP
  have h1 : P.natAbs * (x.natAbs + 1) ≤ P.natAbs * (x.fdiv P).natAbs := Nat.mul_le_mul_left _ (by omega)
  have h2 : 1 ≤ P.natAbs := by omega
  have h3 : 1 * x.natAbs ≤ P.natAbs * x.natAbs := Nat.mul_le_mul_right _ h2
  rw [Nat.mul_add, Nat.mul_one] at h1
  omega
theorem rest_eq (x P : Int) : x + (-(x.fdiv P)) * P = x.fmod P := by
  rw [Int.fmod_def, Int.neg_mul, Int.mul_comm (x.fdiv P)]
  omega

/-- first, middle, last -/
structure W3 where
  F : Mx
  M : Mx
  L : Mx
def stepR (a i : Nat) (P : Int) (u : W3) : W3 := ⟨rowAdd u.F i a (-((u.M i a).fdiv P)), rowAdd u.M i a (-((u.M i a).fdiv P)), u.L⟩
def stepC (a j : Nat) (P : Int) (u : W3) : W3 := ⟨u.F, colAdd u.M j a (-((u.M a j).fdiv P)), colAdd u.L j a (-((u.M a j).fdiv P))⟩
def clrR (a : Nat) (P : Int) : Nat → W3 → W3
  | 0, u => u
  | n + 1, u => stepR a (a + 1 + n) P (clrR a P n u)
def clrC (a : Nat) (P : Int) : Nat → W3 → W3
  | 0, u => u
  | n + 1, u => stepC a (a + 1 + n) P (clrC a P n u)
/-- the whole of clear -/
def clr (h w a : Nat) (u : W3) : W3 := clrC a (u.M a a) (w - (a + 1)) (clrR a (u.M a a) (h - (a + 1)) u)
/-- the item of place (i, j) is brought to (a, a) -/
def brg (a i j : Nat) (u : W3) : W3 := ⟨rowSwap u.F a i, colSwap (rowSwap u.M a i) a j, colSwap u.L a j⟩
def spr (a i : Nat) (u : W3) : W3 := ⟨rowAdd u.F a i 1, rowAdd u.M a i 1, u.L⟩
def ngt (a : Nat) (u : W3) : W3 := ⟨rowNeg u.F a, rowNeg u.M a, u.L⟩

theorem clrR_M (a : Nat) (P : Int) (u : W3) : ∀ (n i j : Nat), (clrR a P n u).M i j = if a < i ∧ i < a + 1 + n then u.M i j + (-((u.M i a).fdiv P)) * u.M a j else u.M i j
  | 0, i, j => by rw [if_neg (by omega)]; rfl
  | n + 1, i, j => by
    show (if i = a + 1 + n then (clrR a P n u).M (a + 1 + n) j + (-(((clrR a P n u).M (a + 1 + n) a).fdiv P)) * (clrR a P n u).M a j else (clrR a P n u).M i j) = _
    have e1 : ∀ j, (clrR a P n u).M (a + 1 + n) j = u.M (a + 1 + n) j := fun j => by rw [clrR_M a P u n, if_neg (by omega)]
    have e2 : (clrR a P n u).M a j = u.M a j := by rw [clrR_M a P u n, if_neg (by omega)]
    by_cases q : i = a + 1 + n
    · rw [if_pos q, e1, e1, e2, if_pos (by omega), q]
    · rw [if_neg q, clrR_M a P u n]
      by_cases z : a < i ∧ i < a + 1 + n
      · rw [if_pos z, if_pos (by omega)]
      · rw [if_neg z, if_neg (by omega)]
theorem clrR_F (a : Nat) (P : Int) (u : W3) : ∀ (n i j : Nat), (clrR a P n u).F i j = if a < i ∧ i < a + 1 + n then u.F i j + (-((u.M i a).fdiv P)) * u.F a j else u.F i j
  | 0, i, j => by rw [if_neg (by omega)]; rfl
  | n + 1, i, j => by
    show (if i = a + 1 + n then (clrR a P n u).F (a + 1 + n) j + (-(((clrR a P n u).M (a + 1 + n) a).fdiv P)) * (clrR a P n u).F a j else (clrR a P n u).F i j) = _
    have e0 : (clrR a P n u).M (a + 1 + n) a = u.M (a + 1 + n) a := by rw [clrR_M, if_neg (by omega)]
    have e1 : ∀ j, (clrR a P n u).F (a + 1 + n) j = u.F (a + 1 + n) j := fun j => by rw [clrR_F a P u n, if_neg (by omega)]
    have e2 : (clrR a P n u).F a j = u.F a j := by rw [clrR_F a P u n, if_neg (by omega)]
    by_cases q : i = a + 1 + n
    · rw [if_pos q, e0, e1, e2, if_pos (by omega), q]
    · rw [if_neg q, clrR_F a P u n]
      by_cases z : a < i ∧ i < a + 1 + n
      · rw [if_pos z, if_pos (by omega)]
      · rw [if_neg z, if_neg (by omega)]
theorem clrR_L (a : Nat) (P : Int) (u : W3) : ∀ n : Nat, (clrR a P n u).L = u.L
  | 0 => rfl
  | n + 1 => clrR_L a P u n
theorem clrC_M (a : Nat) (P : Int) (u : W3) : ∀ (n i j : Nat), (clrC a P n u).M i j = if a < j ∧ j < a + 1 + n then u.M i j + (-((u.M a j).fdiv P)) * u.M i a else u.M i j
  | 0, i, j => by rw [if_neg (by omega)]; rfl
  | n + 1, i, j => by
    show (if j = a + 1 + n then (clrC a P n u).M i (a + 1 + n) + (-(((clrC a P n u).M a (a + 1 + n)).fdiv P)) * (clrC a P n u).M i a else (clrC a P n u).M i j) = _
    have e1 : ∀ i, (clrC a P n u).M i (a + 1 + n) = u.M i (a + 1 + n) := fun i => by rw [clrC_M a P u n, if_neg (by omega)]
    have e2 : (clrC a P n u).M i a = u.M i a := by rw [clrC_M a P u n, if_neg (by omega)]
    by_cases q : j = a + 1 + n
    · rw [if_pos q, e1, e1, e2, if_pos (by omega), q]
    · rw [if_neg q, clrC_M a P u n]
      by_cases z : a < j ∧ j < a + 1 + n
      · rw [if_pos z, if_pos (by omega)]
      · rw [if_neg z, if_neg (by omega)]
theorem clrC_L (a : Nat) (P : Int) (u : W3) : ∀ (n i j : Nat), (clrC a P n u).L i j = if a < j ∧ j < a + 1 + n then u.L i j + (-((u.M a j).fdiv P)) * u.L i a else u.L i j
  | 0, i, j => by rw [if_neg (by omega)]; rfl
  | n + 1, i, j => by
    show (if j = a + 1 + n then (clrC a P n u).L i (a + 1 + n) + (-(((clrC a P n u).M a (a + 1 + n)).fdiv P)) * (clrC a P n u).L i a else (clrC a P n u).L i j) = _
    have e0 : (clrC a P n u).M a (a + 1 + n) = u.M a (a + 1 + n) := by rw [clrC_M, if_neg (by omega)]
    have e1 : ∀ i, (clrC a P n u).L i (a + 1 + n) = u.L i (a + 1 + n) := fun i => by rw [clrC_L a P u n, if_neg (by omega)]
    have e2 : (clrC a P n u).L i a = u.L i a := by rw [clrC_L a P u n, if_neg (by omega)]
    by_cases q : j = a + 1 + n
    · rw [if_pos q, e0, e1, e2, if_pos (by omega), q]
    · rw [if_neg q, clrC_L a P u n]
      by_cases z : a < j ∧ j < a + 1 + n
      · rw [if_pos z, if_pos (by omega)]
      · rw [if_neg z, if_neg (by omega)]
theorem clrC_F (a : Nat) (P : Int) (u : W3) : ∀ n : Nat, (clrC a P n u).F = u.F
  | 0 => rfl
  | n + 1 => clrC_F a P u n

/-! ### the same ranks -/
theorem re_clrR {h w a : Nat} {P : Int} (ha : a < h) (u : W3) : ∀ n : Nat, RE h w u.M (clrR a P n u).M
  | 0 => RE.refl _
  | n + 1 => (re_clrR ha u n).trans (re_rowAdd _ _ ha (by omega))
theorem re_clrC {h w a : Nat} {P : Int} (u : W3) : ∀ n : Nat, a + 1 + n ≤ w → RE h w u.M (clrC a P n u).M
  | 0, _ => RE.refl _
  | n + 1, hn => (re_clrC u n (by omega)).trans (re_colAdd _ _ (by omega) (by omega) (by omega))
theorem re_clr {h w a : Nat} (u : W3) (ha : a < h) (hw : a < w) : RE h w u.M (clr h w a u).M := (re_clrR ha u _).trans (re_clrC _ _ (by omega))
theorem re_brg {h w a i j : Nat} (u : W3) (ha : a < h) (hw : a < w) (hi : i < h) (hj : j < w) : RE h w u.M (brg a i j u).M := (re_rowSwap _ ha hi).trans (re_colSwap _ hw hj)

/-! ### zeros beside the diagonal in the first a rows and columns -/
def Dg (h w a : Nat) (M : Mx) : Prop := ∀ i j, i < h → j < w → (i < a ∨ j < a) → i ≠ j → M i j = 0
/-- clear, told place by place -/
structure Clr (h w a : Nat) (M M2 : Mx) : Prop where
  aa : M2 a a = M a a
  col : ∀ i, a < i → i < h → M2 i a = (M i a).fmod (M a a)
  row : ∀ j, a < j → j < w → M2 a j = (M a j).fmod (M a a)
  in_ : ∀ i j, a < i → i < h → a < j → j < w → M2 i j = M i j + (-((M i a).fdiv (M a a))) * M a j + (-((M a j).fdiv (M a a))) * (M i a).fmod (M a a)
  old : ∀ i j, i < h → j < w → (i < a ∨ j < a) → M2 i j = M i j
theorem clr_is {h w a : Nat} {u : W3} (hD : Dg h w a u.M) (ha : a < h) (hw : a < w) : Clr h w a u.M (clr h w a u).M := by
  have eR : ∀ i j, (clrR a (u.M a a) (h - (a + 1)) u).M i j = if a < i ∧ i < a + 1 + (h - (a + 1)) then u.M i j + (-((u.M i a).fdiv (u.M a a))) * u.M a j else u.M i j := clrR_M a _ u _
  have eA : ∀ j, (clrR a (u.M a a) (h - (a + 1)) u).M a j = u.M a j := fun j => by rw [eR, if_neg (by omega)]
  have eI : ∀ i, a < i → i < h → (clrR a (u.M a a) (h - (a + 1)) u).M i a = (u.M i a).fmod (u.M a a) := fun i h1 h2 => by rw [eR, if_pos (by omega), rest_eq]
  have eC : ∀ i j, (clr h w a u).M i j = if a < j ∧ j < a + 1 + (w - (a + 1)) then (clrR a (u.M a a) (h - (a + 1)) u).M i j + (-((u.M a j).fdiv (u.M a a))) * (clrR a (u.M a a) (h - (a + 1)) u).M i a else (clrR a (u.M a a) (h - (a + 1)) u).M i j := fun i j => by
    show (clrC a (u.M a a) (w - (a + 1)) (clrR a (u.M a a) (h - (a + 1)) u)).M i j = _
    rw [clrC_M, eA]
  refine ⟨?_, fun i h1 h2 => ?_, fun j h1 h2 => ?_, fun i j h1 h2 h3 h4 => ?_, fun i j h1 h2 h3 => ?_⟩
  · rw [eC, if_neg (by omega), eA]
  · rw [eC, if_neg (by omega), eI i h1 h2]
  · rw [eC, if_pos (by omega), eA, eA, rest_eq]
  · rw [eC, if_pos (by omega), eI i h1 h2, eR, if_pos (by omega)]
  · by_cases q : a < j ∧ j < a + 1 + (w - (a + 1))
    · have hia : i < a := by omega
      rw [eC, if_pos q, eR, if_neg (by omega), eR, if_neg (by omega), hD i a h1 hw (.inl hia) (by omega), Int.mul_zero, Int.add_zero]
    · rw [eC, if_neg q, eR]
      by_cases z : a < i ∧ i < a + 1 + (h - (a + 1))
      · have hja : j < a := by omega
        rw [if_pos z, hD a j ha h2 (.inr hja) (by omega), Int.mul_zero, Int.add_zero]
      · rw [if_neg z]
theorem sw_low {a b i : Nat} (h : i < a) (hb : a ≤ b) : sw a b i = i := sw_ne (by omega) (by omega)
theorem sw_high {a b i : Nat} (h : a ≤ i) (hb : a ≤ b) : a ≤ sw a b i := by
  unfold sw
  split
  · exact hb
  · split
    · exact Nat.le_refl _
    · exact h
theorem dg_brg {h w a i j : Nat} {u : W3} (hD : Dg h w a u.M) (ha : a < h) (hw : a < w) (hi : i < h) (hj : j < w) (h1 : a ≤ i) (h2 : a ≤ j) : Dg h w a (brg a i j u).M := fun x y hx hy hxy ne => by
  show u.M (sw a i x) (sw a j y) = 0
  refine hD _ _ (sw_lt ha hi hx) (sw_lt hw hj hy) ?_ ?_
  · rcases hxy with q | q
    · exact .inl (by rw [sw_low q h1]; exact q)
    · exact .inr (by rw [sw_low q h2]; exact q)
  · by_cases q : x < a
    · rw [sw_low q h1]
      by_cases z : y < a
      · rw [sw_low z h2]; exact ne
      · have := sw_high (b := j) (Nat.le_of_not_lt z) h2
        omega
    · have q1 := sw_high (b := i) (Nat.le_of_not_lt q) h1
      have z : y < a := by omega
      rw [sw_low z h2]
      omega
theorem dg_clr {h w a : Nat} {M M2 : Mx} (hD : Dg h w a M) (C : Clr h w a M M2) : Dg h w a M2 := fun i j hi hj hij ne => by rw [C.old i j hi hj hij]; exact hD i j hi hj hij ne
theorem dg_spr {h w a i0 : Nat} {u : W3} (hD : Dg h w a u.M) (h1 : a < i0) (h2 : i0 < h) : Dg h w a (spr a i0 u).M := fun i j hi hj hij ne => by
  show (if i = a then u.M a j + 1 * u.M i0 j else u.M i j) = 0
  by_cases q : i = a
  · have hja : j < a := by omega
    rw [if_pos q, ← q, hD i j hi hj hij ne, hD i0 j h2 hj (.inr hja) (by omega)]
    rfl
  · rw [if_neg q]
    exact hD i j hi hj hij ne
/-- the place of the least item other than 0 from (a, a) on, the first of several -/
structure LP (h w a : Nat) (M : Mx) (i j : Nat) : Prop where
  i1 : a ≤ i
  i2 : i < h
  j1 : a ≤ j
  j2 : j < w
  nz : M i j ≠ 0
  least : ∀ x y, a ≤ x → x < h → a ≤ y → y < w → M x y ≠ 0 → (M i j).natAbs ≤ (M x y).natAbs
  first : ∀ x y, a ≤ x → x < h → a ≤ y → y < w → M x y ≠ 0 → (x < i ∨ (x = i ∧ y < j)) → (M i j).natAbs < (M x y).natAbs
/-- nothing is left -/
def Nil (h w a : Nat) (M : Mx) : Prop := ∀ x y, a ≤ x → x < h → a ≤ y → y < w → M x y = 0
def Clean (h w a : Nat) (M : Mx) : Prop := (∀ i, a < i → i < h → M i a = 0) ∧ ∀ j, a < j → j < w → M a j = 0
/-- below row a no item that the diagonal one does not divide -/
def Fine (h w a : Nat) (M : Mx) : Prop := ∀ i j, a < i → i < h → j < w → (M i j).fmod (M a a) = 0
theorem brg_aa (a i j : Nat) (u : W3) : (brg a i j u).M a a = u.M i j := by
  show u.M (sw a i a) (sw a j a) = u.M i j
  rw [sw_a, sw_a]
/-- an unclean clear leaves a lesser item -/
theorem unclean {h w a : Nat} {M M2 : Mx} (C : Clr h w a M M2) (hP : M a a ≠ 0) (ha : a < h) (hw : a < w) (n : ¬ Clean h w a M2) : ∃ x y, a ≤ x ∧ x < h ∧ a ≤ y ∧ y < w ∧ M2 x y ≠ 0 ∧ (M2 x y).natAbs < (M a a).natAbs := by
  refine Classical.byContradiction fun q => n ⟨fun i h1 h2 => Classical.byContradiction fun z => q ⟨i, a, by omega, h2, Nat.le_refl _, hw, z, ?_⟩, fun j h1 h2 => Classical.byContradiction fun z => q ⟨a, j, Nat.le_refl _, ha, by omega, h2, z, ?_⟩⟩
  · rw [C.col i h1 h2]
    exact fmod_lt _ hP
  · rw [C.row j h1 h2]
    exact fmod_lt _ hP
end Ev
/-! Ma3: the diagonal form's loop: its measure, and how great its numbers can become. -/
namespace Ev
/-- items from (a, a) on; the other ones; the square ones in bits -/
def SB (h w a : Nat) (M : Mx) (B : Nat) : Prop := ∀ i j, a ≤ i → i < h → a ≤ j → j < w → (M i j).natAbs ≤ B
def OB (h w a : Nat) (M : Mx) (B : Nat) : Prop := ∀ i j, i < h → j < w → (i < a ∨ j < a) → (M i j).natAbs ≤ B
def Bd (h w : Nat) (M : Mx) (B : Nat) : Prop := ∀ i j, i < h → j < w → (M i j).natAbs ≤ B
def Bb (n : Nat) (M : Mx) (e : Nat) : Prop := ∀ i j, i < n → j < n → (M i j).natAbs < 2 ^ e
theorem SB.mono {h w a B B' : Nat} {M : Mx} (s : SB h w a M B) (hB : B ≤ B') : SB h w a M B' := fun i j h1 h2 h3 h4 => Nat.le_trans (s i j h1 h2 h3 h4) hB
theorem OB.mono {h w a B B' : Nat} {M : Mx} (s : OB h w a M B) (hB : B ≤ B') : OB h w a M B' := fun i j h1 h2 h3 => Nat.le_trans (s i j h1 h2 h3) hB
theorem Bd.mono {h w B B' : Nat} {M : Mx} (s : Bd h w M B) (hB : B ≤ B') : Bd h w M B' := fun i j h1 h2 => Nat.le_trans (s i j h1 h2) hB
theorem Bb.mono {n e e' : Nat} {M : Mx} (s : Bb n M e) (he : e ≤ e') : Bb n M e' := fun i j h1 h2 => Nat.lt_of_lt_of_le (s i j h1 h2) (Nat.pow_le_pow_right (by decide) he)
theorem bd_of {h w a B : Nat} {M : Mx} (s : SB h w a M B) (o : OB h w a M B) : Bd h w M B := fun i j hi hj => by
  by_cases q : i < a ∨ j < a
  · exact o i j hi hj q
  · exact s i j (by omega) hi (by omega) hj
theorem sb_brg {h w a i j B : Nat} {u : W3} (s : SB h w a u.M B) (l : LP h w a u.M i j) (ha : a < h) (hw : a < w) : SB h w a (brg a i j u).M B := fun x y h1 h2 h3 h4 => s _ _ (sw_high h1 l.i1) (sw_lt ha l.i2 h2) (sw_high h3 l.j1) (sw_lt hw l.j2 h4)
theorem ob_brg {h w a i j B : Nat} {u : W3} (s : OB h w a u.M B) (l : LP h w a u.M i j) (ha : a < h) (hw : a < w) : OB h w a (brg a i j u).M B := fun x y h1 h2 h3 => by
  refine s _ _ (sw_lt ha l.i2 h1) (sw_lt hw l.j2 h2) ?_
  rcases h3 with q | q
  · exact .inl (by rw [sw_low q l.i1]; exact q)
  · exact .inr (by rw [sw_low q l.j1]; exact q)
theorem bd_brg {h w a i j B : Nat} {u : W3} (s : Bd h w u.M B) (ha : a < h) (hw : a < w) (hi : i < h) (hj : j < w) : Bd h w (brg a i j u).M B := fun x y h1 h2 => s _ _ (sw_lt ha hi h1) (sw_lt hw hj h2)
theorem bF_brg {h a i j e : Nat} {u : W3} (s : Bb h u.F e) (ha : a < h) (hi : i < h) : Bb h (brg a i j u).F e := fun x y h1 h2 => s _ _ (sw_lt ha hi h1) h2
theorem bL_brg {w a i j e : Nat} {u : W3} (s : Bb w u.L e) (hw : a < w) (hj : j < w) : Bb w (brg a i j u).L e := fun x y h1 h2 => s _ _ h1 (sw_lt hw hj h2)
theorem grow {x y q : Int} {e b B : Nat} (hx : x.natAbs < 2 ^ e) (hy : y.natAbs < 2 ^ e) (hq : q.natAbs ≤ B) (hb : B + 1 ≤ 2 ^ b) : (x + q * y).natAbs < 2 ^ (e + b) := by
  have h1 := Int.natAbs_add_le x (q * y)
  rw [Int.natAbs_mul] at h1
  have h2 : q.natAbs * y.natAbs ≤ B * 2 ^ e := Nat.mul_le_mul hq (Nat.le_of_lt hy)
  have h3 : (B + 1) * 2 ^ e ≤ 2 ^ b * 2 ^ e := Nat.mul_le_mul_right _ hb
  rw [Nat.add_mul, Nat.one_mul] at h3
  rw [Nat.pow_add, Nat.mul_comm (2 ^ e)]
  omega
theorem bF_clr {h w a e b B : Nat} {u : W3} (s : Bb h u.F e) (hB : SB h w a u.M B) (hP : u.M a a ≠ 0) (ha : a < h) (hw : a < w) (hb : B + 1 ≤ 2 ^ b) : Bb h (clr h w a u).F (e + b) := fun i j hi hj => by
  show ((clrC a _ _ _).F i j).natAbs < _
  rw [clrC_F, clrR_F]
  by_cases q : a < i ∧ i < a + 1 + (h - (a + 1))
  · rw [if_pos q]
    refine grow (s i j hi hj) (s a j ha hj) ?_ hb
    rw [Int.natAbs_neg]
    exact Nat.le_trans (fdiv_le _ hP) (hB i a (by omega) hi (Nat.le_refl _) hw)
  · rw [if_neg q]
    exact Nat.lt_of_lt_of_le (s i j hi hj) (Nat.pow_le_pow_right (by decide) (Nat.le_add_right _ _))
theorem bL_clr {h w a e b B : Nat} {u : W3} (s : Bb w u.L e) (hB : SB h w a u.M B) (hP : u.M a a ≠ 0) (ha : a < h) (hw : a < w) (hb : B + 1 ≤ 2 ^ b) : Bb w (clr h w a u).L (e + b) := fun i j hi hj => by
  show ((clrC a _ _ _).L i j).natAbs < _
  have e1 : ∀ j, (clrR a (u.M a a) (h - (a + 1)) u).M a j = u.M a j := fun j => by rw [clrR_M, if_neg (by omega)]
  rw [clrC_L, clrR_L, e1]
  by_cases q : a < j ∧ j < a + 1 + (w - (a + 1))
  · rw [if_pos q]
    refine grow (s i j hi hj) (s i a hi hw) ?_ hb
    rw [Int.natAbs_neg]
    exact Nat.le_trans (fdiv_le _ hP) (hB a j (Nat.le_refl _) ha (by omega) hj)
  · rw [if_neg q]
    exact Nat.lt_of_lt_of_le (s i j hi hj) (Nat.pow_le_pow_right (by decide) (Nat.le_add_right _ _))
theorem bF_spr {h a i0 e : Nat} {u : W3} (s : Bb h u.F e) (ha : a < h) (h0 : i0 < h) : Bb h (spr a i0 u).F (e + 1) := fun i j hi hj => by
  show (if i = a then u.F a j + 1 * u.F i0 j else u.F i j).natAbs < _
  by_cases q : i = a
  · rw [if_pos q]
    exact grow (s a j ha hj) (s i0 j h0 hj) (B := 1) (by decide) (by decide)
  · rw [if_neg q]
    exact Nat.lt_of_lt_of_le (s i j hi hj) (Nat.pow_le_pow_right (by decide) (Nat.le_add_right _ _))

/-- the state is ready: the least item stands at (a, a), the column below is 0, and the row has an item that it does not divide -/
structure Rdy (h w a : Nat) (M : Mx) (i j : Nat) : Prop where
  ei : i = a
  ej : j = a
  col : ∀ x, a < x → x < h → M x a = 0
  ex : ∃ y, a < y ∧ y < w ∧ (M a y).fmod (M a a) ≠ 0
/-- the label of a state by its least item and whether it is ready -/
def Lab (h w a : Nat) (M : Mx) (i j : Nat) (μ : Nat) : Prop := μ = 2 * (M i j).natAbs + 1 ∨ (μ = 2 * (M i j).natAbs ∧ Rdy h w a M i j)
/-- one turn of the loop, as far as it is the same for all: u1 is u with the least item brought to (a, a), M2 what clear makes of it -/
structure Trn (h w a : Nat) (M : Mx) (i j : Nat) (M1 M2 : Mx) : Prop where
  lp : LP h w a M i j
  dg : Dg h w a M1
  e1 : ∀ x y, M1 x y = M (sw a i x) (sw a j y)
  cl : Clr h w a M1 M2
  ha : a < h
  hw : a < w
section
variable {h w a i j : Nat} {M M1 M2 : Mx}
theorem Trn.aa (t : Trn h w a M i j M1 M2) : M1 a a = M i j := by rw [t.e1, sw_a, sw_a]
theorem Trn.nz (t : Trn h w a M i j M1 M2) : M1 a a ≠ 0 := by rw [t.aa]; exact t.lp.nz
theorem Trn.min (t : Trn h w a M i j M1 M2) {x y : Nat} (h1 : a ≤ x) (h2 : x < h) (h3 : a ≤ y) (h4 : y < w) (hn : M1 x y ≠ 0) : (M1 a a).natAbs ≤ (M1 x y).natAbs := by
  rw [t.aa]
  rw [t.e1] at hn ⊢
  exact t.lp.least _ _ (sw_high h1 t.lp.i1) (sw_lt t.ha t.lp.i2 h2) (sw_high h3 t.lp.j1) (sw_lt t.hw t.lp.j2 h4) hn
theorem Trn.rdy (t : Trn h w a M i j M1 M2) (r : Rdy h w a M i j) : M1 = M := by
  funext x y
  rw [t.e1, r.ei, r.ej]
  have e : ∀ z, sw a a z = z := fun z => by
    by_cases q : z = a
    · rw [q, sw_a]
    · exact sw_ne q q
  rw [e, e]
theorem Trn.rdy_unclean (t : Trn h w a M i j M1 M2) (r : Rdy h w a M i j) : ¬ Clean h w a M2 := fun c => by
  obtain ⟨y, h1, h2, hn⟩ := r.ex
  have e := c.2 y h1 h2
  rw [t.cl.row y h1 h2, t.rdy r] at e
  exact hn e
theorem Trn.rdy_in (t : Trn h w a M i j M1 M2) (r : Rdy h w a M i j) {x y : Nat} (h1 : a < x) (h2 : x < h) (h3 : a < y) (h4 : y < w) : M2 x y = M x y := by
  have e : M1 = M := t.rdy r
  rw [t.cl.in_ x y h1 h2 h3 h4, e, r.col x h1 h2, Int.zero_fdiv, Int.zero_fmod, Int.mul_zero, Int.neg_zero, Int.zero_mul]
  omega
/-- behind an unclean clear the least item is less -/
theorem Trn.less (t : Trn h w a M i j M1 M2) (n : ¬ Clean h w a M2) {i' j' : Nat} (l : LP h w a M2 i' j') : (M2 i' j').natAbs < (M i j).natAbs := by
  obtain ⟨x, y, h1, h2, h3, h4, hn, hl⟩ := unclean t.cl t.nz t.ha t.hw n
  rw [t.aa] at hl
  exact Nat.lt_of_le_of_lt (l.least x y h1 h2 h3 h4 hn) hl
theorem Trn.not_nil (t : Trn h w a M i j M1 M2) : ¬ Nil h w a M2 := fun n => t.nz (by rw [← t.cl.aa]; exact n a a (Nat.le_refl _) t.ha (Nat.le_refl _) t.hw)
/-- spread: row i0 is added to row a -/
structure Spr (h w a i0 : Nat) (M2 M3 : Mx) : Prop where
  i1 : a < i0
  i2 : i0 < h
  ex : ∃ y, y < w ∧ (M2 i0 y).fmod (M2 a a) ≠ 0
  row : ∀ y, M3 a y = M2 a y + 1 * M2 i0 y
  oth : ∀ x y, x ≠ a → M3 x y = M2 x y
theorem Spr.aa {i0 : Nat} {M3 : Mx} (s : Spr h w a i0 M2 M3) (c : Clean h w a M2) : M3 a a = M2 a a := by
  rw [s.row, c.1 i0 s.i1 s.i2]
  omega
theorem Spr.at_ {i0 : Nat} {M3 : Mx} (s : Spr h w a i0 M2 M3) (c : Clean h w a M2) {y : Nat} (h1 : a < y) (h2 : y < w) : M3 a y = M2 i0 y := by
  rw [s.row, c.2 y h1 h2]
  omega
theorem Spr.sb {i0 B : Nat} {M3 : Mx} (s : Spr h w a i0 M2 M3) (c : Clean h w a M2) (b : SB h w a M2 B) : SB h w a M3 B := fun x y h1 h2 h3 h4 => by
  by_cases e : x = a
  · subst e
    by_cases q : y = x
    · subst q
      rw [s.aa c]
      exact b y y h1 h2 h1 h4
    · rw [s.at_ c (by omega) h4]
      exact b i0 y (Nat.le_of_lt s.i1) s.i2 h3 h4
  · rw [s.oth x y e]
    exact b x y h1 h2 h3 h4
theorem Trn.spr_next (t : Trn h w a M i j M1 M2) (c : Clean h w a M2) (d : Dg h w a M2) {i0 : Nat} {M3 : Mx} (s : Spr h w a i0 M2 M3) {i' j' : Nat} (l : LP h w a M3 i' j') :
    (M3 i' j').natAbs < (M i j).natAbs ∨ ((M3 i' j').natAbs = (M i j).natAbs ∧ Rdy h w a M3 i' j') := by
  have eP : M3 a a = M i j := by rw [s.aa c, t.cl.aa, t.aa]
  have nP : M3 a a ≠ 0 := by rw [eP]; exact t.lp.nz
  have h1 := l.least a a (Nat.le_refl _) t.ha (Nat.le_refl _) t.hw nP
  rw [eP] at h1
  by_cases q : (M3 i' j').natAbs < (M i j).natAbs
  · exact .inl q
  · have eq : (M3 i' j').natAbs = (M i j).natAbs := by omega
    have ep : i' = a ∧ j' = a := by
      refine Classical.byContradiction fun z => ?_
      have hb : a < i' ∨ (a = i' ∧ a < j') := by
        have := l.i1
        have := l.j1
        omega
      have h2 := l.first a a (Nat.le_refl _) t.ha (Nat.le_refl _) t.hw nP hb
      rw [eP] at h2
      omega
    refine .inr ⟨eq, ep.1, ep.2, fun x hx1 hx2 => ?_, ?_⟩
    · rw [s.oth x a (by omega)]
      exact c.1 x hx1 hx2
    · obtain ⟨y, hy, hn⟩ := s.ex
      have hay : a < y := by
        refine Classical.byContradiction fun z => hn ?_
        by_cases e : y = a
        · rw [e, c.1 i0 s.i1 s.i2, Int.zero_fmod]
        · have s1 := s.i1
          rw [d i0 y s.i2 hy (.inr (by omega)) (by omega), Int.zero_fmod]
      refine ⟨y, hay, hy, ?_⟩
      rw [s.aa c, s.at_ c hay hy]
      exact hn
theorem Trn.spr_nil (t : Trn h w a M i j M1 M2) (c : Clean h w a M2) {i0 : Nat} {M3 : Mx} (s : Spr h w a i0 M2 M3) : ¬ Nil h w a M3 := fun n => t.nz (by
  have e := n a a (Nat.le_refl _) t.ha (Nat.le_refl _) t.hw
  rw [s.aa c, t.cl.aa] at e
  exact e)
/-- labels fall -/
theorem lab_less {h w a : Nat} {M M' : Mx} {i j i' j' μ : Nat} (l : Lab h w a M i j μ) (hl : (M' i' j').natAbs < (M i j).natAbs) : ∃ μ', μ' < μ ∧ Lab h w a M' i' j' μ' ∧ μ' = 2 * (M' i' j').natAbs + 1 := by
  refine ⟨2 * (M' i' j').natAbs + 1, ?_, .inl rfl, rfl⟩
  rcases l with e | ⟨e, _⟩ <;> omega
end

/-! ### sizes of what clear makes -/
section
variable {h w a i j : Nat} {M M1 M2 : Mx}
theorem clr_in_le (C : Clr h w a M1 M2) {x y : Nat} (h1 : a < x) (h2 : x < h) (h3 : a < y) (h4 : y < w) :
    (M2 x y).natAbs ≤ (M1 x y).natAbs + ((-((M1 x a).fdiv (M1 a a))) * M1 a y + (-((M1 a y).fdiv (M1 a a))) * (M1 x a).fmod (M1 a a)).natAbs := by
  rw [C.in_ x y h1 h2 h3 h4, Int.add_assoc]
  exact Int.natAbs_add_le _ _
/-- all that clear leaves, from a bound inside -/
theorem clr_sb {B : Nat} (C : Clr h w a M1 M2) (hP : M1 a a ≠ 0) (hm : (M1 a a).natAbs ≤ B) (hin : ∀ x y, a < x → x < h → a < y → y < w → (M2 x y).natAbs ≤ B) : SB h w a M2 B := fun x y h1 h2 h3 h4 => by
  by_cases ex : x = a
  · subst ex
    by_cases ey : y = x
    · subst ey
      rw [C.aa]
      exact hm
    · rw [C.row y (by omega) h4]
      exact Nat.le_trans (Nat.le_of_lt (fmod_lt _ hP)) hm
  · by_cases ey : y = a
    · subst ey
      rw [C.col x (by omega) h2]
      exact Nat.le_trans (Nat.le_of_lt (fmod_lt _ hP)) hm
    · exact hin x y (by omega) h2 (by omega) h4
/-- a clean clear: at most B + B * B -/
theorem clean_sb {B : Nat} (C : Clr h w a M1 M2) (hP : M1 a a ≠ 0) (hB : SB h w a M1 B) (c : Clean h w a M2) (ha : a < h) (hw : a < w) : SB h w a M2 (B + B * B) := by
  refine clr_sb C hP (Nat.le_trans (hB a a (Nat.le_refl _) ha (Nat.le_refl _) hw) (Nat.le_add_right _ _)) fun x y h1 h2 h3 h4 => ?_
  have e := c.1 x h1 h2
  rw [C.col x h1 h2] at e
  have q := clr_in_le C h1 h2 h3 h4
  rw [e, Int.mul_zero, Int.add_zero, Int.natAbs_mul, Int.natAbs_neg] at q
  have q1 : ((M1 x a).fdiv (M1 a a)).natAbs * (M1 a y).natAbs ≤ B * B := Nat.mul_le_mul (Nat.le_trans (fdiv_le _ hP) (hB x a (Nat.le_of_lt h1) h2 (Nat.le_refl _) hw)) (hB a y (Nat.le_refl _) ha (Nat.le_of_lt h3) h4)
  have q2 := hB x y (Nat.le_of_lt h1) h2 (Nat.le_of_lt h3) h4
  omega
end

/-! ### three rows -/
theorem fin3 : ∀ P ∈ ([3, -3] : List Int), ∀ b ∈ ([-4, -3, 0, 3, 4] : List Int), ∀ c ∈ ([-4, -3, 0, 3, 4] : List Int), ((-(b.fdiv P)) * c + (-(c.fdiv P)) * b.fmod P).natAbs ≤ 6 := by decide +kernel
theorem fin2 : ∀ P ∈ ([2, -2] : List Int), ∀ b ∈ List.range 21, ∀ c ∈ List.range 21, ((-((b - 10 : Int).fdiv P)) * (c - 10 : Int) + (-((c - 10 : Int).fdiv P)) * (b - 10 : Int).fmod P).natAbs ≤ 50 := by decide +kernel
theorem five_mem {b : Int} (h : b.natAbs ≤ 4) (h' : b ≠ 0 → 3 ≤ b.natAbs) : b ∈ ([-4, -3, 0, 3, 4] : List Int) := by
  have : b = -4 ∨ b = -3 ∨ b = 0 ∨ b = 3 ∨ b = 4 := by omega
  rcases this with e | e | e | e | e <;> subst e <;> decide
theorem in3 {P b c : Int} (hP : P.natAbs = 3) (hb : b.natAbs ≤ 4) (hb' : b ≠ 0 → 3 ≤ b.natAbs) (hc : c.natAbs ≤ 4) (hc' : c ≠ 0 → 3 ≤ c.natAbs) : ((-(b.fdiv P)) * c + (-(c.fdiv P)) * b.fmod P).natAbs ≤ 6 := by
  refine fin3 P ?_ b (five_mem hb hb') c (five_mem hc hc')
  have : P = 3 ∨ P = -3 := by omega
  rcases this with e | e <;> subst e <;> decide
theorem in2 {P b c : Int} (hP : P.natAbs = 2) (hb : b.natAbs ≤ 10) (hc : c.natAbs ≤ 10) : ((-(b.fdiv P)) * c + (-(c.fdiv P)) * b.fmod P).natAbs ≤ 50 := by
  have h1 : P ∈ ([2, -2] : List Int) := by
    have : P = 2 ∨ P = -2 := by omega
    rcases this with e | e <;> subst e <;> decide
  have q := fin2 P h1 (b + 10).toNat (List.mem_range.mpr (by omega)) (c + 10).toNat (List.mem_range.mpr (by omega))
  have eb : (((b + 10).toNat : Nat) : Int) - 10 = b := by omega
  have ec : (((c + 10).toNat : Nat) : Int) - 10 = c := by omega
  rw [eb, ec] at q
  exact q
/-- the sizes for three rows, by the least item -/
def Sz3 (h w a : Nat) (M : Mx) (i j : Nat) : Prop :=
  SB h w a M 4 ∨ ((M i j).natAbs ≤ 2 ∧ SB h w a M 10) ∨ ((M i j).natAbs ≤ 1 ∧ SB h w a M 60) ∨ (Rdy h w a M i j ∧ (M i j).natAbs = 3 ∧ SB h w a M 10) ∨ (Rdy h w a M i j ∧ (M i j).natAbs = 2 ∧ SB h w a M 60)
theorem Sz3.all {h w a i j : Nat} {M : Mx} (z : Sz3 h w a M i j) : SB h w a M 60 := by
  rcases z with z | ⟨_, z⟩ | ⟨_, z⟩ | ⟨_, _, z⟩ | ⟨_, _, z⟩ <;> exact z.mono (by decide)
theorem Sz3.le {h w a i j : Nat} {M : Mx} (z : Sz3 h w a M i j) (l : LP h w a M i j) : (M i j).natAbs ≤ 4 := by
  rcases z with z | ⟨q, z⟩ | ⟨q, z⟩ | ⟨_, q, z⟩ | ⟨_, q, z⟩
  · exact z i j l.i1 l.i2 l.j1 l.j2
  all_goals omega
theorem fmod_one {x P : Int} (h : P.natAbs = 1) : x.fmod P = 0 := by
  have := fmod_lt x (P := P) (by omega)
  omega
section
variable {h w a i j : Nat} {M M1 M2 : Mx}
theorem Trn.one_clean (t : Trn h w a M i j M1 M2) (h1 : (M i j).natAbs = 1) : Clean h w a M2 := by
  have e : (M1 a a).natAbs = 1 := by rw [t.aa]; exact h1
  exact ⟨fun x h1 h2 => by rw [t.cl.col x h1 h2, fmod_one e], fun y h1 h2 => by rw [t.cl.row y h1 h2, fmod_one e]⟩
theorem Trn.one_fine (t : Trn h w a M i j M1 M2) (h1 : (M i j).natAbs = 1) {i0 : Nat} {M3 : Mx} (s : Spr h w a i0 M2 M3) : False := by
  obtain ⟨y, _, hn⟩ := s.ex
  refine hn (fmod_one ?_)
  rw [t.cl.aa, t.aa]
  exact h1
theorem dvd4 {x P : Int} (hx : x.natAbs ≤ 4) (h : x ≠ 0 → 4 ≤ x.natAbs) (hP : P.natAbs = 4) : P ∣ x := by
  have : x = 0 ∨ x = P ∨ x = -P := by omega
  rcases this with e | e | e
  · rw [e]; exact Int.dvd_zero _
  · rw [e]; exact Int.dvd_refl _
  · rw [e]; exact Int.dvd_neg.mpr (Int.dvd_refl _)
theorem Trn.four_dvd (t : Trn h w a M i j M1 M2) (z : SB h w a M1 4) (h1 : (M i j).natAbs = 4) {x y : Nat} (h1' : a ≤ x) (h2 : x < h) (h3 : a ≤ y) (h4 : y < w) : M1 a a ∣ M1 x y := by
  have e : (M1 a a).natAbs = 4 := by rw [t.aa]; exact h1
  exact dvd4 (z x y h1' h2 h3 h4) (fun hn => by have := t.min h1' h2 h3 h4 hn; omega) e
theorem Trn.four_clean (t : Trn h w a M i j M1 M2) (z : SB h w a M1 4) (h1 : (M i j).natAbs = 4) : Clean h w a M2 :=
  ⟨fun x h1' h2 => by rw [t.cl.col x h1' h2]; exact Int.fmod_eq_zero_of_dvd (t.four_dvd z h1 (by omega) h2 (Nat.le_refl _) t.hw), fun y h1' h2 => by rw [t.cl.row y h1' h2]; exact Int.fmod_eq_zero_of_dvd (t.four_dvd z h1 (Nat.le_refl _) t.ha (by omega) h2)⟩
theorem Trn.four_fine (t : Trn h w a M i j M1 M2) (z : SB h w a M1 4) (h1 : (M i j).natAbs = 4) (d : Dg h w a M2) {i0 : Nat} {M3 : Mx} (s : Spr h w a i0 M2 M3) : False := by
  obtain ⟨y, hy, hn⟩ := s.ex
  have c := t.four_clean z h1
  refine hn (Int.fmod_eq_zero_of_dvd ?_)
  rw [t.cl.aa]
  by_cases e : y = a
  · rw [e, c.1 i0 s.i1 s.i2]; exact Int.dvd_zero _
  · by_cases q : y < a
    · have s1 := s.i1
      rw [d i0 y s.i2 hy (.inr q) (by omega)]; exact Int.dvd_zero _
    · have hay : a < y := by omega
      rw [t.cl.in_ i0 y s.i1 s.i2 hay hy]
      refine Int.dvd_add (Int.dvd_add ?_ ?_) ?_
      · exact t.four_dvd z h1 (Nat.le_of_lt s.i1) s.i2 (Nat.le_of_lt hay) hy
      · exact Int.dvd_trans (t.four_dvd z h1 (Nat.le_refl _) t.ha (Nat.le_of_lt hay) hy) (Int.dvd_mul_left _ _)
      · have e2 : (M1 i0 a).fmod (M1 a a) = 0 := by rw [← t.cl.col i0 s.i1 s.i2]; exact c.1 i0 s.i1 s.i2
        rw [e2, Int.mul_zero]; exact Int.dvd_zero _
/-- what clear leaves of three rows -/
theorem Trn.sz3 (t : Trn h w a M i j M1 M2) (z : Sz3 h w a M i j) (sb1 : ∀ B, SB h w a M B → SB h w a M1 B) :
    (M i j).natAbs = 1 ∨ ((M i j).natAbs = 4 ∧ SB h w a M1 4) ∨ ((M i j).natAbs = 2 ∧ SB h w a M2 60) ∨ ((M i j).natAbs = 3 ∧ SB h w a M2 10) := by
  have h0 := t.lp.nz
  have hr : ∀ B, Rdy h w a M i j → (M i j).natAbs ≤ B → SB h w a M B → SB h w a M2 B := fun B r hm b =>
    clr_sb t.cl t.nz (by rw [t.aa]; exact hm) fun x y h1 h2 h3 h4 => by rw [t.rdy_in r h1 h2 h3 h4]; exact b x y (by omega) h2 (by omega) h4
  have h10 : (M i j).natAbs = 2 → SB h w a M 10 → SB h w a M2 60 := fun e b => clr_sb t.cl t.nz (by rw [t.aa]; omega) fun x y h1 h2 h3 h4 => by
    have b1 := sb1 _ b
    have q := clr_in_le t.cl h1 h2 h3 h4
    have q1 := in2 (P := M1 a a) (by rw [t.aa]; exact e) (b1 x a (by omega) h2 (Nat.le_refl _) t.hw) (b1 a y (Nat.le_refl _) t.ha (by omega) h4)
    have q2 := b1 x y (by omega) h2 (by omega) h4
    omega
  have h4 : (M i j).natAbs = 3 → SB h w a M 4 → SB h w a M2 10 := fun e b => clr_sb t.cl t.nz (by rw [t.aa]; omega) fun x y h1 h2 h3 h4 => by
    have b1 := sb1 _ b
    have q := clr_in_le t.cl h1 h2 h3 h4
    have q1 := in3 (P := M1 a a) (by rw [t.aa]; exact e) (b1 x a (by omega) h2 (Nat.le_refl _) t.hw) (fun hn => by have := t.min (show a ≤ x by omega) h2 (Nat.le_refl _) t.hw hn; rw [t.aa, e] at this; exact this)
      (b1 a y (Nat.le_refl _) t.ha (by omega) h4) (fun hn => by have := t.min (Nat.le_refl _) t.ha (show a ≤ y by omega) h4 hn; rw [t.aa, e] at this; exact this)
    have q2 := b1 x y (by omega) h2 (by omega) h4
    omega
  rcases z with z | ⟨q, z⟩ | ⟨q, z⟩ | ⟨r, q, z⟩ | ⟨r, q, z⟩
  · have hm := z i j t.lp.i1 t.lp.i2 t.lp.j1 t.lp.j2
    have : (M i j).natAbs = 1 ∨ (M i j).natAbs = 2 ∨ (M i j).natAbs = 3 ∨ (M i j).natAbs = 4 := by omega
    rcases this with e | e | e | e
    · exact .inl e
    · exact .inr (.inr (.inl ⟨e, h10 e (z.mono (by decide))⟩))
    · exact .inr (.inr (.inr ⟨e, h4 e z⟩))
    · exact .inr (.inl ⟨e, sb1 _ z⟩)
  · have : (M i j).natAbs = 1 ∨ (M i j).natAbs = 2 := by omega
    rcases this with e | e
    · exact .inl e
    · exact .inr (.inr (.inl ⟨e, h10 e z⟩))
  · exact .inl (by omega)
  · exact .inr (.inr (.inr ⟨q, hr 10 r (by omega) z⟩))
  · exact .inr (.inr (.inl ⟨q, hr 60 r (by omega) z⟩))
theorem Trn.un3 (t : Trn h w a M i j M1 M2) (z : Sz3 h w a M i j) (sb1 : ∀ B, SB h w a M B → SB h w a M1 B) (n : ¬ Clean h w a M2) {i' j' : Nat} (l : LP h w a M2 i' j') : Sz3 h w a M2 i' j' := by
  have hl := t.less n l
  rcases t.sz3 z sb1 with e | ⟨e, b⟩ | ⟨e, b⟩ | ⟨e, b⟩
  · exact absurd (t.one_clean e) n
  · exact absurd (t.four_clean b e) n
  · exact .inr (.inr (.inl ⟨by omega, b⟩))
  · exact .inr (.inl ⟨by omega, b⟩)
theorem Trn.sp3 (t : Trn h w a M i j M1 M2) (z : Sz3 h w a M i j) (sb1 : ∀ B, SB h w a M B → SB h w a M1 B) (c : Clean h w a M2) (d : Dg h w a M2) {i0 : Nat} {M3 : Mx} (s : Spr h w a i0 M2 M3) {i' j' : Nat} (l : LP h w a M3 i' j') : Sz3 h w a M3 i' j' := by
  have hl := t.spr_next c d s l
  rcases t.sz3 z sb1 with e | ⟨e, b⟩ | ⟨e, b⟩ | ⟨e, b⟩
  · exact (t.one_fine e s).elim
  · exact (t.four_fine b e d s).elim
  · have b3 := s.sb c b
    rcases hl with hl | ⟨hl, r⟩
    · exact .inr (.inr (.inl ⟨by omega, b3⟩))
    · exact .inr (.inr (.inr (.inr ⟨r, by omega, b3⟩)))
  · have b3 := s.sb c b
    rcases hl with hl | ⟨hl, r⟩
    · exact .inr (.inl ⟨by omega, b3⟩)
    · exact .inr (.inr (.inr (.inl ⟨r, by omega, b3⟩)))
end
end Ev
/-! Ma4: two rows, one row; the loop's state as a whole. -/
namespace Ev
def S0 : Nat := 3660
def C0 : Nat := 2 * (S0 * S0)
def T0 : Nat := 3 ^ S0 * (S0 * S0 + C0)
theorem T0_lt : T0 + 1 ≤ 2 ^ 5830 := by
  unfold T0 C0 S0
  decide +kernel
theorem T0_sq : T0 * T0 < 2 ^ 11660 := by
  unfold T0 C0 S0
  decide +kernel
theorem S0_T0 : S0 ≤ T0 := by
  unfold T0 C0 S0
  decide +kernel
theorem S0_eq : S0 = 3660 := rfl
/-! ### two rows -/
def Sz2 (h w a : Nat) (M : Mx) (i j : Nat) : Prop :=
  (∃ s B, (M i j).natAbs ≤ s ∧ s ≤ S0 ∧ s ≤ B ∧ SB h w a M B ∧ ((∀ y, a ≤ y → y < w → (M a y).natAbs ≤ s) ∨ (∀ y, a ≤ y → y < w → (M (a + 1) y).natAbs ≤ s)) ∧ (B * s + C0) * 3 ^ (M i j).natAbs ≤ T0) ∨
  (∃ s B, (M a a).natAbs = s ∧ 1 ≤ s ∧ s ≤ S0 ∧ s ≤ B ∧ SB h w a M B ∧ M (a + 1) a = 0 ∧ (∀ y, a < y → y < w → M a y = M (a + 1) y) ∧ (B * s + C0) * 3 ^ s ≤ 3 * T0)
theorem pos3 (n : Nat) : 1 ≤ 3 ^ n := Nat.pow_pos (by decide)
theorem Sz2.all {h w a i j : Nat} {M : Mx} (z : Sz2 h w a M i j) (l : LP h w a M i j) : SB h w a M T0 := by
  rcases z with ⟨s, B, h1, h2, h3, h4, h5, h6⟩ | ⟨s, B, h0, h1, h2, h3, h4, h5, h6, h7⟩
  · refine h4.mono (Nat.le_trans ?_ h6)
    have hs : 1 ≤ s := by have := l.nz; omega
    have q1 : B * 1 ≤ B * s := Nat.mul_le_mul_left _ hs
    have q2 : (B * s + C0) * 1 ≤ (B * s + C0) * 3 ^ (M i j).natAbs := Nat.mul_le_mul_left _ (pos3 _)
    omega
  · refine h4.mono ?_
    have q1 : B * 1 ≤ B * s := Nat.mul_le_mul_left _ h1
    have q2 : 3 ^ 1 ≤ 3 ^ s := Nat.pow_le_pow_right (by decide) h1
    have q3 : (B * s + C0) * 3 ^ 1 ≤ (B * s + C0) * 3 ^ s := Nat.mul_le_mul_left _ q2
    have q4 : (3 : Nat) ^ 1 = 3 := rfl
    rw [q4] at q3
    omega
theorem Sz2.le {h w a i j : Nat} {M : Mx} (z : Sz2 h w a M i j) (l : LP h w a M i j) (ha : a < h) (hw : a < w) : (M i j).natAbs ≤ S0 := by
  rcases z with ⟨s, B, h1, h2, h3, h4, h5, h6⟩ | ⟨s, B, h0, h1, h2, h3, h4, h5, h6, h7⟩
  · exact Nat.le_trans h1 h2
  · exact Nat.le_trans (l.least a a (Nat.le_refl _) ha (Nat.le_refl _) hw (by omega)) (by omega)
theorem Sz2.start {h w a i j : Nat} {M : Mx} (b : SB h w a M S0) (l : LP h w a M i j) : Sz2 h w a M i j := by
  have hm := b i j l.i1 l.i2 l.j1 l.j2
  refine .inl ⟨S0, S0, hm, Nat.le_refl _, Nat.le_refl _, b, .inl fun y h1 h2 => b a y (Nat.le_refl _) (Nat.lt_of_le_of_lt l.i1 l.i2) h1 h2, ?_⟩
  unfold T0
  rw [Nat.mul_comm]
  exact Nat.mul_le_mul_right _ (Nat.pow_le_pow_right (by decide) hm)
theorem Trn.rowa {h w a i j : Nat} {M M1 M2 : Mx} (t : Trn h w a M i j M1 M2) {y : Nat} (h1 : a ≤ y) (h2 : y < w) : (M2 a y).natAbs ≤ (M i j).natAbs := by
  by_cases e : y = a
  · rw [e, t.cl.aa, t.aa]
    exact Nat.le_refl _
  · rw [t.cl.row y (by omega) h2, ← t.aa]
    exact Nat.le_of_lt (fmod_lt _ t.nz)
theorem mul_le_of {m x y z : Nat} (hm : 0 < m) (h : m * x ≤ z) (e : y = z / m) : x ≤ y := by
  rw [e, Nat.le_div_iff_mul_le hm, Nat.mul_comm]
  exact h
/-- m times an item behind clear -/
theorem in_bound {m x b c q k r X s B : Nat} (hX : X ≤ x + (q * c + k * r)) (hq : m * q ≤ b + m) (hk : m * k ≤ c + m) (hr : r ≤ m) (hms : m ≤ s) (hsB : s ≤ B) (hx : x ≤ B) (hb : b ≤ B) (hc : c ≤ B) (hsm : c ≤ s ∨ (b ≤ s ∧ x ≤ s)) :
    m * X ≤ 3 * (B * s) + 3 * (s * s) := by
  have e1 : m * X ≤ m * x + (m * q * c + m * k * r) := by
    have := Nat.mul_le_mul_left m hX
    rw [Nat.mul_add, Nat.mul_add, ← Nat.mul_assoc, ← Nat.mul_assoc] at this
    exact this
  have e2 : m * q * c ≤ (b + m) * c := Nat.mul_le_mul_right _ hq
  have e3 : m * k * r ≤ (c + m) * m := Nat.mul_le_mul hk hr
  rw [Nat.add_mul] at e2 e3
  have mm : m * m ≤ s * s := Nat.mul_le_mul hms hms
  rcases hsm with h | ⟨h, h'⟩
  · have f1 : m * x ≤ s * B := Nat.mul_le_mul hms hx
    have f2 : b * c ≤ B * s := Nat.mul_le_mul hb h
    have f3 : m * c ≤ s * s := Nat.mul_le_mul hms h
    have f4 : c * m ≤ s * s := Nat.mul_le_mul h hms
    rw [Nat.mul_comm s B] at f1
    omega
  · have f1 : m * x ≤ s * s := Nat.mul_le_mul hms h'
    have f2 : b * c ≤ s * B := Nat.mul_le_mul h hc
    have f3 : m * c ≤ s * B := Nat.mul_le_mul hms hc
    have f4 : c * m ≤ B * s := Nat.mul_le_mul hc hms
    rw [Nat.mul_comm s B] at f2 f3
    omega
section
variable {h w a i j : Nat} {M M1 M2 : Mx}
theorem Trn.sz2 (t : Trn h w a M i j M1 M2) (hh : h = a + 2) (z : Sz2 h w a M i j) (sb1 : ∀ B, SB h w a M B → SB h w a M1 B) :
    ∃ B, (M i j).natAbs ≤ B ∧ SB h w a M2 B ∧ (B * (M i j).natAbs + C0) * 3 ^ (M i j).natAbs ≤ 3 * T0 := by
  have hm0 : 0 < (M i j).natAbs := by have := t.lp.nz; omega
  rcases z with ⟨s, B, h1, h2, h3, h4, h5, h6⟩ | ⟨s, B, h0, h1, h2, h3, h4, h5, h6, h7⟩
  · have b1 := sb1 _ h4
    have mm : (M i j).natAbs * (M i j).natAbs ≤ s * s := Nat.mul_le_mul h1 h1
    have hmB : (M i j).natAbs ≤ (3 * (B * s) + 3 * (s * s)) / (M i j).natAbs := mul_le_of hm0 (by omega) rfl
    refine ⟨(3 * (B * s) + 3 * (s * s)) / (M i j).natAbs, hmB, clr_sb t.cl t.nz (by rw [t.aa]; exact hmB) fun x y hx1 hx2 hy1 hy2 => ?_, ?_⟩
    · have ex : x = a + 1 := by omega
      have q := clr_in_le t.cl hx1 hx2 hy1 hy2
      have q2 := Int.natAbs_add_le ((-((M1 x a).fdiv (M1 a a))) * M1 a y) ((-((M1 a y).fdiv (M1 a a))) * (M1 x a).fmod (M1 a a))
      rw [Int.natAbs_mul, Int.natAbs_mul, Int.natAbs_neg, Int.natAbs_neg] at q2
      have d1 := fdiv_mul (M1 x a) t.nz
      have d2 := fdiv_mul (M1 a y) t.nz
      have d3 := fmod_lt (M1 x a) t.nz
      rw [t.aa] at d1 d2 d3 q q2
      refine mul_le_of hm0 (in_bound (Nat.le_trans q (Nat.add_le_add_left q2 _)) (by omega) (by omega) (Nat.le_of_lt d3) h1 h3 (b1 x y (by omega) hx2 (by omega) hy2) (b1 x a (by omega) hx2 (Nat.le_refl _) t.hw) (b1 a y (Nat.le_refl _) t.ha (by omega) hy2) ?_) rfl
      -- which row is the small one
      have i12 : i = a ∨ i = a + 1 := by have := t.lp.i1; have := t.lp.i2; omega
      have cj : ∀ y, a ≤ y → y < w → a ≤ sw a j y ∧ sw a j y < w := fun y q1 q2 => ⟨sw_high q1 t.lp.j1, sw_lt t.hw t.lp.j2 q2⟩
      rcases i12 with ei | ei
      · have ra : ∀ y, M1 a y = M a (sw a j y) := fun y => by rw [t.e1, sw_a, ei]
        have rb : ∀ y, M1 x y = M (a + 1) (sw a j y) := fun y => by rw [t.e1, ei, ex, sw_ne (by omega) (by omega)]
        rcases h5 with h5 | h5
        · exact .inl (by rw [ra]; exact h5 _ (cj y (by omega) hy2).1 (cj y (by omega) hy2).2)
        · exact .inr ⟨by rw [rb]; exact h5 _ (cj a (Nat.le_refl _) t.hw).1 (cj a (Nat.le_refl _) t.hw).2, by rw [rb]; exact h5 _ (cj y (by omega) hy2).1 (cj y (by omega) hy2).2⟩
      · have ra : ∀ y, M1 a y = M (a + 1) (sw a j y) := fun y => by rw [t.e1, sw_a, ei]
        have rb : ∀ y, M1 x y = M a (sw a j y) := fun y => by rw [t.e1, ei, ex, sw_b]
        rcases h5 with h5 | h5
        · exact .inr ⟨by rw [rb]; exact h5 _ (cj a (Nat.le_refl _) t.hw).1 (cj a (Nat.le_refl _) t.hw).2, by rw [rb]; exact h5 _ (cj y (by omega) hy2).1 (cj y (by omega) hy2).2⟩
        · exact .inl (by rw [ra]; exact h5 _ (cj y (by omega) hy2).1 (cj y (by omega) hy2).2)
    · have q1 : (3 * (B * s) + 3 * (s * s)) / (M i j).natAbs * (M i j).natAbs ≤ 3 * (B * s) + 3 * (s * s) := Nat.div_mul_le_self _ _
      have q2 : s * s ≤ S0 * S0 := Nat.mul_le_mul h2 h2
      have q3 : C0 = 2 * (S0 * S0) := rfl
      have q4 : (3 * (B * s) + 3 * (s * s)) / (M i j).natAbs * (M i j).natAbs + C0 ≤ 3 * (B * s + C0) := by omega
      have q5 := Nat.mul_le_mul_right (3 ^ (M i j).natAbs) q4
      rw [Nat.mul_assoc] at q5
      omega
  · -- the two rows are alike beside column a
    have ei : i = a := by
      have i12 : i = a ∨ i = a + 1 := by have := t.lp.i1; have := t.lp.i2; omega
      rcases i12 with ei | ei
      · exact ei
      · have hja : j ≠ a := fun q => t.lp.nz (by rw [ei, q]; exact h5)
        have hj1 := t.lp.j1
        have e := h6 j (by omega) t.lp.j2
        have q := t.lp.first a j (Nat.le_refl _) t.ha t.lp.j1 t.lp.j2 (by rw [e, ← ei]; exact t.lp.nz) (.inl (by omega))
        rw [e, ← ei] at q
        exact absurd q (Nat.lt_irrefl _)
    have ra : ∀ y, M1 a y = M a (sw a j y) := fun y => by rw [t.e1, sw_a, ei]
    have rb : ∀ y, M1 (a + 1) y = M (a + 1) (sw a j y) := fun y => by rw [t.e1, ei, sw_ne (by omega) (by omega)]
    have hms : (M i j).natAbs ≤ s := by rw [← h0]; exact t.lp.least a a (Nat.le_refl _) t.ha (Nat.le_refl _) t.hw (by omega)
    refine ⟨B, Nat.le_trans hms h3, clr_sb t.cl t.nz (by rw [t.aa]; exact Nat.le_trans hms h3) fun x y hx1 hx2 hy1 hy2 => ?_, ?_⟩
    · have ex : x = a + 1 := by omega
      subst ex
      have hj1 := t.lp.j1
      have cy : a ≤ sw a j y ∧ sw a j y < w := ⟨sw_high (by omega) t.lp.j1, sw_lt t.hw t.lp.j2 hy2⟩
      by_cases hj : j = a
      · have e0 : M1 (a + 1) a = 0 := by rw [rb, hj, sw_a]; exact h5
        rw [t.cl.in_ _ y (by omega) hx2 hy1 hy2, e0, Int.zero_fdiv, Int.zero_fmod, Int.neg_zero, Int.zero_mul, Int.mul_zero, Int.add_zero, Int.add_zero, rb]
        exact h4 _ _ (by omega) hx2 cy.1 cy.2
      · have e1 : M1 (a + 1) a = M1 a a := by rw [rb, ra, sw_a]; exact (h6 j (by omega) t.lp.j2).symm
        have nz := t.nz
        rw [t.cl.in_ _ y (by omega) hx2 hy1 hy2, e1, Int.fdiv_self nz, Int.fmod_self, Int.mul_zero, Int.add_zero, Int.neg_mul, Int.one_mul]
        by_cases hy : y = j
        · have e2 : M1 (a + 1) y = 0 := by rw [rb, hy, sw_b]; exact h5
          have e3 : M1 a y = M a a := by rw [ra, hy, sw_b]
          rw [e2, e3]
          omega
        · have e2 : M1 (a + 1) y = M1 a y := by rw [rb, ra, sw_ne (by omega) hy]; exact (h6 y hy1 hy2).symm
          rw [e2]
          omega
    · have q1 : B * (M i j).natAbs ≤ B * s := Nat.mul_le_mul_left _ hms
      have q2 : 3 ^ (M i j).natAbs ≤ 3 ^ s := Nat.pow_le_pow_right (by decide) hms
      exact Nat.le_trans (Nat.mul_le_mul (by omega) q2) h7
theorem Trn.un2 (t : Trn h w a M i j M1 M2) (hh : h = a + 2) (z : Sz2 h w a M i j) (sb1 : ∀ B, SB h w a M B → SB h w a M1 B) (n : ¬ Clean h w a M2) {i' j' : Nat} (l : LP h w a M2 i' j') : Sz2 h w a M2 i' j' := by
  have hl := t.less n l
  obtain ⟨B, b1, b2, b3⟩ := t.sz2 hh z sb1
  refine .inl ⟨(M i j).natAbs, B, Nat.le_of_lt hl, z.le t.lp t.ha t.hw, b1, b2, .inl fun y h1 h2 => t.rowa h1 h2, ?_⟩
  have q1 : 3 ^ (M2 i' j').natAbs * 3 ≤ 3 ^ (M i j).natAbs := by
    rw [← Nat.pow_succ]
    exact Nat.pow_le_pow_right (by decide) hl
  have q2 : (B * (M i j).natAbs + C0) * (3 ^ (M2 i' j').natAbs * 3) ≤ (B * (M i j).natAbs + C0) * 3 ^ (M i j).natAbs := Nat.mul_le_mul_left _ q1
  rw [← Nat.mul_assoc] at q2
  omega
theorem Trn.sp2 (t : Trn h w a M i j M1 M2) (hh : h = a + 2) (z : Sz2 h w a M i j) (sb1 : ∀ B, SB h w a M B → SB h w a M1 B) (c : Clean h w a M2) {i0 : Nat} {M3 : Mx} (s : Spr h w a i0 M2 M3) {i' j' : Nat} (_ : LP h w a M3 i' j') : Sz2 h w a M3 i' j' := by
  obtain ⟨B, b1, b2, b3⟩ := t.sz2 hh z sb1
  have e0 : i0 = a + 1 := by have := s.i1; have := s.i2; omega
  have ea : (M3 a a).natAbs = (M i j).natAbs := by rw [s.aa c, t.cl.aa, t.aa]
  refine .inr ⟨(M i j).natAbs, B, ea, by have := t.lp.nz; omega, z.le t.lp t.ha t.hw, b1, s.sb c b2, ?_, fun y h1 h2 => ?_, b3⟩
  · rw [s.oth _ _ (by omega)]
    exact c.1 _ (by omega) (by omega)
  · rw [s.at_ c h1 h2, s.oth _ _ (by omega), e0]
end

/-! ### one row -/
def Sz1 (h w a : Nat) (M : Mx) (i j ν : Nat) : Prop :=
  SB h w a M T0 ∧ (11661 ≤ ν ∨ ∃ (s : Nat) (g : Int), (g = 1 ∨ g = -1) ∧ (M i j).natAbs < s ∧ (∀ y, a ≤ y → y < w → 0 ≤ g * M a y) ∧ (∃ y, a ≤ y ∧ y < w ∧ g * M a y = s) ∧ s * (M i j).natAbs < 2 ^ ν)
theorem fmod_sign (x : Int) {P g : Int} (hg : g = 1 ∨ g = -1) (h : 0 < g * P) : 0 ≤ g * x.fmod P := by
  rcases hg with e | e
  · subst e
    rw [Int.one_mul] at h ⊢
    exact Int.fmod_nonneg_of_pos x h
  · subst e
    have h2 : 0 < -P := by omega
    have q := Int.fmod_nonneg_of_pos (-x) h2
    rw [Int.neg_fmod_neg] at q
    omega
theorem fmod_step {x P : Int} (h1 : 0 < P) (h2 : P ≤ x) (h3 : x < 2 * P) : x.fmod P = x - P := by
  rw [Int.fmod_eq_emod_of_nonneg _ (by omega)]
  have e : x = (x - P) + P := by omega
  rw [e, Int.add_emod_right, Int.emod_eq_of_lt (by omega) (by omega)]
  omega
theorem fmod_step_g {x P g : Int} (hg : g = 1 ∨ g = -1) (h1 : 0 < g * P) (h2 : g * P ≤ g * x) (h3 : g * x < 2 * (g * P)) : x.fmod P = x - P := by
  rcases hg with e | e
  · subst e
    rw [Int.one_mul] at h1
    rw [Int.one_mul, Int.one_mul] at h2 h3
    exact fmod_step h1 h2 h3
  · subst e
    have q := fmod_step (x := -x) (P := -P) (by omega) (by omega) (by omega)
    rw [Int.neg_fmod_neg] at q
    omega
section
variable {h w a i j : Nat} {M M1 M2 : Mx}
theorem Trn.un1 (t : Trn h w a M i j M1 M2) (hh : h = a + 1) {ν : Nat} (z : Sz1 h w a M i j ν) (n : ¬ Clean h w a M2) {i' j' : Nat} (l : LP h w a M2 i' j') : ∃ ν', ν' < ν ∧ Sz1 h w a M2 i' j' ν' := by
  have hl := t.less n l
  have ei : i = a := by have := t.lp.i1; have := t.lp.i2; omega
  have ei' : i' = a := by have := l.i1; have := l.i2; omega
  obtain ⟨b, z⟩ := z
  have hmT : (M i j).natAbs ≤ T0 := b i j t.lp.i1 t.lp.i2 t.lp.j1 t.lp.j2
  have sb2 : SB h w a M2 T0 := fun x y h1 h2 h3 h4 => by
    have ex : x = a := by omega
    subst ex
    exact Nat.le_trans (t.rowa h3 h4) hmT
  have hm0 : 0 < (M i j).natAbs := by clear z; have := t.lp.nz; omega
  have ra : ∀ y, M1 a y = M a (sw a j y) := fun y => by rw [t.e1, sw_a, ei]
  -- the sign of the new diagonal item
  obtain ⟨g, hg, hgP⟩ : ∃ g : Int, (g = 1 ∨ g = -1) ∧ g * M1 a a = ((M i j).natAbs : Int) := by
    rw [t.aa]
    clear z
    by_cases q : 0 ≤ M i j
    · exact ⟨1, .inl rfl, by omega⟩
    · exact ⟨-1, .inr rfl, by omega⟩
  have hgP0 : 0 < g * M1 a a := by clear z; omega
  have sgn : ∀ y, a ≤ y → y < w → 0 ≤ g * M2 a y := fun y h1 h2 => by
    by_cases e : y = a
    · rw [e, t.cl.aa]; clear z; omega
    · rw [t.cl.row y (by clear z; omega) h2]
      exact fmod_sign _ hg hgP0
  have mk : ∀ ν', (M i j).natAbs * (M2 i' j').natAbs < 2 ^ ν' → Sz1 h w a M2 i' j' ν' := fun ν' hν => ⟨sb2, .inr ⟨(M i j).natAbs, g, hg, hl, sgn, ⟨a, Nat.le_refl _, t.hw, by rw [t.cl.aa]; exact hgP⟩, hν⟩⟩
  rcases z with z | ⟨s, g0, hg0, hms, hs0, ⟨y0, hy1, hy2, hy3⟩, hsm⟩
  · refine ⟨11660, by omega, mk _ ?_⟩
    exact Nat.lt_of_le_of_lt (Nat.mul_le_mul hmT (Nat.le_trans (Nat.le_of_lt hl) hmT)) T0_sq
  · have hν : 1 ≤ ν := by
      refine Classical.byContradiction fun q => ?_
      have e : ν = 0 := by omega
      rw [e] at hsm
      have : 1 * 1 ≤ s * (M i j).natAbs := Nat.mul_le_mul (by omega) hm0
      omega
    refine ⟨ν - 1, by omega, mk _ ?_⟩
    have two : 2 * (M2 i' j').natAbs ≤ s := by
      by_cases q : 2 * (M i j).natAbs ≤ s
      · omega
      · -- the old greatest item is still there
        have hj1 := t.lp.j1
        have eg : g = g0 := by
          have q1 := hs0 j t.lp.j1 t.lp.j2
          rw [← ei] at q1
          rw [t.aa] at hgP0
          rcases hg with e | e <;> rcases hg0 with e' | e' <;> subst e <;> subst e' <;> omega
        have e1 : M1 a (sw a j y0) = M a y0 := by rw [ra, sw_sw]
        have ha1 : a ≤ sw a j y0 := sw_high hy1 t.lp.j1
        have ha2 : sw a j y0 < w := sw_lt t.hw t.lp.j2 hy2
        have ne : sw a j y0 ≠ a := fun q => by
          rw [q] at e1
          have q2 := hgP
          rw [e1, eg, hy3] at q2
          omega
        have e2 := t.cl.row (sw a j y0) (by omega) ha2
        rw [e1, fmod_step_g hg hgP0 (by rw [hgP, eg, hy3]; omega) (by rw [hgP, eg, hy3]; omega)] at e2
        have e3 : g * M2 a (sw a j y0) = (s : Int) - ((M i j).natAbs : Int) := by
          rw [e2, Int.mul_sub, hgP, eg, hy3]
        have hz : M2 a (sw a j y0) ≠ 0 := fun q => by
          rw [q, Int.mul_zero] at e3
          omega
        have q3 := l.least a (sw a j y0) (Nat.le_refl _) t.ha ha1 ha2 hz
        have q4 : (M2 a (sw a j y0)).natAbs = s - (M i j).natAbs := by
          rcases hg with e | e <;> subst e <;> omega
        omega
    have q5 : (M i j).natAbs * (2 * (M2 i' j').natAbs) ≤ (M i j).natAbs * s := Nat.mul_le_mul_left _ two
    have q6 : 2 ^ ν = 2 ^ (ν - 1) * 2 := by
      rw [← Nat.pow_succ]
      congr 1
      omega
    rw [Nat.mul_left_comm, Nat.mul_comm _ s] at q5
    omega
end

/-! ### the loop's state -/
def MB : Nat → Nat
  | 3 => 4
  | 2 => S0
  | _ => T0
def EB : Nat → Nat
  | 3 => 1
  | 2 => 64
  | 1 => 64 + 5832 * 7321
  | _ => 64 + 5832 * 7321 + 5832 * 11661
def Num (h w a : Nat) (M : Mx) (i j μ e : Nat) : Prop :=
  (h = a + 3 ∧ Lab h w a M i j μ ∧ Sz3 h w a M i j ∧ e + 7 * μ ≤ EB 2) ∨ (h = a + 2 ∧ Lab h w a M i j μ ∧ Sz2 h w a M i j ∧ e + 5832 * μ ≤ EB 1) ∨ (h = a + 1 ∧ Sz1 h w a M i j μ ∧ e + 5832 * μ ≤ EB 0)
structure J (h w a : Nat) (A : Mx) (μ : Nat) (u : W3) (i j : Nat) : Prop where
  re : RE h w A u.M
  dg : Dg h w a u.M
  lp : LP h w a u.M i j
  ob : OB h w a u.M (MB (h - a))
  nu : ∃ e, Bb h u.F e ∧ Bb w u.L e ∧ Num h w a u.M i j μ e
/-- where the loop of a place begins -/
structure Sg (h w a : Nat) (A : Mx) (u : W3) : Prop where
  re : RE h w A u.M
  dg : Dg h w a u.M
  bd : Bd h w u.M (MB (h - a))
  eb : ∃ e, e ≤ EB (h - a) ∧ Bb h u.F e ∧ Bb w u.L e
theorem MB_T0 (n : Nat) : MB n ≤ T0 := by
  have := S0_T0
  unfold MB
  split
  · exact Nat.le_trans (by rw [S0_eq]; decide) S0_T0
  · exact S0_T0
  · exact Nat.le_refl _
section
variable {h w a i j μ : Nat} {A : Mx} {u : W3}
theorem Num.all {e : Nat} {M : Mx} (n : Num h w a M i j μ e) (l : LP h w a M i j) : SB h w a M T0 := by
  rcases n with ⟨_, _, z, _⟩ | ⟨_, _, z, _⟩ | ⟨_, z, _⟩
  · exact z.all.mono (Nat.le_trans (by rw [S0_eq]; decide) S0_T0)
  · exact z.all l
  · exact z.1
theorem Num.e_le {e : Nat} {M : Mx} (n : Num h w a M i j μ e) : e ≤ 120000000 := by
  have h0 : EB 0 = 110703088 := rfl
  have h1 : EB 1 = 42696136 := rfl
  have h2 : EB 2 = 64 := rfl
  rcases n with ⟨_, _, _, z⟩ | ⟨_, _, _, z⟩ | ⟨_, _, z⟩ <;> omega
theorem J.safe (J : J h w a A μ u i j) : Bd h w u.M T0 ∧ ∃ e, e ≤ 120000000 ∧ Bb h u.F e ∧ Bb w u.L e := by
  obtain ⟨e, h1, h2, n⟩ := J.nu
  exact ⟨bd_of (n.all J.lp) (J.ob.mono (MB_T0 _)), e, n.e_le, h1, h2⟩
theorem J.ha (J : J h w a A μ u i j) : a < h := Nat.lt_of_le_of_lt J.lp.i1 J.lp.i2
theorem J.hw (J : J h w a A μ u i j) : a < w := Nat.lt_of_le_of_lt J.lp.j1 J.lp.j2
theorem J.trn (J : J h w a A μ u i j) : Trn h w a u.M i j (brg a i j u).M (clr h w a (brg a i j u)).M :=
  ⟨J.lp, dg_brg J.dg J.ha J.hw J.lp.i2 J.lp.j2 J.lp.i1 J.lp.j1, fun _ _ => rfl, clr_is (dg_brg J.dg J.ha J.hw J.lp.i2 J.lp.j2 J.lp.i1 J.lp.j1) J.ha J.hw, J.ha, J.hw⟩
theorem J.re2 (J : J h w a A μ u i j) : RE h w A (clr h w a (brg a i j u)).M := (J.re.trans (re_brg u J.ha J.hw J.lp.i2 J.lp.j2)).trans (re_clr _ J.ha J.hw)
theorem J.dg2 (J : J h w a A μ u i j) : Dg h w a (clr h w a (brg a i j u)).M := dg_clr J.trn.dg J.trn.cl
theorem J.ob2 (J : J h w a A μ u i j) : OB h w a (clr h w a (brg a i j u)).M (MB (h - a)) := fun x y h1 h2 h3 => by
  rw [J.trn.cl.old x y h1 h2 h3]
  exact ob_brg J.ob J.lp J.ha J.hw x y h1 h2 h3
theorem J.sb1 (J : J h w a A μ u i j) : ∀ B, SB h w a u.M B → SB h w a (brg a i j u).M B := fun _ b => sb_brg b J.lp J.ha J.hw
theorem J.bF2 (J : J h w a A μ u i j) {e b B : Nat} (s : Bb h u.F e) (hB : SB h w a u.M B) (hb : B + 1 ≤ 2 ^ b) : Bb h (clr h w a (brg a i j u)).F (e + b) := bF_clr (bF_brg s J.ha J.lp.i2) (J.sb1 _ hB) J.trn.nz J.ha J.hw hb
theorem J.bL2 (J : J h w a A μ u i j) {e b B : Nat} (s : Bb w u.L e) (hB : SB h w a u.M B) (hb : B + 1 ≤ 2 ^ b) : Bb w (clr h w a (brg a i j u)).L (e + b) := bL_clr (bL_brg s J.hw J.lp.j2) (J.sb1 _ hB) J.trn.nz J.ha J.hw hb
theorem J.un (J0 : J h w a A μ u i j) (n : ¬ Clean h w a (clr h w a (brg a i j u)).M) {i' j' : Nat} (l : LP h w a (clr h w a (brg a i j u)).M i' j') : ∃ μ', μ' < μ ∧ J h w a A μ' (clr h w a (brg a i j u)) i' j' := by
  obtain ⟨e, h1, h2, nu⟩ := J0.nu
  have hl := J0.trn.less n l
  rcases nu with ⟨hh, lab, z, he⟩ | ⟨hh, lab, z, he⟩ | ⟨hh, z, he⟩
  · obtain ⟨μ', hμ, lab', _⟩ := lab_less lab hl
    exact ⟨μ', hμ, J0.re2, J0.dg2, l, J0.ob2, e + 6, J0.bF2 h1 z.all (by decide), J0.bL2 h2 z.all (by decide), .inl ⟨hh, lab', J0.trn.un3 z J0.sb1 n l, by omega⟩⟩
  · obtain ⟨μ', hμ, lab', _⟩ := lab_less lab hl
    exact ⟨μ', hμ, J0.re2, J0.dg2, l, J0.ob2, e + 5830, J0.bF2 h1 (z.all J0.lp) T0_lt, J0.bL2 h2 (z.all J0.lp) T0_lt, .inr (.inl ⟨hh, lab', J0.trn.un2 hh z J0.sb1 n l, by omega⟩)⟩
  · obtain ⟨μ', hμ, z'⟩ := J0.trn.un1 hh z n l
    exact ⟨μ', hμ, J0.re2, J0.dg2, l, J0.ob2, e + 5830, J0.bF2 h1 z.1 T0_lt, J0.bL2 h2 z.1 T0_lt, .inr (.inr ⟨hh, z', by omega⟩)⟩
theorem J.spr_ (J0 : J h w a A μ u i j) (c : Clean h w a (clr h w a (brg a i j u)).M) {i0 : Nat} (s1 : a < i0) (s2 : i0 < h) (s3 : ∃ y, y < w ∧ ((clr h w a (brg a i j u)).M i0 y).fmod ((clr h w a (brg a i j u)).M a a) ≠ 0) :
    Spr h w a i0 (clr h w a (brg a i j u)).M (spr a i0 (clr h w a (brg a i j u))).M := ⟨s1, s2, s3, fun _ => if_pos rfl, fun _ _ q => if_neg q⟩
theorem J.sp (J0 : J h w a A μ u i j) (c : Clean h w a (clr h w a (brg a i j u)).M) {i0 : Nat} (s1 : a < i0) (s2 : i0 < h) (s3 : ∃ y, y < w ∧ ((clr h w a (brg a i j u)).M i0 y).fmod ((clr h w a (brg a i j u)).M a a) ≠ 0)
    {i' j' : Nat} (l : LP h w a (spr a i0 (clr h w a (brg a i j u))).M i' j') : ∃ μ', μ' < μ ∧ J h w a A μ' (spr a i0 (clr h w a (brg a i j u))) i' j' := by
  obtain ⟨e, h1, h2, nu⟩ := J0.nu
  have s := J0.spr_ c s1 s2 s3
  have hl := J0.trn.spr_next c J0.dg2 s l
  have re3 : RE h w A (spr a i0 (clr h w a (brg a i j u))).M := J0.re2.trans (re_rowAdd _ _ s2 (by omega))
  have dg3 := dg_spr J0.dg2 s1 s2
  have ob3 : OB h w a (spr a i0 (clr h w a (brg a i j u))).M (MB (h - a)) := fun x y q1 q2 q3 => by
    by_cases ex : x = a
    · have hy : y < a := by omega
      subst ex
      rw [dg3 x y q1 q2 q3 (by omega)]
      exact Nat.zero_le _
    · rw [s.oth x y ex]
      exact J0.ob2 x y q1 q2 q3
  have lab3 : Lab h w a u.M i j μ → ∃ μ', μ' < μ ∧ Lab h w a (spr a i0 (clr h w a (brg a i j u))).M i' j' μ' := fun lab => by
    rcases hl with hl | ⟨hl, r⟩
    · obtain ⟨μ', q1, q2, _⟩ := lab_less lab hl
      exact ⟨μ', q1, q2⟩
    · refine ⟨2 * ((spr a i0 (clr h w a (brg a i j u))).M i' j').natAbs, ?_, .inr ⟨rfl, r⟩⟩
      rcases lab with e | ⟨e, r0⟩
      · omega
      · exact absurd c (J0.trn.rdy_unclean r0)
  rcases nu with ⟨hh, lab, z, he⟩ | ⟨hh, lab, z, he⟩ | ⟨hh, z, he⟩
  · obtain ⟨μ', hμ, lab'⟩ := lab3 lab
    exact ⟨μ', hμ, re3, dg3, l, ob3, e + 6 + 1, bF_spr (J0.bF2 h1 z.all (by decide)) J0.ha s2, (J0.bL2 h2 z.all (by decide)).mono (Nat.le_succ _), .inl ⟨hh, lab', J0.trn.sp3 z J0.sb1 c J0.dg2 s l, by omega⟩⟩
  · obtain ⟨μ', hμ, lab'⟩ := lab3 lab
    exact ⟨μ', hμ, re3, dg3, l, ob3, e + 5830 + 1, bF_spr (J0.bF2 h1 (z.all J0.lp) T0_lt) J0.ha s2, (J0.bL2 h2 (z.all J0.lp) T0_lt).mono (Nat.le_succ _), .inr (.inl ⟨hh, lab', J0.trn.sp2 hh z J0.sb1 c s l, by omega⟩)⟩
  · omega
theorem J.end_ (J0 : J h w a A μ u i j) (c : Clean h w a (clr h w a (brg a i j u)).M) : Sg h w (a + 1) A (clr h w a (brg a i j u)) := by
  obtain ⟨e, h1, h2, nu⟩ := J0.nu
  have dg' : Dg h w (a + 1) (clr h w a (brg a i j u)).M := fun x y q1 q2 q3 ne => by
    by_cases ex : x < a ∨ y < a
    · exact J0.dg2 x y q1 q2 ex ne
    · by_cases e1 : x = a
      · rw [e1]; exact c.2 y (by omega) q2
      · have e2 : y = a := by omega
        rw [e2]; exact c.1 x (by omega) q1
  have lt := S0_T0
  have d0 := S0_eq
  rcases nu with ⟨hh, lab, z, he⟩ | ⟨hh, lab, z, he⟩ | ⟨hh, z, he⟩
  · have e3 : h - (a + 1) = 2 := by omega
    have e4 : h - a = 3 := by omega
    have b := clean_sb J0.trn.cl J0.trn.nz (J0.sb1 _ z.all) c J0.ha J0.hw
    have o := J0.ob2
    rw [e4] at o
    refine ⟨J0.re2, dg', ?_, e + 6, ?_, J0.bF2 h1 z.all (by decide), J0.bL2 h2 z.all (by decide)⟩
    · rw [e3]
      exact bd_of (b.mono (by show _ ≤ S0; rw [S0_eq]; decide)) (o.mono (by show 4 ≤ S0; rw [S0_eq]; decide))
    · rw [e3]
      have : 1 ≤ μ := by
        have := J0.lp.nz
        rcases lab with e | ⟨e, _⟩ <;> omega
      omega
  · have e3 : h - (a + 1) = 1 := by omega
    have e4 : h - a = 2 := by omega
    have o := J0.ob2
    rw [e4] at o
    obtain ⟨B, b1, b2, b3⟩ := J0.trn.sz2 hh z J0.sb1
    have hm0 : 1 ≤ (u.M i j).natAbs := by have := J0.lp.nz; omega
    have hBT : B ≤ T0 := by
      have q1 : B * 1 ≤ B * (u.M i j).natAbs := Nat.mul_le_mul_left _ hm0
      have q2 : 3 ^ 1 ≤ 3 ^ (u.M i j).natAbs := Nat.pow_le_pow_right (by decide) hm0
      have q3 := Nat.mul_le_mul_left (B * (u.M i j).natAbs + C0) q2
      have q4 : (3 : Nat) ^ 1 = 3 := rfl
      rw [q4] at q3
      omega
    refine ⟨J0.re2, dg', ?_, e + 5830, ?_, J0.bF2 h1 (z.all J0.lp) T0_lt, J0.bL2 h2 (z.all J0.lp) T0_lt⟩
    · rw [e3]
      exact bd_of (b2.mono hBT) (o.mono lt)
    · rw [e3]
      have : 1 ≤ μ := by rcases lab with e | ⟨e, _⟩ <;> omega
      omega
  · have e3 : h - (a + 1) = 0 := by omega
    have e4 : h - a = 1 := by omega
    have o := J0.ob2
    rw [e4] at o
    have hmT : (u.M i j).natAbs ≤ T0 := z.1 i j J0.lp.i1 J0.lp.i2 J0.lp.j1 J0.lp.j2
    refine ⟨J0.re2, dg', ?_, e + 5830, ?_, J0.bF2 h1 z.1 T0_lt, J0.bL2 h2 z.1 T0_lt⟩
    · rw [e3]
      refine bd_of (fun x y q1 q2 q3 q4 => ?_) o
      have ex : x = a := by omega
      subst ex
      exact Nat.le_trans (J0.trn.rowa q3 q4) hmT
    · rw [e3]
      have : 1 ≤ μ := by
        refine Classical.byContradiction fun q => ?_
        have e : μ = 0 := by omega
        rcases z.2 with q | ⟨s, g, hg, hms, _, _, q⟩
        · omega
        · rw [e] at q
          have hm0 : 1 ≤ (u.M i j).natAbs := by have := J0.lp.nz; omega
          have : 1 * 1 ≤ s * (u.M i j).natAbs := Nat.mul_le_mul (by omega) hm0
          omega
      omega
end
theorem sg_ngt {h w a : Nat} {A : Mx} {u : W3} (s : Sg h w (a + 1) A u) : Sg h w (a + 1) A (ngt a u) := by
  obtain ⟨e, he, h1, h2⟩ := s.eb
  have na : ∀ (M : Mx) x y, (rowNeg M a x y).natAbs = (M x y).natAbs := fun M x y => by
    show (if x = a then - M a y else M x y).natAbs = _
    by_cases q : x = a
    · rw [if_pos q, q, Int.natAbs_neg]
    · rw [if_neg q]
  refine ⟨s.re.trans (re_rowNeg _ _), fun x y q1 q2 q3 ne => ?_, fun x y q1 q2 => ?_, e, he, fun x y q1 q2 => ?_, h2⟩
  · have := s.dg x y q1 q2 q3 ne
    have z := na u.M x y
    show rowNeg u.M a x y = 0
    omega
  · show (rowNeg u.M a x y).natAbs ≤ _
    rw [na]
    exact s.bd x y q1 q2
  · show (rowNeg u.F a x y).natAbs < _
    rw [na]
    exact h1 x y q1 q2
/-- a place's loop is entered -/
theorem Sg.enter {h w a : Nat} {A : Mx} {u : W3} (s : Sg h w a A u) (h3 : h ≤ a + 3) {i j : Nat} (l : LP h w a u.M i j) : ∃ μ, J h w a A μ u i j := by
  obtain ⟨e, he, h1, h2⟩ := s.eb
  have ha : a < h := Nat.lt_of_le_of_lt l.i1 l.i2
  have hw : a < w := Nat.lt_of_le_of_lt l.j1 l.j2
  have sb : SB h w a u.M (MB (h - a)) := fun x y _ q2 _ q4 => s.bd x y q2 q4
  have ob : OB h w a u.M (MB (h - a)) := fun x y q1 q2 _ => s.bd x y q1 q2
  have h' : h = a + 3 ∨ h = a + 2 ∨ h = a + 1 := by omega
  rcases h' with hh | hh | hh
  · have e4 : h - a = 3 := by omega
    rw [e4] at he
    have sb' := sb
    rw [e4] at sb'
    have hm : (u.M i j).natAbs ≤ 4 := sb' i j l.i1 l.i2 l.j1 l.j2
    refine ⟨2 * (u.M i j).natAbs + 1, s.re, s.dg, l, ob, e, h1, h2, .inl ⟨hh, .inl rfl, .inl sb', ?_⟩⟩
    have : e ≤ 1 := he
    show _ ≤ 64
    omega
  · have e4 : h - a = 2 := by omega
    rw [e4] at he
    have sb' := sb
    rw [e4] at sb'
    have hm : (u.M i j).natAbs ≤ S0 := sb' i j l.i1 l.i2 l.j1 l.j2
    refine ⟨2 * (u.M i j).natAbs + 1, s.re, s.dg, l, ob, e, h1, h2, .inr (.inl ⟨hh, .inl rfl, Sz2.start sb' l, ?_⟩)⟩
    have : e ≤ 64 := he
    rw [S0_eq] at hm
    show _ ≤ 64 + 5832 * 7321
    omega
  · have e4 : h - a = 1 := by omega
    rw [e4] at he
    have sb' := sb
    rw [e4] at sb'
    refine ⟨11661, s.re, s.dg, l, ob, e, h1, h2, .inr (.inr ⟨hh, ⟨sb', .inl (Nat.le_refl _)⟩, ?_⟩)⟩
    have : e ≤ 64 + 5832 * 7321 := he
    show _ ≤ 64 + 5832 * 7321 + 5832 * 11661
    omega
theorem MB_mono {n : Nat} (h : n ≤ 2) : MB (n + 1) ≤ MB n := by
  have := S0_T0
  have d0 := S0_eq
  have : n = 0 ∨ n = 1 ∨ n = 2 := by omega
  rcases this with e | e | e <;> subst e
  · exact Nat.le_refl _
  · exact S0_T0
  · show 4 ≤ S0
    omega
theorem EB_mono {n : Nat} (h : n ≤ 2) : EB (n + 1) ≤ EB n := by
  have : n = 0 ∨ n = 1 ∨ n = 2 := by omega
  rcases this with e | e | e <;> subst e <;> decide
/-- nothing is left: the place is done -/
theorem Sg.skip {h w a : Nat} {A : Mx} {u : W3} (s : Sg h w a A u) (ha : a < h) (h3 : h ≤ a + 3) (n : Nil h w a u.M) : Sg h w (a + 1) A u := by
  obtain ⟨e, he, h1, h2⟩ := s.eb
  have e1 : h - a = (h - (a + 1)) + 1 := by omega
  have m1 := MB_mono (n := h - (a + 1)) (by omega)
  have m2 := EB_mono (n := h - (a + 1)) (by omega)
  have bd := s.bd
  rw [e1] at he bd
  refine ⟨s.re, fun x y q1 q2 q3 ne => ?_, bd.mono m1, e, Nat.le_trans he m2, h1, h2⟩
  by_cases ex : x < a ∨ y < a
  · exact s.dg x y q1 q2 ex ne
  · exact n x y (by omega) q1 (by omega) q2
def unit : Mx := fun i j => if i = j then 1 else 0
theorem sg_first {h w : Nat} {A : Mx} (h1 : 1 ≤ h) (h3 : h ≤ 3) (b : Bd h w A 4) : Sg h w 0 A ⟨unit, A, unit⟩ := by
  have un : ∀ n, Bb n unit 1 := fun n x y _ _ => by
    show (if x = y then (1 : Int) else 0).natAbs < _
    split <;> decide
  have hh : h = 1 ∨ h = 2 ∨ h = 3 := by omega
  have d0 := S0_eq
  have lt := S0_T0
  refine ⟨RE.refl _, fun x y _ _ q _ => by omega, b.mono ?_, 1, ?_, un h, un w⟩
  · rcases hh with e | e | e <;> subst e
    · show 4 ≤ T0
      omega
    · show 4 ≤ S0
      omega
    · exact Nat.le_refl _
  · rcases hh with e | e | e <;> subst e <;> decide
end Ev
/-! Ma5: the rank of a diagonal matrix; the elimination of the law; primes. -/
namespace Ev
/-! ### a diagonal matrix -/
def units (p : Int) (n : Nat) (D : Mx) : List Nat := (List.range n).filter fun i => decide (¬ p ∣ D i i)
theorem getD_at {l : List Nat} {t : Nat} (h : t < l.length) : l.getD t 0 = l[t] := by
  rw [List.getD_eq_getElem?_getD, List.getElem?_eq_getElem h]
  rfl
theorem diag_rk {p : Int} {h w : Nat} {D : Mx} (hp : Dom p) (hD : Dg h w (min h w) D) (k : Nat) : Rk p h w D k ↔ k ≤ (units p (min h w) D).length := by
  have key : ∀ t, t < (units p (min h w) D).length → (units p (min h w) D).getD t 0 ∈ units p (min h w) D := fun t ht => by
    rw [getD_at ht]
    exact List.getElem_mem ht
  have mem : ∀ i, i ∈ units p (min h w) D ↔ i < min h w ∧ ¬ p ∣ D i i := fun i => by
    unfold units
    rw [List.mem_filter, List.mem_range, decide_eq_true_iff]
  have nd : (units p (min h w) D).Pairwise (· < ·) := List.Pairwise.filter _ List.pairwise_lt_range
  refine Piv.rk (ro := fun t => (units p (min h w) D).getD t 0) (co := fun t => (units p (min h w) D).getD t 0) hp ⟨fun t ht => ?_, fun t ht => ?_, fun t ht => ?_, fun s t hst ht => ?_, fun i hi ho j hj => ?_⟩ k
  · have := ((mem _).mp (key t ht)).1
    show (units p (min h w) D).getD t 0 < h
    omega
  · have := ((mem _).mp (key t ht)).1
    show (units p (min h w) D).getD t 0 < w
    omega
  · exact ((mem _).mp (key t ht)).2
  · have a1 := ((mem _).mp (key t ht)).1
    have a2 := ((mem _).mp (key s (by omega))).1
    have lt : (units p (min h w) D).getD s 0 < (units p (min h w) D).getD t 0 := by
      rw [getD_at ht, getD_at (show s < _ by omega)]
      exact List.pairwise_iff_getElem.mp nd s t (by omega) ht hst
    rw [hD _ _ (by omega) (by omega) (.inl a1) (by omega)]
    exact Int.dvd_zero _
  · by_cases e : i = j
    · subst e
      refine Classical.byContradiction fun q => ?_
      have hm : i ∈ units p (min h w) D := (mem i).mpr ⟨by omega, q⟩
      obtain ⟨t, ht, et⟩ := List.getElem_of_mem hm
      refine ho t ht ?_
      show i = (units p (min h w) D).getD t 0
      rw [getD_at ht, et]
    · rw [hD i j hi hj (by omega) e]
      exact Int.dvd_zero _

/-! ### the law's elimination -/
/-- a number as it is kept in the characteristic p -/
def red (p x : Int) : Int := if 0 < p then x.fmod p else x
theorem red_dvd (p x : Int) : p ∣ x - red p x := by
  unfold red
  by_cases h : 0 < p
  · rw [if_pos h, Int.fmod_def]
    have e : x - (x - p * x.fdiv p) = p * x.fdiv p := by omega
    rw [e]
    exact Int.dvd_mul_right _ _
  · rw [if_neg h, Int.sub_self]
    exact Int.dvd_zero _
theorem red_nz {p x : Int} (hp : 0 ≤ p) (h : red p x ≠ 0) : ¬ p ∣ red p x := by
  unfold red at h ⊢
  by_cases q : 0 < p
  · rw [if_pos q] at h ⊢
    have h1 := Int.fmod_nonneg_of_pos x q
    have h2 := Int.fmod_lt_of_pos x q
    intro z
    have := Int.le_of_dvd (by omega) z
    omega
  · rw [if_neg q] at h ⊢
    have e : p = 0 := by omega
    rw [e]
    intro z
    exact h (Int.zero_dvd.mp z)
theorem red_iff {p x : Int} : p ∣ red p x ↔ p ∣ x := by
  have h := red_dvd p x
  constructor
  · intro z
    have e : x = (x - red p x) + red p x := by omega
    rw [e]
    exact Int.dvd_add h z
  · intro z
    have e : red p x = x - (x - red p x) := by omega
    rw [e]
    exact Int.dvd_sub z h
/-- rows from sz on that have an item other than 0 at column c -/
def plc (M : Mx) (sz h c : Nat) : List Nat := (List.range' sz (h - sz)).filter fun k => decide (M k c ≠ 0)
theorem mem_plc {M : Mx} {sz h c k : Nat} : k ∈ plc M sz h c ↔ sz ≤ k ∧ k < h ∧ M k c ≠ 0 := by
  unfold plc
  rw [List.mem_filter, List.mem_range'_1, decide_eq_true_iff]
  omega
/-- row i less a multiple of row sz, as the law's own step makes it -/
def lessM (p : Int) (M : Mx) (sz i c j : Nat) : Int := red p (M i j * M sz c - M sz j * M i c)
def gstep (p : Int) (h c : Nat) (s : Mx × Nat) : Mx × Nat :=
  match plc s.1 s.2 h c with
  | [] => s
  | k :: _ => (fun i j => if s.2 < i then lessM p (rowSwap s.1 s.2 k) s.2 i c j else rowSwap s.1 s.2 k i j, s.2 + 1)
def gau (p : Int) (h : Nat) : Nat → Mx → Mx × Nat
  | 0, M => (M, 0)
  | c + 1, M => gstep p h c (gau p h c M)
def lrank (p : Int) (h n : Nat) (A : Mx) : Nat := (gau p h n fun i j => red p (A i j)).2
def GB (sz : Nat) : Nat := if sz = 0 then 2048 else if sz = 1 then 8388608 else 140737488355328
/-- what holds behind c columns -/
structure GI (p : Int) (h n c : Nat) (A : Mx) (s : Mx × Nat) (co : Nat → Nat) : Prop where
  sz : s.2 ≤ h
  le : s.2 ≤ c
  at_ : ∀ t, t < s.2 → co t < c ∧ ¬ p ∣ s.1 t (co t)
  low : ∀ a t, a < t → t < s.2 → p ∣ s.1 t (co a)
  zero : ∀ i j, s.2 ≤ i → i < h → j < c → p ∣ s.1 i j
  nz : ∀ i j, i < h → j < n → s.1 i j ≠ 0 → ¬ p ∣ s.1 i j
  ker : ∀ v, Ker p h n A v ↔ Ker p h n s.1 v
  bd : Bd h n s.1 (GB s.2)
theorem ker_red {p : Int} {h n : Nat} {A : Mx} (v : Nat → Int) : Ker p h n A v ↔ Ker p h n (fun i j => red p (A i j)) v := by
  have e : ∀ i, p ∣ ap n A v i - ap n (fun i j => red p (A i j)) v i := fun i => by
    have : ap n A v i - ap n (fun i j => red p (A i j)) v i = S n (fun j => (A i j - red p (A i j)) * v j) := by
      show S n (fun j => A i j * v j) - S n (fun j => red p (A i j) * v j) = _
      have h1 : S n (fun j => (A i j - red p (A i j)) * v j) = S n (fun j => A i j * v j + (-1) * (red p (A i j) * v j)) := S_congr fun j _ => by
        rw [Int.sub_mul]
        omega
      rw [h1, S_add, S_mul]
      omega
    rw [this]
    exact S_dvd fun j _ => Int.dvd_trans (red_dvd _ _) (Int.dvd_mul_right _ _)
  constructor
  · intro k i hi
    have z := k i hi
    have e2 : ap n (fun i j => red p (A i j)) v i = ap n A v i - (ap n A v i - ap n (fun i j => red p (A i j)) v i) := by omega
    rw [e2]
    exact Int.dvd_sub z (e i)
  · intro k i hi
    have z := k i hi
    have e2 : ap n A v i = (ap n A v i - ap n (fun i j => red p (A i j)) v i) + ap n (fun i j => red p (A i j)) v i := by omega
    rw [e2]
    exact Int.dvd_add (e i) z
theorem red_le {p x : Int} {B : Nat} (hp : p ≤ 2048) (hB : 2048 ≤ B) (hx : x.natAbs ≤ B) : (red p x).natAbs ≤ B := by
  unfold red
  by_cases q : 0 < p
  · rw [if_pos q]
    have h1 := Int.fmod_nonneg_of_pos x q
    have h2 := Int.fmod_lt_of_pos x q
    omega
  · rw [if_neg q]
    exact hx
theorem gau_inv {p : Int} (hp : Dom p) (h0 : 0 ≤ p) (hp2 : p ≤ 2048) {h n : Nat} {A : Mx} (h3 : h ≤ 3) (bA : Bd h n A 4) : ∀ c, c ≤ n → ∃ co, GI p h n c A (gau p h c fun i j => red p (A i j)) co
  | 0, _ => ⟨id, Nat.zero_le _, Nat.zero_le _, fun t ht => absurd ht (Nat.not_lt_zero t), fun a t _ ht => absurd ht (Nat.not_lt_zero t), fun i j _ _ hj => absurd hj (Nat.not_lt_zero j), fun i j _ _ q => red_nz h0 q, ker_red, fun i j hi hj => red_le hp2 (Nat.le_refl 2048) (Nat.le_trans (bA i j hi hj) (by show 4 ≤ 2048; decide))⟩
  | c + 1, hc => by
    obtain ⟨co, G⟩ := gau_inv hp h0 hp2 h3 bA c (by omega)
    show ∃ co, GI p h n (c + 1) A (gstep p h c (gau p h c fun i j => red p (A i j))) co
    generalize gau p h c (fun i j => red p (A i j)) = s at G ⊢
    obtain ⟨M, sz⟩ := s
    cases hpl : plc M sz h c with
    | nil =>
      have e : gstep p h c (M, sz) = (M, sz) := by
        unfold gstep
        simp only [hpl]
      rw [e]
      have := G.le
      refine ⟨co, G.sz, by omega, fun t ht => ⟨by have := (G.at_ t ht).1; omega, (G.at_ t ht).2⟩, G.low, fun i j h1 h2 h3' => ?_, G.nz, G.ker, G.bd⟩
      by_cases q : j = c
      · subst q
        have z : M i j = 0 := Classical.byContradiction fun z => by
          have hm : i ∈ plc M sz h j := mem_plc.mpr ⟨h1, h2, z⟩
          rw [hpl] at hm
          cases hm
        show p ∣ M i j
        rw [z]
        exact Int.dvd_zero _
      · exact G.zero i j h1 h2 (by omega)
    | cons k r =>
      obtain ⟨k1, k2, k3⟩ : sz ≤ k ∧ k < h ∧ M k c ≠ 0 := mem_plc.mp (by rw [hpl]; exact List.mem_cons_self)
      have e : gstep p h c (M, sz) = (fun i j => if sz < i then lessM p (rowSwap M sz k) sz i c j else rowSwap M sz k i j, sz + 1) := by
        unfold gstep
        simp only [hpl]
      rw [e]
      have hsz : sz < h := by omega
      have nzk : ¬ p ∣ M k c := G.nz k c k2 (by omega) k3
      have es : ∀ j, rowSwap M sz k sz j = M k j := fun j => by show M (sw sz k sz) j = _; rw [sw_a]
      have el : ∀ t j, t < sz → rowSwap M sz k t j = M t j := fun t j ht => by show M (sw sz k t) j = _; rw [sw_ne (by omega) (by omega)]
      have zl : ∀ i j, sz ≤ i → i < h → j < c → p ∣ rowSwap M sz k i j := fun i j q1 q2 q3 => G.zero _ _ (sw_high q1 k1) (sw_lt hsz k2 q2) q3
      have le := G.le
      have bd1 : Bd h n (rowSwap M sz k) (GB sz) := fun i j q1 q2 => G.bd _ _ (sw_lt hsz k2 q1) q2
      refine ⟨fun t => if t = sz then c else co t, by show sz + 1 ≤ h; omega, by show sz + 1 ≤ c + 1; omega, fun t ht => ?_, fun a t hat ht => ?_, fun i j q1 q2 q3 => ?_, fun i j q1 q2 q3 => ?_, fun v => ?_, fun i j q1 q2 => ?_⟩
      · have ht' : t < sz + 1 := ht
        show (if t = sz then c else co t) < c + 1 ∧ ¬ p ∣ (if sz < t then lessM p (rowSwap M sz k) sz t c _ else rowSwap M sz k t (if t = sz then c else co t))
        have hnt : ¬ sz < t := by omega
        rw [if_neg hnt]
        by_cases q : t = sz
        · rw [if_pos q, q, es]
          exact ⟨by omega, nzk⟩
        · rw [if_neg q, el t _ (by omega)]
          have := G.at_ t (show t < sz by omega)
          exact ⟨by omega, this.2⟩
      · have ht' : t < sz + 1 := ht
        show p ∣ (if sz < t then lessM p (rowSwap M sz k) sz t c _ else rowSwap M sz k t (if a = sz then c else co a))
        have hnt : ¬ sz < t := by omega
        have hna : ¬ a = sz := by omega
        rw [if_neg hnt, if_neg hna]
        have ca := (G.at_ a (show a < sz by omega)).1
        by_cases q : t = sz
        · rw [q]
          exact zl sz _ (Nat.le_refl _) hsz ca
        · rw [el t _ (by omega)]
          exact G.low a t hat (show t < sz by omega)
      · have q1' : sz + 1 ≤ i := q1
        show p ∣ (if sz < i then lessM p (rowSwap M sz k) sz i c j else rowSwap M sz k i j)
        rw [if_pos (by omega)]
        refine red_iff.mpr ?_
        by_cases e : j = c
        · subst e
          rw [Int.mul_comm, Int.sub_self]
          exact Int.dvd_zero _
        · exact Int.dvd_sub (Int.dvd_trans (zl i j (by omega) q2 (by omega)) (Int.dvd_mul_right _ _)) (Int.dvd_trans (zl sz j (Nat.le_refl _) hsz (by omega)) (Int.dvd_mul_right _ _))
      · have q3' : (if sz < i then lessM p (rowSwap M sz k) sz i c j else rowSwap M sz k i j) ≠ 0 := q3
        show ¬ p ∣ (if sz < i then lessM p (rowSwap M sz k) sz i c j else rowSwap M sz k i j)
        by_cases e : sz < i
        · rw [if_pos e] at q3' ⊢
          exact red_nz h0 q3'
        · rw [if_neg e] at q3' ⊢
          exact G.nz _ j (sw_lt hsz k2 q1) q2 q3'
      · have k1' : Ker p h n A v ↔ Ker p h n (rowSwap M sz k) v := (G.ker v).trans (by
          constructor
          · intro kk i hi
            exact kk (sw sz k i) (sw_lt hsz k2 hi)
          · intro kk i hi
            have z := kk (sw sz k i) (sw_lt hsz k2 hi)
            have e : ap n (rowSwap M sz k) v (sw sz k i) = ap n M v i := S_congr fun j _ => by
              show M (sw sz k (sw sz k i)) j * v j = _
              rw [sw_sw]
            rw [e] at z
            exact z)
        refine k1'.trans ?_
        generalize rowSwap M sz k = M1 at *
        have ea : ∀ i, sz < i → p ∣ (M1 sz c * ap n M1 v i - M1 i c * ap n M1 v sz) - ap n (fun i j => if sz < i then lessM p M1 sz i c j else M1 i j) v i := fun i hi => by
          have e : (M1 sz c * ap n M1 v i - M1 i c * ap n M1 v sz) - ap n (fun i j => if sz < i then lessM p M1 sz i c j else M1 i j) v i = S n (fun j => ((M1 i j * M1 sz c - M1 sz j * M1 i c) - lessM p M1 sz i c j) * v j) := by
            have f1 : S n (fun j => ((M1 i j * M1 sz c - M1 sz j * M1 i c) - lessM p M1 sz i c j) * v j) = S n (fun j => M1 sz c * (M1 i j * v j) + ((- M1 i c) * (M1 sz j * v j) + (-1) * ((if sz < i then lessM p M1 sz i c j else M1 i j) * v j))) := S_congr fun j _ => by
              rw [if_pos hi, Int.sub_mul, Int.sub_mul, Int.mul_comm (M1 i j), Int.mul_assoc, Int.mul_comm (M1 sz j) (M1 i c), Int.mul_assoc, Int.neg_mul]
              omega
            rw [f1, S_add, S_add, S_mul, S_mul, S_mul, Int.neg_mul]
            show _ - S n (fun j => (if sz < i then lessM p M1 sz i c j else M1 i j) * v j) = _
            show (M1 sz c * S n (fun j => M1 i j * v j) - M1 i c * S n (fun j => M1 sz j * v j)) - _ = _
            omega
          rw [e]
          exact S_dvd fun j _ => Int.dvd_trans (red_dvd _ _) (Int.dvd_mul_right _ _)
        have eb : ∀ i, ¬ sz < i → ap n (fun i j => if sz < i then lessM p M1 sz i c j else M1 i j) v i = ap n M1 v i := fun i hi => S_congr fun j _ => by
          show (if sz < i then _ else M1 i j) * v j = _
          rw [if_neg hi]
        have nzc : ¬ p ∣ M1 sz c := by rw [es]; exact nzk
        constructor
        · intro kk i hi
          by_cases q : sz < i
          · have z : p ∣ M1 sz c * ap n M1 v i - M1 i c * ap n M1 v sz := Int.dvd_sub (Int.dvd_trans (kk i hi) (Int.dvd_mul_left _ _)) (Int.dvd_trans (kk sz hsz) (Int.dvd_mul_left _ _))
            have z2 := Int.dvd_sub z (ea i q)
            have e : ∀ x y : Int, x - (x - y) = y := fun x y => by omega
            rw [e] at z2
            exact z2
          · rw [eb i q]
            exact kk i hi
        · intro kk i hi
          have ks : p ∣ ap n M1 v sz := by
            have := kk sz hsz
            rw [eb sz (Nat.lt_irrefl _)] at this
            exact this
          by_cases q : sz < i
          · have z2 := Int.dvd_add (ea i q) (kk i hi)
            have e : ∀ x y : Int, x - y + y = x := fun x y => by omega
            rw [e] at z2
            have z3 := Int.dvd_add z2 (Int.dvd_trans ks (Int.dvd_mul_left (M1 i c) _))
            rw [e] at z3
            exact hp.right z3 nzc
          · have := kk i hi
            rw [eb i q] at this
            exact this
      · show (if sz < i then lessM p (rowSwap M sz k) sz i c j else rowSwap M sz k i j).natAbs ≤ GB (sz + 1)
        have b1 := bd1 i j q1 q2
        by_cases e : sz < i
        · rw [if_pos e]
          have b2 := bd1 sz c hsz (by omega)
          have b3 := bd1 sz j hsz q2
          have b4 := bd1 i c q1 (by omega)
          have m1 : (rowSwap M sz k i j * rowSwap M sz k sz c - rowSwap M sz k sz j * rowSwap M sz k i c).natAbs ≤ GB sz * GB sz + GB sz * GB sz := by
            have := Int.natAbs_sub_le (rowSwap M sz k i j * rowSwap M sz k sz c) (rowSwap M sz k sz j * rowSwap M sz k i c)
            rw [Int.natAbs_mul, Int.natAbs_mul] at this
            exact Nat.le_trans this (Nat.add_le_add (Nat.mul_le_mul b1 b2) (Nat.mul_le_mul b3 b4))
          have hs : sz = 0 ∨ sz = 1 := by omega
          refine red_le hp2 ?_ (Nat.le_trans m1 ?_)
          · rcases hs with e | e <;> subst e <;> decide
          · rcases hs with e | e <;> subst e <;> decide
        · rw [if_neg e]
          refine Nat.le_trans b1 ?_
          have hs : sz = 0 ∨ sz = 1 ∨ sz = 2 := by omega
          rcases hs with e | e | e <;> subst e <;> decide
theorem lrank_rk {p : Int} (hp : Dom p) (h0 : 0 ≤ p) (hp2 : p ≤ 2048) {h n : Nat} {A : Mx} (h3 : h ≤ 3) (bA : Bd h n A 4) (k : Nat) : Rk p h n A k ↔ k ≤ lrank p h n A := by
  obtain ⟨co, G⟩ := gau_inv hp h0 hp2 h3 bA n (Nat.le_refl _)
  unfold lrank
  generalize gau p h n (fun i j => red p (A i j)) = s at G ⊢
  have P : Piv p h n s.1 s.2 id co := ⟨fun t ht => Nat.lt_of_lt_of_le ht G.sz, fun t ht => (G.at_ t ht).1, fun t ht => (G.at_ t ht).2, G.low, fun i hi ho j hj => G.zero i j (Nat.le_of_not_lt fun q => ho i q rfl) hi hj⟩
  rw [← P.rk hp k]
  exact ⟨Rk.ker fun v => (G.ker v).mpr, Rk.ker fun v => (G.ker v).mp⟩
/-- the program's way and the law's way -/
theorem ranks {p : Int} (hp : Dom p) (h0 : 0 ≤ p) (hp2 : p ≤ 2048) {h n : Nat} {A D : Mx} (h3 : h ≤ 3) (bA : Bd h n A 4) (re : RE h n A D) (hD : Dg h n (min h n) D) : (units p (min h n) D).length = lrank p h n A := by
  have e : ∀ k, k ≤ (units p (min h n) D).length ↔ k ≤ lrank p h n A := fun k => by
    rw [← diag_rk hp hD k, ← lrank_rk hp h0 hp2 h3 bA k]
    exact (re p hp k).symm
  have e1 := (e _).mp (Nat.le_refl _)
  have e2 := (e _).mpr (Nat.le_refl _)
  omega
theorem lrank_full {p : Int} (hp : Dom p) (h0 : 0 ≤ p) (hp2 : p ≤ 2048) {h n : Nat} {A : Mx} (h3 : h ≤ 3) (bA : Bd h n A 4) : lrank p h n A = n ↔ Ind p h n A := by
  rw [← rk_full hp, lrank_rk hp h0 hp2 h3 bA]
  obtain ⟨co, G⟩ := gau_inv hp h0 hp2 h3 bA n (Nat.le_refl _)
  have : lrank p h n A ≤ n := G.le
  omega
theorem lrank_le {p : Int} (hp : Dom p) (h0 : 0 ≤ p) (hp2 : p ≤ 2048) {h n : Nat} {A : Mx} (h3 : h ≤ 3) (bA : Bd h n A 4) : lrank p h n A ≤ n := by
  obtain ⟨co, G⟩ := gau_inv hp h0 hp2 h3 bA n (Nat.le_refl _)
  exact G.le

/-! ### primes -/
/-- as the program tests -/
def IsP (n : Int) : Prop := 2 ≤ n ∧ ∀ d : Int, 2 ≤ d → d * d ≤ n → n.fmod d ≠ 0
theorem nat_dvd {q : Nat} {z : Int} : (q : Int) ∣ z ↔ q ∣ z.natAbs := by
  rw [← Int.natAbs_dvd_natAbs]
  exact Iff.rfl
theorem IsP.dom {p : Int} (h : IsP p) : Dom p := by
  obtain ⟨q, rfl⟩ : ∃ q : Nat, p = (q : Int) := ⟨p.toNat, by have := h.1; omega⟩
  have h2 : 2 ≤ q := by have := h.1; omega
  have nd : ∀ d : Nat, 2 ≤ d → d * d ≤ q → ¬ d ∣ q := fun d h1 h3 z => by
    refine h.2 d (by omega) ?_ (Int.fmod_eq_zero_of_dvd (Int.natCast_dvd_natCast.mpr z))
    have : ((d * d : Nat) : Int) ≤ (q : Int) := by exact_mod_cast h3
    rw [Int.natCast_mul] at this
    exact this
  have dv : ∀ g : Nat, g ∣ q → g = 1 ∨ g = q := fun g hg => by
    obtain ⟨k, hk⟩ := hg
    refine Classical.byContradiction fun z => ?_
    have hg0 : g ≠ 0 := fun e => by rw [e, Nat.zero_mul] at hk; omega
    have hk0 : k ≠ 0 := fun e => by rw [e, Nat.mul_zero] at hk; omega
    have hk1 : k ≠ 1 := fun e => by rw [e, Nat.mul_one] at hk; omega
    by_cases le : g ≤ k
    · exact nd g (by omega) (by rw [hk]; exact Nat.mul_le_mul_left _ le) ⟨k, hk⟩
    · exact nd k (by omega) (by rw [hk]; exact Nat.mul_le_mul_right _ (by omega)) ⟨g, by rw [hk, Nat.mul_comm]⟩
  refine ⟨fun z => ?_, fun a b z => ?_⟩
  · have : q ∣ 1 := Int.natCast_dvd_natCast.mp z
    have := Nat.le_of_dvd (by decide) this
    omega
  · have z1 : q ∣ a.natAbs * b.natAbs := by
      rw [← Int.natAbs_mul]
      exact nat_dvd.mp z
    rcases dv (Nat.gcd q a.natAbs) (Nat.gcd_dvd_left _ _) with e | e
    · exact .inr (nat_dvd.mpr (Nat.Coprime.dvd_of_dvd_mul_left e z1))
    · refine .inl (nat_dvd.mpr ?_)
      have := Nat.gcd_dvd_right q a.natAbs
      rw [e] at this
      exact this
/-- as the law tests -/
def LPr (n : Int) : Prop := 3 ≤ n ∧ n.fmod 2 ≠ 0 ∧ ∀ d : Int, 3 ≤ d → d.fmod 2 = 1 → d * d ≤ n → n.fmod d ≠ 0
theorem LPr.isP {n : Int} (h : LPr n) : IsP n := by
  refine ⟨by have := h.1; omega, fun d h1 h2 h3 => ?_⟩
  by_cases e : d.fmod 2 = 1
  · refine h.2.2 d ?_ e h2 h3
    have : d ≠ 2 := fun q => by rw [q] at e; exact absurd e (by decide)
    omega
  · have e0 : d.fmod 2 = 0 := by
      rw [Int.fmod_eq_emod_of_nonneg _ (by decide)] at e ⊢
      omega
    refine h.2.1 (Int.fmod_eq_zero_of_dvd (Int.dvd_trans (Int.dvd_of_fmod_eq_zero e0) (Int.dvd_of_fmod_eq_zero h3)))
theorem sq_lt {d : Int} {n : Int} (h1 : 0 ≤ d) (h : d * d ≤ n) (B : Int) (hB : 0 ≤ B) (hn : n < B * B) : d < B := by
  refine Classical.byContradiction fun q => ?_
  have : B * B ≤ d * d := Int.mul_le_mul (by omega) (by omega) hB h1
  omega
theorem isP_2 : IsP 2 := ⟨by decide, fun d h1 h2 => by have := sq_lt (by omega) h2 2 (by decide) (by decide); omega⟩
theorem isP_3 : IsP 3 := ⟨by decide, fun d h1 h2 => by have := sq_lt (by omega) h2 2 (by decide) (by decide); omega⟩
theorem isP_5 : IsP 5 := ⟨by decide, fun d h1 h2 => by
  have := sq_lt (by omega) h2 3 (by decide) (by decide)
  have e : d = 2 := by omega
  rw [e]
  decide⟩
theorem lpr_2003 : LPr 2003 := ⟨by decide, by decide, fun d h1 _ h2 => by
  have := sq_lt (by omega) h2 45 (by decide) (by decide)
  obtain ⟨k, rfl⟩ : ∃ k : Nat, d = (k : Int) := ⟨d.toNat, by omega⟩
  have all : ∀ k : Nat, k < 45 → 3 ≤ k → (2003 : Int).fmod (k : Int) ≠ 0 := by decide +kernel
  exact all k (by omega) (by omega)⟩
end Ev
/-! Ma6: lists of columns: their order, bases, circuits. -/
namespace Ev
/-! ### the order of lists -/
def ltN : List Nat → List Nat → Bool
  | [], [] => false
  | [], _ :: _ => true
  | _ :: _, [] => false
  | x :: xs, y :: ys => if x = y then ltN xs ys else decide (x < y)
theorem ltN_refl : ∀ a : List Nat, ltN a a = false
  | [] => rfl
  | x :: xs => by
    show (if x = x then ltN xs xs else _) = false
    rw [if_pos rfl]
    exact ltN_refl xs
theorem ltN_anti : ∀ a b : List Nat, ltN a b = false → ltN b a = false → a = b
  | [], [], _, _ => rfl
  | [], _ :: _, h, _ => nomatch h
  | _ :: _, [], _, h => nomatch h
  | x :: xs, y :: ys, h1, h2 => by
    have h1' : (if x = y then ltN xs ys else decide (x < y)) = false := h1
    have h2' : (if y = x then ltN ys xs else decide (y < x)) = false := h2
    by_cases e : x = y
    · subst e
      rw [if_pos rfl] at h1' h2'
      rw [ltN_anti xs ys h1' h2']
    · rw [if_neg e] at h1'
      rw [if_neg fun z => e z.symm] at h2'
      have := of_decide_eq_false h1'
      have := of_decide_eq_false h2'
      omega
theorem ltN_asym : ∀ a b : List Nat, ltN a b = true → ltN b a = false
  | [], [], h => nomatch h
  | [], _ :: _, _ => rfl
  | _ :: _, [], h => nomatch h
  | x :: xs, y :: ys, h => by
    have h1 : (if x = y then ltN xs ys else decide (x < y)) = true := h
    show (if y = x then ltN ys xs else decide (y < x)) = false
    by_cases e : x = y
    · subst e
      rw [if_pos rfl] at h1 ⊢
      exact ltN_asym xs ys h1
    · rw [if_neg e] at h1
      rw [if_neg fun z => e z.symm]
      have := of_decide_eq_true h1
      exact decide_eq_false (by omega)
/-- not less, twice -/
theorem ltN_tr : ∀ a b c : List Nat, ltN b a = false → ltN c b = false → ltN c a = false
  | _, _, [], h1, h2 => by
    rename_i a b
    cases b with
    | nil =>
      cases a with
      | nil => rfl
      | cons _ _ => exact h1
    | cons _ _ => exact nomatch h2
  | [], _, _ :: _, _, _ => rfl
  | _ :: _, [], _ :: _, h1, _ => nomatch h1
  | x :: xs, y :: ys, z :: zs, h1, h2 => by
    have h1' : (if y = x then ltN ys xs else decide (y < x)) = false := h1
    have h2' : (if z = y then ltN zs ys else decide (z < y)) = false := h2
    show (if z = x then ltN zs xs else decide (z < x)) = false
    by_cases e1 : y = x
    · subst e1
      rw [if_pos rfl] at h1'
      by_cases e2 : z = y
      · subst e2
        rw [if_pos rfl] at h2' ⊢
        exact ltN_tr xs ys zs h1' h2'
      · rw [if_neg e2] at h2' ⊢
        exact h2'
    · rw [if_neg e1] at h1'
      have q1 := of_decide_eq_false h1'
      by_cases e2 : z = y
      · subst e2
        rw [if_neg e1]
        exact h1'
      · rw [if_neg e2] at h2'
        have q2 := of_decide_eq_false h2'
        rw [if_neg (by omega)]
        exact decide_eq_false (by omega)
abbrev Srt (l : List (List Nat)) : Prop := l.Pairwise fun x y => ltN y x = false
/-- two arranged lists with the same items are one -/
theorem srt_uniq : ∀ {l m : List (List Nat)}, Srt l → Srt m → l.Perm m → l = m
  | [], m, _, _, h => (List.Perm.eq_nil h.symm).symm
  | x :: l, [], _, _, h => absurd h.length_eq (by simp)
  | x :: l, y :: m, hl, hm, h => by
    have hl' := List.pairwise_cons.mp hl
    have hm' := List.pairwise_cons.mp hm
    have h1 : ltN x y = false := by
      rcases List.mem_cons.mp (h.mem_iff.mp (List.mem_cons_self (a := x) (l := l))) with e | hx
      · rw [e]; exact ltN_refl y
      · exact hm'.1 x hx
    have h2 : ltN y x = false := by
      rcases List.mem_cons.mp (h.mem_iff.mpr (List.mem_cons_self (a := y) (l := m))) with e | hy
      · rw [e]; exact ltN_refl x
      · exact hl'.1 y hy
    have e := ltN_anti x y h1 h2
    subst e
    rw [srt_uniq hl'.2 hm'.2 h.cons_inv]
def ins (x : List Nat) : List (List Nat) → List (List Nat)
  | [] => [x]
  | y :: r => if ltN y x then y :: ins x r else x :: y :: r
def isort : List (List Nat) → List (List Nat)
  | [] => []
  | x :: r => ins x (isort r)
theorem ins_perm (x : List Nat) : ∀ l : List (List Nat), (ins x l).Perm (x :: l)
  | [] => List.Perm.refl _
  | y :: r => by
    show (if ltN y x then y :: ins x r else x :: y :: r).Perm _
    split
    · exact ((ins_perm x r).cons y).trans (List.Perm.swap x y r)
    · exact List.Perm.refl _
theorem isort_perm : ∀ l : List (List Nat), (isort l).Perm l
  | [] => List.Perm.refl _
  | x :: r => (ins_perm x (isort r)).trans ((isort_perm r).cons x)

/-! ### all lists of columns -/
/-- as the law makes them -/
def raw : Nat → List (List Nat)
  | 0 => [[]]
  | n + 1 => raw n ++ (raw n).map fun r => r ++ [n]
def slists (w : Nat) : List (List Nat) := isort (raw w)
/-- as the program makes them -/
def nxt (row : List Nat) : Nat := match row.getLast? with
  | none => 0
  | some x => x + 1
def chs (w : Nat) : Nat → List (List Nat)
  | 0 => [[]]
  | k + 1 => (chs w k).flatMap fun row => (List.range' (nxt row) (w - nxt row)).map fun a => row ++ [a]
def allc (w : Nat) : List (List Nat) := (List.range (w + 1)).flatMap (chs w)
theorem five {w : Nat} (h1 : 1 ≤ w) (h5 : w ≤ 5) : w = 1 ∨ w = 2 ∨ w = 3 ∨ w = 4 ∨ w = 5 := by omega
theorem slists_srt {w : Nat} (h1 : 1 ≤ w) (h5 : w ≤ 5) : Srt (slists w) := by
  rcases five h1 h5 with e | e | e | e | e <;> subst e <;> decide +kernel
theorem allc_perm {w : Nat} (h1 : 1 ≤ w) (h5 : w ≤ 5) : (allc w).Perm (slists w) := by
  have e : isort (allc w) = slists w := by rcases five h1 h5 with e | e | e | e | e <;> subst e <;> decide +kernel
  rw [← e]
  exact (isort_perm _).symm
theorem chs_is {w k : Nat} (h1 : 1 ≤ w) (h5 : w ≤ 5) (hk : k ≤ w) : chs w k = (slists w).filter fun r => decide (r.length = k) := by
  have all : ∀ w, w < 6 → 1 ≤ w → ∀ k, k < 6 → chs w k = (slists w).filter fun r => decide (r.length = k) := by decide +kernel
  exact all w (by omega) h1 k (by omega)
/-- what is asked of the lists' indices -/
theorem slists_ok {w : Nat} (h1 : 1 ≤ w) (h5 : w ≤ 5) : ∀ c ∈ slists w, c.length ≤ w ∧ ∀ x ∈ c, x < w := by
  rcases five h1 h5 with e | e | e | e | e <;> subst e <;> decide +kernel
theorem slists_len {w : Nat} (h1 : 1 ≤ w) (h5 : w ≤ 5) : (slists w).length ≤ 32 := by
  rcases five h1 h5 with e | e | e | e | e <;> subst e <;> decide +kernel
theorem allc_ok {w : Nat} (h1 : 1 ≤ w) (h5 : w ≤ 5) : ∀ c ∈ allc w, c.length ≤ w ∧ ∀ x ∈ c, x < w := fun c hc => slists_ok h1 h5 c ((allc_perm h1 h5).mem_iff.mp hc)
theorem chs_ok {w k : Nat} (h1 : 1 ≤ w) (h5 : w ≤ 5) (hk : k ≤ w) : ∀ c ∈ chs w k, c.length ≤ w ∧ ∀ x ∈ c, x < w := fun c hc => by
  rw [chs_is h1 h5 hk] at hc
  exact slists_ok h1 h5 c (List.mem_filter.mp hc).1
theorem chs_len {w k : Nat} (h1 : 1 ≤ w) (h5 : w ≤ 5) (hk : k ≤ w) : (chs w k).length ≤ 32 := by
  rw [chs_is h1 h5 hk]
  exact Nat.le_trans (List.length_filter_le _ _) (slists_len h1 h5)
/-! ### circuits -/
section
variable (dep : List Nat → Bool)
/-- one turn of the program's search -/
def pstep (found : List (List Nat)) (c : List Nat) : List (List Nat) :=
  if (found.filter fun x => x.all fun a => decide (a ∈ c)) = [] ∧ dep c = true then found ++ [c] else found
def pcirc (l : List (List Nat)) : List (List Nat) := l.foldl (pstep dep) []
def isC (c : List Nat) : Bool := dep c && (List.range c.length).all fun i => !dep (c.take i ++ c.drop (i + 1))
def lcirc (w : Nat) : List (List Nat) := (slists w).filter (isC dep)
end
def sub1 (l : List (List Nat)) : Bool := (List.range l.length).all fun k => (List.range (l.getD k []).length).all fun i => decide (((l.getD k []).take i ++ (l.getD k []).drop (i + 1)) ∈ l.take k)
def sub2 (l : List (List Nat)) : Bool := (List.range l.length).all fun k => (l.take k).all fun c => !(c.all fun a => decide (a ∈ l.getD k [])) || (List.range (l.getD k []).length).any fun i => c.isSublist ((l.getD k []).take i ++ (l.getD k []).drop (i + 1))
theorem allc_sub1 {w : Nat} (h1 : 1 ≤ w) (h5 : w ≤ 5) : sub1 (allc w) = true := by
  rcases five h1 h5 with e | e | e | e | e <;> subst e <;> decide +kernel
theorem allc_sub2 {w : Nat} (h1 : 1 ≤ w) (h5 : w ≤ 5) : sub2 (allc w) = true := by
  rcases five h1 h5 with e | e | e | e | e <;> subst e <;> decide +kernel
theorem part_sub (c : List Nat) (i : Nat) : (c.take i ++ c.drop (i + 1)).Sublist c := by
  rw [← List.eraseIdx_eq_take_drop_succ]
  exact List.eraseIdx_sublist _ _
theorem foldl_take {dep : List Nat → Bool} {l : List (List Nat)} (mono : ∀ S T : List Nat, S.Sublist T → dep S = true → dep T = true) (s1 : sub1 l = true) (s2 : sub2 l = true) :
    ∀ k, k ≤ l.length → (l.take k).foldl (pstep dep) [] = (l.take k).filter (isC dep)
  | 0, _ => rfl
  | k + 1, hk => by
    have hlt : k < l.length := by omega
    have eg : l.getD k [] = l[k] := by
      rw [List.getD_eq_getElem?_getD, List.getElem?_eq_getElem hlt]
      rfl
    rw [List.take_succ_eq_append_getElem hlt, List.foldl_append, foldl_take mono s1 s2 k (by omega), List.filter_append]
    have p1 : ∀ i, i < l[k].length → (l[k].take i ++ l[k].drop (i + 1)) ∈ l.take k := fun i hi => by
      have q := List.all_eq_true.mp s1 k (List.mem_range.mpr hlt)
      rw [eg] at q
      exact of_decide_eq_true (List.all_eq_true.mp q i (List.mem_range.mpr hi))
    have p2 : ∀ c ∈ l.take k, (∀ a ∈ c, a ∈ l[k]) → ∃ i, i < l[k].length ∧ c.Sublist (l[k].take i ++ l[k].drop (i + 1)) := fun c hc ha => by
      have q := List.all_eq_true.mp (List.all_eq_true.mp s2 k (List.mem_range.mpr hlt)) c hc
      rw [eg, Bool.or_eq_true] at q
      rcases q with q | q
      · have t : (c.all fun a => decide (a ∈ l[k])) = true := List.all_eq_true.mpr fun a h => decide_eq_true (ha a h)
        rw [t] at q
        cases q
      · obtain ⟨i, hi, hs⟩ := List.any_eq_true.mp q
        exact ⟨i, List.mem_range.mp hi, List.isSublist_iff_sublist.mp hs⟩
    -- within each dependent list there is a circuit, no later
    have p3 : ∀ n, n < l.length → dep (l.getD n []) = true → ∃ c ∈ l.take (n + 1), isC dep c = true ∧ c.Sublist (l.getD n []) := by
      intro n
      induction n using Nat.strongRecOn with
      | _ n ih =>
        intro hn hd
        have egn : l.getD n [] = l[n] := by
          rw [List.getD_eq_getElem?_getD, List.getElem?_eq_getElem hn]
          rfl
        by_cases hc : isC dep (l.getD n []) = true
        · refine ⟨l.getD n [], ?_, hc, List.Sublist.refl _⟩
          rw [egn, List.take_succ_eq_append_getElem hn]
          exact List.mem_append_right _ (List.mem_singleton.mpr rfl)
        · obtain ⟨i, hi, hdi⟩ : ∃ i, i < (l.getD n []).length ∧ dep ((l.getD n []).take i ++ (l.getD n []).drop (i + 1)) = true := by
            refine Classical.byContradiction fun z => hc ?_
            unfold isC
            rw [hd, Bool.true_and, List.all_eq_true]
            intro i hi
            rw [Bool.not_eq_true']
            cases e : dep ((l.getD n []).take i ++ (l.getD n []).drop (i + 1)) with
            | false => rfl
            | true => exact (z ⟨i, List.mem_range.mp hi, e⟩).elim
          have q := List.all_eq_true.mp s1 n (List.mem_range.mpr hn)
          have q2 := of_decide_eq_true (List.all_eq_true.mp q i (List.mem_range.mpr hi))
          obtain ⟨m, hm, em⟩ := List.getElem_of_mem q2
          have hml : m < n ∧ m < l.length := by
            rw [List.length_take] at hm
            omega
          rw [List.getElem_take] at em
          have egm : l.getD m [] = l[m] := by
            rw [List.getD_eq_getElem?_getD, List.getElem?_eq_getElem hml.2]
            rfl
          obtain ⟨c, c1, c2, c3⟩ := ih m hml.1 hml.2 (by rw [egm, em]; exact hdi)
          refine ⟨c, ?_, c2, ?_⟩
          · exact (List.take_sublist_take_left (by omega)).subset c1
          · rw [egm, em] at c3
            exact c3.trans (part_sub _ _)
    show pstep dep ((l.take k).filter (isC dep)) l[k] = _
    unfold pstep
    have key : (((l.take k).filter (isC dep)).filter (fun x => x.all fun a => decide (a ∈ l[k])) = [] ∧ dep l[k] = true) ↔ isC dep l[k] = true := by
      constructor
      · rintro ⟨h1, h2⟩
        unfold isC
        rw [h2, Bool.true_and, List.all_eq_true]
        intro i hi
        rw [Bool.not_eq_true']
        cases e : dep (l[k].take i ++ l[k].drop (i + 1)) with
        | false => rfl
        | true =>
          obtain ⟨m, hm, em⟩ := List.getElem_of_mem (p1 i (List.mem_range.mp hi))
          have hml : m < k ∧ m < l.length := by
            rw [List.length_take] at hm
            omega
          rw [List.getElem_take] at em
          have egm : l.getD m [] = l[m] := by
            rw [List.getD_eq_getElem?_getD, List.getElem?_eq_getElem hml.2]
            rfl
          obtain ⟨c, c1, c2, c3⟩ := p3 m hml.2 (by rw [egm, em]; exact e)
          rw [egm, em] at c3
          have hin : c ∈ ((l.take k).filter (isC dep)).filter (fun x => x.all fun a => decide (a ∈ l[k])) := by
            refine List.mem_filter.mpr ⟨List.mem_filter.mpr ⟨(List.take_sublist_take_left (by omega)).subset c1, c2⟩, ?_⟩
            exact List.all_eq_true.mpr fun a ha => decide_eq_true ((c3.trans (part_sub _ _)).subset ha)
          rw [h1] at hin
          cases hin
      · intro h
        have h' := h
        unfold isC at h'
        rw [Bool.and_eq_true] at h'
        refine ⟨?_, h'.1⟩
        rw [List.filter_eq_nil_iff]
        intro c hc hall
        obtain ⟨hc1, hc2⟩ := List.mem_filter.mp hc
        obtain ⟨i, hi, hs⟩ := p2 c hc1 fun a ha => of_decide_eq_true (List.all_eq_true.mp hall a ha)
        unfold isC at hc2
        rw [Bool.and_eq_true] at hc2
        have q := List.all_eq_true.mp h'.2 i (List.mem_range.mpr hi)
        rw [mono _ _ hs hc2.1] at q
        cases q
    by_cases hc : isC dep l[k] = true
    · rw [if_pos (key.mpr hc), List.filter_cons_of_pos hc]
      rfl
    · rw [if_neg fun z => hc (key.mp z), List.filter_cons_of_neg hc]
      exact (List.append_nil _).symm
theorem circ_perm {dep : List Nat → Bool} {w : Nat} (h1 : 1 ≤ w) (h5 : w ≤ 5) (mono : ∀ S T : List Nat, S.Sublist T → dep S = true → dep T = true) : (pcirc dep (allc w)).Perm (lcirc dep w) := by
  have e := foldl_take mono (allc_sub1 h1 h5) (allc_sub2 h1 h5) (allc w).length (Nat.le_refl _)
  rw [List.take_length] at e
  unfold pcirc lcirc
  rw [e]
  exact (allc_perm h1 h5).filter _
theorem lcirc_srt {dep : List Nat → Bool} {w : Nat} (h1 : 1 ≤ w) (h5 : w ≤ 5) : Srt (lcirc dep w) := (slists_srt h1 h5).filter _
/-! ### the rank of some columns -/
def cols (A : Mx) (c : List Nat) : Mx := fun i l => A i (c.getD l 0)
def rk (p : Int) (h : Nat) (A : Mx) (c : List Nat) : Nat := lrank p h c.length (cols A c)
def depB (p : Int) (h : Nat) (A : Mx) (c : List Nat) : Bool := decide (rk p h A c < c.length)
theorem S_front (f : Nat → Int) : ∀ n : Nat, S (n + 1) f = f 0 + S n (fun i => f (i + 1))
  | 0 => by
    show (0 : Int) + f 0 = f 0 + 0
    omega
  | n + 1 => by
    show S (n + 1) f + f (n + 1) = f 0 + (S n (fun i => f (i + 1)) + f (n + 1))
    rw [S_front f n]
    omega
theorem sub_vec (A : Mx) : ∀ {c d : List Nat}, c.Sublist d → ∀ v : Nat → Int, ∃ u : Nat → Int, (∀ i, ap d.length (cols A d) u i = ap c.length (cols A c) v i) ∧ ∀ l, l < c.length → ∃ m, m < d.length ∧ u m = v l
  | _, _, .slnil, v => ⟨v, fun _ => rfl, fun l hl => absurd hl (Nat.not_lt_zero l)⟩
  | _, _, .cons (l₁ := c) (l₂ := d) x s, v => by
    obtain ⟨u, h1, h2⟩ := sub_vec A s v
    refine ⟨fun m => match m with | 0 => 0 | m + 1 => u m, fun i => ?_, fun l hl => ?_⟩
    · show S (d.length + 1) _ = _
      rw [S_front]
      show A i x * 0 + S d.length (fun l => A i (d.getD l 0) * u l) = _
      rw [Int.mul_zero, Int.zero_add]
      exact h1 i
    · obtain ⟨m, hm, e⟩ := h2 l hl
      exact ⟨m + 1, Nat.succ_lt_succ hm, e⟩
  | _, _, .cons_cons (l₁ := c) (l₂ := d) x s, v => by
    obtain ⟨u, h1, h2⟩ := sub_vec A s (fun l => v (l + 1))
    refine ⟨fun m => match m with | 0 => v 0 | m + 1 => u m, fun i => ?_, fun l hl => ?_⟩
    · show S (d.length + 1) _ = S (c.length + 1) _
      rw [S_front, S_front]
      show A i x * v 0 + S d.length (fun l => A i (d.getD l 0) * u l) = A i x * v 0 + S c.length (fun l => A i (c.getD l 0) * v (l + 1))
      have e := h1 i
      have e' : S d.length (fun l => A i (d.getD l 0) * u l) = S c.length (fun l => A i (c.getD l 0) * v (l + 1)) := e
      rw [e']
    · cases l with
      | zero => exact ⟨0, Nat.succ_pos _, rfl⟩
      | succ l =>
        obtain ⟨m, hm, e⟩ := h2 l (Nat.lt_of_succ_lt_succ hl)
        exact ⟨m + 1, Nat.succ_lt_succ hm, e⟩
theorem ind_sub {p : Int} {h : Nat} {A : Mx} {c d : List Nat} (s : c.Sublist d) (i : Ind p h d.length (cols A d)) : Ind p h c.length (cols A c) := fun v hv j hj => by
  obtain ⟨u, h1, h2⟩ := sub_vec A s v
  obtain ⟨m, hm, e⟩ := h2 j hj
  rw [← e]
  refine i u (fun x hx => ?_) m hm
  rw [h1]
  exact hv x hx
theorem bd_cols {h w B : Nat} {A : Mx} (b : Bd h w A B) {c : List Nat} (hc : ∀ x ∈ c, x < w) : Bd h c.length (cols A c) B := fun i l hi hl => by
  refine b i _ hi ?_
  rw [getD_at hl]
  exact hc _ (List.getElem_mem hl)
theorem dep_mono {p : Int} (hp : Dom p) (h0 : 0 ≤ p) (hp2 : p ≤ 2048) {h : Nat} {A : Mx} (h3 : h ≤ 3) (bA : ∀ i j, i < h → (A i j).natAbs ≤ 4) (c d : List Nat) (s : c.Sublist d) (hd : depB p h A c = true) : depB p h A d = true := by
  have bc : ∀ c : List Nat, Bd h c.length (cols A c) 4 := fun c i l hi _ => bA i _ hi
  have e := of_decide_eq_true hd
  refine decide_eq_true ?_
  refine Classical.byContradiction fun z => ?_
  have l1 : rk p h A d ≤ d.length := lrank_le hp h0 hp2 h3 (bc d)
  have e2 : lrank p h d.length (cols A d) = d.length := by
    show rk p h A d = d.length
    omega
  have i1 := ind_sub s ((lrank_full hp h0 hp2 h3 (bc d)).mp e2)
  have e3 : rk p h A c = c.length := (lrank_full hp h0 hp2 h3 (bc c)).mpr i1
  omega
end Ev
/-! Ru1: rules that the layer lacks: products and floor quotients of great ints of any sign, a list's item that is changed by an operator, a class in a local name that is called, enumerate of a tuple. -/
namespace L2
open PySem PySem.Spec PyProof.Rows
section
variable {X : Cx}
/-- * of two factors of together at most 2 ^ 27 bits -/
theorem op_mulX : OpR X (binaryOp .Mult) (rI IntMulOk fun i j => .int (i * j)) := opI fun _ _ _ _ _ _ _ hc q => mul_int q hc
theorem mulX_ok {i j : Int} {a b : Nat} (ha : i.natAbs < 2 ^ a) (hb : j.natAbs < 2 ^ b) (h0 : 0 < a) (h1 : 0 < b) (h : a + b ≤ 134000000) : IntMulOk i j := by
  have x := PySem.Flt.log2_lt_of h0 ha
  have y := PySem.Flt.log2_lt_of h1 hb
  have b : ∀ x : Int, Builtin.Int.intBits x ≤ x.natAbs.log2 + 1 := fun x => by
    unfold Builtin.Int.intBits
    split <;> omega
  have h1 := b i
  have h2 := b j
  have e : bitsLine = 134217728 := by decide
  unfold IntMulOk
  intro z
  rw [Bool.and_eq_true] at z
  have z2 := z.2
  unfold Builtin.Int.intTooBig at z2
  have z3 := of_decide_eq_true z2
  rw [e] at z3
  omega
/-- // by a divisor of at most 9000 bits, of any sign -/
theorem op_fdivX : OpR X (binaryOp .FloorDiv) (rI (fun _ j => j ≠ 0 ∧ j.natAbs.log2 < 9000) fun i j => .int (i.fdiv j)) := opI fun _ _ _ _ _ _ _ hc q => floordiv_int hc.1 q (.inl (PyProof.noPylong_of_log2 hc.2))
/-- xs[i] op= e -/
theorem get_list : PGet X (rIxL X.K) := by
  intro pins s σ H x y v u Q I rx ry h
  obtain ⟨p, xs, i, z, rfl, rfl, hq, he, q⟩ := h
  cases rx
  obtain ⟨t, rfl⟩ := ry
  obtain ⟨its, r, pl, hz⟩ := I.list hq
  obtain ⟨j, h1, h2, h3, h4, h5⟩ := atI_get he
  obtain ⟨w, ew, rw'⟩ := r.get h2
  have hl := r.length
  have hn := line63
  have fin : EP X pins σ Q w s := ⟨z, H, I, rw', q⟩
  by_cases h0 : 0 ≤ i
  · have hj : i.toNat = j := by
      rw [seqIndex_of h0 h5] at h1
      exact Option.some.inj h1
    exact wpAny_getItem_list pl.isList h0 (by omega) (by rw [hj]; simpa using ew) fin
  · have hj : (i + (its.toArray.size : Int)).toNat = j := by
      rw [seqIndex_neg (by omega) h4] at h1
      rw [List.size_toArray, ← hl]
      exact Option.some.inj h1
    exact wpAny_getItem_list_neg pl.isList (by omega) (by rw [List.size_toArray] <;> omega) (by omega) (by rw [hj]; simpa using ew) fin
/-- a + b, a the item's value -/
theorem ip_addX : PIp X .Add (ipI fun i j => i + j) := ip_add
/-- C(e, ..), C held by the local name in slot i -/
def tMakeL (i : Nat) (C : Addr) (sp : Sp) (dvs : List V) (E : XK) (t : TA) : TE := fun σ H Q => σ[i]? = some (some (.ref C)) ∧ tMake C sp dvs E t σ H Q
variable {CX : CXT} {k i : Nat} {C f : Addr} {fd : FuncData} {ps : List Str} {sp : Sp} {dvs : List V} {ds : List Value} {E : XK} {x : Str} {p pos : Pos} {e : Expr} {es : List Expr} {t : TA}
theorem pe_makeL (M : Mk X.K C f) (F : FnOk X.prog X.w X.K X.mg X.base CX k f fd ps sp) (hr : Room (k + 1) X.A) (hb : Binds X.K fd ps ds) (hd : Vals dvs ds) (hx : Passes CX X E) (ha : PA X (e :: es) t)
    (hN : X.N[i]? = some x := by rfl) (hv : Vis X.env.scope x := by first | exact Or.inl rfl | exact Or.inr (Or.inl rfl) | exact Or.inr (Or.inr rfl))
    (hdb : (x == ("__debug__" : Str)) = false := by decide) (hcd : (x == ("__classdict__" : Str)) = false := by decide)
    (he : starEach (e :: es) X.env = (false, eval e X.env) :: starEach es X.env := by rfl) (hpl : (backTo pos (starEach es X.env)).any (·.1) = false := by rfl) :
    PE X (.Call (.Name x p) (e :: es) [] pos) (tMakeL i C sp dvs E t) := by
  refine ⟨fun pins s σ H Q I h => ?_⟩
  obtain ⟨hs, ht⟩ := h
  refine wpAny_Call_Name_kw (thn ((pe_var (pos := p) hN hv hdb hcd).run pins s σ H (fun v H1 => v = .ref C ∧ H1 = H) I ⟨.ref C, hs, rfl, rfl⟩) fun u s1 ⟨v, H1, I1, r1, q1⟩ => ?_)
  obtain ⟨rfl, rfl⟩ := q1
  cases r1
  refine PySem.W.callWith_K (h₀ := X.base) I.ok.mod.kin M.kp (thn (ha.run pos pins s1 σ _ _ I1 ht) fun us s2 ⟨vs, H2, I2, r, q⟩ => ⟨I2.kIn, ?_⟩) he hpl
  exact run_make M F hr hb hd hx I2 r q
end

/-! ### enumerate(tuple) -/
set_option maxHeartbeats 1000000 in
theorem meets_enumT {v : Value} {o : Obj} {H : Heap → Prop} (B : PySem.Begins v o H) :
    Meets (Builtin.«enumerate.__new__» ⟨[.type "enumerate", v], []⟩) (fun _ R s => H s.heap ∧
      R (.ok (.ret (.ref (s.heap.push o).objs.size))) { s with heap := (s.heap.push o).push { cls := .type "enumerate", data := .fields #[.none, .bool false, .ref s.heap.objs.size, rawInt 0, .none, .none] } }) :=
  .of_wp fun prog w A R s h => by
    obtain ⟨hp, g, d, tk, os⟩ := s; obtain ⟨h1, h⟩ := h
    have hsub := sub_enumerate
    have q1 : ∀ {A' : Around} {E : Value → Shared → Prop} {Q : Value → Shared → Prop}, Q (.ref hp.objs.size) ⟨hp.push o, g, d, tk, os⟩ → wpAny (model prog w) A' (pyIter v) Q E ⟨hp, g, d, tk, os⟩ :=
      fun q => B.iter prog w _ _ ⟨hp, g, d, tk, os⟩ _ h1 q
    wp_walk using q1
    refine wpAny_stack_any fun st => wpAny_pure ?_
    split
    · rename_i c _ _ _ _ _
      cases (c == Value.type "enumerate")
      · wp_walk using q1
        exact ⟨_, rfl, h⟩
      · wp_walk using q1
        exact ⟨_, rfl, h⟩
    · wp_walk using q1
      exact ⟨_, rfl, h⟩
theorem call_enumT {prog : Program} {w : World} {A : Around} {E : Value → Shared → Prop} {s : Shared} {v : Value} {o : Obj} {H : Heap → Prop} {Q : Value → Shared → Prop} (B : PySem.Begins v o H) (h1 : H s.heap)
    (h : ∀ h', IsEnum h' (s.heap.objs.size + 1) s.heap.objs.size 0 .none → h'.get? s.heap.objs.size = some o → h'.objs.size = s.heap.objs.size + 2 →
      (∀ b o, s.heap.get? b = some o → h'.get? b = some o) → Q (.ref (s.heap.objs.size + 1)) { s with heap := h' }) :
    wpAny (model prog w) A (call (.type "enumerate") [v]) Q E s := by
  refine callType_new F.called_enumerate (by decide) (F.typeCall_enumerate_1 _) (F.newCall_enumerate_1 _) (fun obj => F.args_object_init_2 obj _) F.entry_enumerate_new
    (meets_enumT B) ⟨h1, ?_⟩
  have hz : (s.heap.push o).objs.size = s.heap.objs.size + 1 := Heap.size_push ..
  show _ ∧ _
  rw [hz]
  have he : IsEnum ((s.heap.push o).push { cls := .type "enumerate", data := .fields #[.none, .bool false, .ref s.heap.objs.size, rawInt 0, .none, .none] }) (s.heap.objs.size + 1) s.heap.objs.size 0 .none := by
    have := Heap.get?_push_size (s.heap.push o) (o := { cls := .type "enumerate", data := .fields #[.none, .bool false, .ref s.heap.objs.size, rawInt 0, .none, .none] }) rfl
    rw [hz] at this; exact this
  refine ⟨⟨_, he, rfl⟩, h _ he (Heap.get?_push_of_some _ (Heap.get?_push_size _ B.free)) (by rw [Heap.size_push, hz]) fun b o x => Heap.get?_push_of_some _ (Heap.get?_push_of_some _ x)⟩
/-- the tuple at a, each item in a new pair -/
def Itet (a : Addr) : It :=
  ⟨fun i H => ∃ (xs : List V) (x : V), H a = some (.tup xs) ∧ xs[i]? = some x, fun i H v H' => ∃ T x, v = .ref T ∧ H T = none ∧ H' = upd H T (.tup [.int (i : Nat), x]) ∧ ∀ xs, H a = some (.tup xs) → xs[i]? = some x, fun i H => ∃ xs : List V, H a = some (.tup xs) ∧ xs.length ≤ i⟩
theorem turn_enumT {P : Program} {w : World} {K : PySem.W.Frag} {elts : List Expr} {kk : Nat} {tpos : Pos} (a e it : Addr) :
    Turn P w K (.Tuple elts kk tpos) (Itet a) [e, it] e (fun i h => (∃ old, IsEnum h e it ((i : Nat) : Int) old) ∧ h.IsTupleIter it a i ∧ e ≠ it) where
  mem := by simp
  obj := fun i h st b hb => by
    obtain ⟨⟨old, he⟩, ⟨o, ho, hc, hd⟩, _⟩ := st
    have e' : b = e ∨ b = it := by simpa using hb
    rcases e' with z | z
    · rw [z]; exact ⟨_, he, fun v q => nomatch q⟩
    · rw [z]; exact ⟨o, ho, fun v q => by rw [hd] at q; cases q⟩
  keep := fun i h h' st k => let ⟨⟨old, he⟩, hi, hne⟩ := st; ⟨⟨old, k e (by simp) _ he⟩, hi.at fun o q => k it (by simp) o q, hne⟩
  item := by
    intro X hP hw hK hc i pins s σ H E I hf st hg
    subst hP hw hK
    obtain ⟨⟨old, he⟩, hit, hne⟩ := st
    obtain ⟨xs, x, hq, hx⟩ := hg
    obtain ⟨its, rv, p, hz⟩ := I.tuple (SqT.of hq)
    obtain ⟨u, hu, ru⟩ := rv.get hx
    have hel : e < s.heap.objs.size := Heap.lt_size he
    have hil : it < s.heap.objs.size := by obtain ⟨_, q, _⟩ := hit; exact Heap.lt_size q
    have hea : e ≠ a := fun z => by
      have := (hf e (by simp)).1
      rw [z, hq] at this
      cases this
    have hai : a ≠ it := fun z => by
      have := (hf it (by simp)).1
      rw [← z, hq] at this
      cases this
    have hlt : i < its.toArray.size := by
      have := (List.getElem?_eq_some_iff.mp hu).1
      simpa using this
    have htup : s.heap.IsTuple a its.toArray := p
    refine PySem.wpAny_pyNext_enum_itemD (PySem.Draws.tuple (prog := X.prog) (w := X.w) (A := X.A.in1) (I.ok.hd hc) it a hai its.toArray) he ⟨hit, htup⟩ hlt hne (by simp [hne, hea]) fun x' h' tk hx' ho hst' hT hsz hk => ?_
    have ex : x' = u := by
      have e1 : its.toArray[i]? = some u := by simpa using hu
      rw [e1] at hx'
      exact (Option.some.inj hx').symm
    subst ex
    refine ⟨_, rfl, wpAny_letOwnedTupleGo_enum (s := { s with heap := h', toks := tk + 1 }) ho fun h'' he' sb => ?_⟩
    have hT2 : h''.get? s.heap.objs.size = some { cls := .type "tuple", data := .seq #[.int i tk, x'] } := (sb.2 _ (Nat.ne_of_gt hel)).trans hT
    have new : ObjOk X.prog X.w (upd H s.heap.objs.size (.tup [.int (i : Nat), x])) h'' s.heap.objs.size (.tup [.int (i : Nat), x]) :=
      ⟨by show 2 ≤ sizeLine; decide, [.int i tk, x'], .cons ⟨_, rfl⟩ (.cons ru .nil), ⟨_, hT2, rfl, _, rfl⟩⟩
    have I1 : Inv X pins σ (upd H s.heap.objs.size (.tup [.int (i : Nat), x])) { s with heap := h'', toks := tk + 1 } :=
      I.turnedNew (ch := [e, it]) (fun b ob hb q => (sb.2 b (fun z => hb (by simp [z]))).trans (hk b ob (fun z => hb (by simp [z])) (fun z => hb (by simp [z])) q)) hf (Nat.le_refl _) new
    refine ⟨.ref s.heap.objs.size, _, I1, rfl, ⟨_, x, rfl, I.hok.fresh (Nat.le_refl _), rfl, fun ys hy => by rw [hq] at hy; cases hy; exact hx⟩, ⟨⟨x', ?_⟩, hst'.1.at fun o q => (sb.2 it (Ne.symm hne)).trans q, hne⟩, fun b hb => ?_⟩
    · have e1 : ((i + 1 : Nat) : Int) = (i : Int) + 1 := by omega
      rw [e1]; exact he'
    · have hb' : b < s.heap.objs.size := by
        have e' : b = e ∨ b = it := by simpa using hb
        rcases e' with z | z
        · rw [z]; exact hel
        · rw [z]; exact hil
      rw [upd_ne (Nat.ne_of_lt hb')]
      exact (hf b hb).1
  done := by
    intro X hP hw hK hc i pins s σ H E I hf st hg
    subst hP hw hK
    obtain ⟨⟨old, he⟩, hit, hne⟩ := st
    obtain ⟨xs, hq, hx⟩ := hg
    obtain ⟨its, rv, p, hz⟩ := I.tuple (SqT.of hq)
    obtain ⟨f0, f1, f2, f3, f4, f5⟩ := hf it (by simp)
    have hl := rv.length
    have hT : s.TypeIs (.ref e) "enumerate" := ⟨_, he, rfl⟩
    have htup : s.heap.IsTuple a its.toArray := p
    unfold pyNext
    refine wpAny_bind (wpAny_attempt (wpAny_callSpecial?_slot (name := Str.ofString "__next__") hT F.slot_enumerate_next
      (wpAny_call_entry F.slot_enumerate_next hT F.entry_enumerate_next ?_ (F.args_enumerate_next_1 _))))
    show wpAny _ _ (field (.ref e) 2 >>= _) _ _ _
    refine wpAny_bind (wpAny_field he rfl (x := .ref it) rfl ?_)
    refine wpAny_bind (PySem.wpAny_nextOf_tuple_end (I.ok.hd hc) hit htup (by simp; omega) fun h' x he' hx' => ?_)
    obtain ⟨o, ho, hc'⟩ := hx'
    refine wpAny_bind (wpAny_isInstance (T := "StopIteration") (b := true) ⟨o, ho, hc'⟩ isSubtype_stop ?_)
    exact wpAny_pure ⟨rfl, I.turned (t' := s.toks) (fun b o hb q => he' b o hb q) f0 f1 f3 f4 f5⟩
  self := fun A i s Q E st h => let ⟨⟨_, he⟩, _⟩ := st; wpAny_pyIter_enum he h
def iEnumT (ta : TA) : TI := fun σ H R => ta σ H fun vs H1 => ∃ a xs, vs = [.ref a] ∧ H1 a = some (.tup xs) ∧ R (Itet a) H1
theorem pi_enumT {X : Cx} {e : Expr} {ta : TA} {p pos tpos : Pos} {elts : List Expr} {kk : Nat} (hg : Gl X "enumerate") (hm : X.mg "enumerate" = none) (ha : PA X [e] ta) (hs : starEach [e] X.env = [(false, eval e X.env)] := by rfl) :
    PI X (.Tuple elts kk tpos) (.Call (.Name "enumerate" p) [e] [] pos) (iEnumT ta) := by
  refine ⟨fun pins s σ H R I h => ?_⟩
  refine Call_ (ld_blt I hg hm boot_enumerate (PyProof.Rows.callWith_type1 (thn (ha.run pos pins s σ H _ I h) fun us s1 ⟨vs, H1, I1, r1, q1⟩ => ?_) hs rfl))
  obtain ⟨a, xs, ex, hq, q⟩ := q1
  subst ex
  cases r1 with
  | cons r rr =>
    cases rr
    cases r
    obtain ⟨its, rv, p', hz⟩ := I1.tuple (SqT.of hq)
    have htup : s1.heap.IsTuple a its.toArray := p'
    refine call_enumT (PySem.begins_tuple a its.toArray) htup fun h' he hit hsz hk => wpAny_pyIter_enum he ?_
    have I2 : Inv X pins σ H1 { s1 with heap := h' } := I1.kept (t' := s1.toks) hk
    refine ⟨s1.heap.objs.size + 1, [s1.heap.objs.size + 1, s1.heap.objs.size], _, _, H1, rfl, I2, turn_enumT a (s1.heap.objs.size + 1) s1.heap.objs.size, ⟨⟨.none, he⟩, ⟨_, hit, rfl, rfl⟩, Nat.succ_ne_self _⟩, fun b hb => ?_, q⟩
    have e' : b = s1.heap.objs.size + 1 ∨ b = s1.heap.objs.size := by simpa using hb
    have hle : s1.heap.objs.size ≤ b := by
      rcases e' with z | z
      · rw [z]; exact Nat.le_add_right _ _
      · rw [z]; exact Nat.le_refl _
    exact I1.fpOk hle (I1.hok.fresh hle)
theorem walk_enumT {a : Addr} {xs : List V} : Walk (Itet a) xs.length (fun H => H a = some (.tup xs)) (YPair (fun i => some (.int (i : Nat))) (fun i => xs[i]?)) := by
  refine ⟨fun i H hi g => ⟨xs, xs[i], g, by simp [hi]⟩, fun H g => ⟨xs, g, Nat.le_refl _⟩, fun i H x H' hi g y => ?_⟩
  obtain ⟨T, z, e, n, eH, f⟩ := y
  exact ⟨T, .int (i : Nat), z, e, n, eH, rfl, f xs g⟩
end L2
/-! Ru3: the layer's rules with the frame K named (within comprehensions a rule may not name the block's own context). -/
namespace L2
open PySem PySem.Spec PyProof.Rows
section
variable {X : Cx} {K : PySem.W.Frag} {e e2 a b o : Expr} {es : List Expr} {ta tb te : TE} {t : TA} {x y : Str} {f : Str} {p pos apos : Pos} {tg : Expr}
theorem kfld (hK : X.K = K := by rfl) (he : PE X e ta) (hb : attributeBase e f X.env (eval e X.env) = eval e X.env := by rfl) : PE X (.Attribute e f pos) (tFld K ta f) := by
  subst hK
  exact pe_fld he hb
theorem kixl (hK : X.K = K := by rfl) (ha : PE X a ta) (hb : PE X b tb) (hs : PlainIx b := by exact fun _ _ => rfl) : PE X (.Subscript a b pos) (tOp (rIxL K) ta tb) := by
  subst hK
  exact pe_ix ix_list ha hb hs
theorem kixt (hK : X.K = K := by rfl) (ha : PE X a ta) (hb : PE X b tb) (hs : PlainIx b := by exact fun _ _ => rfl) : PE X (.Subscript a b pos) (tOp (rIxT K) ta tb) := by
  subst hK
  exact pe_ix ix_tup ha hb hs
def rLenK (K : PySem.W.Frag) : List V → Hp → VK → Prop := fun xs H Q => ∃ p ys, xs = [.ref p] ∧ (SqL K H p ys ∨ SqT K H p ys) ∧ Q (.int (ys.length : Nat)) H
def rTupK (K : PySem.W.Frag) : List V → Hp → VK → Prop := fun xs H Q => ∃ p ys, xs = [.ref p] ∧ ((SqL K H p ys ∧ ∀ l, H l = none → Q (.ref l) (upd H l (.tup ys))) ∨ (SqT K H p ys ∧ Q (.ref p) H))
def rLstK (K : PySem.W.Frag) : List V → Hp → VK → Prop := fun xs H Q => ∃ p ys, xs = [.ref p] ∧ (SqL K H p ys ∨ SqT K H p ys) ∧ ∀ l, H l = none → Q (.ref l) (upd H l (.lst ys))
theorem klen (hm : X.mg "len" = none) (ha : PA X [e] t) (hK : X.K = K := by rfl) (hg : Gl X "len" := by rfl) (he : starEach [e] X.env = (false, eval e X.env) :: starEach [] X.env := by rfl) (hpl : (backTo pos (starEach [] X.env)).any (·.1) = false := by rfl) :
    PE X (.Call (.Name "len" p) [e] [] pos) (tCB (rLenK K) t) := by
  subst hK
  exact pe_callB (id := "len") call_len_seq hg hm PySem.boot_len ha (he := he) (hpl := hpl)
theorem ktup (hm : X.mg "tuple" = none) (ha : PA X [e] t) (hK : X.K = K := by rfl) (hg : Gl X "tuple" := by rfl) (he : starEach [e] X.env = (false, eval e X.env) :: starEach [] X.env := by rfl) (hpl : (backTo pos (starEach [] X.env)).any (·.1) = false := by rfl) :
    PE X (.Call (.Name "tuple" p) [e] [] pos) (tCB (rTupK K) t) := by
  subst hK
  exact pe_callTy (T := "tuple") call_tuple_of hg hm (by decide +kernel) ha (he := he) (hpl := hpl)
theorem klst (hm : X.mg "list" = none) (ha : PA X [e] t) (hK : X.K = K := by rfl) (hg : Gl X "list" := by rfl) (he : starEach [e] X.env = (false, eval e X.env) :: starEach [] X.env := by rfl) (hpl : (backTo pos (starEach [] X.env)).any (·.1) = false := by rfl) :
    PE X (.Call (.Name "list" p) [e] [] pos) (tCB (rLstK K) t) := by
  subst hK
  exact pe_callTy (T := "list") call_list_of hg hm (by decide +kernel) ha (he := he) (hpl := hpl)
theorem kall (hc : X.calm = true) (hm : X.mg "all" = none) (ha : PA X [e] t) (hK : X.K = K := by rfl) (hg : Gl X "all" := by rfl) (he : starEach [e] X.env = (false, eval e X.env) :: starEach [] X.env := by rfl) (hpl : (backTo pos (starEach [] X.env)).any (·.1) = false := by rfl) :
    PE X (.Call (.Name "all" p) [e] [] pos) (tCB (rAll K) t) := by
  subst hK
  exact pe_callB (id := "all") (cr_all hc) hg hm (by decide +kernel) ha (he := he) (hpl := hpl)
theorem kany (hc : X.calm = true) (hm : X.mg "any" = none) (ha : PA X [e] t) (hK : X.K = K := by rfl) (hg : Gl X "any" := by rfl) (he : starEach [e] X.env = (false, eval e X.env) :: starEach [] X.env := by rfl) (hpl : (backTo pos (starEach [] X.env)).any (·.1) = false := by rfl) :
    PE X (.Call (.Name "any" p) [e] [] pos) (tCB (rAny K) t) := by
  subst hK
  exact pe_callB (id := "any") (cr_any hc) hg hm (by decide +kernel) ha (he := he) (hpl := hpl)
theorem kabs (hm : X.mg "abs" = none) (ha : PA X [e] t) (hg : Gl X "abs" := by rfl) (he : starEach [e] X.env = (false, eval e X.env) :: starEach [] X.env := by rfl) (hpl : (backTo pos (starEach [] X.env)).any (·.1) = false := by rfl) :
    PE X (.Call (.Name "abs" p) [e] [] pos) (tCB (fun xs H Q => ∃ i, xs = [.int i] ∧ Q (.int (if i < 0 then -i else i)) H) t) := pe_callB (id := "abs") call_abs hg hm (by decide +kernel) ha (he := he) (hpl := hpl)
theorem kint (hm : X.mg "int" = none) (ha : PA X [e] t) (hg : Gl X "int" := by rfl) (he : starEach [e] X.env = (false, eval e X.env) :: starEach [] X.env := by rfl) (hpl : (backTo pos (starEach [] X.env)).any (·.1) = false := by rfl) :
    PE X (.Call (.Name "int" p) [e] [] pos) (tCB (fun xs H Q => (∃ i, xs = [.int i] ∧ Q (.int i) H) ∨ ∃ k, xs = [.bl k] ∧ Q (.int (if k then 1 else 0)) H) t) := pe_callTy (T := "int") call_int1 hg hm (by decide +kernel) ha (he := he) (hpl := hpl)
theorem kpil (hK : X.K = K := by rfl) (hl : PE X e te) : PI X tg e (iList K te) := by
  subst hK
  exact pi_list hl
theorem kpit (hK : X.K = K := by rfl) (hl : PE X e te) : PI X tg e (iTup K te) := by
  subst hK
  exact pi_tup hl
theorem kin (hK : X.K = K := by rfl) (ha : PE X a ta) (hb : PE X b tb) (hm : behindInMarks .In b = false := by rfl) : PE X (.Compare a [.In] [b] pos) (tOp (rIn K false) ta tb) := by
  subst hK
  exact pe_cmpR op_in_seq ha hb hm
theorem keqD (hu : X.A.units + 64 < cLine) (hK : X.K = K := by rfl) (ha : PE X a ta) (hb : PE X b tb) : PE X (.Compare a [.Eq] [b] pos) (tOp (rEqD K) ta tb) := by
  subst hK
  exact pe_cmpR (op_eqD hu) ha hb (nomark _)
theorem kneD (hu : X.A.units + 64 < cLine) (hK : X.K = K := by rfl) (ha : PE X a ta) (hb : PE X b tb) : PE X (.Compare a [.NotEq] [b] pos) (tOp (rNeD K) ta tb) := by
  subst hK
  exact pe_cmpR (op_neD hu) ha hb (nomark _)
theorem tneD (hu : X.A.units + 64 < cLine) (hK : X.K = K := by rfl) (ha : PE X a ta) (hb : PE X b tb) : PT X (.Compare a [.NotEq] [b] pos) (tTest (tOp (rNeD K) ta tb)) := by
  subst hK
  exact pt_cmpR (op_neD hu) ha hb (nomark _)
theorem teqD (hu : X.A.units + 64 < cLine) (hK : X.K = K := by rfl) (ha : PE X a ta) (hb : PE X b tb) : PT X (.Compare a [.Eq] [b] pos) (tTest (tOp (rEqD K) ta tb)) := by
  subst hK
  exact pt_cmpR (op_eqD hu) ha hb (nomark _)
theorem tinK (hK : X.K = K := by rfl) (ha : PE X a ta) (hb : PE X b tb) (hm : behindInMarks .In b = false := by rfl) : PT X (.Compare a [.In] [b] pos) (tTest (tOp (rIn K false) ta tb)) := by
  subst hK
  exact pt_cmpR op_in_seq ha hb hm
variable {elts : List Expr} {kk : Nat} {tpos : Pos}
theorem kzip (hm : X.mg "zip" = none) (ha : PA X [e, e2] t) (hK : X.K = K := by rfl) (hg : Gl X "zip" := by rfl) (hs : starEach [e, e2] X.env = (false, eval e X.env) :: starEach [e2] X.env := by rfl) (hpl : (backTo pos (starEach [e2] X.env)).any (·.1) = false := by rfl) :
    PI X (.Tuple elts kk tpos) (.Call (.Name "zip" p) [e, e2] [] pos) (iZip K t) := by
  subst hK
  exact pi_zip hg hm ha hs hpl
theorem kpg_tup {ets : List Expr} {k2 : Nat} {tgs : TGs} {n : Nat} (hc : X.calm = true) (h : PGs X ets tgs) (hK : X.K = K := by rfl) (hn : (assignEach ets X.env).length = n := by rfl) (hst : (assignEach ets X.env).findIdx? (·.1) = none := by rfl) : PG X (.Tuple ets k2 pos) (gTup K n tgs) := by
  subst hK
  exact pg_tup hc h hn hst
end
end L2
/-! Wk0: the text by places, the defs' names (printed by gen.py). -/
namespace Wk
open PySem PySem.Spec PyProof.Rows L2
def topS (i : Nat) : Stmt := PySem.Challenge.pw_everyfield_k58_whole_bases_and_circuits.main.body.getD i (.Pass ⟨0, 0, 0, 0⟩)
abbrev sIsPrime : Stmt := topS 8
abbrev nIsPrime : List Str := ["n", "divisor"]
theorem scIsPrime : FnScope nIsPrime ["n"] (defScope sIsPrime) := ⟨rfl, rfl, rfl, by decide +kernel, rfl, by decide +kernel, by decide +kernel⟩
abbrev sChecked : Stmt := topS 9
abbrev nChecked : List Str := ["p"]
theorem scChecked : FnScope nChecked ["p"] (defScope sChecked) := ⟨rfl, rfl, rfl, by decide +kernel, rfl, by decide +kernel, by decide +kernel⟩
abbrev sIsZero : Stmt := topS 10
abbrev nIsZero : List Str := ["n", "p"]
theorem scIsZero : FnScope nIsZero ["n", "p"] (defScope sIsZero) := ⟨rfl, rfl, rfl, by decide +kernel, rfl, by decide +kernel, by decide +kernel⟩
abbrev sChoices : Stmt := topS 14
abbrev nChoices : List Str := ["many", "size", "rows", "row", "start", "at"]
theorem scChoices : FnScope nChoices ["many", "size"] (defScope sChoices) := ⟨rfl, rfl, rfl, by decide +kernel, rfl, by decide +kernel, by decide +kernel⟩
abbrev sMatrixInit : Stmt := inClass (topS 15) 0
abbrev nMatrixInit : List Str := ["self", "rows", "at", "row"]
theorem scMatrixInit : FnScope nMatrixInit ["self", "rows"] (defScope sMatrixInit) := ⟨rfl, rfl, rfl, by decide +kernel, rfl, by decide +kernel, by decide +kernel⟩
abbrev sMatrixUnit : Stmt := inClass (topS 15) 1
abbrev nMatrixUnit : List Str := ["cls", "n"]
theorem scMatrixUnit : FnScope nMatrixUnit ["cls", "n"] (defScope sMatrixUnit) := ⟨rfl, rfl, rfl, by decide +kernel, rfl, by decide +kernel, by decide +kernel⟩
abbrev sMatrixDiagonal : Stmt := inClass (topS 15) 2
abbrev nMatrixDiagonal : List Str := ["cls", "numbers", "height", "width", "rows", "at", "number", "i"]
theorem scMatrixDiagonal : FnScope nMatrixDiagonal ["cls", "numbers", "height", "width"] (defScope sMatrixDiagonal) := ⟨rfl, rfl, rfl, by decide +kernel, rfl, by decide +kernel, by decide +kernel⟩
abbrev sMatrixPart : Stmt := inClass (topS 15) 13
abbrev nMatrixPart : List Str := ["self", "rows", "columns", "i", "j"]
theorem scMatrixPart : FnScope nMatrixPart ["self", "rows", "columns"] (defScope sMatrixPart) := ⟨rfl, rfl, rfl, by decide +kernel, rfl, by decide +kernel, by decide +kernel⟩
abbrev sAddedRow : Stmt := topS 19
abbrev nAddedRow : List Str := ["rows", "target", "source", "factor", "i", "j"]
theorem scAddedRow : FnScope nAddedRow ["rows", "target", "source", "factor"] (defScope sAddedRow) := ⟨rfl, rfl, rfl, by decide +kernel, rfl, by decide +kernel, by decide +kernel⟩
abbrev sAddedColumn : Stmt := topS 20
abbrev nAddedColumn : List Str := ["rows", "target", "source", "factor", "row"]
theorem scAddedColumn : FnScope nAddedColumn ["rows", "target", "source", "factor"] (defScope sAddedColumn) := ⟨rfl, rfl, rfl, by decide +kernel, rfl, by decide +kernel, by decide +kernel⟩
abbrev sExchangedColumns : Stmt := topS 21
abbrev nExchangedColumns : List Str := ["rows", "first", "second", "row"]
theorem scExchangedColumns : FnScope nExchangedColumns ["rows", "first", "second"] (defScope sExchangedColumns) := ⟨rfl, rfl, rfl, by decide +kernel, rfl, by decide +kernel, by decide +kernel⟩
abbrev sWorkInit : Stmt := inClass (topS 22) 0
abbrev nWorkInit : List Str := ["self", "matrix", "row"]
theorem scWorkInit : FnScope nWorkInit ["self", "matrix"] (defScope sWorkInit) := ⟨rfl, rfl, rfl, by decide +kernel, rfl, by decide +kernel, by decide +kernel⟩
abbrev sWorkLeastPlace : Stmt := inClass (topS 22) 1
abbrev nWorkLeastPlace : List Str := ["self", "start", "found", "i", "j", "item"]
theorem scWorkLeastPlace : FnScope nWorkLeastPlace ["self", "start"] (defScope sWorkLeastPlace) := ⟨rfl, rfl, rfl, by decide +kernel, rfl, by decide +kernel, by decide +kernel⟩
abbrev sWorkBring : Stmt := inClass (topS 22) 2
abbrev nWorkBring : List Str := ["self", "at", "place", "i", "j", "rows"]
theorem scWorkBring : FnScope nWorkBring ["self", "at", "place"] (defScope sWorkBring) := ⟨rfl, rfl, rfl, by decide +kernel, rfl, by decide +kernel, by decide +kernel⟩
abbrev sWorkClear : Stmt := inClass (topS 22) 3
abbrev nWorkClear : List Str := ["self", "at", "pivot", "clean", "i", "quotient", "j"]
theorem scWorkClear : FnScope nWorkClear ["self", "at"] (defScope sWorkClear) := ⟨rfl, rfl, rfl, by decide +kernel, rfl, by decide +kernel, by decide +kernel⟩
abbrev sWorkSpread : Stmt := inClass (topS 22) 4
abbrev nWorkSpread : List Str := ["self", "at", "pivot", "i", "item"]
theorem scWorkSpread : FnScope nWorkSpread ["self", "at"] (defScope sWorkSpread) := ⟨rfl, rfl, rfl, by decide +kernel, rfl, by decide +kernel, by decide +kernel⟩
abbrev sWorkTurnSign : Stmt := inClass (topS 22) 5
abbrev nWorkTurnSign : List Str := ["self", "at", "item"]
theorem scWorkTurnSign : FnScope nWorkTurnSign ["self", "at"] (defScope sWorkTurnSign) := ⟨rfl, rfl, rfl, by decide +kernel, rfl, by decide +kernel, by decide +kernel⟩
abbrev sDiagonal : Stmt := topS 23
abbrev nDiagonal : List Str := ["matrix", "work", "at", "place"]
theorem scDiagonal : FnScope nDiagonal ["matrix"] (defScope sDiagonal) := ⟨rfl, rfl, rfl, by decide +kernel, rfl, by decide +kernel, by decide +kernel⟩
abbrev sDivisors : Stmt := topS 24
abbrev nDivisors : List Str := ["matrix", "middle", "numbers", "at", "number"]
theorem scDivisors : FnScope nDivisors ["matrix"] (defScope sDivisors) := ⟨rfl, rfl, rfl, by decide +kernel, rfl, by decide +kernel, by decide +kernel⟩
abbrev sCountUnits : Stmt := topS 26
abbrev nCountUnits : List Str := ["numbers", "p", "n"]
theorem scCountUnits : FnScope nCountUnits ["numbers", "p"] (defScope sCountUnits) := ⟨rfl, rfl, rfl, by decide +kernel, rfl, by decide +kernel, by decide +kernel⟩
abbrev sRank : Stmt := topS 27
abbrev nRank : List Str := ["matrix", "p"]
theorem scRank : FnScope nRank ["matrix", "p"] (defScope sRank) := ⟨rfl, rfl, rfl, by decide +kernel, rfl, by decide +kernel, by decide +kernel⟩
abbrev sColumnPart : Stmt := topS 29
abbrev nColumnPart : List Str := ["matrix", "columns"]
theorem scColumnPart : FnScope nColumnPart ["matrix", "columns"] (defScope sColumnPart) := ⟨rfl, rfl, rfl, by decide +kernel, rfl, by decide +kernel, by decide +kernel⟩
abbrev sRankOf : Stmt := topS 30
abbrev nRankOf : List Str := ["matrix", "columns", "p"]
theorem scRankOf : FnScope nRankOf ["matrix", "columns", "p"] (defScope sRankOf) := ⟨rfl, rfl, rfl, by decide +kernel, rfl, by decide +kernel, by decide +kernel⟩
abbrev sAllColumns : Stmt := topS 31
abbrev nAllColumns : List Str := ["matrix", "rows", "size"]
theorem scAllColumns : FnScope nAllColumns ["matrix"] (defScope sAllColumns) := ⟨rfl, rfl, rfl, by decide +kernel, rfl, by decide +kernel, by decide +kernel⟩
abbrev sBases : Stmt := topS 32
abbrev nBases : List Str := ["matrix", "p", "size", "columns"]
theorem scBases : FnScope nBases ["matrix", "p"] (defScope sBases) := ⟨rfl, rfl, rfl, by decide +kernel, rfl, by decide +kernel, by decide +kernel⟩
abbrev sCircuits : Stmt := topS 33
abbrev nCircuits : List Str := ["matrix", "p", "found", "columns", "inner", "circuit", "at"]
theorem scCircuits : FnScope nCircuits ["matrix", "p"] (defScope sCircuits) := ⟨rfl, rfl, rfl, by decide +kernel, rfl, by decide +kernel, by decide +kernel⟩
abbrev sLawCell : Stmt := topS 35
abbrev nLawCell : List Str := ["_law_script", "_law_k"]
theorem scLawCell : FnScope nLawCell ["_law_script", "_law_k"] (defScope sLawCell) := ⟨rfl, rfl, rfl, by decide +kernel, rfl, by decide +kernel, by decide +kernel⟩
abbrev sLawDraws : Stmt := topS 36
abbrev nLawDraws : List Str := ["_law_cell_here", "_law_sizes", "_law_drawn", "_law_left", "_law_at", "_law_mixed"]
theorem scLawDraws : FnScope nLawDraws ["_law_cell_here", "_law_sizes"] (defScope sLawDraws) := ⟨rfl, rfl, rfl, by decide +kernel, rfl, by decide +kernel, by decide +kernel⟩
abbrev sLawIsPrime : Stmt := topS 38
abbrev nLawIsPrime : List Str := ["_law_n", "_law_k"]
theorem scLawIsPrime : FnScope nLawIsPrime ["_law_n"] (defScope sLawIsPrime) := ⟨rfl, rfl, rfl, by decide +kernel, rfl, by decide +kernel, by decide +kernel⟩
abbrev sLawPrimeFrom : Stmt := topS 39
abbrev nLawPrimeFrom : List Str := ["_law_n"]
theorem scLawPrimeFrom : FnScope nLawPrimeFrom ["_law_n"] (defScope sLawPrimeFrom) := ⟨rfl, rfl, rfl, by decide +kernel, rfl, by decide +kernel, by decide +kernel⟩
abbrev sLawLess : Stmt := topS 40
abbrev nLawLess : List Str := ["_law_row", "_law_base", "_law_at", "_law_char", "_law_factor", "_law_less_here", "_law_j", "_law_item"]
theorem scLawLess : FnScope nLawLess ["_law_row", "_law_base", "_law_at", "_law_char"] (defScope sLawLess) := ⟨rfl, rfl, rfl, by decide +kernel, rfl, by decide +kernel, by decide +kernel⟩
abbrev sLawRank : Stmt := topS 41
abbrev nLawRank : List Str := ["_law_rows_here", "_law_columns", "_law_char", "_law_left", "_law_size", "_law_at", "_law_places", "_law_k", "_law_row", "_law_item"]
theorem scLawRank : FnScope nLawRank ["_law_rows_here", "_law_columns", "_law_char"] (defScope sLawRank) := ⟨rfl, rfl, rfl, by decide +kernel, rfl, by decide +kernel, by decide +kernel⟩
abbrev sLawLists : Stmt := topS 42
abbrev nLawLists : List Str := ["_law_many", "_law_rows_here", "_law_at", "_law_row"]
theorem scLawLists : FnScope nLawLists ["_law_many"] (defScope sLawLists) := ⟨rfl, rfl, rfl, by decide +kernel, rfl, by decide +kernel, by decide +kernel⟩
abbrev sLawBases : Stmt := topS 43
abbrev nLawBases : List Str := ["_law_rows_here", "_law_char", "_law_many", "_law_size", "_law_some", "_law_row"]
theorem scLawBases : FnScope nLawBases ["_law_rows_here", "_law_char"] (defScope sLawBases) := ⟨rfl, rfl, rfl, by decide +kernel, rfl, by decide +kernel, by decide +kernel⟩
abbrev sLawRows : Stmt := topS 44
abbrev nLawRows : List Str := ["_law_cell_here", "_law_height", "_law_width", "_law_reach", "_law_drawn", "_law_k", "_law_i"]
theorem scLawRows : FnScope nLawRows ["_law_cell_here", "_law_height", "_law_width", "_law_reach"] (defScope sLawRows) := ⟨rfl, rfl, rfl, by decide +kernel, rfl, by decide +kernel, by decide +kernel⟩
abbrev sLawCircuits : Stmt := topS 45
abbrev nLawCircuits : List Str := ["_law_rows_here", "_law_char", "_law_found", "_law_row", "_law_parts", "_law_at", "_law_part"]
theorem scLawCircuits : FnScope nLawCircuits ["_law_rows_here", "_law_char"] (defScope sLawCircuits) := ⟨rfl, rfl, rfl, by decide +kernel, rfl, by decide +kernel, by decide +kernel⟩
abbrev sLawRefused : Stmt := topS 46
abbrev nLawRefused : List Str := ["_law_which", "_law_matrix", "_law_char", "e"]
theorem scLawRefused : FnScope nLawRefused ["_law_which", "_law_matrix", "_law_char"] (defScope sLawRefused) := ⟨rfl, rfl, rfl, by decide +kernel, rfl, by decide +kernel, by decide +kernel⟩
abbrev sLaw : Stmt := topS 47
abbrev nLaw : List Str := ["_law_script", "_law_head", "_law_rows_here", "_law_matrix", "_law_char", "_law_told", "_law_least", "_law_bad"]
theorem scLaw : FnScope nLaw ["_law_script"] (defScope sLaw) := ⟨rfl, rfl, rfl, by decide +kernel, rfl, by decide +kernel, by decide +kernel⟩
end Wk
/-! Wk1: rows and their addresses; is_prime, is_zero. -/
namespace Wk
open PySem PySem.Spec PyProof.Rows L2 Ev
/-! ### rows of ints, lists of addresses -/
def rowV (w : Nat) (f : Nat → Int) : List V := (List.range w).map fun j => V.int (f j)
def refs (h : Nat) (r : Nat → Addr) : List V := (List.range h).map fun i => V.ref (r i)
theorem rowV_len (w : Nat) (f : Nat → Int) : (rowV w f).length = w := by unfold rowV; rw [List.length_map, List.length_range]
theorem refs_len (h : Nat) (r : Nat → Addr) : (refs h r).length = h := by unfold refs; rw [List.length_map, List.length_range]
theorem rowV_at {w j : Nat} (f : Nat → Int) (h : j < w) : (rowV w f)[j]? = some (.int (f j)) := by
  unfold rowV
  rw [List.getElem?_map, List.getElem?_range h]
  rfl
theorem refs_at {h i : Nat} (r : Nat → Addr) (hi : i < h) : (refs h r)[i]? = some (.ref (r i)) := by
  unfold refs
  rw [List.getElem?_map, List.getElem?_range hi]
  rfl
theorem rowV_get {w j : Nat} {f : Nat → Int} {x : V} (h : (rowV w f)[j]? = some x) : j < w ∧ x = .int (f j) := by
  have hj : j < w := by
    have := (List.getElem?_eq_some_iff.mp h).1
    rw [rowV_len] at this
    exact this
  rw [rowV_at f hj] at h
  exact ⟨hj, (Option.some.inj h).symm⟩
theorem refs_get {n i : Nat} {r : Nat → Addr} {x : V} (h : (refs n r)[i]? = some x) : i < n ∧ x = .ref (r i) := by
  have hj : i < n := by
    have := (List.getElem?_eq_some_iff.mp h).1
    rw [refs_len] at this
    exact this
  rw [refs_at r hj] at h
  exact ⟨hj, (Option.some.inj h).symm⟩
theorem rowV_succ (n : Nat) (f : Nat → Int) : rowV (n + 1) f = rowV n f ++ [.int (f n)] := by
  unfold rowV
  rw [List.range_succ, List.map_append]
  rfl
theorem refs_succ (n : Nat) (r : Nat → Addr) : refs (n + 1) r = refs n r ++ [.ref (r n)] := by
  unfold refs
  rw [List.range_succ, List.map_append]
  rfl
theorem rowV_congr {w : Nat} {f g : Nat → Int} (h : ∀ j, j < w → f j = g j) : rowV w f = rowV w g := by
  unfold rowV
  exact List.map_congr_left fun j hj => by rw [h j (List.mem_range.mp hj)]
theorem refs_congr {n : Nat} {r r' : Nat → Addr} (h : ∀ j, j < n → r j = r' j) : refs n r = refs n r' := by
  unfold refs
  exact List.map_congr_left fun j hj => by rw [h j (List.mem_range.mp hj)]
theorem rowV_set {w j : Nat} {f : Nat → Int} {x : Int} : (rowV w f).set j (.int x) = rowV w fun k => if k = j then x else f k := by
  refine List.ext_getElem? fun k => ?_
  by_cases hk : k < w
  · by_cases e : k = j
    · subst e
      rw [List.getElem?_set_self (by rw [rowV_len]; exact hk), rowV_at _ hk, if_pos rfl]
    · rw [List.getElem?_set_ne (fun z => e z.symm), rowV_at _ hk, rowV_at _ hk, if_neg e]
  · rw [List.getElem?_eq_none (by rw [List.length_set, rowV_len]; omega), List.getElem?_eq_none (by rw [rowV_len]; omega)]
theorem refs_set {n j : Nat} {r : Nat → Addr} {q : Addr} : (refs n r).set j (.ref q) = refs n fun k => if k = j then q else r k := by
  refine List.ext_getElem? fun k => ?_
  by_cases hk : k < n
  · by_cases e : k = j
    · subst e
      rw [List.getElem?_set_self (by rw [refs_len]; exact hk), refs_at _ hk, if_pos rfl]
    · rw [List.getElem?_set_ne (fun z => e z.symm), refs_at _ hk, refs_at _ hk, if_neg e]
  · rw [List.getElem?_eq_none (by rw [List.length_set, refs_len]; omega), List.getElem?_eq_none (by rw [refs_len]; omega)]
theorem atI_row {w j : Nat} (f : Nat → Int) (h : j < w) : atI (rowV w f) (j : Int) = some (.int (f j)) := atI_nat (rowV_at f h)
theorem atI_refs {n i : Nat} (r : Nat → Addr) (h : i < n) : atI (refs n r) (i : Int) = some (.ref (r i)) := atI_nat (refs_at r h)
theorem ixN_nat {n j : Nat} (h : j < n) : ixN n (j : Int) = some j := by
  unfold ixN
  rw [if_pos (by omega), if_pos (by omega)]
  rfl
/-- a list of refs and a list of ints are two -/
theorem refs_ne_row {n w : Nat} {r : Nat → Addr} {f : Nat → Int} (h : 0 < n) : HO.lst (refs n r) ≠ HO.lst (rowV w f) := fun z => by
  have e : refs n r = rowV w f := HO.lst.inj z
  have a := refs_at r h
  rw [e] at a
  obtain ⟨_, q⟩ := rowV_get a
  cases q
theorem upd_new {H : Hp} {p b : Addr} {o u : HO} (hp : H p = none) (h : H b = some u) : upd H p o b = some u := by
  rw [upd_ne (ne_of_none h hp)]
  exact h
theorem same_new {H : Hp} {p : Addr} {o : HO} (hp : H p = none) : Same H (upd H p o) := fun _ _ h => upd_new hp h
theorem size_ok {n : Nat} (h : n ≤ 100000) : n ≤ sizeLine := Nat.le_trans h (by decide)
theorem size_lt {n : Nat} (h : n < 100000) : n < sizeLine := Nat.lt_of_lt_of_le h (by decide)
theorem Same.sqt {K : PySem.W.Frag} {H H' : Hp} {a : Addr} {xs : List V} (e : Same H H') (h : SqT K H a xs) : SqT K H' a xs := by
  rcases h with (h | ⟨o, h⟩) | h
  · exact .inl (.inl (e _ _ h))
  · exact .inl (.inr ⟨o, e _ _ h⟩)
  · exact .inr h
theorem ifT {b : Bool} {A B : Prop} (hb : b = true) (h : A) : if b = true then A else B := by
  rw [if_pos hb]
  exact h
theorem ifF {b : Bool} {A B : Prop} (hb : b = false) (h : B) : if b = true then A else B := by
  rw [hb, if_neg Bool.false_ne_true]
  exact h
/-- a def of the module -/
structure Cal (K : PySem.W.Frag) (mg : Str → Option Value) (x : Str) (st : Stmt) (ps : List Str) (f : Addr) (fd : FuncData) : Prop where
  F : Fun K x x st f fd
  b : Binds K fd ps []
  m : mg x = some (.ref f)
/-- built-ins that the module leaves as they are -/
structure Blt (mg : Str → Option Value) : Prop where
  len : mg "len" = none
  abs : mg "abs" = none
  any : mg "any" = none
  all : mg "all" = none
  list : mg "list" = none
  tuple : mg "tuple" = none
  int : mg "int" = none
  max : mg "max" = none
  min : mg "min" = none
  sorted : mg "sorted" = none
  range : mg "range" = none
  zip : mg "zip" = none
  enumerate : mg "enumerate" = none
  isinstance : mg "isinstance" = none
section
variable {X : Cx} {CX : CXT} {k : Nat} {f : Addr} {fd : FuncData} {ps : List Str} {sp : Sp} {E : XK} {x : Str} {st : Stmt} {p pos : Pos} {e : Expr} {es : List Expr} {t : TA}
/-- f(e, ..) -/
theorem pcal (C : Cal X.K X.mg x st ps f fd) (G : FnOk X.prog X.w X.K X.mg X.base CX k f fd ps sp) (hr : Room k X.A) (hx : Passes CX X E) (ha : PA X (e :: es) t) (hg : Gl X x := by rfl)
    (hdb : (x == ("__debug__" : Str)) = false := by decide) (he : starEach (e :: es) X.env = (false, eval e X.env) :: starEach es X.env := by rfl) (hpl : (backTo pos (starEach es X.env)).any (·.1) = false := by rfl) :
    PE X (.Call (.Name x p) (e :: es) [] pos) (tCall sp [] E t) := pe_call G hr hg C.m C.F.kp C.b .nil hx ha hdb he hpl
end

section
variable {P : Program} {w : World} {K : PySem.W.Frag} {mg : Str → Option Value} {base : Heap}
/-! ### is_prime -/
def spIsPrime : Sp := fun vs H Q _ => ∃ n : Int, vs = [.int n] ∧ n ≤ 10000 ∧ ∀ b : Bool, (b = true ↔ IsP n) → Q (.bl b) H
theorem ok_is_prime {f : Addr} {fd : FuncData} {k : Nat} (F : Fun K "is_prime" "is_prime" sIsPrime f fd) : FnOk P w K mg base CX0 (k + 1) f fd ["n"] spIsPrime := by
  refine F.ok scIsPrime (fun vs H Q E h => ?_) (fun cdv A outer s H vs Q E hr h => ?_)
  · obtain ⟨n, rfl, _⟩ := h
    rfl
  · obtain ⟨n, rfl, hn, q⟩ := h
    refine ⟨_, (pss_cons (ps_if (pt_cmpR op_lt (pv 0) pe_int (nomark _)) (pss_one (ps_ret pe_bl)) pss_nil)
  (pss_cons (ps_set (i := 1) scIsPrime.nd rfl (.inl rfl) pe_int)
  (pss_cons (ps_while PassesOwn.never (pt_cmpR op_le (pe_op op_mul (pv 1) (pv 1)) (pv 0) (nomark _)) (pss_cons (ps_if (pt_cmpR op_eq (pe_op op_modN (pv 0) (pv 1)) pe_int (nomark _)) (pss_one (ps_ret pe_bl)) pss_nil)
  (pss_one (ps_aug (i := 1) scIsPrime.nd rfl (.inl rfl) pe_int ip_add))))
  (pss_one (ps_ret pe_bl))))), ?_⟩
    refine ⟨_, rfl, _, _, rfl, rfl, _, rfl, ite2 (fun e => ?_) (fun e => ?_)⟩
    · have e1 := of_decide_eq_true e
      refine q false ⟨fun z => (nomatch z), fun z => ?_⟩
      have := z.1
      omega
    · have e1 : ¬ n < 2 := fun z => e (decide_eq_true z)
      refine ⟨fun m σ H' => H' = H ∧ ∃ d : Int, 2 ≤ d ∧ d ≤ n + 1 ∧ σ = [some (.int n), some (.int d)] ∧ m = (n + 1 - d).toNat ∧ ∀ e : Int, 2 ≤ e → e < d → e * e ≤ n → n.fmod e ≠ 0, ⟨_, rfl, 2, by omega, by omega, rfl, rfl, fun e h1 h2 => by omega⟩, ?_⟩
      rintro m σ H' ⟨rfl, d, h2, hd, rfl, rfl, hs⟩
      refine ⟨_, rfl, _, rfl, _, _, rfl, rfl, .inl ⟨by omega, by omega⟩, _, rfl, _, _, rfl, rfl, _, rfl, ite2 (fun e => ?_) (fun e => ?_)⟩
      · have le : d * d ≤ n := of_decide_eq_true e
        have hdn : d ≤ n := by
          have : d * 1 ≤ d * d := Int.mul_le_mul_of_nonneg_left (by omega) (by omega)
          omega
        refine ⟨fun σ' H'' => H'' = H' ∧ σ' = [some (.int n), some (.int (d + 1))] ∧ n.fmod d ≠ 0, ?_, ?_⟩
        · rintro σ' H'' ⟨rfl, rfl, hm⟩
          refine ⟨(n + 1 - (d + 1)).toNat, by omega, rfl, d + 1, by omega, by omega, rfl, rfl, fun e' h3 h4 h5 => ?_⟩
          by_cases z : e' = d
          · rw [z]; exact hm
          · exact hs e' h3 (by omega) h5
        · refine ⟨_, rfl, _, rfl, _, _, rfl, rfl, (by omega), rfl, _, rfl, ite2 (fun e => ?_) (fun e => ?_)⟩
          · have e2 : n.fmod d = 0 := V.int.inj (of_decide_eq_true e)
            exact q false ⟨fun z => (nomatch z), fun z => absurd e2 (z.2 d h2 le)⟩
          · have e2 : n.fmod d ≠ 0 := fun z => e (decide_eq_true (congrArg V.int z))
            exact ⟨_, rfl, _, _, rfl, rfl, rfl, rfl, e2⟩
      · have le : ¬ d * d ≤ n := fun z => e (decide_eq_true z)
        refine q true ⟨fun _ => ⟨by omega, fun e' h3 h4 => ?_⟩, fun _ => rfl⟩
        by_cases z : e' < d
        · exact hs e' h3 z h4
        · have : d * d ≤ e' * e' := Int.mul_le_mul (by omega) (by omega) (by omega) (by omega)
          omega
/-! ### checked: its promise; is_zero -/
/-- p is a characteristic: p, nothing changed; it is none: an error of the class at C whose own dict (new) holds p -/
def spChecked (C : Addr) : Sp := fun vs H Q E => ∃ p : Int, vs = [.int p] ∧ p ≤ 10000 ∧ ((p = 0 ∨ IsP p) → Q (.int p) H) ∧
  (¬ (p = 0 ∨ IsP p) → -10000 ≤ p ∧ ∀ d : Addr, H d = none → E (.ref C) (some d) (upd H d (.xd [(("p" : Str), .int p)])))
def spIsZero : Sp := fun vs H Q _ => ∃ n p : Int, vs = [.int n, .int p] ∧ 0 ≤ p ∧ p ≤ 10000 ∧ (p = 0 ∨ IsP p) ∧ ∀ b : Bool, (b = true ↔ p ∣ n) → Q (.bl b) H
theorem ok_is_zero {f fC : Addr} {fd fdC : FuncData} {k : Nat} {C : Addr} (F : Fun K "is_zero" "is_zero" sIsZero f fd) (CC : Cal K mg "checked" sChecked ["p"] fC fdC) (GC : FnOk P w K mg base (L2.CX P w) k fC fdC ["p"] (spChecked C)) :
    FnOk P w K mg base CX0 (k + 1) f fd ["n", "p"] spIsZero := by
  refine F.ok scIsZero (fun vs H Q E h => ?_) (fun cdv A outer s H vs Q E hr h => ?_)
  · obtain ⟨n, p, rfl, _⟩ := h
    rfl
  · obtain ⟨n, p, rfl, h0, hp, good, q⟩ := h
    refine ⟨_, (pss_cons (ps_if (pt_cmpR op_eq (pcal CC GC hr passL (pa_cons (pv 1) pa_nil)) pe_int (nomark _)) (pss_one (ps_ret (pe_cmpR op_eq (pv 0) pe_int (nomark _)))) pss_nil)
  (pss_one (ps_ret (pe_cmpR op_eq (pe_op op_modN (pv 0) (pv 1)) pe_int (nomark _))))), ?_⟩
    refine ⟨_, rfl, p, rfl, hp, fun _ => ?_, fun z => (z good).elim⟩
    refine ⟨rfl, _, rfl, ite2 (fun e => ?_) (fun e => ?_)⟩
    · have e1 : p = 0 := V.int.inj (of_decide_eq_true e)
      refine ⟨_, rfl, rfl, q _ ?_⟩
      rw [decide_eq_true_iff, e1]
      constructor
      · intro z
        rw [V.int.inj z]
        exact Int.dvd_zero _
      · intro z
        rw [Int.zero_dvd.mp z]
    · have e1 : p ≠ 0 := fun z => e (decide_eq_true (by rw [z]))
      refine ⟨_, rfl, _, rfl, _, _, rfl, rfl, e1, rfl, q _ ?_⟩
      rw [decide_eq_true_iff]
      constructor
      · intro z
        exact Int.dvd_of_fmod_eq_zero (V.int.inj z)
      · intro z
        exact congrArg V.int (Int.fmod_eq_zero_of_dvd z)
end
end Wk
/-! Wk2: lists of lists; comprehensions that make one item a turn; choices, all_columns. -/
namespace Wk
open PySem PySem.Spec PyProof.Rows L2 Ev
/-! ### what stays -/
def But (D : Addr) (B H : Hp) : Prop := ∀ b o, b ≠ D → B b = some o → H b = some o
theorem But.refl (D : Addr) (H : Hp) : But D H H := fun _ _ _ h => h
theorem But.trans {D : Addr} {A B C : Hp} (a : But D A B) (b : But D B C) : But D A C := fun c o n h => b c o n (a c o n h)
theorem But.of {D : Addr} {A B : Hp} (a : Same A B) : But D A B := fun c o _ h => a c o h
theorem But.upd {D : Addr} {A B : Hp} {o : HO} (a : But D A B) : But D A (upd B D o) := fun c u n h => by
  rw [upd_ne n]
  exact a c u n h
theorem But.upd1 {D : Addr} {A : Hp} {o : HO} (n : A D = none) : But D A (L2.upd A D o) := But.of (same_new n)
/-- D was new: all that was there stays -/
theorem But.same {D : Addr} {A B : Hp} {o : HO} (n : A D = none) (a : But D (L2.upd A D o) B) : Same A B := fun c u h => a c u (ne_of_none h n) (upd_new n h)
theorem But.no {D q : Addr} {A B : Hp} (a : But D A B) (h : B q = none) (n : q ≠ D) : A q = none := by
  cases e : A q with
  | none => rfl
  | some o =>
    have := a q o n e
    rw [h] at this
    cases this
/-! ### lists of places -/
def natL (c : List Nat) : List V := c.map fun (n : Nat) => V.int (n : Int)
theorem natL_len (c : List Nat) : (natL c).length = c.length := by unfold natL; rw [List.length_map]
theorem natL_app (c d : List Nat) : natL (c ++ d) = natL c ++ natL d := by unfold natL; rw [List.map_append]
theorem natL_at {c : List Nat} {i n : Nat} (h : c[i]? = some n) : (natL c)[i]? = some (.int n) := by
  unfold natL
  rw [List.getElem?_map, h]
  rfl
theorem natL_get {c : List Nat} {i : Nat} {x : V} (h : (natL c)[i]? = some x) : ∃ n, c[i]? = some n ∧ x = .int (n : Int) := by
  unfold natL at h
  rw [List.getElem?_map] at h
  cases e : c[i]? with
  | none => rw [e] at h; cases h
  | some n =>
    rw [e] at h
    exact ⟨n, rfl, (Option.some.inj h).symm⟩
theorem paired_of {α β : Type} {F : α → β → Prop} : ∀ {xs : List α} {ys : List β}, xs.length = ys.length → (∀ (j : Nat) (x : α) (y : β), xs[j]? = some x → ys[j]? = some y → F x y) → Paired F xs ys
  | [], [], _, _ => .nil
  | x :: xs, y :: ys, h, f => .cons (f 0 x y rfl rfl) (paired_of (Nat.succ.inj h) fun j a b h1 h2 => f (j + 1) a b h1 h2)
theorem paired_at {α β : Type} {F : α → β → Prop} {xs : List α} {ys : List β} (h : Paired F xs ys) : ∀ {j : Nat} {x : α}, xs[j]? = some x → ∃ y, ys[j]? = some y ∧ F x y := by
  induction h with
  | nil => intro j x e; cases e
  | cons h1 _ ih =>
    intro j x e
    cases j with
    | zero => cases e; exact ⟨_, rfl, h1⟩
    | succ j => exact ih e
theorem paired_app {α β : Type} {F : α → β → Prop} {xs xs' : List α} {ys ys' : List β} (h : Paired F xs ys) (h' : Paired F xs' ys') : Paired F (xs ++ xs') (ys ++ ys') := by
  induction h with
  | nil => exact h'
  | cons h1 _ ih => exact .cons h1 ih
/-- the values are lists (none of them in B) of these places -/
def LLs (B H : Hp) (xs : List V) (cs : List (List Nat)) : Prop := Paired (fun (v : V) (c : List Nat) => ∃ q, v = .ref q ∧ B q = none ∧ H q = some (.lst (natL c))) xs cs
theorem LLs.to {B B' H H' : Hp} {xs : List V} {cs : List (List Nat)} (l : LLs B H xs cs) (hb : ∀ q, B q = none → B' q = none) (hh : ∀ q o, B q = none → H q = some o → H' q = some o) : LLs B' H' xs cs :=
  Paired.mono (fun _ _ ⟨q, e, n, h⟩ => ⟨q, e, hb q n, hh q _ n h⟩) l
theorem LLs.same {B H H' : Hp} {xs : List V} {cs : List (List Nat)} (l : LLs B H xs cs) (hh : Same H H') : LLs B H' xs cs := l.to (fun _ n => n) fun q o _ h => hh q o h
theorem LLs.but {B H H' : Hp} {D : Addr} {o : HO} {xs : List V} {cs : List (List Nat)} (l : LLs B H xs cs) (d : B D = some o) (hh : But D H H') : LLs B H' xs cs := l.to (fun _ n => n) fun q o n h => hh q o (fun z => by rw [z, d] at n; cases n) h
theorem LLs.less {B B' H : Hp} {xs : List V} {cs : List (List Nat)} (l : LLs B H xs cs) (hb : ∀ q, B q = none → B' q = none) : LLs B' H xs cs := l.to hb fun _ _ _ h => h
theorem LLs.sameB {B B' H : Hp} {xs : List V} {cs : List (List Nat)} (l : LLs B H xs cs) (hb : Same B' B) : LLs B' H xs cs := l.less fun _ n => hb.free n
theorem LLs.len {B H : Hp} {xs : List V} {cs : List (List Nat)} (l : LLs B H xs cs) : xs.length = cs.length := Paired.length l
theorem LLs.at {B H : Hp} {xs : List V} {cs : List (List Nat)} (l : LLs B H xs cs) {i : Nat} {x : V} (h : xs[i]? = some x) : ∃ c q, cs[i]? = some c ∧ x = .ref q ∧ B q = none ∧ H q = some (.lst (natL c)) :=
  let ⟨c, hc, q, e, n, hq⟩ := paired_at l h
  ⟨c, q, hc, e, n, hq⟩
/-! ### data for == -/
def dN (c : List Nat) : PyData := .list (c.map fun (n : Nat) => .int (n : Int))
def dNs (cs : List (List Nat)) : PyData := .list (cs.map dN)
theorem ints_lay : ∀ c : List Nat, PyData.canLayAll0 (c.map fun (n : Nat) => .int (n : Int)) = true
  | [] => by simp only [List.map_nil, PyData.canLayAll0]
  | x :: c => by simp only [List.map_cons, PyData.canLayAll0, PyData.canLay0, ints_lay c, Bool.and_self]
theorem ints_depth : ∀ c : List Nat, PyData.depthAll (c.map fun (n : Nat) => .int (n : Int)) = 0
  | [] => by simp only [List.map_nil, PyData.depthAll]
  | x :: c => by simp only [List.map_cons, PyData.depthAll, PyData.depth, ints_depth c, Nat.max_self]
theorem dN_lay (c : List Nat) : (dN c).canLay0 = true := by
  unfold dN
  simp only [PyData.canLay0]
  exact ints_lay c
theorem dN_depth (c : List Nat) : (dN c).depth ≤ 1 := by
  unfold dN
  simp only [PyData.depth, ints_depth]
  omega
theorem dNs_layAll : ∀ cs : List (List Nat), PyData.canLayAll0 (cs.map dN) = true
  | [] => by simp only [List.map_nil, PyData.canLayAll0]
  | x :: cs => by simp only [List.map_cons, PyData.canLayAll0, dN_lay, dNs_layAll cs, Bool.and_self]
theorem dNs_depthAll : ∀ cs : List (List Nat), PyData.depthAll (cs.map dN) ≤ 1
  | [] => by simp only [List.map_nil, PyData.depthAll]; omega
  | x :: cs => by
    have h1 := dNs_depthAll cs
    have h2 := dN_depth x
    simp only [List.map_cons, PyData.depthAll]
    omega
theorem dN_shaped (c : List Nat) : SeqAt.shaped (dN c) = true := by
  have := dN_depth c
  show ((dN c).canLay0 && decide ((dN c).depth ≤ 64)) = true
  rw [dN_lay, Bool.true_and]
  exact decide_eq_true (by omega)
theorem dNs_shaped (cs : List (List Nat)) : SeqAt.shaped (dNs cs) = true := by
  have := dNs_depthAll cs
  have e : (dNs cs).depth ≤ 64 := by
    unfold dNs
    simp only [PyData.depth]
    omega
  show ((dNs cs).canLay0 && decide ((dNs cs).depth ≤ 64)) = true
  rw [Bool.and_eq_true]
  exact ⟨by unfold dNs; simp only [PyData.canLay0]; exact dNs_layAll cs, decide_eq_true e⟩
theorem dN_eqv : ∀ c d : List Nat, PyData.eqv (dN c) (dN d) = decide (c = d)
  | c, d => by
    have key : ∀ c d : List Nat, PyData.eqvAll (c.map fun (n : Nat) => .int (n : Int)) (d.map fun (n : Nat) => .int (n : Int)) = decide (c = d) := by
      intro c
      induction c with
      | nil =>
        intro d
        cases d with
        | nil => simp [PyData.eqvAll]
        | cons y d => simp [PyData.eqvAll]
      | cons x c ih =>
        intro d
        cases d with
        | nil => simp [PyData.eqvAll]
        | cons y d =>
          simp only [List.map_cons, PyData.eqvAll, PyData.eqv, ih d]
          by_cases e : x = y
          · subst e
            simp
          · have e' : ((x : Int) == (y : Int)) = false := beq_eq_false_iff_ne.mpr (by omega)
            rw [e', Bool.false_and]
            exact (decide_eq_false fun z => e (List.cons.inj z).1).symm
    unfold dN
    simp only [PyData.eqv]
    exact key c d
theorem dNs_eqv (cs ds : List (List Nat)) : PyData.eqv (dNs cs) (dNs ds) = decide (cs = ds) := by
  have key : ∀ cs ds : List (List Nat), PyData.eqvAll (cs.map dN) (ds.map dN) = decide (cs = ds) := by
    intro c
    induction c with
    | nil =>
      intro d
      cases d with
      | nil => simp [PyData.eqvAll]
      | cons y d => simp [PyData.eqvAll]
    | cons x c ih =>
      intro d
      cases d with
      | nil => simp [PyData.eqvAll]
      | cons y d =>
        simp only [List.map_cons, PyData.eqvAll, dN_eqv, ih d]
        by_cases e : x = y
        · subst e
          simp
        · rw [decide_eq_false e, Bool.false_and]
          exact (decide_eq_false fun z => e (List.cons.inj z).1).symm
  unfold dNs
  simp only [PyData.eqv]
  exact key cs ds
theorem dp_ints {K : PySem.W.Frag} {H : Hp} : ∀ c : List Nat, DpAll K H (natL c) (c.map fun (n : Nat) => .int (n : Int))
  | [] => .nil
  | n :: c => .cons (.int n) (dp_ints c)
theorem dp_nat {K : PySem.W.Frag} {H : Hp} {q : Addr} {c : List Nat} (h : H q = some (.lst (natL c))) : Dp K H (.ref q) (dN c) := .lst (SqL.of h) (dp_ints c)
theorem dp_lls {K : PySem.W.Frag} {B H : Hp} {xs : List V} {cs : List (List Nat)} (l : LLs B H xs cs) : DpAll K H xs (cs.map dN) := by
  unfold LLs at l
  induction l with
  | nil => exact .nil
  | cons h _ ih =>
    obtain ⟨q, rfl, _, hq⟩ := h
    exact .cons (dp_nat hq) ih
theorem dp_nats {K : PySem.W.Frag} {B H : Hp} {p : Addr} {xs : List V} {cs : List (List Nat)} (h : H p = some (.lst xs)) (l : LLs B H xs cs) : Dp K H (.ref p) (dNs cs) := .lst (SqL.of h) (dp_lls l)
/-! ### a comprehension that makes one item a turn -/
theorem lc_map {J : It} {n : Nat} {G : Hp → Prop} {Y : Nat → Hp → V → Hp → Prop} (w : Walk J n G Y) {g : TG} {tt : TT} {te : TE} {vs : List Nat} {σ : L2.St} {H1 : Hp} {D : Addr} {Qd : Hp → Prop} (hn : n < 100000) (R : Nat → V → Hp → Prop)
    (stable : ∀ j z H H', Same H1 H → R j z H → But D H H' → R j z H') (hG : ∀ H, But D (upd H1 D (.lst [])) H → G H)
    (hs : ∀ i x H H' (Kc : V → Hp → Prop), i < n → But D (upd H1 D (.lst [])) H → (∃ o, H D = some o) → Y i H x H' → (∀ y H4, Same H H4 → R i y H4 → Kc y H4) → g x (wipe σ vs) H' fun σ2 H2 => wipe σ2 vs = wipe σ vs ∧ tt σ2 H2 fun b H3 =>
      b = true ∧ te σ2 H3 Kc) (mono : ∀ x σ H (Q Q' : L2.St → Hp → Prop), (∀ σ H, Q σ H → Q' σ H) → g x σ H Q → g x σ H Q') (mono2 : ∀ σ H (Q Q' : Bool → Hp → Prop), (∀ b H, Q b H → Q' b H) → tt σ H Q → tt σ H Q')
    (hD : H1 D = none) (hd : ∀ H zs, But D (upd H1 D (.lst [])) H → H D = some (.lst zs) → zs.length = n → (∀ j z, zs[j]? = some z → R j z H) → Qd H) :
    ∃ W : Nat → Nat → Hp → Prop, (∃ m, W 0 m (upd H1 D (.lst []))) ∧ ∀ i m H, W i m H →
      (J.stop i H ∧ Qd H) ∨ (J.go i H ∧ ∃ Nx : Hp → Prop, (∀ H', Nx H' → ∃ m', m' < m ∧ W (i + 1) m' H') ∧ ∀ x H', J.yld i H x H' → g x (wipe σ vs) H' fun σ2 H2 => wipe σ2 vs = wipe σ vs ∧ tt σ2 H2 fun b H3 =>
        if b = true then te σ2 H3 fun y H4 => ∃ acc, H4 D = some (.lst acc) ∧ acc.length < sizeLine ∧ Nx (upd H4 D (.lst (acc ++ [y]))) else Nx H3) := by
  refine lc_it w (fun i H => But D (upd H1 D (.lst [])) H ∧ ∃ zs, H D = some (.lst zs) ∧ zs.length = i ∧ ∀ j z, zs[j]? = some z → R j z H) ⟨But.refl _ _, [], upd_same, rfl, fun j z e => by cases e⟩ (fun i H _ p => hG H p.1) (fun i x H H' hi p y => ?_) (fun H p => ?_)
  · obtain ⟨b, zs, hz, hl, hr⟩ := p
    refine mono _ _ _ _ _ (fun σ2 H2 q => ⟨q.1, mono2 _ _ _ _ (fun b' H3 q' => ?_) q.2⟩) (hs i x H H' (fun y H4 => ∃ acc, H4 D = some (.lst acc) ∧ acc.length < sizeLine ∧ (But D (upd H1 D (.lst [])) (upd H4 D (.lst (acc ++ [y]))) ∧ ∃ zs, (upd H4 D (.lst (acc ++ [y]))) D = some (.lst zs) ∧ zs.length = i + 1 ∧ ∀ j z, zs[j]? = some z → R j z (upd H4 D (.lst (acc ++ [y]))))) hi b ⟨_, hz⟩ y ?_)
    · rw [if_pos q'.1]
      exact q'.2
    · intro y H4 s r
      have s1 : Same H1 H := But.same hD b
      refine ⟨zs, s _ _ hz, size_lt (by omega), (b.trans (But.of s)).upd, _, upd_same, by rw [List.length_append, hl]; rfl, fun j z e => ?_⟩
      by_cases hj : j < zs.length
      · rw [List.getElem?_append_left hj] at e
        exact stable j z H _ s1 (hr j z e) (But.of s).upd
      · rw [List.getElem?_append_right (by omega)] at e
        have e1 : j = i := by
          have := (List.getElem?_eq_some_iff.mp e).1
          have : j - zs.length < 1 := this
          omega
        subst e1
        rw [hl, Nat.sub_self] at e
        cases e
        exact stable _ _ H4 _ (s1.trans s) r (But.refl _ _).upd
  · obtain ⟨b, zs, hz, hl, hr⟩ := p
    exact hd H zs b hz hl hr
/-- .. each item a new object: F i the object of turn i -/
theorem lc_new {J : It} {n : Nat} {G : Hp → Prop} {Y : Nat → Hp → V → Hp → Prop} (w : Walk J n G Y) {g : TG} {tt : TT} {te : TE} {vs : List Nat} {σ : L2.St} {H1 : Hp} {D : Addr} {Qd : Hp → Prop} (hn : n < 100000) (F : Nat → HO)
    (hG : ∀ H, But D (upd H1 D (.lst [])) H → G H)
    (hs : ∀ i x H H' (Kc : V → Hp → Prop), i < n → But D (upd H1 D (.lst [])) H → (∃ o, H D = some o) → Y i H x H' → (∀ q H4, Same H H4 → H q = none → H4 q = some (F i) → Kc (.ref q) H4) → g x (wipe σ vs) H' fun σ2 H2 => wipe σ2 vs = wipe σ vs ∧ tt σ2 H2 fun b H3 =>
      b = true ∧ te σ2 H3 Kc) (mono : ∀ x σ H (Q Q' : L2.St → Hp → Prop), (∀ σ H, Q σ H → Q' σ H) → g x σ H Q → g x σ H Q') (mono2 : ∀ σ H (Q Q' : Bool → Hp → Prop), (∀ b H, Q b H → Q' b H) → tt σ H Q → tt σ H Q')
    (hD : H1 D = none) (hd : ∀ H t, But D (upd H1 D (.lst [])) H → H D = some (.lst (refs n t)) → (∀ j, j < n → H (t j) = some (F j)) → (∀ j, j < n → H1 (t j) = none ∧ t j ≠ D) → (∀ i j, i < n → j < n → t i = t j → i = j) → Qd H) :
    ∃ W : Nat → Nat → Hp → Prop, (∃ m, W 0 m (upd H1 D (.lst []))) ∧ ∀ i m H, W i m H →
      (J.stop i H ∧ Qd H) ∨ (J.go i H ∧ ∃ Nx : Hp → Prop, (∀ H', Nx H' → ∃ m', m' < m ∧ W (i + 1) m' H') ∧ ∀ x H', J.yld i H x H' → g x (wipe σ vs) H' fun σ2 H2 => wipe σ2 vs = wipe σ vs ∧ tt σ2 H2 fun b H3 =>
        if b = true then te σ2 H3 fun y H4 => ∃ acc, H4 D = some (.lst acc) ∧ acc.length < sizeLine ∧ Nx (upd H4 D (.lst (acc ++ [y]))) else Nx H3) := by
  refine lc_it w (fun i H => But D (upd H1 D (.lst [])) H ∧ ∃ t : Nat → Addr, H D = some (.lst (refs i t)) ∧ (∀ j, j < i → H (t j) = some (F j)) ∧ (∀ j, j < i → H1 (t j) = none ∧ t j ≠ D) ∧ (∀ j k, j < i → k < i → t j = t k → j = k))
    ⟨But.refl _ _, fun _ => 0, upd_same, (fun j h => by omega), (fun j h => by omega), fun j k h => by omega⟩ (fun i H _ p => hG H p.1) (fun i x H H' hi p y => ?_) (fun H p => ?_)
  · obtain ⟨b, t, hz, hr, hn', hj⟩ := p
    refine mono _ _ _ _ _ (fun σ2 H2 q => ⟨q.1, mono2 _ _ _ _ (fun b' H3 q' => ?_) q.2⟩) (hs i x H H' (fun y H4 => ∃ acc, H4 D = some (.lst acc) ∧ acc.length < sizeLine ∧ (But D (upd H1 D (.lst [])) (upd H4 D (.lst (acc ++ [y]))) ∧ ∃ t : Nat → Addr, (upd H4 D (.lst (acc ++ [y]))) D = some (.lst (refs (i + 1) t)) ∧ (∀ j, j < i + 1 → (upd H4 D (.lst (acc ++ [y]))) (t j) = some (F j)) ∧ (∀ j, j < i + 1 → H1 (t j) = none ∧ t j ≠ D) ∧ (∀ j k, j < i + 1 → k < i + 1 → t j = t k → j = k))) hi b ⟨_, hz⟩ y ?_)
    · rw [if_pos q'.1]
      exact q'.2
    · intro q H4 s nq hq
      have s1 : Same H1 H := But.same hD b
      have qD : q ≠ D := fun z => by rw [z, hz] at nq; cases nq
      refine ⟨_, s _ _ hz, size_lt (by rw [refs_len]; omega), (b.trans (But.of s)).upd, fun j => if j = i then q else t j, ?_, ?_, ?_, ?_⟩
      · rw [upd_same, refs_succ]
        refine congrArg (fun l => some (HO.lst l)) ?_
        rw [if_pos rfl]
        refine congrArg (· ++ [V.ref q]) (refs_congr fun j hj => ?_)
        show t j = if j = i then q else t j
        rw [if_neg (by omega)]
      · intro j hj
        show upd H4 D _ (if j = i then q else t j) = _
        by_cases e : j = i
        · rw [if_pos e, upd_ne qD, hq, e]
        · rw [if_neg e, upd_ne (hn' j (by omega)).2]
          exact s _ _ (hr j (by omega))
      · intro j hj
        show H1 (if j = i then q else t j) = none ∧ (if j = i then q else t j) ≠ D
        by_cases e : j = i
        · rw [if_pos e]
          exact ⟨s1.free nq, qD⟩
        · rw [if_neg e]
          exact hn' j (by omega)
      · intro j k hjj hk e
        have e : (if j = i then q else t j) = (if k = i then q else t k) := e
        by_cases e1 : j = i
        · by_cases e2 : k = i
          · omega
          · rw [if_pos e1, if_neg e2] at e
            have := hr k (by omega)
            rw [← e, nq] at this
            cases this
        · by_cases e2 : k = i
          · rw [if_neg e1, if_pos e2] at e
            have := hr j (by omega)
            rw [e, nq] at this
            cases this
          · rw [if_neg e1, if_neg e2] at e
            exact hj j k (by omega) (by omega) e
  · obtain ⟨b, t, hz, hr, hn', hj⟩ := p
    exact hd H t b hz hr hn' hj
theorem mono_name (i : Nat) : ∀ x σ H (Q Q' : L2.St → Hp → Prop), (∀ σ H, Q σ H → Q' σ H) → gName i x σ H Q → gName i x σ H Q' := fun _ _ _ _ _ h q => h _ _ q
theorem mono_yes : ∀ σ H (Q Q' : Bool → Hp → Prop), (∀ b H, Q b H → Q' b H) → tYes σ H Q → tYes σ H Q' := fun _ _ _ _ h q => h _ _ q
end Wk
/-! Wk3: choices, all_columns; what a Matrix is. -/
namespace Wk
open PySem PySem.Spec PyProof.Rows L2 Ev
section
variable {P : Program} {w : World} {K : PySem.W.Frag} {mg : Str → Option Value} {base : Heap}
/-- the list at p (new) of lists (new) of these places -/
def RetLL (H : Hp) (Q : VK) (cs : List (List Nat)) : Prop := ∀ p xs H', H p = none → Same H H' → H' p = some (.lst xs) → LLs H H' xs cs → Q (.ref p) H'
def spChoices (n : Nat) : Sp := fun vs H Q _ => ∃ u k : Nat, vs = [.int (u : Int), .int (k : Int)] ∧ 1 ≤ u ∧ u ≤ 5 ∧ k ≤ u ∧ k ≤ n ∧ RetLL H Q (chs u k)
def more (w : Nat) (row : List Nat) : List (List Nat) := (List.range' (nxt row) (w - nxt row)).map fun a => row ++ [a]
theorem more_take {w k : Nat} (h1 : 1 ≤ w) (h5 : w ≤ 5) (hk : k + 1 ≤ w) (i : Nat) : (((chs w k).take i).flatMap (more w)).length ≤ 32 := by
  have e : chs w (k + 1) = ((chs w k).take i).flatMap (more w) ++ ((chs w k).drop i).flatMap (more w) := by
    rw [← List.flatMap_append, List.take_append_drop]
    rfl
  have := chs_len h1 h5 hk
  rw [e, List.length_append] at this
  omega
theorem ch_tail {u : Nat} {col : List Nat} (h5 : u ≤ 5) (nx5 : nxt col ≤ 5) {R q0 : Addr} {Hs : Hp} {ys : List V} {v1 : Option V} {c : Option V} {D : Ends} (hR : Hs R = some (.lst ys)) (hq : Hs q0 = some (.lst (natL col))) (lc : col.length ≤ 5) (ly : ys.length ≤ 32)
    (fin : ∀ zs H' c', But R Hs H' → LLs Hs H' zs (more u col) → H' R = some (.lst (ys ++ zs)) → D.nx [some (.int (u : Int)), v1, some (.ref R), some (.ref q0), some (.int ((nxt col : Nat) : Int)), c'] H') :
    tDrop (tBM K "list" rExtend (tVar 2) (tCons (tLc (iRng2 (tCons (tVar 4) (tCons (tVar 0) tNil))) (gName 5) tYes (tOp rCat (tVar 3) (tLst (tCons (tVar 5) tNil))) [5]) tNil)) D [some (.int (u : Int)), v1, some (.ref R), some (.ref q0), some (.int ((nxt col : Nat) : Int)), c] Hs := by
  refine ⟨_, rfl, .inl ⟨rfl, ys, SqL.of hR⟩, _, rfl, _, rfl, _, _, rfl, ⟨by omega, by omega, by omega, by omega⟩, fun D0 nD0 => ?_⟩
  have nD : Hs D0 = none := nD0
  have hDR : R ≠ D0 := ne_of_none hR nD
  refine lc_map walk_range (by omega) (fun j z H' => ∃ q, z = .ref q ∧ upd Hs D0 (.lst []) q = none ∧ H' q = some (.lst (natL (col ++ [nxt col + j])))) ?_ (fun _ _ => trivial) ?_ (mono_name 5) mono_yes nD ?_
  · rintro j z H0 H1 _ ⟨q, rfl, nq, hq⟩ b
    exact ⟨q, rfl, nq, b q _ (fun e => by rw [e, upd_same] at nq; cases nq) hq⟩
  · rintro i x H9 H0 Kc hi b hD ⟨rfl, rfl⟩ fin
    refine ⟨rfl, rfl, ?_⟩
    have s1 : Same Hs H0 := But.same nD b
    refine ⟨_, rfl, _, rfl, size_ok (by show 1 ≤ 100000; decide), fun p1 np1 => ?_⟩
    have np1' : H0 p1 = none := np1
    refine ⟨_, _, _, _, rfl, rfl, upd_new np1' (s1 _ _ hq), upd_same, size_ok (by rw [natL_len]; show _ + 1 ≤ _; omega), fun p2 np2 => ?_⟩
    have np2' : upd H0 p1 (.lst [.int (((nxt col : Nat) : Int) + (i : Nat))]) p2 = none := np2
    refine fin _ _ ((same_new np1').trans (same_new np2')) ⟨p2, rfl, ?_, ?_⟩
    · have n0 : H0 p2 = none := (same_new np1').free np2'
      have hne : p2 ≠ D0 := fun z => by
        obtain ⟨o, ho⟩ := hD
        rw [z, ho] at n0
        cases n0
      rw [upd_ne hne]
      exact s1.free n0
    · rw [natL_app]
      exact upd_same
  · rintro H' zs b hz hl hr
    have s1 : Same Hs H' := But.same nD b
    refine ⟨_, _, _, _, rfl, rfl, s1 _ _ hR, hz, ?_, fin zs _ _ ?_ ?_ upd_same⟩
    · rw [hl]
      exact size_ok (by omega)
    · exact (But.of s1).upd
    · refine paired_of ?_ fun j x y h1 h2 => ?_
      · rw [hl]
        unfold more
        rw [List.length_map, List.length_range']
        omega
      · obtain ⟨q, rfl, nq, hq'⟩ := hr j x h1
        have nqR : q ≠ R := fun z => by
          rw [z, upd_ne hDR, hR] at nq
          cases nq
        refine ⟨q, rfl, But.no (But.upd1 nD) nq (fun z => by rw [z, upd_same] at nq; cases nq), ?_⟩
        rw [upd_ne nqR, hq']
        unfold more at h2
        rw [List.getElem?_map] at h2
        cases e : (List.range' (nxt col) (u - nxt col))[j]? with
        | none => rw [e] at h2; cases h2
        | some m =>
          rw [e] at h2
          rw [← Option.some.inj h2]
          have := (List.getElem?_eq_some_iff.mp e).2
          rw [List.getElem_range'] at this
          rw [← this, Nat.one_mul]
theorem ok_choices {f : Addr} {fd : FuncData} (CC : Cal K mg "choices" sChoices ["many", "size"] f fd) (T : Blt mg) : ∀ n : Nat, FnOk P w K mg base CX0 (n + 1) f fd ["many", "size"] (spChoices n)
  | 0 => by
    refine CC.F.ok scChoices (fun vs H Q E h => ?_) (fun cdv A outer s H vs Q E hr h => ?_)
    · obtain ⟨u, k, rfl, _⟩ := h
      rfl
    · obtain ⟨u, k, rfl, h1, h5, hk, h0, q⟩ := h
      refine ⟨_, (pss_cons (ps_if (pt_cmpR op_eq (pv 1) pe_int (nomark _)) (pss_one (ps_ret (pe_lst (pa_cons (pe_lst pa_nil) pa_nil)))) pss_nil) pss_never), ?_⟩
      have e0 : k = 0 := by omega
      subst e0
      refine ⟨_, rfl, rfl, _, rfl, iteT ?_⟩
      refine ⟨size_ok (by decide), fun p0 n0 => ⟨size_ok (by show 1 ≤ 100000; decide), fun p1 n1 => ?_⟩⟩
      have hp0 : H p0 = none := n0
      have n1' : upd H p0 (.lst []) p1 = none := n1
      exact q p1 [.ref p0] _ ((same_new hp0).free n1) ((same_new hp0).trans (same_new n1')) upd_same (.cons ⟨p0, rfl, hp0, upd_new n1' upd_same⟩ .nil)
  | n + 1 => by
    have G := ok_choices CC T n
    refine CC.F.ok scChoices (fun vs H Q E h => ?_) (fun cdv A outer s H vs Q E hr h => ?_)
    · obtain ⟨u, k, rfl, _⟩ := h
      rfl
    · obtain ⟨u, k, rfl, h1, h5, hk, hkn, q⟩ := h
      refine ⟨_, (pss_cons (ps_if (pt_cmpR op_eq (pv 1) pe_int (nomark _)) (pss_one (ps_ret (pe_lst (pa_cons (pe_lst pa_nil) pa_nil)))) pss_nil)
  (pss_cons (ps_set (i := 2) scChoices.nd rfl (.inl rfl) (pe_lst pa_nil))
  (pss_cons (ps_for PassesOwn.never rfl (pi_list (pcal CC G hr pass0 (pa_cons (pv 0) (pa_cons (pe_op op_sub (pv 1) pe_int) pa_nil)))) (pg_name (i := 3) scChoices.nd rfl (.inr rfl)) (pss_cons (ps_set (i := 4) scChoices.nd rfl (.inl rfl) (pe_ifExp (pt_cmpR (op_neD hr.units) (pv 3) (pe_lst pa_nil) (nomark _)) (pe_op op_add (pe_ix ix_list (pv 3) (pe_un un_neg pe_int) (fun _ _ => rfl)) pe_int) pe_int))
  (pss_one (ps_expr (pe_bm PySem.F.plainAttrs_list PySem.F.slot_list_extend PySem.F.type_list_extend mt_extend (pv 2) (pa_cons (pe_lc (own := [("at", 5)]) (g := (gName 5)) (tt := tYes) rfl scChoices.nd (pi_range2 (by rfl) T.range (pa_cons (pv 4) (pa_cons (pv 0) pa_nil))) (blkOk_by (N := nChoices) (sc := defScope sChoices) (by decide +kernel)) (fun _ _ _ _ _ => (pg_name (i := 5) scChoices.nd rfl (.inl rfl))) (fun _ _ _ _ _ => pts_nil) (fun _ _ _ _ _ => (pe_op op_cat (pv 3) (pe_lst (pa_cons (pv 5) pa_nil))))) pa_nil))))))
  (pss_one (ps_ret (pv 2)))))), ?_⟩
      refine ⟨_, rfl, rfl, _, rfl, ite2 (fun e => ?_) (fun e => ?_)⟩
      · have e0 : k = 0 := by
          have := V.int.inj (of_decide_eq_true e)
          omega
        subst e0
        refine ⟨size_ok (by decide), fun p0 n0 => ⟨size_ok (by show 1 ≤ 100000; decide), fun p1 n1 => ?_⟩⟩
        have hp0 : H p0 = none := n0
        have n1' : upd H p0 (.lst []) p1 = none := n1
        exact q p1 [.ref p0] _ ((same_new hp0).free n1) ((same_new hp0).trans (same_new n1')) upd_same (.cons ⟨p0, rfl, hp0, upd_new n1' upd_same⟩ .nil)
      · have hk0 : k ≠ 0 := fun z => e (decide_eq_true (by rw [z]; rfl))
        obtain ⟨k, rfl⟩ := Nat.exists_eq_succ_of_ne_zero hk0
        refine ⟨size_ok (by decide), fun R nR => ?_⟩
        have hR : H R = none := nR
        have n1 : (upd H R (.lst [])) R = some (.lst []) := upd_same
        refine ⟨_, rfl, _, rfl, _, _, rfl, rfl, u, k, ?_, h1, h5, by omega, by omega, fun L xs H2 nL s12 hL lx => ?_⟩
        · show [V.int (u : Int), V.int (((k + 1 : Nat) : Int) - 1)] = _
          rw [show ((k + 1 : Nat) : Int) - 1 = (k : Int) from by omega]
        have hLR : L ≠ R := fun z => by
          rw [z, n1] at nL
          cases nL
        refine ⟨L, rfl, ⟨xs, SqL.of hL⟩, for_list (xs := xs) (fun i σ H' => ∃ a b c ys, σ = [some (.int (u : Int)), some (.int ((k + 1 : Nat) : Int)), some (.ref R), a, b, c] ∧ H' R = some (.lst ys) ∧ LLs (upd H R (.lst [])) H' ys (((chs u k).take i).flatMap (more u)) ∧ But R H2 H')
          ⟨none, none, none, [], rfl, s12 _ _ n1, .nil, But.refl _ _⟩ ?_ ?_ ?_⟩
        · rintro i σ H' _ ⟨a, b, c, ys, rfl, hy, ly, bu⟩
          exact SqL.of (bu _ _ hLR hL)
        · rintro i x σ H' hx ⟨a, b, c, ys, rfl, hy, ly, bu⟩
          obtain ⟨col, q0, hc, rfl, nq, hq⟩ := lx.at hx
          have hqR : q0 ≠ R := fun z => by
            rw [z, n1] at nq
            cases nq
          have hq' : H' q0 = some (.lst (natL col)) := bu _ _ hqR hq
          have hmem : col ∈ chs u k := List.mem_of_getElem? hc
          have okc := chs_ok h1 h5 (by omega) col hmem
          have nx5 : nxt col ≤ 5 := by
            unfold nxt
            split
            · omega
            · rename_i x e
              have := okc.2 x (List.mem_of_getLast? e)
              omega
          have e3 : ((chs u k).take (i + 1)).flatMap (more u) = ((chs u k).take i).flatMap (more u) ++ more u col := by
            rw [List.take_add_one, hc, List.flatMap_append]
            simp
          have l3 : (((chs u k).take i).flatMap (more u) ++ more u col).length ≤ 32 := by
            rw [← e3]
            exact more_take h1 h5 hk (i + 1)
          have ly' : ys.length ≤ 32 := by
            rw [ly.len]
            exact more_take h1 h5 hk i
          have tl := fun (D : Ends) (Hs : Hp) (s : Same H' Hs) => ch_tail (K := K) (u := u) (v1 := some (.int ((k + 1 : Nat) : Int))) (c := c) (D := D) h5 nx5 (s _ _ hy) (s _ _ hq') (by omega) ly'
          have done : ∀ Hs : Hp, Same H' Hs → ∀ (zs : List V) (H'' : Hp), But R Hs H'' → LLs Hs H'' zs (more u col) → H'' R = some (.lst (ys ++ zs)) →
              LLs (upd H R (.lst [])) H'' (ys ++ zs) (((chs u k).take (i + 1)).flatMap (more u)) ∧ But R H2 H'' := fun Hs s zs H'' b lz hz => by
            have nn : ∀ q, Hs q = none → upd H R (.lst []) q = none := fun q nq => by
              have n2 : H2 q = none := But.no (bu.trans (But.of s)) nq fun z => by
                have := s _ _ hy
                rw [← z, nq] at this
                cases this
              exact s12.free n2
            rw [e3]
            exact ⟨paired_app ((ly.same s).but n1 b) (lz.less nn), (bu.trans (But.of s)).trans b⟩
          refine ⟨_, rfl, size_ok (by show 0 ≤ 100000; decide), fun p0 np0 => ?_⟩
          have hp0 : H' p0 = none := np0
          have s1 : Same H' (upd H' p0 (.lst [])) := same_new hp0
          refine ⟨dN col, dN [], dp_nat (s1 _ _ hq'), dp_nat (by exact upd_same), dN_shaped _, dN_shaped _, ?_⟩
          rw [dN_eqv]
          refine ⟨_, rfl, ?_⟩
          rcases List.eq_nil_or_concat col with e | ⟨col', z, e⟩
          · rw [if_neg (by rw [decide_eq_true e]; decide)]
            have enx : nxt col = 0 := by rw [e]; rfl
            have t1 := fun D0 => tl D0 _ s1
            rw [enx] at t1
            refine t1 _ ?_
            intro zs H'' c' b lz hz
            exact ⟨_, _, _, _, rfl, hz, (done _ s1 zs H'' b lz hz).1, (done _ s1 zs H'' b lz hz).2⟩
          · have ne : col ≠ [] := fun z => by
              rw [List.concat_eq_append, z] at e
              exact absurd e.symm (by simp)
            rw [if_pos (by rw [decide_eq_false ne]; rfl)]
            have e4 : col = col' ++ [z] := by rw [e, List.concat_eq_append]
            have enx : nxt col = z + 1 := by rw [e4]; unfold nxt; rw [List.getLast?_concat]
            refine ⟨_, rfl, _, rfl, _, _, _, _, rfl, rfl, SqL.of (s1 _ _ hq'), (by rw [e4, natL_app]; exact atI_last _ (V.int (z : Int))), _, _, rfl, rfl, ?_⟩
            have t1 := fun D0 => tl D0 _ s1
            rw [enx] at t1
            refine t1 _ ?_
            intro zs H'' c' b lz hz
            exact ⟨_, _, _, _, rfl, hz, (done _ s1 zs H'' b lz hz).1, (done _ s1 zs H'' b lz hz).2⟩
        · rintro σ H' ⟨a, b, c, ys, rfl, hy, ly, bu⟩
          rw [lx.len, List.take_length] at ly
          refine ⟨_, rfl, q R ys H' hR ?_ hy ?_⟩
          · exact But.same hR ((But.of s12).trans bu)
          · exact ly.sameB (same_new hR)
end
end Wk
/-! Wk4: Matrix: what one is, how one is made; all_columns. -/
namespace Wk
open PySem PySem.Spec PyProof.Rows L2 Ev
def mFs (a : Addr) (h w : Nat) : List (Str × V) := [("rows", .ref a), ("height", .int (h : Int)), ("width", .int (w : Int))]
/-- m is a Matrix of these numbers -/
def Mat (H : Hp) (CM m : Addr) (h w : Nat) (A : Mx) : Prop := ∃ (dx a : Addr) (r : Nat → Addr), H m = some (.ins CM dx (mFs a h w)) ∧ H a = some (.tup (refs h r)) ∧ ∀ i, i < h → H (r i) = some (.tup (rowV w (A i)))
/-- l is a list of lists of these numbers -/
def RowsL (H : Hp) (l : Addr) (h w : Nat) (A : Mx) : Prop := ∃ r : Nat → Addr, H l = some (.lst (refs h r)) ∧ ∀ i, i < h → H (r i) = some (.lst (rowV w (A i)))
/-- D is a list, or nothing yet -/
def LstOr (H : Hp) (D : Addr) : Prop := H D = none ∨ ∃ xs, H D = some (.lst xs)
theorem Mat.same {H H' : Hp} {CM m : Addr} {h w : Nat} {A : Mx} (x : Mat H CM m h w A) (s : Same H H') : Mat H' CM m h w A :=
  let ⟨dx, a, r, h1, h2, h3⟩ := x
  ⟨dx, a, r, s _ _ h1, s _ _ h2, fun i hi => s _ _ (h3 i hi)⟩
theorem LstOr.ne {H : Hp} {D b : Addr} {o : HO} (x : LstOr H D) (hb : H b = some o) (n : ∀ xs, o ≠ .lst xs) : b ≠ D := fun z => by
  subst z
  rcases x with x | ⟨xs, x⟩
  · rw [hb] at x; cases x
  · rw [hb] at x; exact n xs (Option.some.inj x)
theorem Mat.but {H H' : Hp} {CM m D : Addr} {h w : Nat} {A : Mx} (x : Mat H CM m h w A) (d : LstOr H D) (s : But D H H') : Mat H' CM m h w A :=
  let ⟨dx, a, r, h1, h2, h3⟩ := x
  ⟨dx, a, r, s _ _ (d.ne h1 fun _ z => nomatch z) h1, s _ _ (d.ne h2 fun _ z => nomatch z) h2, fun i hi => s _ _ (d.ne (h3 i hi) fun _ z => nomatch z) (h3 i hi)⟩
theorem RowsL.same {H H' : Hp} {l : Addr} {h w : Nat} {A : Mx} (x : RowsL H l h w A) (s : Same H H') : RowsL H' l h w A :=
  let ⟨r, h2, h3⟩ := x
  ⟨r, s _ _ h2, fun i hi => s _ _ (h3 i hi)⟩
theorem Mat.congr {H : Hp} {CM m : Addr} {h w : Nat} {A B : Mx} (x : Mat H CM m h w A) (e : ∀ i j, i < h → j < w → A i j = B i j) : Mat H CM m h w B :=
  let ⟨dx, a, r, h1, h2, h3⟩ := x
  ⟨dx, a, r, h1, h2, fun i hi => by rw [h3 i hi, rowV_congr fun j hj => e i j hi hj]⟩
theorem refs_of {h : Nat} {zs : List V} {F : Nat → Addr → Prop} (hl : zs.length = h) (hz : ∀ j z, zs[j]? = some z → ∃ q, z = .ref q ∧ F j q) : ∃ r : Nat → Addr, zs = refs h r ∧ ∀ j, j < h → F j (r j) := by
  refine ⟨fun j => match zs[j]? with
    | some (.ref q) => q
    | _ => 0, ?_, fun j hj => ?_⟩
  · refine List.ext_getElem? fun j => ?_
    by_cases hj : j < h
    · rw [refs_at _ hj]
      obtain ⟨z, e⟩ : ∃ z, zs[j]? = some z := ⟨_, List.getElem?_eq_getElem (by omega)⟩
      obtain ⟨q, rfl, _⟩ := hz j z e
      simp only [e]
    · rw [List.getElem?_eq_none (by omega), List.getElem?_eq_none (by rw [refs_len]; omega)]
  · obtain ⟨z, e⟩ : ∃ z, zs[j]? = some z := ⟨_, List.getElem?_eq_getElem (by omega)⟩
    obtain ⟨q, rfl, f⟩ := hz j z e
    simp only [e]
    exact f
theorem row_of {w : Nat} {zs : List V} {f : Nat → Int} (hl : zs.length = w) (hz : ∀ j z, zs[j]? = some z → z = V.int (f j)) : zs = rowV w f := by
  refine List.ext_getElem? fun j => ?_
  by_cases hj : j < w
  · obtain ⟨z, e⟩ : ∃ z, zs[j]? = some z := ⟨_, List.getElem?_eq_getElem (by omega)⟩
    rw [rowV_at _ hj, e, hz j z e]
  · rw [List.getElem?_eq_none (by omega), List.getElem?_eq_none (by rw [rowV_len]; omega)]
/-- what of Matrix's class the walks need -/
structure MCl (K : PySem.W.Frag) (CM : Addr) : Prop where
  c : Cls K CM
  rows : NoAttr K CM "rows"
  height : NoAttr K CM "height"
  width : NoAttr K CM "width"
def spMInit (CM : Addr) : Sp := fun vs H Q _ => ∃ (m dx l : Addr) (h w : Nat) (A : Mx), vs = [.ref m, .ref l] ∧ H m = some (.ins CM dx []) ∧ (1 ≤ h ∧ h ≤ 5 ∧ w ≤ 5) ∧ RowsL H l h w A ∧ ∀ H', But m H H' → Mat H' CM m h w A → Q .non H'
section
variable {P : Program} {w : World} {K : PySem.W.Frag} {mg : Str → Option Value} {base : Heap}
theorem ok_minit {f CM : Addr} {fd : FuncData} {k : Nat} (F : Fun K "__init__" "Matrix.__init__" sMatrixInit f fd) (M : MCl K CM) (T : Blt mg) : FnOk P w K mg base CX0 (k + 1) f fd ["self", "rows"] (spMInit CM) := by
  refine F.ok scMatrixInit (fun vs H Q E h => ?_) (fun cdv A outer s H vs Q E hr h => ?_)
  · obtain ⟨m, dx, l, h, w, A, rfl, _⟩ := h
    rfl
  · obtain ⟨m, dx, l, h, w, B, rfl, hm, ⟨h1, h5, w5⟩, ⟨r, hl, hrows⟩, q⟩ := h
    refine ⟨_, (pss_cons (ps_fld (pv 0) (ktup (K := K) T.tuple (pa_cons (pe_lc (own := [("row", 3)]) (g := (gName 3)) (tt := tYes) rfl scMatrixInit.nd (kpil (K := K) (hl := (pv 1))) (blkOk_by (N := nMatrixInit) (sc := defScope sMatrixInit) (by decide +kernel)) (fun _ _ _ _ _ => (pg_name (i := 3) scMatrixInit.nd rfl (by first | exact .inl rfl | exact .inr rfl))) (fun _ _ _ _ _ => pts_nil) (fun _ _ _ _ _ => (ktup (K := K) T.tuple (pa_cons (pv 3) pa_nil)))) pa_nil)) rfl)
  (pss_cons (ps_fld (pv 0) (klen (K := K) T.len (pa_cons (kfld (K := K) (he := (pv 0))) pa_nil)) rfl)
  (pss_cons (ps_fld (pv 0) (klen (K := K) T.len (pa_cons (kixt (K := K) (ha := (kfld (K := K) (he := (pv 0)))) (hb := pe_int)) pa_nil)) rfl)
  (pss_one (ps_for PassesOwn.never rfl (pi_enumT (by rfl) T.enumerate (pa_cons (kfld (K := K) (he := (pv 0))) pa_nil)) (pg_tup rfl (pgs_cons (pg_name (i := 2) scMatrixInit.nd rfl (by first | exact .inl rfl | exact .inr rfl)) (pgs_cons (pg_name (i := 3) scMatrixInit.nd rfl (by first | exact .inl rfl | exact .inr rfl)) pgs_nil))) (pss_one (ps_if (pt_cmpR op_ne (klen (K := K) T.len (pa_cons (pv 3) pa_nil)) (kfld (K := K) (he := (pv 0))) (nomark _)) (pss_one ps_never) pss_nil))))))), ?_⟩
    refine ⟨_, rfl, l, rfl, ⟨_, SqL.of hl⟩, fun D nD0 => ?_⟩
    have nD : H D = none := nD0
    have hDl : l ≠ D := ne_of_none hl nD
    have wl := walk_list (K := K) (a := l) (xs := refs h r)
    rw [refs_len] at wl
    refine lc_map wl (by omega) (fun j z H' => ∃ p, z = .ref p ∧ p ≠ D ∧ H' p = some (.tup (rowV w (B j)))) ?_ ?_ ?_ (mono_name 3) mono_yes nD ?_
    · rintro j z H0 H1 _ ⟨p, rfl, np, hp⟩ b
      exact ⟨p, rfl, np, b _ _ np hp⟩
    · intro H1 b
      exact SqL.of (b _ _ hDl (upd_new nD hl))
    · rintro i x H9 H0 Kc hi b ⟨o, hD⟩ ⟨rfl, hx⟩ fin
      obtain ⟨_, rfl⟩ := refs_get hx
      have s1 : Same H H0 := But.same nD b
      refine ⟨rfl, rfl, ?_⟩
      refine ⟨_, rfl, _, _, rfl, .inl ⟨SqL.of (s1 _ _ (hrows i hi)), fun p np0 => ?_⟩⟩
      have np : H0 p = none := np0
      exact fin _ _ (same_new np) ⟨p, rfl, (fun z => by rw [z, hD] at np; cases np), upd_same⟩
    · rintro H1 zs b hz hzl hzr
      obtain ⟨t, rfl, ht⟩ := refs_of (F := fun j p => p ≠ D ∧ H1 p = some (.tup (rowV w (B j)))) hzl fun j z e => hzr j z e
      have s1 : Same H H1 := But.same nD b
      refine ⟨_, _, rfl, .inl ⟨SqL.of hz, fun a na0 => ?_⟩⟩
      have na : H1 a = none := na0
      have s2 : Same H (upd H1 a (.tup (refs h t))) := s1.trans (same_new na)
      have hma : m ≠ a := ne_of_none (s1 _ _ hm) na
      refine ⟨_, rfl, m, CM, dx, [], rfl, s2 _ _ hm, M.c, M.rows, by decide, ?_⟩
      have g1 : ∀ (o : HO), upd (upd H1 a (.tup (refs h t))) m o a = some (.tup (refs h t)) := fun o => by
        rw [upd_ne hma.symm, upd_same]
      have tm : ∀ i, i < h → t i ≠ m := fun i hi z => by
        have e1 := (ht i hi).2
        rw [z, s1 _ _ hm] at e1
        cases e1
      have ta : ∀ i, i < h → t i ≠ a := fun i hi => ne_of_none (ht i hi).2 na
      have g2 : ∀ (o : HO) i, i < h → upd (upd H1 a (.tup (refs h t))) m o (t i) = some (.tup (rowV w (B i))) := fun o i hi => by
        rw [upd_ne (tm i hi), upd_ne (ta i hi)]
        exact (ht i hi).2
      refine ⟨_, rfl, _, _, _, _, _, rfl, upd_same, M.c, M.rows, rfl, _, _, rfl, .inr (SqT.of (g1 _)), ?_⟩
      refine ⟨_, rfl, m, CM, dx, _, rfl, upd_same, M.c, M.height, (by show 1 < 1000; decide), ?_⟩
      rw [upd_upd, refs_len]
      refine ⟨_, rfl, _, _, _, _, _, rfl, upd_same, M.c, M.rows, rfl, _, _, _, _, rfl, rfl, SqT.of (g1 _), atI_refs (i := 0) t h1, _, _, rfl, .inr (SqT.of (g2 _ 0 h1)), ?_⟩
      refine ⟨_, rfl, m, CM, dx, _, rfl, upd_same, M.c, M.width, (by show 2 < 1000; decide), ?_⟩
      rw [upd_upd, rowV_len]
      have hM : ∀ o, o = HO.ins CM dx (mFs a h w) → Mat (upd (upd H1 a (.tup (refs h t))) m o) CM m h w B := fun o e => by
        subst e
        exact ⟨dx, a, t, upd_same, g1 _, fun i hi => g2 _ i hi⟩
      generalize hB : upd (upd H1 a (.tup (refs h t))) m (.ins CM dx (putF "width" (.int (w : Int)) (putF "height" (.int (h : Int)) (putF "rows" (.ref a) [])))) = H3
      have hM3 : Mat H3 CM m h w B := by rw [← hB]; exact hM _ rfl
      have hb3 : But m H H3 := by rw [← hB]; exact (But.of s2).upd
      have hm3 : H3 m = some (.ins CM dx (mFs a h w)) := by rw [← hB]; exact upd_same
      have ha3 : H3 a = some (.tup (refs h t)) := by rw [← hB]; exact g1 _
      have ht3 : ∀ i, i < h → H3 (t i) = some (.tup (rowV w (B i))) := fun i hi => by rw [← hB]; exact g2 _ i hi
      refine ⟨_, rfl, _, _, _, _, _, rfl, hm3, M.c, M.rows, rfl, _, _, rfl, ha3, ?_⟩
      have we := walk_enumT (a := a) (xs := refs h t)
      refine for_it we (fun i σ H' => Same H3 H' ∧ ∃ x y, σ = [some (.ref m), some (.ref l), x, y]) ⟨Same.refl _, _, _, rfl⟩ (fun i σ H' _ p => p.1 _ _ ha3) ?_ ?_
      · rintro i x σ H4 H5 hi ⟨s4, u, v, rfl⟩ ⟨T0, x0, y0, rfl, nT, rfl, e1, e2⟩
        obtain ⟨_, rfl⟩ := refs_get e2
        rw [refs_len] at hi
        have s5 : Same H3 (upd H4 T0 (.tup [x0, .ref (t i)])) := s4.trans (same_new nT)
        refine ⟨_, _, rfl, SqT.of upd_same, rfl, _, _, rfl, _, _, rfl, rfl, ?_⟩
        refine ⟨_, rfl, _, _, rfl, .inr (SqT.of (s5 _ _ (ht3 i hi))), _, rfl, _, _, _, _, _, rfl, s5 _ _ hm3, M.c, M.width, rfl, rfl, _, rfl, ?_⟩
        rw [rowV_len]
        refine ifF (by rw [decide_eq_true rfl]; rfl) ?_
        exact ⟨s5, _, _, rfl⟩
      · rintro σ H4 ⟨s4, _⟩
        exact q H4 (hb3.trans (But.of s4)) (hM3.same s4)
end
end Wk
/-! Wk5: Matrix.diagonal, .unit, .part; column_part, all_columns. -/
namespace Wk
open PySem PySem.Spec PyProof.Rows L2 Ev
theorem rep_one (n : Nat) (c : Int) : (List.replicate n [V.int c]).flatten = rowV n fun _ => c := by
  induction n with
  | zero => rfl
  | succ n ih =>
    rw [List.replicate_succ', List.flatten_append, ih, rowV_succ]
    rfl
/-- a new Matrix of these numbers is told -/
def RetM (CM : Addr) (H : Hp) (Q : VK) (h w : Nat) (A : Mx) : Prop := ∀ m H', Same H H' → Mat H' CM m h w A → Q (.ref m) H'
/-- Matrix(..) -/
structure MkM (K : PySem.W.Frag) (mg : Str → Option Value) (CM fi : Addr) (fdi : FuncData) : Prop where
  c : MCl K CM
  mkc : Mk K CM fi
  b : Binds K fdi ["self", "rows"] []
  g : mg "Matrix" = some (.ref CM)
theorem made_mat {CM l : Addr} {h w : Nat} {A : Mx} {H : Hp} {Q : Addr → Hp → Prop} {E : XK} (hb : 1 ≤ h ∧ h ≤ 5 ∧ w ≤ 5) (hl : RowsL H l h w A) (q : ∀ m H', Same H H' → Mat H' CM m h w A → Q m H') (x dx : Addr) (nx : H x = none) (nd : H dx = none) (hne : dx ≠ x) :
    spMInit CM (.ref x :: ([.ref l] ++ [])) (upd (upd H dx (.own x)) x (.ins CM dx [])) (fun v H2 => v = .non ∧ Q x H2) E := by
  have s1 : Same H (upd H dx (.own x)) := same_new nd
  have nx' : upd H dx (.own x) x = none := by
    rw [upd_ne hne.symm]
    exact nx
  refine ⟨x, dx, l, h, w, A, rfl, upd_same, hb, hl.same (s1.trans (same_new nx')), fun H' b m => ⟨rfl, q x H' ?_ m⟩⟩
  exact s1.trans (But.same nx' b)
section
variable {P : Program} {w : World} {K : PySem.W.Frag} {mg : Str → Option Value} {base : Heap} {CM : Addr} {fi f : Addr} {fdi fd : FuncData} {k : Nat}
theorem toR {CX : CXT} {sp : Sp} {ps : List Str} (F : FnOk P w K mg base CX k f fd ps sp) (b : Binds K fd ps []) : FnR P w K mg base CX k f sp := fun A outer s H us vs Q E hr e0 r hs => by
  have l := F.len _ _ _ _ hs
  have hin : K.In s.heap := e0.mod.kin.keeps fun b o e => (e0.bs b o e).1
  have q := b s us hin (by rw [List.append_nil, ← r.length, l])
  rw [List.append_nil] at q
  exact F.run A outer s H ⟨us, []⟩ us vs Q E hr e0 q r hs
def spDiag (CM : Addr) : Sp := fun vs H Q _ => ∃ (l : Addr) (n : Nat), vs = [.ref CM, .ref l, .int (n : Int), .int (n : Int)] ∧ (1 ≤ n ∧ n ≤ 5) ∧ H l = some (.lst (rowV n fun _ => 1)) ∧ RetM CM H Q n n unit
theorem ok_diag (F : Fun K "diagonal" "Matrix.diagonal" sMatrixDiagonal f fd) (MM : MkM K mg CM fi fdi) (G : FnOk P w K mg base CX0 k fi fdi ["self", "rows"] (spMInit CM)) (T : Blt mg) :
    FnOk P w K mg base CX0 (k + 2) f fd ["cls", "numbers", "height", "width"] (spDiag CM) := by
  refine F.ok scMatrixDiagonal (fun vs H Q E h => ?_) (fun cdv A outer s H vs Q E hr h => ?_)
  · obtain ⟨l, n, rfl, _⟩ := h
    rfl
  · obtain ⟨l, n, rfl, ⟨h1, h5⟩, hl, q⟩ := h
    refine ⟨_, (pss_cons (ps_setLc (i := 4) (own := [("i", 7)]) (g := (gName 7)) (tt := tYes) rfl scMatrixDiagonal.nd rfl rfl (sw_true rfl rfl rfl (by decide +kernel)) (pi_range1 (by rfl) T.range (pa_cons (pv 2) pa_nil)) (blkOk_by (N := nMatrixDiagonal) (sc := defScope sMatrixDiagonal) (by decide +kernel)) (fun _ _ _ _ _ => (pg_name (i := 7) scMatrixDiagonal.nd rfl (by first | exact .inl rfl | exact .inr rfl))) (fun _ _ _ _ _ => pts_nil) (fun _ _ _ _ _ => (pe_op op_rep (pe_lst (pa_cons pe_int pa_nil)) (pv 3))))
  (pss_cons (ps_for PassesOwn.never rfl (pi_enum (by rfl) T.enumerate (pa_cons (pv 1) pa_nil)) (pg_tup rfl (pgs_cons (pg_name (i := 5) scMatrixDiagonal.nd rfl (by first | exact .inl rfl | exact .inr rfl)) (pgs_cons (pg_name (i := 6) scMatrixDiagonal.nd rfl (by first | exact .inl rfl | exact .inr rfl)) pgs_nil))) (pss_one (ps_asg (pv 6) (pg_sub (kixl (K := K) (ha := (pv 4)) (hb := (pv 5))) (pv 5) set_list))))
  (pss_one (ps_ret (pe_makeL (i := 0) MM.mkc G hr MM.b .nil pass0 (pa_cons (pv 4) pa_nil)))))), ?_⟩
    refine ⟨_, rfl, _, rfl, by omega, by omega, fun D nD0 => ?_⟩
    have nD : H D = none := nD0
    refine lc_new walk_range (by omega) (fun _ => .lst (rowV n fun _ => 0)) (fun _ _ => trivial) ?_ (mono_name 7) mono_yes nD ?_
    · rintro i x H9 H0 Kc hi b ⟨o, hD⟩ ⟨rfl, rfl⟩ fin
      refine ⟨rfl, rfl, size_ok (by show 1 ≤ 100000; decide), fun p1 np1 => ?_⟩
      have np1' : H0 p1 = none := np1
      refine ⟨_, rfl, _, _, _, rfl, rfl, upd_same, by omega, by omega, size_ok (by show 1 * _ ≤ _; omega), fun p2 np2 => ?_⟩
      have np2' : upd H0 p1 (.lst [.int 0]) p2 = none := np2
      refine fin p2 _ ((same_new np1').trans (same_new np2')) ((same_new np1').free np2') ?_
      rw [upd_same]
      exact congrArg (fun l => some (HO.lst l)) (rep_one _ _)
    · rintro H1 t b hz hr hn' hj
      have en : ((n : Int)).toNat = n := by omega
      have s1 : Same H H1 := But.same nD b
      have hDl : l ≠ D := ne_of_none hl nD
      refine ⟨_, rfl, l, _, rfl, SqL.of (s1 _ _ hl), ?_⟩
      have we := walk_enum (K := K) (a := l) (xs := rowV n fun _ => 1)
      rw [rowV_len] at we
      refine for_it we (fun i σ H' => Same H H' ∧ (∃ x y z, σ = [some (.ref CM), some (.ref l), some (.int (n : Int)), some (.int (n : Int)), some (.ref D), x, y, z]) ∧ H' D = some (.lst (refs n t)) ∧ ∀ j, j < n → H' (t j) = some (.lst (rowV n fun c => if j = c ∧ j < i then 1 else 0)))
        ⟨s1, ⟨_, _, _, rfl⟩, by rw [hz, en], fun j hj => ?_⟩ (fun i σ H' _ p => SqL.of (p.1 _ _ hl)) ?_ ?_
      · rw [hr j (by omega)]
        exact congrArg (fun l => some (HO.lst l)) (rowV_congr fun c _ => by rw [if_neg (by omega)])
      · rintro i x σ H4 H5 hi ⟨s4, ⟨a1, a2, a3, rfl⟩, hD4, ht4⟩ ⟨T0, x0, y0, rfl, nT, rfl, e1, e2⟩
        obtain ⟨_, rfl⟩ := rowV_get e2
        cases e1
        have s5 : Same H4 (upd H4 T0 (.tup [.int ((i : Nat) : Int), .int 1])) := same_new nT
        refine ⟨_, _, rfl, SqT.of upd_same, rfl, _, _, rfl, _, _, rfl, rfl, ?_⟩
        refine ⟨_, rfl, _, rfl, _, rfl, _, _, _, _, rfl, rfl, SqL.of (s5 _ _ hD4), atI_refs t hi, _, rfl, _, _, _, i, rfl, rfl, s5 _ _ (ht4 i hi), (by rw [rowV_len]; exact ixN_nat hi), ?_⟩
        have tD : ∀ j, j < n → t j ≠ D := fun j hj => (hn' j (by omega)).2
        refine ⟨fun b' o' h' => ?_, ⟨_, _, _, rfl⟩, ?_, fun j hj' => ?_⟩
        · have ne : b' ≠ t i := fun z => by
            have := (hn' i (by omega)).1
            rw [← z, h'] at this
            cases this
          rw [upd_ne ne]
          exact s5 _ _ (s4 _ _ h')
        · rw [upd_ne (tD i hi).symm]
          exact s5 _ _ hD4
        · by_cases e : j = i
          · subst e
            rw [upd_same, rowV_set]
            refine congrArg (fun l => some (HO.lst l)) (rowV_congr fun c _ => ?_)
            by_cases e : c = j
            · rw [if_pos e, if_pos ⟨e.symm, by omega⟩]
            · rw [if_neg e, if_neg (fun z => e z.1.symm), if_neg (fun z => e z.1.symm)]
          · rw [upd_ne (fun z => e (hj j i (by omega) (by omega) z)), s5 _ _ (ht4 j hj')]
            refine congrArg (fun l => some (HO.lst l)) (rowV_congr fun c _ => ?_)
            by_cases e2 : j = c ∧ j < i
            · rw [if_pos e2, if_pos ⟨e2.1, by omega⟩]
            · rw [if_neg e2, if_neg (fun z => e2 ⟨z.1, by omega⟩)]
      · rintro σ H4 ⟨s4, ⟨a1, a2, a3, rfl⟩, hD4, ht4⟩
        refine ⟨rfl, _, rfl, made_mat ⟨h1, h5, h5⟩ ⟨t, hD4, ht4⟩ fun m H5 s5 hm => q m H5 (s4.trans s5) (hm.congr fun i j hi hj => ?_)⟩
        show (if i = j ∧ i < n then (1 : Int) else 0) = if i = j then 1 else 0
        by_cases e : i = j
        · rw [if_pos ⟨e, hi⟩, if_pos e]
        · rw [if_neg e, if_neg fun z => e z.1]
structure MUn (K : PySem.W.Frag) (CM : Addr) (mc : Value) (pd fD pu fU : Addr) (fdD fdU : FuncData) : Prop where
  r : ClX.CRead K CM mc
  d : ClX.CMet K CM mc "diagonal" pd fD
  b : Binds K fdD ["cls", "numbers", "height", "width"] []
  u : ClX.CMet K CM mc "unit" pu fU
  ub : Binds K fdU ["cls", "n"] []
def spUnit (CM : Addr) : Sp := fun vs H Q _ => ∃ n : Nat, vs = [.ref CM, .int (n : Int)] ∧ (1 ≤ n ∧ n ≤ 5) ∧ RetM CM H Q n n unit
theorem ok_unit {pd fD pu fU : Addr} {fdD fdU : FuncData} {mc : Value} (F : Fun K "unit" "Matrix.unit" sMatrixUnit fU fdU) (MU : MUn K CM mc pd fD pu fU fdD fdU) (G : FnOk P w K mg base CX0 k fD fdD ["cls", "numbers", "height", "width"] (spDiag CM)) :
    FnOk P w K mg base CX0 (k + 1) fU fdU ["cls", "n"] (spUnit CM) := by
  refine F.ok scMatrixUnit (fun vs H Q E h => ?_) (fun cdv A outer s H vs Q E hr h => ?_)
  · obtain ⟨n, rfl, _⟩ := h
    rfl
  · obtain ⟨n, rfl, ⟨h1, h5⟩, q⟩ := h
    refine ⟨_, (pss_one (ps_ret (ClX.pe_cmeth (pv 0) MU.r MU.d (toR G MU.b) hr pass0 (pa_cons (pe_op op_rep (pe_lst (pa_cons pe_int pa_nil)) (pv 1)) (pa_cons (pv 1) (pa_cons (pv 1) pa_nil)))))), ?_⟩
    refine ⟨_, rfl, rfl, ?_⟩
    refine ⟨size_ok (by show 1 ≤ 100000; decide), fun p1 np1 => ?_⟩
    have np1' : H p1 = none := np1
    refine ⟨_, rfl, _, _, _, rfl, rfl, upd_same, by omega, by omega, size_ok (by show 1 * _ ≤ _; omega), fun p2 np2 => ?_⟩
    have np2' : upd H p1 (.lst [.int 1]) p2 = none := np2
    refine ⟨_, rfl, _, rfl, p2, n, rfl, ⟨h1, h5⟩, ?_, fun m H' s m' => q m H' (((same_new np1').trans (same_new np2')).trans s) m'⟩
    rw [upd_same]
    exact congrArg (fun l => some (HO.lst l)) (rep_one n 1)
def fsc (names : List (Str × NameKind)) : Scope := { kind := .function, names := names, isGenerator := false, isCoroutine := false }
abbrev scP1 : Scope := fsc [(".0", .local), ("i", .cell), ("columns", .free), ("self", .free)]
def spPart (CM : Addr) : Sp := fun vs H Q _ => ∃ (m l q : Addr) (h w : Nat) (A : Mx) (c : List Nat), vs = [.ref m, .ref l, .ref q] ∧ Mat H CM m h w A ∧ (1 ≤ h ∧ h ≤ 5 ∧ c.length ≤ 5 ∧ ∀ x ∈ c, x < w) ∧ H l = some (.lst (natL (List.range h))) ∧ H q = some (.lst (natL c)) ∧ RetM CM H Q h c.length (cols A c)
theorem ok_part (F : Fun K "part" "Matrix.part" sMatrixPart f fd) (MM : MkM K mg CM fi fdi) (G : FnOk P w K mg base CX0 k fi fdi ["self", "rows"] (spMInit CM)) :
    FnOk P w K mg base CX0 (k + 2) f fd ["self", "rows", "columns"] (spPart CM) := by
  refine F.ok scMatrixPart (fun vs H Q E h => ?_) (fun cdv A outer s H vs Q E hr h => ?_)
  · obtain ⟨m, l, q, h, w, B, c, rfl, _⟩ := h
    rfl
  · obtain ⟨m, l, q0, h, w, B, c, rfl, ⟨dx, a, r, hm, ha, hr0⟩, ⟨h1, h5, c5, hc⟩, hl, hq, q⟩ := h
    refine ⟨_, (pss_one (ps_ret (pe_make MM.mkc G hr (by rfl) MM.g MM.b .nil pass0 (pa_cons (pe_lc (own := [("i", 3)]) (g := (gName 3)) (tt := tYes) rfl scMatrixPart.nd (kpil (K := K) (hl := (pv 1))) (blkOk_by (N := nMatrixPart) (sc := defScope sMatrixPart) (by decide +kernel)) (fun _ _ _ _ _ => (pg_name (i := 3) scMatrixPart.nd rfl (by first | exact .inl rfl | exact .inr rfl))) (fun _ _ _ _ _ => pts_nil) (fun _ _ _ _ _ => (pe_lc (own := [("j", 4)]) (g := (gName 4)) (tt := tYes) rfl scMatrixPart.nd (kpil (K := K) (hl := (pv 2))) (blkOk_by (N := nMatrixPart) (sc := relS scP1 (defScope sMatrixPart)) (by decide +kernel)) (fun _ _ _ _ _ => (pg_name (i := 4) scMatrixPart.nd rfl (by first | exact .inl rfl | exact .inr rfl))) (fun _ _ _ _ _ => pts_nil) (fun _ _ _ _ _ => (kixt (K := K) (ha := (kixt (K := K) (ha := (kfld (K := K) (he := (pv 0)))) (hb := (pv 3)))) (hb := (pv 4))))))) pa_nil)))), ?_⟩
    refine ⟨_, rfl, _, rfl, ⟨_, SqL.of hl⟩, fun D nD0 => ?_⟩
    have nD : H D = none := nD0
    have hlD : l ≠ D := ne_of_none hl nD
    have wl := walk_list (K := K) (a := l) (xs := natL (List.range h))
    rw [natL_len, List.length_range] at wl
    refine lc_new wl (by omega) (fun i => .lst (rowV c.length (cols B c i))) (fun H' b => SqL.of (b _ _ hlD (upd_new nD hl))) ?_ (mono_name 3) mono_yes nD ?_
    · rintro i x H9 H0 Kc hi b ⟨o, hD⟩ ⟨rfl, hx⟩ fin
      obtain ⟨i', hi', rfl⟩ := natL_get hx
      have ei : i' = i := by
        rw [List.getElem?_range hi] at hi'
        exact (Option.some.inj hi').symm
      subst ei
      have s1 : Same H H0 := But.same nD b
      refine ⟨rfl, rfl, ?_⟩
      refine ⟨_, rfl, _, rfl, ⟨_, SqL.of (s1 _ _ hq)⟩, fun D2 nD20 => ?_⟩
      have nD2 : H0 D2 = none := nD20
      have hqD : q0 ≠ D2 := ne_of_none (s1 _ _ hq) nD2
      have w2 := walk_list (K := K) (a := q0) (xs := natL c)
      rw [natL_len] at w2
      refine lc_map w2 (by omega) (fun j z _ => z = .int (cols B c i' j)) (fun _ _ _ _ _ h _ => h) (fun H' b => SqL.of (b _ _ hqD (upd_new nD2 (s1 _ _ hq)))) ?_ (mono_name 4) mono_yes nD2 ?_
      · rintro j x H8 H7 Kc2 hj b2 _ ⟨rfl, hx2⟩ fin2
        obtain ⟨y, hy, rfl⟩ := natL_get hx2
        have s2 : Same H H7 := s1.trans (But.same nD2 b2)
        refine ⟨rfl, rfl, ?_⟩
        refine ⟨_, rfl, _, _, _, _, _, rfl, s2 _ _ hm, MM.c.c, MM.c.rows, rfl, _, rfl, _, _, _, _, rfl, rfl, SqT.of (s2 _ _ ha), atI_refs r hi, _, rfl, _, _, _, _, rfl, rfl, SqT.of (s2 _ _ (hr0 i' hi)), atI_row _ (hc y (List.mem_of_getElem? hy)), ?_⟩
        refine fin2 _ _ (Same.refl _) ?_
        show V.int (B i' y) = V.int (B i' (c.getD j 0))
        rw [List.getD_eq_getElem?_getD, hy]
        rfl
      · intro H7 zs b2 hz hzl hzr
        refine fin D2 H7 (But.same nD2 b2) nD2 ?_
        rw [hz, row_of hzl hzr]
    · intro H1 t b hz hr hn' hj
      have s1 : Same H H1 := But.same nD b
      exact made_mat ⟨h1, h5, c5⟩ ⟨t, hz, hr⟩ fun m' H' s' hm' => q m' H' (s1.trans s') hm'
def spAll (CM : Addr) : Sp := fun vs H Q _ => ∃ (m : Addr) (h w : Nat) (A : Mx), vs = [.ref m] ∧ Mat H CM m h w A ∧ (1 ≤ w ∧ w ≤ 5) ∧ RetLL H Q (allc w)
theorem allc_take {w : Nat} (h1 : 1 ≤ w) (h5 : w ≤ 5) {i : Nat} (hi : i ≤ w + 1) : ((List.range i).flatMap (chs w)).length ≤ 32 := by
  have e : allc w = (List.range i).flatMap (chs w) ++ ((List.range (w + 1 - i)).map (i + ·)).flatMap (chs w) := by
    rw [← List.flatMap_append, ← List.range_add, show i + (w + 1 - i) = w + 1 from by omega]
    rfl
  have := (allc_perm h1 h5).length_eq
  have l := slists_len h1 h5
  rw [e, List.length_append] at this
  omega
theorem ok_all {fc : Addr} {fdc : FuncData} (F : Fun K "all_columns" "all_columns" sAllColumns f fd) (MM : MCl K CM) (CC : Cal K mg "choices" sChoices ["many", "size"] fc fdc) (G : FnOk P w K mg base CX0 k fc fdc ["many", "size"] (spChoices 5)) (T : Blt mg) :
    FnOk P w K mg base CX0 (k + 1) f fd ["matrix"] (spAll CM) := by
  refine F.ok scAllColumns (fun vs H Q E h => ?_) (fun cdv A outer s H vs Q E hr h => ?_)
  · obtain ⟨m, h, w, B, rfl, _⟩ := h
    rfl
  · obtain ⟨m, h, w, B, rfl, ⟨dx, a, r, hm, ha, hr0⟩, ⟨h1, h5⟩, q⟩ := h
    refine ⟨_, (pss_cons (ps_set (i := 1) scAllColumns.nd rfl (by first | exact .inl rfl | exact .inr rfl) (pe_lst pa_nil))
  (pss_cons (ps_for PassesOwn.never rfl (pi_range1 (by rfl) T.range (pa_cons (pe_op op_add (kfld (K := K) (he := (pv 0))) pe_int) pa_nil)) (pg_name (i := 2) scAllColumns.nd rfl (by first | exact .inl rfl | exact .inr rfl)) (pss_one (ps_expr (pe_bm PySem.F.plainAttrs_list PySem.F.slot_list_extend PySem.F.type_list_extend mt_extend (pv 1) (pa_cons (pcal CC G hr pass0 (pa_cons (kfld (K := K) (he := (pv 0))) (pa_cons (pv 2) pa_nil))) pa_nil)))))
  (pss_one (ps_ret (pv 1))))), ?_⟩
    refine ⟨size_ok (by show 0 ≤ 100000; decide), fun R nR0 => ?_⟩
    have nR : H R = none := nR0
    have hmR : m ≠ R := ne_of_none hm nR
    refine ⟨_, rfl, _, _, _, _, _, rfl, upd_new nR hm, MM.c, MM.width, rfl, _, _, rfl, rfl, _, rfl, by omega, by omega, ?_⟩
    have en : ((w : Int) + 1).toNat = w + 1 := by omega
    rw [en]
    refine for_range (fun i σ H' => ∃ x ys, σ = [some (.ref m), some (.ref R), x] ∧ H' R = some (.lst ys) ∧ LLs (upd H R (.lst [])) H' ys ((List.range i).flatMap (chs w)) ∧ But R (upd H R (.lst [])) H')
      ⟨none, [], rfl, upd_same, .nil, But.refl _ _⟩ ?_ ?_
    · rintro i σ H0 hi ⟨x, ys, rfl, hy, ly, bu⟩
      have s1 : Same H H0 := But.same nR bu
      refine ⟨_, rfl, .inl ⟨rfl, ys, SqL.of hy⟩, ?_⟩
      refine ⟨_, rfl, _, _, _, _, _, rfl, s1 _ _ hm, MM.c, MM.width, rfl, _, rfl, w, i, (by show [V.int (w : Int), V.int (0 + (i : Int))] = _; rw [Int.zero_add]), h1, h5, by omega, by omega, fun p zs H2 np s2 hp lz => ?_⟩
      refine ⟨_, _, _, _, rfl, rfl, s2 _ _ hy, hp, ?_, ?_⟩
      · have a1 := allc_take h1 h5 (show i ≤ w + 1 by omega)
        have a2 := chs_len h1 h5 (show i ≤ w by omega)
        rw [ly.len, lz.len]
        exact size_ok (by omega)
      · refine ⟨_, _, rfl, upd_same, ?_, (bu.trans (But.of s2)).upd⟩
        have e3 : (List.range (i + 1)).flatMap (chs w) = (List.range i).flatMap (chs w) ++ chs w i := by
          rw [List.range_succ, List.flatMap_append]
          simp
        rw [e3]
        refine paired_app ((ly.same s2).but upd_same (But.refl _ _).upd) ?_
        have lz2 : LLs H0 (upd H2 R (.lst (ys ++ zs))) zs (chs w i) := lz.but hy (But.refl _ _).upd
        exact lz2.less fun q nq => by
          have qR : q ≠ R := fun z => by rw [z, hy] at nq; cases nq
          rw [upd_ne qR]
          exact s1.free nq
    · rintro σ H0 ⟨x, ys, rfl, hy, ly, bu⟩
      exact ⟨_, rfl, q R ys H0 nR (But.same nR bu) hy (ly.less fun q nq => (same_new nR).free nq)⟩
def spCPart (CM : Addr) : Sp := fun vs H Q _ => ∃ (m q : Addr) (h w : Nat) (A : Mx) (c : List Nat), vs = [.ref m, .ref q] ∧ Mat H CM m h w A ∧ (1 ≤ h ∧ h ≤ 5 ∧ c.length ≤ 5 ∧ ∀ x ∈ c, x < w) ∧ H q = some (.lst (natL c)) ∧ RetM CM H Q h c.length (cols A c)
theorem ok_cpart {fp : Addr} {fdp : FuncData} (F : Fun K "column_part" "column_part" sColumnPart f fd) (MM : MkM K mg CM fi fdi) (MP : Meth K CM "part" fp) (hb : Binds K fdp ["self", "rows", "columns"] []) (G : FnOk P w K mg base CX0 k fp fdp ["self", "rows", "columns"] (spPart CM)) (T : Blt mg) :
    FnOk P w K mg base CX0 (k + 1) f fd ["matrix", "columns"] (spCPart CM) := by
  refine F.ok scColumnPart (fun vs H Q E h => ?_) (fun cdv A outer s H vs Q E hr h => ?_)
  · obtain ⟨m, q0, h, w, B, c, rfl, _⟩ := h
    rfl
  · obtain ⟨m, q0, h, w, B, c, rfl, hM, hcs, hq, q⟩ := h
    have hM' := hM
    obtain ⟨dx, a, r, hm, ha, hr0⟩ := hM'
    refine ⟨_, (pss_one (ps_ret (pe_meth (pl := _) (pv 0) MM.c.c MP G hr hb .nil pass0 (pa_cons (pe_listRg rfl (by rfl) T.list (prg_1 (by rfl) T.range (kfld (K := K) (he := (pv 0))))) (pa_cons (pv 1) pa_nil))))), ?_⟩
    refine ⟨_, rfl, _, _, _, rfl, hm, rfl, ?_⟩
    refine ⟨_, rfl, _, _, _, _, _, rfl, hm, MM.c.c, MM.c.height, rfl, ?_⟩
    refine ⟨_, rfl, RgOk.of_le (by omega) (by omega) (by omega) (by omega), fun p np0 => ?_⟩
    have np : H p = none := np0
    refine ⟨_, rfl, m, p, q0, h, w, B, c, rfl, hM.same (same_new np), hcs, ?_, same_new np _ _ hq, fun m' H' s m2 => q m' H' ((same_new np).trans s) m2⟩
    rw [upd_same]
    refine congrArg (fun l => some (HO.lst l)) ?_
    unfold rgV natL
    rw [show ((h : Int) - 0).toNat = h from by omega]
    refine List.map_congr_left fun i _ => ?_
    rw [Int.zero_add]
end
end Wk
/-! Wk6: added_row, added_column, exchanged_columns. -/
namespace Wk
open PySem PySem.Spec PyProof.Rows L2 Ev
theorem mono_pair {K : PySem.W.Frag} (i j : Nat) : ∀ x σ H (Q Q' : L2.St → Hp → Prop), (∀ σ H, Q σ H → Q' σ H) → gTup K 2 (gCons (gName i) (gCons (gName j) gNil)) x σ H Q → gTup K 2 (gCons (gName i) (gCons (gName j) gNil)) x σ H Q' := by
  rintro x σ H Q Q' h ⟨a, xs, rfl, hs, hl, v, r, rfl, v2, r2, rfl, rfl, q⟩
  exact ⟨a, _, rfl, hs, hl, v, _, rfl, v2, _, rfl, rfl, h _ _ q⟩
def spAddRow : Sp := fun vs H Q _ => ∃ (a : Addr) (r : Nat → Addr) (n m t s : Nat) (c : Int) (X Y : Nat → Int), vs = [.ref a, .int (t : Int), .int (s : Int), .int c] ∧ (t < n ∧ s < n ∧ m ≤ 5) ∧ H a = some (.lst (refs n r)) ∧ H (r t) = some (.lst (rowV m X)) ∧ H (r s) = some (.lst (rowV m Y)) ∧
  (∀ j, j < m → IntMulOk c (Y j)) ∧ ∀ q H', H q = none → H' q = some (.lst (rowV m fun j => X j + c * Y j)) → H' a = some (.lst (refs n fun k => if k = t then q else r k)) → But a H H' → Q .non H'
section
variable {P : Program} {w : World} {K : PySem.W.Frag} {mg : Str → Option Value} {base : Heap} {f : Addr} {fd : FuncData} {k : Nat}
theorem ok_addRow (F : Fun K "added_row" "added_row" sAddedRow f fd) (T : Blt mg) : FnOk P w K mg base CX0 (k + 1) f fd ["rows", "target", "source", "factor"] spAddRow := by
  refine F.ok scAddedRow (fun vs H Q E h => ?_) (fun cdv A outer s H vs Q E hr h => ?_)
  · obtain ⟨a, r, n, m, t, s, c, x, y, rfl, _⟩ := h
    rfl
  · obtain ⟨a, r, n, m, t, s, c, x, y, rfl, ⟨ht, hs, hm⟩, ha, hx, hy, hc, q⟩ := h
    refine ⟨_, (pss_one (ps_asg (pe_lc (own := [("i", 4), ("j", 5)]) (g := gTup K 2 (gCons (gName 4) (gCons (gName 5) gNil))) (tt := tYes) rfl scAddedRow.nd (kzip (K := K) T.zip (pa_cons (kixl (K := K) (ha := (pv 0)) (hb := (pv 1))) (pa_cons (kixl (K := K) (ha := (pv 0)) (hb := (pv 2))) pa_nil))) (blkOk_by (N := nAddedRow) (sc := defScope sAddedRow) (by decide +kernel)) (fun _ _ _ _ _ => (kpg_tup (K := K) rfl (pgs_cons (pg_name (i := 4) scAddedRow.nd rfl (by first | exact .inl rfl | exact .inr rfl)) (pgs_cons (pg_name (i := 5) scAddedRow.nd rfl (by first | exact .inl rfl | exact .inr rfl)) pgs_nil)))) (fun _ _ _ _ _ => pts_nil) (fun _ _ _ _ _ => (pe_op op_add (pv 4) (pe_op op_mulX (pv 3) (pv 5))))) (pg_sub (pv 0) (pv 1) set_list))), ?_⟩
    refine ⟨_, rfl, _, rfl, _, _, _, _, rfl, rfl, SqL.of ha, atI_refs r ht, _, rfl, _, rfl, _, _, _, _, rfl, rfl, SqL.of ha, atI_refs r hs, _, _, _, _, rfl, SqL.of hx, SqL.of hy, fun D nD0 => ?_⟩
    have nD : H D = none := nD0
    have hxD := ne_of_none hx nD
    have hyD := ne_of_none hy nD
    have wz := walk_zip (K := K) (a := r t) (b := r s) (xs := rowV m x) (ys := rowV m y) (n := m) (by rw [rowV_len, rowV_len, Nat.min_self])
    refine lc_map wz (by omega) (fun j z _ => z = .int (x j + c * y j)) (fun _ _ _ _ _ h _ => h) (fun H' b => ⟨SqL.of (b _ _ hxD (upd_new nD hx)), SqL.of (b _ _ hyD (upd_new nD hy))⟩) ?_ (mono_pair 4 5) mono_yes nD ?_
    · rintro i v H0 H1 Kc hi b ⟨o, hD⟩ ⟨T0, x0, y0, rfl, nT, rfl, e1, e2⟩ fin
      obtain ⟨_, rfl⟩ := rowV_get e1
      obtain ⟨_, rfl⟩ := rowV_get e2
      refine ⟨_, _, rfl, SqT.of upd_same, rfl, _, _, rfl, _, _, rfl, rfl, rfl, rfl, ?_⟩
      exact ⟨_, rfl, _, rfl, _, rfl, _, _, rfl, rfl, hc i hi, _, _, rfl, rfl, fin _ _ (same_new nT) rfl⟩
    · intro H1 zs b hz hzl hzr
      have s1 : Same H H1 := But.same nD b
      have haD := ne_of_none ha nD
      refine ⟨_, rfl, _, rfl, a, _, _, t, rfl, rfl, s1 _ _ ha, (by rw [refs_len]; exact ixN_nat ht), ?_⟩
      rw [refs_set]
      exact q D _ nD (by rw [upd_ne haD.symm, hz, row_of hzl hzr]) upd_same ((But.of s1).upd)
/-- the rows at r have become N, all else stays -/
def Rewr (H H' : Hp) (n m : Nat) (r : Nat → Addr) (N : Mx) : Prop := (∀ i, i < n → H' (r i) = some (.lst (rowV m (N i)))) ∧ ∀ b o, (∀ i, i < n → b ≠ r i) → H b = some o → H' b = some o
structure Rws (H : Hp) (a : Addr) (n m : Nat) (r : Nat → Addr) (N : Mx) : Prop where
  top : H a = some (.lst (refs n r))
  row : ∀ i, i < n → H (r i) = some (.lst (rowV m (N i)))
  inj : ∀ i j, i < n → j < n → r i = r j → i = j
theorem Rws.ne {H : Hp} {a : Addr} {n m : Nat} {r : Nat → Addr} {N : Mx} (x : Rws H a n m r N) {i : Nat} (hi : i < n) : a ≠ r i := fun z => by
  have h1 := x.top
  have h2 := x.row i hi
  rw [z, h2] at h1
  exact refs_ne_row (n := n) (w := m) (r := r) (f := N i) (by omega) (Option.some.inj h1).symm
def mixN (i : Nat) (N2 N : Mx) : Mx := fun k => if k < i then N2 k else N k
theorem mix_lt {i k : Nat} {N2 N : Mx} (h : k < i) : mixN i N2 N k = N2 k := if_pos h
theorem mix_ge {i k : Nat} {N2 N : Mx} (h : ¬ k < i) : mixN i N2 N k = N k := if_neg h
/-- one row after another -/
theorem Rewr.step {H H' : Hp} {n m : Nat} {r : Nat → Addr} {N N2 : Mx} {i : Nat} (inj : ∀ i j, i < n → j < n → r i = r j → i = j) (hi : i < n) (x : Rewr H H' n m r (mixN i N2 N)) :
    Rewr H (upd H' (r i) (.lst (rowV m (N2 i)))) n m r (mixN (i + 1) N2 N) := by
  refine ⟨fun k hk => ?_, fun b o hb h => ?_⟩
  · by_cases e : k = i
    · subst e
      rw [upd_same, mix_lt (by omega)]
    · rw [upd_ne (fun z => e (inj k i hk hi z)), x.1 k hk]
      by_cases e2 : k < i
      · rw [mix_lt e2, mix_lt (by omega)]
      · rw [mix_ge e2, mix_ge (by omega)]
  · rw [upd_ne (hb i hi)]
    exact x.2 b o hb h
theorem Rewr.start {H : Hp} {n m : Nat} {r : Nat → Addr} {N N2 : Mx} (h : ∀ i, i < n → H (r i) = some (.lst (rowV m (N i)))) : Rewr H H n m r (mixN 0 N2 N) :=
  ⟨fun i hi => by rw [mix_ge (by omega)]; exact h i hi, fun _ _ _ h => h⟩
theorem Rewr.fin {H H' : Hp} {n m : Nat} {r : Nat → Addr} {N N2 : Mx} (x : Rewr H H' n m r (mixN n N2 N)) : Rewr H H' n m r N2 :=
  ⟨fun i hi => by rw [x.1 i hi, mix_lt hi], x.2⟩
def spAddCol : Sp := fun vs H Q _ => ∃ (a : Addr) (r : Nat → Addr) (n m t s : Nat) (c : Int) (N : Mx), vs = [.ref a, .int (t : Int), .int (s : Int), .int c] ∧ (t < m ∧ s < m ∧ m ≤ 5) ∧ Rws H a n m r N ∧ (∀ i, i < n → IntMulOk c (N i s)) ∧
  ∀ H', Rewr H H' n m r (colAdd N t s c) → Q .non H'
theorem ok_addCol (F : Fun K "added_column" "added_column" sAddedColumn f fd) : FnOk P w K mg base CX0 (k + 1) f fd ["rows", "target", "source", "factor"] spAddCol := by
  refine F.ok scAddedColumn (fun vs H Q E h => ?_) (fun cdv A outer s H vs Q E hr h => ?_)
  · obtain ⟨a, r, n, m, t, s, c, N, rfl, _⟩ := h
    rfl
  · obtain ⟨a, r, n, m, t, s, c, N, rfl, ⟨ht, hs, hm⟩, hw, hc, q⟩ := h
    refine ⟨_, (pss_one (ps_for PassesOwn.never rfl (kpil (K := K) (hl := (pv 0))) (pg_name (i := 4) scAddedColumn.nd rfl (by first | exact .inl rfl | exact .inr rfl)) (pss_one (ps_augS (pv 4) (pv 1) get_list (pe_op op_mulX (pv 3) (kixl (K := K) (ha := (pv 4)) (hb := (pv 2)))) ip_add set_list)))), ?_⟩
    refine ⟨_, rfl, a, rfl, ⟨_, SqL.of hw.top⟩, for_list (xs := refs n r) (fun i σ H' => (∃ x, σ = [some (.ref a), some (.int (t : Int)), some (.int (s : Int)), some (.int c), x]) ∧ Rewr H H' n m r (mixN i (colAdd N t s c) N))
      ⟨⟨_, rfl⟩, Rewr.start hw.row⟩ (fun i σ H' _ p => SqL.of (p.2.2 a _ (fun i hi => hw.ne hi) hw.top)) ?_ ?_⟩
    · rintro i x σ H' hx ⟨⟨x0, rfl⟩, p⟩
      obtain ⟨hi, rfl⟩ := refs_get hx
      have hrow : H' (r i) = some (.lst (rowV m (N i))) := by
        rw [p.1 i hi, mix_ge (by omega)]
      refine ⟨_, rfl, _, rfl, _, _, _, _, rfl, rfl, SqL.of hrow, atI_row _ ht, ?_⟩
      refine ⟨_, rfl, _, rfl, _, rfl, _, _, _, _, rfl, rfl, SqL.of hrow, atI_row _ hs, _, _, rfl, rfl, hc i hi, _, _, rfl, rfl, ?_⟩
      refine ⟨_, _, _, t, rfl, rfl, hrow, (by rw [rowV_len]; exact ixN_nat ht), ⟨_, rfl⟩, ?_⟩
      rw [rowV_set]
      exact p.step hw.inj hi
    · rintro σ H' ⟨_, p⟩
      rw [refs_len] at p
      exact q H' p.fin
def spExCol : Sp := fun vs H Q _ => ∃ (a : Addr) (r : Nat → Addr) (n m t s : Nat) (N : Mx), vs = [.ref a, .int (t : Int), .int (s : Int)] ∧ (t < m ∧ s < m ∧ m ≤ 5) ∧ Rws H a n m r N ∧ ∀ H', Rewr H H' n m r (colSwap N t s) → Q .non H'
theorem ok_exCol (F : Fun K "exchanged_columns" "exchanged_columns" sExchangedColumns f fd) : FnOk P w K mg base CX0 (k + 1) f fd ["rows", "first", "second"] spExCol := by
  refine F.ok scExchangedColumns (fun vs H Q E h => ?_) (fun cdv A outer s H vs Q E hr h => ?_)
  · obtain ⟨a, r, n, m, t, s, N, rfl, _⟩ := h
    rfl
  · obtain ⟨a, r, n, m, t, s, N, rfl, ⟨ht, hs, hm⟩, hw, q⟩ := h
    refine ⟨_, (pss_one (ps_for PassesOwn.never rfl (kpil (K := K) (hl := (pv 0))) (pg_name (i := 3) scExchangedColumns.nd rfl (by first | exact .inl rfl | exact .inr rfl)) (pss_one (ps_asg (pe_tup (pa_cons (kixl (K := K) (ha := (pv 3)) (hb := (pv 2))) (pa_cons (kixl (K := K) (ha := (pv 3)) (hb := (pv 1))) pa_nil))) (pg_tup rfl (pgs_cons (pg_sub (pv 3) (pv 1) set_list) (pgs_cons (pg_sub (pv 3) (pv 2) set_list) pgs_nil))))))), ?_⟩
    refine ⟨_, rfl, a, rfl, ⟨_, SqL.of hw.top⟩, for_list (xs := refs n r) (fun i σ H' => (∃ x, σ = [some (.ref a), some (.int (t : Int)), some (.int (s : Int)), x]) ∧ Rewr H H' n m r (mixN i (colSwap N t s) N))
      ⟨⟨_, rfl⟩, Rewr.start hw.row⟩ (fun i σ H' _ p => SqL.of (p.2.2 a _ (fun i hi => hw.ne hi) hw.top)) ?_ ?_⟩
    · rintro i x σ H' hx ⟨⟨x0, rfl⟩, p⟩
      obtain ⟨hi, rfl⟩ := refs_get hx
      have hrow : H' (r i) = some (.lst (rowV m (N i))) := by
        rw [p.1 i hi, mix_ge (by omega)]
      refine ⟨_, rfl, _, rfl, _, _, _, _, rfl, rfl, SqL.of hrow, atI_row _ hs, _, rfl, _, rfl, _, _, _, _, rfl, rfl, SqL.of hrow, atI_row _ ht, size_ok (by show 2 ≤ 100000; decide), fun T0 nT0 => ?_⟩
      have nT : H' T0 = none := nT0
      have hne : r i ≠ T0 := ne_of_none hrow nT
      refine ⟨_, _, rfl, SqT.of upd_same, rfl, _, _, rfl, ?_⟩
      refine ⟨_, rfl, _, rfl, _, _, _, t, rfl, rfl, upd_new nT hrow, (by rw [rowV_len]; exact ixN_nat ht), _, _, rfl, ?_⟩
      rw [rowV_set]
      refine ⟨_, rfl, _, rfl, _, _, _, s, rfl, rfl, upd_same, (by rw [rowV_len]; exact ixN_nat hs), rfl, ⟨_, rfl⟩, ?_⟩
      rw [rowV_set, upd_upd]
      have p2 : Rewr H (upd H' T0 (.tup [.int (N i s), .int (N i t)])) n m r (mixN i (colSwap N t s) N) :=
        ⟨fun k hk => upd_new nT (p.1 k hk), fun b o hb h => upd_new nT (p.2 b o hb h)⟩
      have p3 := p2.step hw.inj hi
      have e : (rowV m fun k => if k = s then N i t else if k = t then N i s else N i k) = rowV m (colSwap N t s i) := rowV_congr fun k _ => by
        show _ = N i (sw t s k)
        unfold sw
        by_cases e1 : k = s
        · by_cases e2 : k = t
          · rw [if_pos e1, if_pos e2, ← e1, ← e2]
          · rw [if_pos e1, if_neg e2, if_pos e1]
        · by_cases e2 : k = t
          · rw [if_neg e1, if_pos e2, if_pos e2]
          · rw [if_neg e1, if_neg e2, if_neg e2, if_neg e1]
      rw [e]
      exact p3
    · rintro σ H' ⟨_, p⟩
      rw [refs_len] at p
      exact q H' p.fin
end
end Wk
/-! Wk7: Work: its three grids; __init__, least_place. -/
namespace Wk
open PySem PySem.Spec PyProof.Rows L2 Ev
def d1 (h w : Nat) : Nat → Nat
  | 0 => h
  | 1 => h
  | _ => w
def d2 (h w : Nat) : Nat → Nat
  | 0 => h
  | 1 => w
  | _ => w
def pt {α : Type} (g : Nat) (x : α) (f : Nat → α) : Nat → α := fun k => if k = g then x else f k
theorem pt_same {α : Type} {g : Nat} {x : α} {f : Nat → α} : pt g x f g = x := if_pos rfl
theorem pt_ne {α : Type} {g k : Nat} {x : α} {f : Nat → α} (h : k ≠ g) : pt g x f k = f k := if_neg h
/-- the three grids: first, middle, last; none of their objects in B -/
structure WI (B H : Hp) (h w : Nat) (a : Nat → Addr) (r : Nat → Nat → Addr) (V : Nat → Mx) : Prop where
  pos : 1 ≤ h ∧ 1 ≤ w ∧ h ≤ 5 ∧ w ≤ 5
  top : ∀ g, g < 3 → H (a g) = some (.lst (refs (d1 h w g) (r g)))
  row : ∀ g i, g < 3 → i < d1 h w g → H (r g i) = some (.lst (rowV (d2 h w g) (V g i)))
  ia : ∀ g g', g < 3 → g' < 3 → a g = a g' → g = g'
  ir : ∀ g i g' i', g < 3 → g' < 3 → i < d1 h w g → i' < d1 h w g' → r g i = r g' i' → g = g' ∧ i = i'
  na : ∀ g, g < 3 → B (a g) = none
  nr : ∀ g i, g < 3 → i < d1 h w g → B (r g i) = none
  sm : Same B H
section
variable {B H H' : Hp} {h w : Nat} {a : Nat → Addr} {r : Nat → Nat → Addr} {V : Nat → Mx}
theorem d1_pos {g : Nat} (p : 1 ≤ h ∧ 1 ≤ w ∧ h ≤ 5 ∧ w ≤ 5) : 0 < d1 h w g := by
  match g with
  | 0 => exact p.1
  | 1 => exact p.1
  | g + 2 => exact p.2.1
theorem d1_le {g : Nat} (p : 1 ≤ h ∧ 1 ≤ w ∧ h ≤ 5 ∧ w ≤ 5) : d1 h w g ≤ 5 := by
  match g with
  | 0 => exact p.2.2.1
  | 1 => exact p.2.2.1
  | g + 2 => exact p.2.2.2
theorem d2_le {g : Nat} (p : 1 ≤ h ∧ 1 ≤ w ∧ h ≤ 5 ∧ w ≤ 5) : d2 h w g ≤ 5 := by
  match g with
  | 0 => exact p.2.2.1
  | 1 => exact p.2.2.2
  | g + 2 => exact p.2.2.2
theorem WI.ar (x : WI B H h w a r V) {g g' i : Nat} (hg : g < 3) (hg' : g' < 3) (hi : i < d1 h w g') : a g ≠ r g' i := fun z => by
  have e1 := x.top g hg
  have e2 := x.row g' i hg' hi
  rw [z, e2] at e1
  exact refs_ne_row (d1_pos x.pos) (Option.some.inj e1).symm
theorem WI.same (x : WI B H h w a r V) (s : Same H H') : WI B H' h w a r V :=
  ⟨x.pos, fun g hg => s _ _ (x.top g hg), fun g i hg hi => s _ _ (x.row g i hg hi), x.ia, x.ir, x.na, x.nr, x.sm.trans s⟩
theorem WI.rws (x : WI B H h w a r V) {g : Nat} (hg : g < 3) : Rws H (a g) (d1 h w g) (d2 h w g) (r g) (V g) :=
  ⟨x.top g hg, fun i hi => x.row g i hg hi, fun i j hi hj e => (x.ir g i g j hg hg hi hj e).2⟩
theorem WI.vals {V' : Nat → Mx} (x : WI B H h w a r V) (e : ∀ g i j, g < 3 → i < d1 h w g → j < d2 h w g → V g i j = V' g i j) : WI B H h w a r V' :=
  ⟨x.pos, x.top, fun g i hg hi => by rw [x.row g i hg hi, rowV_congr fun j hj => e g i j hg hi hj], x.ia, x.ir, x.na, x.nr, x.sm⟩
/-- grid g has other rows -/
theorem WI.gen (x : WI B H h w a r V) {g : Nat} (hg : g < 3) {ρ : Nat → Addr} {N : Mx} (ht : H' (a g) = some (.lst (refs (d1 h w g) ρ))) (b : But (a g) H H') (hr : ∀ k, k < d1 h w g → H' (ρ k) = some (.lst (rowV (d2 h w g) (N k))))
    (inj : ∀ i j, i < d1 h w g → j < d1 h w g → ρ i = ρ j → i = j) (nb : ∀ k, k < d1 h w g → B (ρ k) = none) (ot : ∀ k g' i, k < d1 h w g → g' < 3 → g' ≠ g → i < d1 h w g' → ρ k ≠ r g' i) : WI B H' h w a (pt g ρ r) (pt g N V) := by
  refine ⟨x.pos, fun g' hg' => ?_, fun g' i hg' hi => ?_, x.ia, fun g1 i g2 j h1 h2 hi hj e => ?_, x.na, fun g' i hg' hi => ?_, fun b' o' e => ?_⟩
  · by_cases e : g' = g
    · subst e
      rw [pt_same]
      exact ht
    · rw [pt_ne e]
      exact b _ _ (fun z => e (x.ia g' g hg' hg z)) (x.top g' hg')
  · by_cases e : g' = g
    · subst e
      rw [pt_same, pt_same]
      exact hr i hi
    · rw [pt_ne e, pt_ne e]
      exact b _ _ (fun z => x.ar hg hg' hi z.symm) (x.row g' i hg' hi)
  · by_cases e1 : g1 = g
    · by_cases e2 : g2 = g
      · subst e1
        subst e2
        rw [pt_same] at e
        exact ⟨rfl, inj i j hi hj e⟩
      · subst e1
        rw [pt_same, pt_ne e2] at e
        exact absurd e (ot i g2 j hi h2 e2 hj)
    · by_cases e2 : g2 = g
      · subst e2
        rw [pt_same, pt_ne e1] at e
        exact absurd e.symm (ot j g1 i hj h1 e1 hi)
      · rw [pt_ne e1, pt_ne e2] at e
        exact x.ir g1 i g2 j h1 h2 hi hj e
  · by_cases e : g' = g
    · subst e
      rw [pt_same]
      exact nb i hi
    · rw [pt_ne e]
      exact x.nr g' i hg' hi
  · refine b b' o' (fun z => ?_) (x.sm b' o' e)
    have := x.na g hg
    rw [← z, e] at this
    cases this
/-- row t of grid g is a new list -/
theorem WI.setrow (x : WI B H h w a r V) {g t : Nat} {q : Addr} {X : Nat → Int} (hg : g < 3) (nq : H q = none) (hq : H' q = some (.lst (rowV (d2 h w g) X))) (ht : H' (a g) = some (.lst (refs (d1 h w g) fun k => if k = t then q else r g k))) (b : But (a g) H H') :
    WI B H' h w a (pt g (fun k => if k = t then q else r g k) r) (pt g (fun k => if k = t then X else V g k) V) := by
  have nqr : ∀ g' i, g' < 3 → i < d1 h w g' → q ≠ r g' i := fun g' i hg' hi z => by
    have := x.row g' i hg' hi
    rw [← z, nq] at this
    cases this
  refine x.gen hg ht b (fun k hk => ?_) (fun i j hi hj e => ?_) (fun k hk => ?_) (fun k g' i hk hg' ne hi => ?_)
  · by_cases e : k = t
    · rw [if_pos e, if_pos e]
      exact hq
    · rw [if_neg e, if_neg e]
      exact b _ _ (fun z => x.ar hg hg hk z.symm) (x.row g k hg hk)
  · by_cases e1 : i = t
    · by_cases e2 : j = t
      · omega
      · simp only [if_pos e1, if_neg e2] at e
        exact absurd e (nqr g j hg hj)
    · by_cases e2 : j = t
      · simp only [if_neg e1, if_pos e2] at e
        exact absurd e.symm (nqr g i hg hi)
      · simp only [if_neg e1, if_neg e2] at e
        exact (x.ir g i g j hg hg hi hj e).2
  · by_cases e : k = t
    · simp only [if_pos e]
      exact x.sm.free nq
    · simp only [if_neg e]
      exact x.nr g k hg hk
  · by_cases e : k = t
    · simp only [if_pos e]
      exact nqr g' i hg' hi
    · simp only [if_neg e]
      intro z
      exact ne (x.ir g k g' i hg hg' hk hi z).1.symm
theorem sw_lt' {t s k n : Nat} (ht : t < n) (hs : s < n) (hk : k < n) : sw t s k < n := by
  unfold sw
  split
  · exact hs
  · split
    · exact ht
    · exact hk
theorem sw_inj {t s i j : Nat} (e : sw t s i = sw t s j) : i = j := by
  unfold sw at e
  split at e <;> split at e <;> (try split at e) <;> (try split at e) <;> omega
theorem WI.swap (x : WI B H h w a r V) {g t s : Nat} (hg : g < 3) (ht : t < d1 h w g) (hs : s < d1 h w g) (hh : H' (a g) = some (.lst (refs (d1 h w g) fun k => r g (sw t s k)))) (b : But (a g) H H') :
    WI B H' h w a (pt g (fun k => r g (sw t s k)) r) (pt g (rowSwap (V g) t s) V) := by
  refine x.gen hg hh b (fun k hk => ?_) (fun i j hi hj e => ?_) (fun k hk => ?_) (fun k g' i hk hg' ne hi => ?_)
  · exact b _ _ (fun z => x.ar hg hg (sw_lt' ht hs hk) z.symm) (x.row g _ hg (sw_lt' ht hs hk))
  · exact sw_inj (x.ir g _ g _ hg hg (sw_lt' ht hs hi) (sw_lt' ht hs hj) e).2
  · exact x.nr g _ hg (sw_lt' ht hs hk)
  · intro z
    exact ne (x.ir g _ g' i hg hg' (sw_lt' ht hs hk) hi z).1.symm
theorem WI.cols (x : WI B H h w a r V) {g : Nat} {N : Mx} (hg : g < 3) (rw' : Rewr H H' (d1 h w g) (d2 h w g) (r g) N) : WI B H' h w a r (pt g N V) := by
  refine ⟨x.pos, fun g' hg' => rw'.2 _ _ (fun i hi => x.ar hg' hg hi) (x.top g' hg'), fun g' i hg' hi => ?_, x.ia, x.ir, x.na, x.nr, fun b o e => rw'.2 b o (fun i hi z => ?_) (x.sm b o e)⟩
  · by_cases e : g' = g
    · subst e
      rw [pt_same]
      exact rw'.1 i hi
    · rw [pt_ne e]
      exact rw'.2 _ _ (fun j hj z => e (x.ir g' i g j hg' hg hi hj z).1) (x.row g' i hg' hi)
  · have := x.nr g i hg hi
    rw [← z, e] at this
    cases this
end
def wFs (a : Nat → Addr) : List (Str × V) := [("first", .ref (a 0)), ("middle", .ref (a 1)), ("last", .ref (a 2))]
/-- x is the Work -/
structure WA (B H : Hp) (CW x : Addr) (h w : Nat) (a : Nat → Addr) (r : Nat → Nat → Addr) (V : Nat → Mx) : Prop where
  i : ∃ dx, H x = some (.ins CW dx (wFs a))
  g : WI B H h w a r V
theorem WA.same {B H H' : Hp} {CW x : Addr} {h w : Nat} {a : Nat → Addr} {r : Nat → Nat → Addr} {V : Nat → Mx} (u : WA B H CW x h w a r V) (s : Same H H') : WA B H' CW x h w a r V := ⟨u.i.imp fun _ e => s _ _ e, u.g.same s⟩
/-- x's own object is neither a list's -/
theorem WA.but {B H H' : Hp} {CW x b : Addr} {h w : Nat} {a : Nat → Addr} {r r' : Nat → Nat → Addr} {V V' : Nat → Mx} {xs : List L2.V} (u : WA B H CW x h w a r V) (hb : H b = some (.lst xs)) (s : But b H H') (g : WI B H' h w a r' V') : WA B H' CW x h w a r' V' :=
  ⟨u.i.imp fun _ e => s _ _ (ne_of e hb (by intro z; cases z)) e, g⟩
structure WCl (K : PySem.W.Frag) (CW : Addr) : Prop where
  c : Cls K CW
  first : NoAttr K CW "first"
  middle : NoAttr K CW "middle"
  last : NoAttr K CW "last"
section
variable {P : Program} {w : World} {K : PySem.W.Frag} {mg : Str → Option Value} {base : Heap} {CM CW : Addr} {fi f : Addr} {fdi fd : FuncData} {k : Nat}
def spLeast (CW : Addr) : Sp := fun vs H Q _ => ∃ (B : Hp) (x : Addr) (h w : Nat) (a : Nat → Addr) (r : Nat → Nat → Addr) (V : Nat → Mx) (s : Nat), vs = [.ref x, .int (s : Int)] ∧ WA B H CW x h w a r V ∧ s < h ∧ s < w ∧
  (∀ H', Same H H' → Nil h w s (V 1) → Q .non H') ∧ ∀ p i j H', Same H H' → LP h w s (V 1) i j → H' p = some (.tup [.int (i : Int), .int (j : Int)]) → Q (.ref p) H'
/-- what is found among the places before (x, y) -/
def Vis2 (s x y i j : Nat) : Prop := s ≤ i ∧ s ≤ j ∧ (i < x ∨ (i = x ∧ j < y))
structure LQ (w s : Nat) (M : Mx) (x y i j : Nat) : Prop where
  vis : Vis2 s x y i j ∧ j < w
  nz : M i j ≠ 0
  least : ∀ k l, Vis2 s x y k l → l < w → M k l ≠ 0 → (M i j).natAbs ≤ (M k l).natAbs
  fst : ∀ k l, Vis2 s x y k l → l < w → M k l ≠ 0 → (k < i ∨ (k = i ∧ l < j)) → (M i j).natAbs < (M k l).natAbs
def Fnd (w s : Nat) (M : Mx) (x y : Nat) (v : V) (H : Hp) : Prop := (v = .non ∧ ∀ k l, Vis2 s x y k l → l < w → M k l = 0) ∨ ∃ p i j, v = .ref p ∧ H p = some (.tup [.int ((i : Nat) : Int), .int ((j : Nat) : Int)]) ∧ LQ w s M x y i j
theorem Fnd.start {w s : Nat} {M : Mx} {H : Hp} : Fnd w s M s s .non H := .inl ⟨rfl, fun k l h _ => absurd h.2.2 (by have := h.1; have := h.2.1; omega)⟩
theorem Fnd.same {w s x y : Nat} {M : Mx} {v : L2.V} {H H' : Hp} (f : Fnd w s M x y v H) (e : Same H H') : Fnd w s M x y v H' := by
  rcases f with f | ⟨p, i, j, e1, e2, e3⟩
  · exact .inl f
  · exact .inr ⟨p, i, j, e1, e _ _ e2, e3⟩
/-- the next row -/
theorem Fnd.line {w s x : Nat} {M : Mx} {v : L2.V} {H : Hp} (f : Fnd w s M x w v H) : Fnd w s M (x + 1) s v H := by
  have vv : ∀ k l, l < w → (Vis2 s (x + 1) s k l ↔ Vis2 s x w k l) := fun k l hl => ⟨fun z => ⟨z.1, z.2.1, by have := z.2.2; have := z.2.1; omega⟩, fun z => ⟨z.1, z.2.1, by have := z.2.2; omega⟩⟩
  rcases f with ⟨e1, e2⟩ | ⟨p, i, j, e1, e2, e3⟩
  · exact .inl ⟨e1, fun k l h1 h2 => e2 k l ((vv k l h2).mp h1) h2⟩
  · exact .inr ⟨p, i, j, e1, e2, ⟨(vv i j e3.vis.2).mpr e3.vis.1, e3.vis.2⟩, e3.nz, fun k l h1 h2 => e3.least k l ((vv k l h2).mp h1) h2, fun k l h1 h2 => e3.fst k l ((vv k l h2).mp h1) h2⟩
theorem vis_next {s x y k l : Nat} : Vis2 s x (y + 1) k l → Vis2 s x y k l ∨ (k = x ∧ l = y) := fun z => by
  have h1 := z.1
  have h2 := z.2.1
  have h3 := z.2.2
  by_cases e : k = x ∧ l = y
  · exact .inr e
  · exact .inl ⟨h1, h2, by omega⟩
/-- the place (x, y) is none -/
theorem Fnd.zero {w s x y : Nat} {M : Mx} {v : L2.V} {H : Hp} (f : Fnd w s M x y v H) (z : M x y = 0) : Fnd w s M x (y + 1) v H := by
  rcases f with ⟨e1, e2⟩ | ⟨p, i, j, e1, e2, e3⟩
  · refine .inl ⟨e1, fun k l h1 h2 => ?_⟩
    rcases vis_next h1 with q | ⟨rfl, rfl⟩
    · exact e2 k l q h2
    · exact z
  · refine .inr ⟨p, i, j, e1, e2, ⟨⟨e3.vis.1.1, e3.vis.1.2.1, by have := e3.vis.1.2.2; omega⟩, e3.vis.2⟩, e3.nz, fun k l h1 h2 n => ?_, fun k l h1 h2 n => ?_⟩
    · rcases vis_next h1 with q | ⟨rfl, rfl⟩
      · exact e3.least k l q h2 n
      · exact absurd z n
    · rcases vis_next h1 with q | ⟨rfl, rfl⟩
      · exact e3.fst k l q h2 n
      · exact absurd z n
/-- it is no less than the found one -/
theorem Fnd.keep {w s x y : Nat} {M : Mx} {H : Hp} {p : Addr} {i j : Nat} (e2 : H p = some (.tup [.int ((i : Nat) : Int), .int ((j : Nat) : Int)])) (e3 : LQ w s M x y i j) (z : (M i j).natAbs ≤ (M x y).natAbs) : Fnd w s M x (y + 1) (.ref p) H := by
  refine .inr ⟨p, i, j, rfl, e2, ⟨⟨e3.vis.1.1, e3.vis.1.2.1, by have := e3.vis.1.2.2; omega⟩, e3.vis.2⟩, e3.nz, fun k l h1 h2 n => ?_, fun k l h1 h2 n q' => ?_⟩
  · rcases vis_next h1 with q | ⟨rfl, rfl⟩
    · exact e3.least k l q h2 n
    · exact z
  · rcases vis_next h1 with q | ⟨rfl, rfl⟩
    · exact e3.fst k l q h2 n q'
    · have := e3.vis.1.2.2
      omega
/-- it is the first one -/
theorem Fnd.one {w s x y : Nat} {M : Mx} {H : Hp} {p : Addr} (e0 : ∀ k l, Vis2 s x y k l → l < w → M k l = 0) (hx : s ≤ x) (hy : s ≤ y) (hw : y < w) (n : M x y ≠ 0) (e2 : H p = some (.tup [.int ((x : Nat) : Int), .int ((y : Nat) : Int)])) : Fnd w s M x (y + 1) (.ref p) H := by
  refine .inr ⟨p, x, y, rfl, e2, ⟨⟨hx, hy, by omega⟩, hw⟩, n, fun k l h1 h2 n' => ?_, fun k l h1 h2 n' q' => ?_⟩
  · rcases vis_next h1 with q | ⟨rfl, rfl⟩
    · exact absurd (e0 k l q h2) n'
    · exact Nat.le_refl _
  · rcases vis_next h1 with q | ⟨rfl, rfl⟩
    · exact absurd (e0 k l q h2) n'
    · omega
/-- it is less than all -/
theorem Fnd.less {w s x y i j : Nat} {M : Mx} {H : Hp} {p : Addr} (e3 : LQ w s M x y i j) (z : (M x y).natAbs < (M i j).natAbs) (hx : s ≤ x) (hy : s ≤ y) (hw : y < w) (n : M x y ≠ 0) (e2 : H p = some (.tup [.int ((x : Nat) : Int), .int ((y : Nat) : Int)])) : Fnd w s M x (y + 1) (.ref p) H := by
  refine .inr ⟨p, x, y, rfl, e2, ⟨⟨hx, hy, by omega⟩, hw⟩, n, fun k l h1 h2 n' => ?_, fun k l h1 h2 n' q' => ?_⟩
  · rcases vis_next h1 with q | ⟨rfl, rfl⟩
    · have := e3.least k l q h2 n'
      omega
    · exact Nat.le_refl _
  · rcases vis_next h1 with q | ⟨rfl, rfl⟩
    · have := e3.least k l q h2 n'
      omega
    · omega
theorem abs_is (i : Int) : (if i < 0 then -i else i) = ((i.natAbs : Nat) : Int) := by
  split <;> omega
theorem ok_least (F : Fun K "least_place" "Work.least_place" sWorkLeastPlace f fd) (C : WCl K CW) (T : Blt mg) : FnOk P w K mg base CX0 (k + 1) f fd ["self", "start"] (spLeast CW) := by
  refine F.ok scWorkLeastPlace (fun vs H Q E h => ?_) (fun cdv A outer s H vs Q E hr h => ?_)
  · obtain ⟨B, x, h, w, a, r, U, s, rfl, _⟩ := h
    rfl
  · obtain ⟨B, x, h, w, a, r, U, s, rfl, ⟨⟨dx, hx⟩, W⟩, hsh, hsw, q1, q2⟩ := h
    refine ⟨_, (pss_cons (ps_set (i := 2) scWorkLeastPlace.nd rfl (by first | exact .inl rfl | exact .inr rfl) pe_non)
  (pss_cons (ps_for PassesOwn.never rfl (pi_range2 (by rfl) T.range (pa_cons (pv 1) (pa_cons (klen (K := K) T.len (pa_cons (kfld (K := K) (he := (pv 0))) pa_nil)) pa_nil))) (pg_name (i := 3) scWorkLeastPlace.nd rfl (by first | exact .inl rfl | exact .inr rfl)) (pss_one (ps_for PassesOwn.never rfl (pi_range2 (by rfl) T.range (pa_cons (pv 1) (pa_cons (klen (K := K) T.len (pa_cons (kixl (K := K) (ha := (kfld (K := K) (he := (pv 0)))) (hb := pe_int)) pa_nil)) pa_nil))) (pg_name (i := 4) scWorkLeastPlace.nd rfl (by first | exact .inl rfl | exact .inr rfl)) (pss_cons (ps_set (i := 5) scWorkLeastPlace.nd rfl (by first | exact .inl rfl | exact .inr rfl) (kabs T.abs (pa_cons (kixl (K := K) (ha := (kixl (K := K) (ha := (kfld (K := K) (he := (pv 0)))) (hb := (pv 3)))) (hb := (pv 4))) pa_nil)))
  (pss_one (ps_if (PW.pt (pw_and (pt_cmpR op_ne (pv 5) pe_int (nomark _)) (pw_and1 (PW.pt (pw_or (pt_cmpR op_isN (pv 2) pe_non (nomark _)) (pw_or1 (pt_cmpR op_lt (pv 5) (kabs T.abs (pa_cons (kixl (K := K) (ha := (kixl (K := K) (ha := (kfld (K := K) (he := (pv 0)))) (hb := (kixt (K := K) (ha := (pv 2)) (hb := pe_int))))) (hb := (kixt (K := K) (ha := (pv 2)) (hb := pe_int)))) pa_nil)) (nomark _)))))))) (pss_one (ps_set (i := 2) scWorkLeastPlace.nd rfl (by first | exact .inl rfl | exact .inr rfl) (pe_tup (pa_cons (pv 3) (pa_cons (pv 4) pa_nil))))) pss_nil))))))
  (pss_one (ps_ret (pv 2))))), ?_⟩
    have e1 := W.top 1 (by omega)
    have er := fun i hi => W.row 1 i (by omega) hi
    have p5 := W.pos
    refine ⟨_, rfl, _, rfl, _, _, _, _, _, rfl, hx, C.c, C.middle, rfl, _, _, rfl, .inl (SqL.of e1), ?_⟩
    rw [refs_len]
    refine ⟨_, _, rfl, ⟨by omega, by omega, by show -(2 ^ 62) ≤ ((h : Nat) : Int); omega, by show ((h : Nat) : Int) < 2 ^ 62; omega⟩, ?_⟩
    have en : (((h : Nat) : Int) - (s : Int)).toNat = h - s := by omega
    show ∃ W, _
    rw [show d1 h w 1 = h from rfl, en]
    refine for_range (fun n σ H' => Same H H' ∧ ∃ v y1 y2 y3, σ = [some (.ref x), some (.int (s : Int)), some v, y1, y2, y3] ∧ Fnd w s (U 1) (s + n) s v H') ⟨Same.refl _, _, _, _, _, rfl, Fnd.start⟩ ?_ ?_
    · rintro n σ H' hn ⟨sm, v, y1, y2, y3, rfl, fd⟩
      have hin : s + n < h := by omega
      refine ⟨_, rfl, _, rfl, _, _, _, _, _, rfl, sm _ _ hx, C.c, C.middle, rfl, _, _, _, _, rfl, rfl, SqL.of (sm _ _ e1), atI_refs (i := 0) _ (show 0 < d1 h w 1 from p5.1), _, _, rfl, .inl (SqL.of (sm _ _ (er 0 (show 0 < d1 h w 1 from p5.1)))), ?_⟩
      rw [rowV_len]
      refine ⟨_, _, rfl, ⟨by omega, by omega, by show -(2 ^ 62) ≤ ((w : Nat) : Int); omega, by show ((w : Nat) : Int) < 2 ^ 62; omega⟩, ?_⟩
      have en2 : (((w : Nat) : Int) - (s : Int)).toNat = w - s := by omega
      show ∃ W, _
      rw [show d2 h w 1 = w from rfl, en2]
      refine for_range (fun m σ H' => Same H H' ∧ ∃ v y2 y3, σ = [some (.ref x), some (.int (s : Int)), some v, some (.int ((s : Int) + (n : Int))), y2, y3] ∧ Fnd w s (U 1) (s + n) (s + m) v H') ⟨sm, _, _, _, rfl, fd⟩ ?_ ?_
      · rintro m σ H2 hm ⟨sm2, v, y2, y3, rfl, fd⟩
        have hjm : s + m < w := by omega
        have ei : ((s : Int) + (n : Int)) = ((s + n : Nat) : Int) := by omega
        have ej : ((s : Int) + (m : Int)) = ((s + m : Nat) : Int) := by omega
        refine ⟨_, rfl, _, _, _, _, _, rfl, sm2 _ _ hx, C.c, C.middle, rfl, _, rfl, _, _, _, _, rfl, rfl, SqL.of (sm2 _ _ e1), (by rw [ei]; exact atI_refs (i := s + n) (r 1) hin), _, rfl, _, _, _, _, rfl, rfl, SqL.of (sm2 _ _ (er (s + n) hin)), (by rw [ej]; exact atI_row (j := s + m) _ hjm), ?_⟩
        refine ⟨_, rfl, ?_⟩
        rw [abs_is]
        refine ⟨_, rfl, rfl, _, rfl, ite2 (fun e => ?_) (fun e => ?_)⟩
        · have nz : (U 1) (s + n) (s + m) ≠ 0 := fun z => by
            rw [z] at e
            exact absurd e (by decide)
          refine ⟨_, rfl, rfl, _, rfl, ite2 (fun e2 => ?_) (fun e2 => ?_)⟩
          · have ev : v = .non := of_decide_eq_true e2
            have e0 : ∀ k l, Vis2 s (s + n) (s + m) k l → l < w → (U 1) k l = 0 := by
              rcases fd with ⟨_, z⟩ | ⟨p, i, j, z, _⟩
              · exact z
              · rw [z] at ev
                cases ev
            refine iteT ⟨_, rfl, _, rfl, size_ok (by show 2 ≤ 100000; decide), fun p np => ?_⟩
            have np' : H2 p = none := np
            refine ⟨sm2.trans (same_new np'), _, _, _, rfl, Fnd.one (y := s + m) e0 (by omega) (by omega) hjm nz ?_⟩
            rw [upd_same, ei, ej]
          · rcases fd with ⟨z, _⟩ | ⟨p, i, j, rfl, hp, lq⟩
            · exact absurd (decide_eq_true z) e2
            have v := lq.vis
            have hih : i < h := by
              have := v.1.2.2
              omega
            refine ⟨_, rfl, _, rfl, _, _, _, _, _, rfl, sm2 _ _ hx, C.c, C.middle, rfl, _, rfl, _, _, _, _, rfl, rfl, SqT.of hp, rfl, _, _, _, _, rfl, rfl, SqL.of (sm2 _ _ e1), atI_refs (i := i) (r 1) hih, _, rfl, _, _, _, _, rfl, rfl, SqT.of hp, rfl, _, _, _, _, rfl, rfl, SqL.of (sm2 _ _ (er i hih)), atI_row (j := j) _ v.2, _, rfl, ?_⟩
            rw [abs_is]
            refine ⟨_, _, rfl, rfl, _, rfl, ite2 (fun e3 => ?_) (fun e3 => ?_)⟩
            · have e4 := of_decide_eq_true e3
              refine ⟨_, rfl, _, rfl, size_ok (by show 2 ≤ 100000; decide), fun p' np => ?_⟩
              have np' : H2 p' = none := np
              refine ⟨sm2.trans (same_new np'), _, _, _, rfl, Fnd.less (y := s + m) lq (by omega) (by omega) (by omega) hjm nz ?_⟩
              rw [upd_same, ei, ej]
            · have e4 : ¬ _ < _ := fun z => e3 (decide_eq_true z)
              exact ⟨sm2, _, _, _, rfl, Fnd.keep (y := s + m) hp lq (by omega)⟩
        · have ze : (U 1) (s + n) (s + m) = 0 := by
            refine Classical.byContradiction fun z => e ?_
            rw [decide_eq_false (fun q => ?_)]
            · rfl
            · have := V.int.inj q
              omega
          exact iteF ⟨sm2, _, _, _, rfl, Fnd.zero (y := s + m) fd ze⟩
      · rintro σ H2 ⟨sm2, v, y2, y3, rfl, fd⟩
        rw [show s + (w - s) = w from by omega] at fd
        exact ⟨sm2, v, _, _, _, rfl, fd.line⟩
    · rintro σ H' ⟨sm, v, y1, y2, y3, rfl, fd⟩
      rw [show s + (h - s) = h from by omega] at fd
      refine ⟨_, rfl, ?_⟩
      rcases fd with ⟨rfl, z⟩ | ⟨p, i, j, rfl, hp, lq⟩
      · exact q1 H' sm fun k l h1 h2 h3 h4 => z k l ⟨h1, h3, .inl h2⟩ h4
      · have v := lq.vis
        refine q2 p i j H' sm ⟨v.1.1, ?_, v.1.2.1, v.2, lq.nz, fun k l h1 h2 h3 h4 n => lq.least k l ⟨h1, h3, .inl h2⟩ h4 n, fun k l h1 h2 h3 h4 n z => lq.fst k l ⟨h1, h3, .inl h2⟩ h4 n z⟩ hp
        have := v.1.2.2
        have := v.1.2.1
        omega
end
end Wk
/-! Wk8: Work.__init__, bring, turn_sign. -/
namespace Wk
open PySem PySem.Spec PyProof.Rows L2 Ev
/-- a list of lists, all its objects new to B -/
structure Grd (B H : Hp) (a : Addr) (r : Nat → Addr) (n m : Nat) (N : Mx) : Prop where
  top : H a = some (.lst (refs n r))
  row : ∀ i, i < n → H (r i) = some (.lst (rowV m (N i)))
  inj : ∀ i j, i < n → j < n → r i = r j → i = j
  na : B a = none
  nr : ∀ i, i < n → B (r i) = none
section
variable {B H H' : Hp} {a : Addr} {r : Nat → Addr} {n m : Nat} {N : Mx}
theorem Grd.same (x : Grd B H a r n m N) (s : Same H H') : Grd B H' a r n m N := ⟨s _ _ x.top, fun i hi => s _ _ (x.row i hi), x.inj, x.na, x.nr⟩
theorem Grd.but {b C dx : Addr} {fs : List (Str × V)} (x : Grd B H a r n m N) (hb : H b = some (.ins C dx fs)) (s : But b H H') : Grd B H' a r n m N :=
  ⟨s _ _ (ne_of x.top hb (by intro z; cases z)) x.top, fun i hi => s _ _ (ne_of (x.row i hi) hb (by intro z; cases z)) (x.row i hi), x.inj, x.na, x.nr⟩
end
theorem WI.ofs {B H : Hp} {h w : Nat} {a : Nat → Addr} {r : Nat → Nat → Addr} {V : Nat → Mx} (p : 1 ≤ h ∧ 1 ≤ w ∧ h ≤ 5 ∧ w ≤ 5) (Bs : Nat → Hp) (grd : ∀ g, g < 3 → Grd (Bs g) H (a g) (r g) (d1 h w g) (d2 h w g) (V g))
    (st : ∀ g g', g < g' → g' < 3 → (∃ B', Grd B' (Bs g') (a g) (r g) (d1 h w g) (d2 h w g) (V g))) (sb : ∀ g, g < 3 → Same B (Bs g)) (sm : Same B H) : WI B H h w a r V := by
  have k1 : ∀ g g', g < g' → g' < 3 → a g ≠ a g' := fun g g' h1 h2 e => by
    obtain ⟨B', x⟩ := st g g' h1 h2
    have := x.top
    rw [e, (grd g' h2).na] at this
    cases this
  have k2 : ∀ g i g' i', g < g' → g' < 3 → i < d1 h w g → i' < d1 h w g' → r g i ≠ r g' i' := fun g i g' i' h1 h2 hi hi' e => by
    obtain ⟨B', x⟩ := st g g' h1 h2
    have := x.row i hi
    rw [e, (grd g' h2).nr i' hi'] at this
    cases this
  refine ⟨p, fun g hg => (grd g hg).top, fun g i hg hi => (grd g hg).row i hi, fun g g' hg hg' e => ?_, fun g i g' i' hg hg' hi hi' e => ?_, fun g hg => (sb g hg).free (grd g hg).na, fun g i hg hi => (sb g hg).free ((grd g hg).nr i hi), sm⟩
  · rcases Nat.lt_trichotomy g g' with q | q | q
    · exact absurd e (k1 g g' q hg')
    · exact q
    · exact absurd e.symm (k1 g' g q hg)
  · rcases Nat.lt_trichotomy g g' with q | q | q
    · exact absurd e (k2 g i g' i' q hg' hi hi')
    · subst q
      exact ⟨rfl, (grd g hg).inj i i' hi hi' e⟩
    · exact absurd e.symm (k2 g' i' g i q hg hi' hi)
def mx3 (u : W3) : Nat → Mx
  | 0 => u.F
  | 1 => u.M
  | _ => u.L
def pk3 {α : Type} (x y z : α) : Nat → α
  | 0 => x
  | 1 => y
  | _ => z
section
variable {P : Program} {w : World} {K : PySem.W.Frag} {mg : Str → Option Value} {base : Heap} {CM CW : Addr} {fi f : Addr} {fdi fd : FuncData} {k : Nat}
def spWInit (CM CW : Addr) : Sp := fun vs H Q _ => ∃ (x m dx : Addr) (h w : Nat) (A : Mx) (B : Hp), vs = [.ref x, .ref m] ∧ H x = some (.ins CW dx []) ∧ (1 ≤ h ∧ 1 ≤ w ∧ h ≤ 5 ∧ w ≤ 5) ∧ Mat H CM m h w A ∧ Same B H ∧ B x = none ∧
  ∀ H' a r, WA B H' CW x h w a r (mx3 ⟨unit, A, unit⟩) → Q .non H'
/-- [list(row) for row in the tuple of tuples at b] -/
theorem lists_of {H : Hp} {b D : Addr} {n m : Nat} {t : Nat → Addr} {N : Mx} {σ : L2.St} {Qd : Hp → Prop} (hn : n ≤ 5) (hb : H b = some (.tup (refs n t))) (ht : ∀ i, i < n → H (t i) = some (.tup (rowV m (N i)))) (nD : H D = none) (hs : σ.length = 3)
    (hd : ∀ H' r, Same H H' → Grd H H' D r n m N → Qd H') :
    ∃ W : Nat → Nat → Hp → Prop, (∃ m, W 0 m (upd H D (.lst []))) ∧ ∀ i m H, W i m H →
      ((Itt K b).stop i H ∧ Qd H) ∨ ((Itt K b).go i H ∧ ∃ Nx : Hp → Prop, (∀ H', Nx H' → ∃ m', m' < m ∧ W (i + 1) m' H') ∧ ∀ x H', (Itt K b).yld i H x H' → gName 2 x (wipe σ [2]) H' fun σ2 H2 => wipe σ2 [2] = wipe σ [2] ∧ tYes σ2 H2 fun b H3 =>
        if b = true then tCB (rLstK K) (tCons (tVar 2) tNil) σ2 H3 fun y H4 => ∃ acc, H4 D = some (.lst acc) ∧ acc.length < sizeLine ∧ Nx (upd H4 D (.lst (acc ++ [y]))) else Nx H3) := by
  have hbD : b ≠ D := ne_of_none hb nD
  have wt := walk_tup (K := K) (a := b) (xs := refs n t)
  rw [refs_len] at wt
  refine lc_new wt (by omega) (fun i => .lst (rowV m (N i))) (fun H' bb => SqT.of (bb _ _ hbD (upd_new nD hb))) ?_ (mono_name 2) mono_yes nD ?_
  · rintro i x H9 H0 Kc hi bb ⟨o, hD⟩ ⟨rfl, hx⟩ fin
    obtain ⟨_, rfl⟩ := refs_get hx
    have s1 : Same H H0 := But.same nD bb
    obtain ⟨s0, rfl⟩ : ∃ s0, σ = s0 := ⟨_, rfl⟩
    match σ, hs with
    | [z0, z1, z2], _ =>
      refine ⟨rfl, rfl, _, rfl, _, _, rfl, .inr (SqT.of (s1 _ _ (ht i hi))), fun p np => ?_⟩
      have np' : H0 p = none := np
      exact fin p _ (same_new np') np' upd_same
  · intro H1 r bb hz hr hn' hj
    exact hd H1 r (But.same nD bb) ⟨hz, hr, hj, nD, fun i hi => (hn' i hi).1⟩
theorem ok_winit {mc : Value} {pd fD pu fU : Addr} {fdD fdU : FuncData} (F : Fun K "__init__" "Work.__init__" sWorkInit f fd) (MM : MkM K mg CM fi fdi) (MU : MUn K CM mc pd fD pu fU fdD fdU) (G : FnOk P w K mg base CX0 k fU fdU ["cls", "n"] (spUnit CM)) (C : WCl K CW) (T : Blt mg) :
    FnOk P w K mg base CX0 (k + 1) f fd ["self", "matrix"] (spWInit CM CW) := by
  refine F.ok scWorkInit (fun vs H Q E h => ?_) (fun cdv A outer s H vs Q E hr h => ?_)
  · obtain ⟨x, m, dx, h, w, M, B, rfl, _⟩ := h
    rfl
  · obtain ⟨x, m, dx, h, w, M, B, rfl, hx, ⟨p1, p2, p3, p4⟩, hM, sB, nBx, q⟩ := h
    refine ⟨_, (pss_cons (ps_fld (pv 0) (pe_lc (own := [("row", 2)]) (g := (gName 2)) (tt := tYes) rfl scWorkInit.nd (kpit (K := K) (hl := (kfld (K := K) (he := (ClX.pe_cmeth (pe_glob (v := .ref CM) (by rfl) MM.g rfl) MU.r MU.u (toR G MU.ub) hr pass0 (pa_cons (kfld (K := K) (he := (pv 1))) pa_nil)))))) (blkOk_by (N := nWorkInit) (sc := defScope sWorkInit) (by decide +kernel)) (fun _ _ _ _ _ => (pg_name (i := 2) scWorkInit.nd rfl (by first | exact .inl rfl | exact .inr rfl))) (fun _ _ _ _ _ => pts_nil) (fun _ _ _ _ _ => (klst (K := K) T.list (pa_cons (pv 2) pa_nil)))) rfl)
  (pss_cons (ps_fld (pv 0) (pe_lc (own := [("row", 2)]) (g := (gName 2)) (tt := tYes) rfl scWorkInit.nd (kpit (K := K) (hl := (kfld (K := K) (he := (pv 1))))) (blkOk_by (N := nWorkInit) (sc := defScope sWorkInit) (by decide +kernel)) (fun _ _ _ _ _ => (pg_name (i := 2) scWorkInit.nd rfl (by first | exact .inl rfl | exact .inr rfl))) (fun _ _ _ _ _ => pts_nil) (fun _ _ _ _ _ => (klst (K := K) T.list (pa_cons (pv 2) pa_nil)))) rfl)
  (pss_one (ps_fld (pv 0) (pe_lc (own := [("row", 2)]) (g := (gName 2)) (tt := tYes) rfl scWorkInit.nd (kpit (K := K) (hl := (kfld (K := K) (he := (ClX.pe_cmeth (pe_glob (v := .ref CM) (by rfl) MM.g rfl) MU.r MU.u (toR G MU.ub) hr pass0 (pa_cons (kfld (K := K) (he := (pv 1))) pa_nil)))))) (blkOk_by (N := nWorkInit) (sc := defScope sWorkInit) (by decide +kernel)) (fun _ _ _ _ _ => (pg_name (i := 2) scWorkInit.nd rfl (by first | exact .inl rfl | exact .inr rfl))) (fun _ _ _ _ _ => pts_nil) (fun _ _ _ _ _ => (klst (K := K) T.list (pa_cons (pv 2) pa_nil)))) rfl)))), ?_⟩
    have hM' := hM
    obtain ⟨dm, am, rm, e1, e2, e3⟩ := hM'
    have bx : ∀ {X : Hp} {o : HO}, Same B X → Same B (upd X x o) := fun {X o} s b' o' e => by
      rw [upd_ne (fun z => by rw [z, nBx] at e; cases e)]
      exact s _ _ e
    have nxt : ∀ {X : Hp} {o : HO} {mm : Addr} {hh ww : Nat} {AA : Mx} {oo}, X x = some (.ins CW dx oo) → Mat X CM mm hh ww AA → mm ≠ x → Mat (upd X x o) CM mm hh ww AA := fun {X o mm hh ww AA oo} hX hm ne => by
      obtain ⟨d', a', r', q1, q2, q3⟩ := hm
      exact ⟨d', a', r', by rw [upd_ne ne]; exact q1, by rw [upd_ne (ne_of q2 hX (by intro z; cases z))]; exact q2, fun i hi => by rw [upd_ne (ne_of (q3 i hi) hX (by intro z; cases z))]; exact q3 i hi⟩
    have mx : m ≠ x := ne_of e1 hx (by intro z; cases z)
    refine ⟨rfl, _, rfl, _, _, _, _, _, rfl, e1, MM.c.c, MM.c.height, rfl, h, rfl, ⟨p1, p3⟩, fun m0 H1 s1 hM0 => ?_⟩
    obtain ⟨d0, a0, r0, f1, f2, f3⟩ := hM0
    refine ⟨_, _, _, _, _, rfl, f1, MM.c.c, MM.c.rows, rfl, a0, rfl, ⟨_, SqT.of f2⟩, fun D0 nD0' => ?_⟩
    have nD0 : H1 D0 = none := nD0'
    refine lists_of p3 f2 f3 nD0 rfl fun H2 t0 s2 G0 => ?_
    have hx2 := s2 _ _ (s1 _ _ hx)
    refine ⟨_, rfl, x, CW, dx, [], rfl, hx2, C.c, C.first, by decide, ?_⟩
    generalize hB3 : upd H2 x (.ins CW dx (putF "first" (.ref D0) [])) = H3
    have b3 : But x H2 H3 := by rw [← hB3]; exact (But.refl _ _).upd
    have hx3 : H3 x = some (.ins CW dx [("first", .ref D0)]) := by rw [← hB3]; exact upd_same
    have G03 := G0.but hx2 b3
    have hM3 : Mat H3 CM m h w M := by rw [← hB3]; exact nxt hx2 ((hM.same s1).same s2) mx
    have sB3 : Same B H3 := by rw [← hB3]; exact bx ((sB.trans s1).trans s2)
    obtain ⟨d4, a4, r4, g1, g2, g3⟩ := hM3
    refine ⟨_, rfl, _, _, _, _, _, rfl, g1, MM.c.c, MM.c.rows, rfl, a4, rfl, ⟨_, SqT.of g2⟩, fun D1 nD1' => ?_⟩
    have nD1 : H3 D1 = none := nD1'
    refine lists_of p3 g2 g3 nD1 rfl fun H4 t1 s4 G1 => ?_
    have hx4 := s4 _ _ hx3
    refine ⟨_, rfl, x, CW, dx, _, rfl, hx4, C.c, C.middle, (by show 1 < 1000; decide), ?_⟩
    generalize hB5 : upd H4 x (.ins CW dx (putF "middle" (.ref D1) [("first", .ref D0)])) = H5
    have b5 : But x H4 H5 := by rw [← hB5]; exact (But.refl _ _).upd
    have hx5 : H5 x = some (.ins CW dx [("first", .ref D0), ("middle", .ref D1)]) := by rw [← hB5]; exact upd_same
    have G05 := (G03.same s4).but hx4 b5
    have G15 := G1.but hx4 b5
    have hM5 : Mat H5 CM m h w M := by rw [← hB5]; exact nxt hx4 (Mat.same ⟨d4, a4, r4, g1, g2, g3⟩ s4) mx
    have sB5 : Same B H5 := by rw [← hB5]; exact bx (sB3.trans s4)
    obtain ⟨d6, a6, r6, k1, k2, k3⟩ := hM5
    refine ⟨rfl, _, rfl, _, _, _, _, _, rfl, k1, MM.c.c, MM.c.width, rfl, w, rfl, ⟨p2, p4⟩, fun m6 H6 s6 hM6 => ?_⟩
    obtain ⟨d7, a7, r7, l1, l2, l3⟩ := hM6
    refine ⟨_, _, _, _, _, rfl, l1, MM.c.c, MM.c.rows, rfl, a7, rfl, ⟨_, SqT.of l2⟩, fun D2 nD2' => ?_⟩
    have nD2 : H6 D2 = none := nD2'
    refine lists_of p4 l2 l3 nD2 rfl fun H7 t2 s7 G2 => ?_
    have hx7 := s7 _ _ (s6 _ _ hx5)
    refine ⟨_, rfl, x, CW, dx, _, rfl, hx7, C.c, C.last, (by show 2 < 1000; decide), ?_⟩
    generalize hB8 : upd H7 x (.ins CW dx (putF "last" (.ref D2) [("first", .ref D0), ("middle", .ref D1)])) = H8
    have b8 : But x H7 H8 := by rw [← hB8]; exact (But.refl _ _).upd
    have hx8 : H8 x = some (.ins CW dx (wFs (pk3 D0 D1 D2))) := by rw [← hB8]; exact upd_same
    have G08 := ((G05.same s6).same s7).but hx7 b8
    have G18 := ((G15.same s6).same s7).but hx7 b8
    have G28 := G2.but hx7 b8
    refine q H8 (pk3 D0 D1 D2) (pk3 t0 t1 t2) ⟨⟨dx, hx8⟩, WI.ofs ⟨p1, p2, p3, p4⟩ (pk3 H1 H3 H6) (fun g hg => ?_) (fun g g' h1 h2 => ?_) (fun g hg => ?_) ?_⟩
    · match g, hg with
      | 0, _ => exact G08
      | 1, _ => exact G18
      | 2, _ => exact G28
    · have z : (g = 0 ∧ g' = 1) ∨ (g = 0 ∧ g' = 2) ∨ (g = 1 ∧ g' = 2) := by omega
      rcases z with ⟨rfl, rfl⟩ | ⟨rfl, rfl⟩ | ⟨rfl, rfl⟩
      · exact ⟨_, G03⟩
      · exact ⟨_, G05.same s6⟩
      · exact ⟨_, G15.same s6⟩
    · match g, hg with
      | 0, _ => exact sB.trans s1
      | 1, _ => exact sB3
      | 2, _ => exact sB5.trans s6
    · rw [← hB8]
      exact bx ((sB5.trans s6).trans s7)
def spBring (CW : Addr) : Sp := fun vs H Q _ => ∃ (B : Hp) (x p : Addr) (h w : Nat) (a : Nat → Addr) (r : Nat → Nat → Addr) (u : W3) (s i j : Nat), vs = [.ref x, .int (s : Int), .ref p] ∧ WA B H CW x h w a r (mx3 u) ∧ (s < h ∧ s < w ∧ i < h ∧ j < w) ∧
  H p = some (.tup [.int (i : Int), .int (j : Int)]) ∧ ∀ H' r', WA B H' CW x h w a r' (mx3 (brg s i j u)) → Q .non H'
/-- one grid's rows s, i change places -/
theorem swap_turn {B H : Hp} {x : Addr} {h w : Nat} {a : Nat → Addr} {r : Nat → Nat → Addr} {V : Nat → Mx} {g s i : Nat} {L : Addr} {o : HO} (W : WA B H CW x h w a r V) (hg : g < 3) (hs : s < d1 h w g) (hi : i < d1 h w g) (hL : H L = some o) (nL : ∀ g, g < 3 → a g ≠ L)
    {T : Addr} {y : HO} (nT : H T = none) {H2 : Hp} (e : H2 = upd (upd (upd H T y) (a g) (.lst ((refs (d1 h w g) (r g)).set s (.ref (r g i))))) (a g) (.lst (((refs (d1 h w g) (r g)).set s (.ref (r g i))).set i (.ref (r g s))))) :
    H2 L = some o ∧ ∃ r', WA B H2 CW x h w a r' (pt g (rowSwap (V g) s i) V) := by
  have W1 := W.same (same_new (o := y) nT)
  rw [upd_upd, refs_set, refs_set] at e
  have eq : (fun k => if k = i then r g s else if k = s then r g i else r g k) = fun k => r g (sw s i k) := funext fun k => by
    unfold sw
    by_cases e1 : k = i
    · by_cases e2 : k = s
      · rw [if_pos e1, if_pos e2, ← e1, ← e2]
      · rw [if_pos e1, if_neg e2, if_pos e1]
    · by_cases e2 : k = s
      · rw [if_neg e1, if_pos e2, if_pos e2]
      · rw [if_neg e1, if_neg e2, if_neg e2, if_neg e1]
  rw [eq] at e
  subst e
  refine ⟨?_, _, W1.but (W1.g.top g hg) (But.refl _ _).upd (W1.g.swap hg hs hi upd_same (But.refl _ _).upd)⟩
  rw [upd_ne (nL g hg).symm, upd_ne (ne_of_none hL nT)]
  exact hL
theorem ok_bring {fe : Addr} {fde : FuncData} (F : Fun K "bring" "Work.bring" sWorkBring f fd) (C : WCl K CW) (CE : Cal K mg "exchanged_columns" sExchangedColumns ["rows", "first", "second"] fe fde) (GE : FnOk P w K mg base CX0 k fe fde ["rows", "first", "second"] spExCol) :
    FnOk P w K mg base CX0 (k + 1) f fd ["self", "at", "place"] (spBring CW) := by
  refine F.ok scWorkBring (fun vs H Q E h => ?_) (fun cdv A outer s H vs Q E hr h => ?_)
  · obtain ⟨B, x, p, h, w, a, r, u, s, i, j, rfl, _⟩ := h
    rfl
  · obtain ⟨B, x, p, h, w, a, r, u, s, i, j, rfl, W, ⟨l1, l2, l3, l4⟩, hp, q⟩ := h
    refine ⟨_, (pss_cons (ps_asg (pv 2) (pg_tup rfl (pgs_cons (pg_name (i := 3) scWorkBring.nd rfl (by first | exact .inl rfl | exact .inr rfl)) (pgs_cons (pg_name (i := 4) scWorkBring.nd rfl (by first | exact .inl rfl | exact .inr rfl)) pgs_nil))))
  (pss_cons (ps_for PassesOwn.never rfl (kpil (K := K) (hl := (pe_lst (pa_cons (kfld (K := K) (he := (pv 0))) (pa_cons (kfld (K := K) (he := (pv 0))) pa_nil))))) (pg_name (i := 5) scWorkBring.nd rfl (by first | exact .inl rfl | exact .inr rfl)) (pss_one (ps_asg (pe_tup (pa_cons (kixl (K := K) (ha := (pv 5)) (hb := (pv 3))) (pa_cons (kixl (K := K) (ha := (pv 5)) (hb := (pv 1))) pa_nil))) (pg_tup rfl (pgs_cons (pg_sub (pv 5) (pv 1) set_list) (pgs_cons (pg_sub (pv 5) (pv 3) set_list) pgs_nil))))))
  (pss_one (ps_for PassesOwn.never rfl (kpil (K := K) (hl := (pe_lst (pa_cons (kfld (K := K) (he := (pv 0))) (pa_cons (kfld (K := K) (he := (pv 0))) pa_nil))))) (pg_name (i := 5) scWorkBring.nd rfl (by first | exact .inl rfl | exact .inr rfl)) (pss_one (ps_expr (pcal CE GE hr pass0 (pa_cons (pv 5) (pa_cons (pv 1) (pa_cons (pv 4) pa_nil)))))))))), ?_⟩
    obtain ⟨dx, hx⟩ := W.i
    refine ⟨_, rfl, p, _, rfl, SqT.of hp, rfl, _, _, rfl, _, _, rfl, rfl, ?_⟩
    refine ⟨_, rfl, _, _, _, _, _, rfl, hx, C.c, C.middle, rfl, _, rfl, _, _, _, _, _, rfl, hx, C.c, C.first, rfl, size_ok (by show 2 ≤ 100000; decide), fun L nL0 => ?_⟩
    have nL : H L = none := nL0
    have aL : ∀ g, g < 3 → a g ≠ L := fun g hg => ne_of_none (W.g.top g hg) nL
    have W1 : WA B (upd H L (.lst [.ref (a 1), .ref (a 0)])) CW x h w a r (mx3 u) := W.same (same_new nL)
    refine ⟨L, rfl, ⟨_, SqL.of upd_same⟩, for_list (xs := [.ref (a 1), .ref (a 0)]) (fun n σ H' => (∃ z, σ = [some (.ref x), some (.int (s : Int)), some (.ref p), some (.int (i : Int)), some (.int (j : Int)), z]) ∧ H' L = some (.lst [.ref (a 1), .ref (a 0)]) ∧
      ∃ r', WA B H' CW x h w a r' (if n = 0 then mx3 u else if n = 1 then pt 1 (rowSwap u.M s i) (mx3 u) else pt 0 (rowSwap u.F s i) (pt 1 (rowSwap u.M s i) (mx3 u)))) ⟨⟨_, rfl⟩, upd_same, r, W1⟩ (fun n σ H' _ p => SqL.of p.2.1) ?_ ?_⟩
    · rintro n y σ H' hy ⟨⟨z, rfl⟩, hL, r', W'⟩
      match n, hy with
      | 0, hy =>
        cases hy
        have e1 := W'.g.top 1 (by omega)
        refine ⟨_, rfl, _, rfl, _, _, _, _, rfl, rfl, SqL.of e1, atI_refs (i := i) _ (show i < d1 h w 1 from l3), _, rfl, _, rfl, _, _, _, _, rfl, rfl, SqL.of e1, atI_refs (i := s) _ (show s < d1 h w 1 from l1), size_ok (by show 2 ≤ 100000; decide), fun T0 nT0 => ?_⟩
        have nT : H' T0 = none := nT0
        refine ⟨_, _, rfl, SqT.of upd_same, rfl, _, _, rfl, ?_⟩
        refine ⟨_, rfl, _, rfl, _, _, _, s, rfl, rfl, upd_new nT e1, (by rw [refs_len]; exact ixN_nat (show s < d1 h w 1 from l1)), _, _, rfl, ?_⟩
        refine ⟨_, rfl, _, rfl, _, _, _, i, rfl, rfl, upd_same, (by rw [List.length_set, refs_len]; exact ixN_nat (show i < d1 h w 1 from l3)), rfl, ⟨_, rfl⟩, ?_⟩
        exact swap_turn W' (by omega) (show s < d1 h w 1 from l1) (show i < d1 h w 1 from l3) hL aL nT rfl
      | 1, hy =>
        cases hy
        have e1 := W'.g.top 0 (by omega)
        refine ⟨_, rfl, _, rfl, _, _, _, _, rfl, rfl, SqL.of e1, atI_refs (i := i) _ (show i < d1 h w 0 from l3), _, rfl, _, rfl, _, _, _, _, rfl, rfl, SqL.of e1, atI_refs (i := s) _ (show s < d1 h w 0 from l1), size_ok (by show 2 ≤ 100000; decide), fun T0 nT0 => ?_⟩
        have nT : H' T0 = none := nT0
        refine ⟨_, _, rfl, SqT.of upd_same, rfl, _, _, rfl, ?_⟩
        refine ⟨_, rfl, _, rfl, _, _, _, s, rfl, rfl, upd_new nT e1, (by rw [refs_len]; exact ixN_nat (show s < d1 h w 0 from l1)), _, _, rfl, ?_⟩
        refine ⟨_, rfl, _, rfl, _, _, _, i, rfl, rfl, upd_same, (by rw [List.length_set, refs_len]; exact ixN_nat (show i < d1 h w 0 from l3)), rfl, ⟨_, rfl⟩, ?_⟩
        exact swap_turn W' (by omega) (show s < d1 h w 0 from l1) (show i < d1 h w 0 from l3) hL aL nT rfl
      | n + 2, hy => cases hy
    · rintro σ H' ⟨⟨z, rfl⟩, hL, r', W'⟩
      obtain ⟨dx2, hx2⟩ := W'.i
      refine ⟨_, rfl, _, _, _, _, _, rfl, hx2, C.c, C.middle, rfl, _, rfl, _, _, _, _, _, rfl, hx2, C.c, C.last, rfl, size_ok (by show 2 ≤ 100000; decide), fun Lb nL20 => ?_⟩
      have nL2 : H' Lb = none := nL20
      have aL2 : ∀ g i, g < 3 → i < d1 h w g → r' g i ≠ Lb := fun g i hg hi => ne_of_none (W'.g.row g i hg hi) nL2
      have W2 := W'.same (same_new (o := .lst [.ref (a 1), .ref (a 2)]) nL2)
      refine ⟨Lb, rfl, ⟨_, SqL.of upd_same⟩, for_list (xs := [.ref (a 1), .ref (a 2)]) (fun n σ H' => (∃ z, σ = [some (.ref x), some (.int (s : Int)), some (.ref p), some (.int (i : Int)), some (.int (j : Int)), z]) ∧ H' Lb = some (.lst [.ref (a 1), .ref (a 2)]) ∧
        WA B H' CW x h w a r' (if n = 0 then mx3 ⟨rowSwap u.F s i, rowSwap u.M s i, u.L⟩ else if n = 1 then mx3 ⟨rowSwap u.F s i, colSwap (rowSwap u.M s i) s j, u.L⟩ else mx3 (brg s i j u))) ⟨⟨_, rfl⟩, upd_same, ?_⟩ (fun n σ H' _ p => SqL.of p.2.1) ?_ ?_⟩
      · rw [if_pos rfl]
        have e : (if ([V.ref (a 1), .ref (a 0)] : List L2.V).length = 0 then mx3 u else if ([V.ref (a 1), .ref (a 0)] : List L2.V).length = 1 then pt 1 (rowSwap u.M s i) (mx3 u) else pt 0 (rowSwap u.F s i) (pt 1 (rowSwap u.M s i) (mx3 u))) = mx3 ⟨rowSwap u.F s i, rowSwap u.M s i, u.L⟩ := by
          rw [if_neg (by show ¬ (2 : Nat) = 0; decide), if_neg (by show ¬ (2 : Nat) = 1; decide)]
          funext g
          match g with
          | 0 => rfl
          | 1 => rfl
          | g + 2 => rfl
        rw [e] at W2
        exact W2
      · rintro n y σ H3 hy ⟨⟨z, rfl⟩, hL, W3⟩
        match n, hy with
        | 0, hy =>
          cases hy
          refine ⟨_, rfl, _, rfl, _, rfl, a 1, r' 1, _, _, s, j, _, rfl, ⟨l2, l4, W3.g.pos.2.2.2⟩, W3.g.rws (g := 1) (by omega), fun H4 rw4 => ?_⟩
          have g4 := W3.g.cols (g := 1) (by omega) rw4
          have e : pt 1 (colSwap (rowSwap u.M s i) s j) (mx3 ⟨rowSwap u.F s i, rowSwap u.M s i, u.L⟩) = mx3 ⟨rowSwap u.F s i, colSwap (rowSwap u.M s i) s j, u.L⟩ := by
            funext g
            match g with
            | 0 => rfl
            | 1 => rfl
            | g + 2 => rfl
          refine ⟨⟨_, rfl⟩, rw4.2 _ _ (fun i hi => (aL2 1 i (by omega) hi).symm) hL, ⟨W3.i.imp fun _ e => rw4.2 _ _ (fun i hi => ne_of e (W3.g.row 1 i (by omega) hi) (by intro z; cases z)) e, ?_⟩⟩
          rw [if_neg (by omega), if_pos rfl, ← e]
          exact g4
        | 1, hy =>
          cases hy
          refine ⟨_, rfl, _, rfl, _, rfl, a 2, r' 2, _, _, s, j, _, rfl, ⟨l2, l4, W3.g.pos.2.2.2⟩, W3.g.rws (g := 2) (by omega), fun H4 rw4 => ?_⟩
          have g4 := W3.g.cols (g := 2) (by omega) rw4
          have e : pt 2 (colSwap u.L s j) (mx3 ⟨rowSwap u.F s i, colSwap (rowSwap u.M s i) s j, u.L⟩) = fun g => if g < 3 then mx3 (brg s i j u) g else u.L := by
            funext g
            match g with
            | 0 => rfl
            | 1 => rfl
            | 2 => rfl
            | g + 3 =>
              rw [if_neg (by omega)]
              rfl
          refine ⟨⟨_, rfl⟩, rw4.2 _ _ (fun i hi => (aL2 2 i (by omega) hi).symm) hL, ⟨W3.i.imp fun _ e => rw4.2 _ _ (fun i hi => ne_of e (W3.g.row 2 i (by omega) hi) (by intro z; cases z)) e, ?_⟩⟩
          rw [if_neg (by omega), if_neg (by omega)]
          refine WI.vals (V := fun g => if g < 3 then mx3 (brg s i j u) g else u.L) ?_ fun g i' j' hg _ _ => by rw [if_pos hg]
          rw [← e]
          exact g4
        | n + 2, hy => cases hy
      · rintro σ H3 ⟨⟨z, rfl⟩, hL, W3⟩
        exact q H3 r' W3
def spTurn (CW : Addr) : Sp := fun vs H Q _ => ∃ (B : Hp) (x : Addr) (h w : Nat) (a : Nat → Addr) (r : Nat → Nat → Addr) (u : W3) (s : Nat), vs = [.ref x, .int (s : Int)] ∧ WA B H CW x h w a r (mx3 u) ∧ (s < h ∧ s < w) ∧
  ∀ H' r', WA B H' CW x h w a r' (mx3 (if u.M s s < 0 then ngt s u else u)) → Q .non H'
/-- [-item for item in row] at row s of grid g -/
theorem neg_row {B H : Hp} {x D : Addr} {h w : Nat} {a : Nat → Addr} {r : Nat → Nat → Addr} {V : Nat → Mx} {g s : Nat} {σ : L2.St} {Qd : Hp → Prop} (W : WA B H CW x h w a r V) (hg : g < 3) (hs : s < d1 h w g) (nD : H D = none) (l : σ.length = 3)
    (hd : ∀ H', Same H H' → H D = none → H' D = some (.lst (rowV (d2 h w g) fun j => - V g s j)) → Qd H') :
    ∃ W : Nat → Nat → Hp → Prop, (∃ m, W 0 m (upd H D (.lst []))) ∧ ∀ i m H, W i m H →
      ((Itl K (r g s)).stop i H ∧ Qd H) ∨ ((Itl K (r g s)).go i H ∧ ∃ Nx : Hp → Prop, (∀ H', Nx H' → ∃ m', m' < m ∧ W (i + 1) m' H') ∧ ∀ x H', (Itl K (r g s)).yld i H x H' → gName 2 x (wipe σ [2]) H' fun σ2 H2 => wipe σ2 [2] = wipe σ [2] ∧ tYes σ2 H2 fun b H3 =>
        if b = true then tUn (rU fun i => .int (-i)) (tVar 2) σ2 H3 fun y H4 => ∃ acc, H4 D = some (.lst acc) ∧ acc.length < sizeLine ∧ Nx (upd H4 D (.lst (acc ++ [y]))) else Nx H3) := by
  have hrow := W.g.row g s hg hs
  have hne : r g s ≠ D := ne_of_none hrow nD
  have wl := walk_list (K := K) (a := r g s) (xs := rowV (d2 h w g) (V g s))
  rw [rowV_len] at wl
  have := d2_le (g := g) W.g.pos
  refine lc_map wl (by omega) (fun j z _ => z = .int (- V g s j)) (fun _ _ _ _ _ h _ => h) (fun H' b => SqL.of (b _ _ hne (upd_new nD hrow))) ?_ (mono_name 2) mono_yes nD ?_
  · rintro i y H9 H0 Kc hi b _ ⟨rfl, hy⟩ fin
    obtain ⟨_, rfl⟩ := rowV_get hy
    match σ, l with
    | [z0, z1, z2], _ => exact ⟨rfl, rfl, _, rfl, _, rfl, fin _ _ (Same.refl _) rfl⟩
  · intro H1 zs b hz hzl hzr
    exact hd H1 (But.same nD b) nD (by rw [hz, row_of hzl hzr])
theorem neg_set {B H H1 : Hp} {x D : Addr} {h w : Nat} {a : Nat → Addr} {r : Nat → Nat → Addr} {V : Nat → Mx} {g s : Nat} (W : WA B H CW x h w a r V) (hg : g < 3) (s1 : Same H H1) (nD : H D = none) (hD : H1 D = some (.lst (rowV (d2 h w g) fun j => - V g s j))) :
    ∃ r', WA B (upd H1 (a g) (.lst ((refs (d1 h w g) (r g)).set s (.ref D)))) CW x h w a r' (pt g (rowNeg (V g) s) V) := by
  have hag := W.g.top g hg
  have b : But (a g) H (upd H1 (a g) (.lst ((refs (d1 h w g) (r g)).set s (.ref D)))) := (But.of s1).upd
  refine ⟨_, W.but hag b ((W.g.setrow (t := s) (X := fun j => - V g s j) hg nD ?_ ?_ b).vals fun g' i j hg' hi hj => ?_)⟩
  · rw [upd_ne (ne_of_none hag nD).symm]
    exact hD
  · rw [upd_same, refs_set]
  · by_cases e : g' = g
    · subst e
      rw [pt_same, pt_same]
      show (if i = s then fun j => - V g' s j else V g' i) j = if i = s then - V g' s j else V g' i j
      by_cases e : i = s
      · rw [if_pos e, if_pos e]
      · rw [if_neg e, if_neg e]
    · rw [pt_ne e, pt_ne e]
theorem ok_turn (F : Fun K "turn_sign" "Work.turn_sign" sWorkTurnSign f fd) (C : WCl K CW) : FnOk P w K mg base CX0 (k + 1) f fd ["self", "at"] (spTurn CW) := by
  refine F.ok scWorkTurnSign (fun vs H Q E h => ?_) (fun cdv A outer s H vs Q E hr h => ?_)
  · obtain ⟨B, x, h, w, a, r, u, s, rfl, _⟩ := h
    rfl
  · obtain ⟨B, x, h, w, a, r, u, s, rfl, W, ⟨l1, l2⟩, q⟩ := h
    refine ⟨_, (pss_one (ps_if (pt_cmpR op_lt (kixl (K := K) (ha := (kixl (K := K) (ha := (kfld (K := K) (he := (pv 0)))) (hb := (pv 1)))) (hb := (pv 1))) pe_int (nomark _)) (pss_cons (ps_asg (pe_lc (own := [("item", 2)]) (g := (gName 2)) (tt := tYes) rfl scWorkTurnSign.nd (kpil (K := K) (hl := (kixl (K := K) (ha := (kfld (K := K) (he := (pv 0)))) (hb := (pv 1))))) (blkOk_by (N := nWorkTurnSign) (sc := defScope sWorkTurnSign) (by decide +kernel)) (fun _ _ _ _ _ => (pg_name (i := 2) scWorkTurnSign.nd rfl (by first | exact .inl rfl | exact .inr rfl))) (fun _ _ _ _ _ => pts_nil) (fun _ _ _ _ _ => (pe_un un_neg (pv 2)))) (pg_sub (kfld (K := K) (he := (pv 0))) (pv 1) set_list))
  (pss_one (ps_asg (pe_lc (own := [("item", 2)]) (g := (gName 2)) (tt := tYes) rfl scWorkTurnSign.nd (kpil (K := K) (hl := (kixl (K := K) (ha := (kfld (K := K) (he := (pv 0)))) (hb := (pv 1))))) (blkOk_by (N := nWorkTurnSign) (sc := defScope sWorkTurnSign) (by decide +kernel)) (fun _ _ _ _ _ => (pg_name (i := 2) scWorkTurnSign.nd rfl (by first | exact .inl rfl | exact .inr rfl))) (fun _ _ _ _ _ => pts_nil) (fun _ _ _ _ _ => (pe_un un_neg (pv 2)))) (pg_sub (kfld (K := K) (he := (pv 0))) (pv 1) set_list)))) pss_nil)), ?_⟩
    obtain ⟨dx, hx⟩ := W.i
    have e1 := W.g.top 1 (by omega)
    have er := W.g.row 1 s (by omega) (show s < d1 h w 1 from l1)
    refine ⟨_, rfl, _, _, _, _, _, rfl, hx, C.c, C.middle, rfl, _, rfl, _, _, _, _, rfl, rfl, SqL.of e1, atI_refs (i := s) _ (show s < d1 h w 1 from l1), _, rfl, _, _, _, _, rfl, rfl, SqL.of er, atI_row (j := s) _ (show s < d2 h w 1 from l2), _, _, rfl, rfl, _, rfl, ite2 (fun e => ?_) (fun e => ?_)⟩
    · have neg : u.M s s < 0 := of_decide_eq_true e
      rw [if_pos neg] at q
      refine ⟨_, rfl, _, _, _, _, _, rfl, hx, C.c, C.middle, rfl, _, rfl, _, _, _, _, rfl, rfl, SqL.of e1, atI_refs (i := s) _ (show s < d1 h w 1 from l1), _, rfl, ⟨_, SqL.of er⟩, fun D0 nD0' => ?_⟩
      have nD0 : H D0 = none := nD0'
      refine neg_row (g := 1) W (by omega) (show s < d1 h w 1 from l1) nD0 rfl fun H1 s1 _ hD0 => ?_
      refine ⟨_, rfl, _, _, _, _, _, rfl, s1 _ _ hx, C.c, C.middle, rfl, _, rfl, _, _, _, s, rfl, rfl, s1 _ _ e1, (by rw [refs_len]; exact ixN_nat (show s < d1 h w 1 from l1)), ?_⟩
      obtain ⟨r2, W2⟩ := neg_set (g := 1) (s := s) W (by omega) s1 nD0 hD0
      obtain ⟨dx2, hx2⟩ := W2.i
      have e2 := W2.g.top 0 (by omega)
      have er2 := W2.g.row 0 s (by omega) (show s < d1 h w 0 from l1)
      refine ⟨_, rfl, _, _, _, _, _, rfl, hx2, C.c, C.first, rfl, _, rfl, _, _, _, _, rfl, rfl, SqL.of e2, atI_refs (i := s) _ (show s < d1 h w 0 from l1), _, rfl, ⟨_, SqL.of er2⟩, fun D2 nD2' => ?_⟩
      refine neg_row (g := 0) W2 (by omega) (show s < d1 h w 0 from l1) nD2' rfl fun H3 s3 nD2 hD2 => ?_
      refine ⟨_, rfl, _, _, _, _, _, rfl, s3 _ _ hx2, C.c, C.first, rfl, _, rfl, _, _, _, s, rfl, rfl, s3 _ _ e2, (by rw [refs_len]; exact ixN_nat (show s < d1 h w 0 from l1)), ?_⟩
      obtain ⟨r4, W4⟩ := neg_set (g := 0) (s := s) W2 (by omega) s3 nD2 hD2
      refine q _ r4 ⟨W4.i, W4.g.vals fun g i j hg _ _ => ?_⟩
      match g, hg with
      | 0, _ => rfl
      | 1, _ => rfl
      | 2, _ => rfl
    · have neg : ¬ u.M s s < 0 := fun z => e (decide_eq_true z)
      rw [if_neg neg] at q
      exact q H r W
end
end Wk
/-! Wk9: Work.clear, Work.spread. -/
namespace Wk
open PySem PySem.Spec PyProof.Rows L2 Ev
theorem WA.addrow {B H H' : Hp} {CW x q : Addr} {h w : Nat} {a : Nat → Addr} {r : Nat → Nat → Addr} {V : Nat → Mx} {g t s : Nat} {c : Int} (W : WA B H CW x h w a r V) (hg : g < 3) (nq : H q = none) (hq : H' q = some (.lst (rowV (d2 h w g) fun j => V g t j + c * V g s j)))
    (ht : H' (a g) = some (.lst (refs (d1 h w g) fun k => if k = t then q else r g k))) (b : But (a g) H H') : ∃ r', WA B H' CW x h w a r' (pt g (rowAdd (V g) t s c) V) := by
  refine ⟨_, W.but (W.g.top g hg) b ((W.g.setrow (t := t) (X := fun j => V g t j + c * V g s j) hg nq hq ht b).vals fun g' i j hg' hi hj => ?_)⟩
  by_cases e : g' = g
  · subst e
    rw [pt_same, pt_same]
    show (if i = t then fun j => V g' t j + c * V g' s j else V g' i) j = if i = t then V g' t j + c * V g' s j else V g' i j
    by_cases e : i = t
    · rw [if_pos e, if_pos e]
    · rw [if_neg e, if_neg e]
  · rw [pt_ne e, pt_ne e]
theorem WA.cols {B H H' : Hp} {CW x : Addr} {h w : Nat} {a : Nat → Addr} {r : Nat → Nat → Addr} {V : Nat → Mx} {g : Nat} {N : Mx} (W : WA B H CW x h w a r V) (hg : g < 3) (rw' : Rewr H H' (d1 h w g) (d2 h w g) (r g) N) : WA B H' CW x h w a r (pt g N V) :=
  ⟨W.i.imp fun _ e => rw'.2 _ _ (fun i hi => ne_of e (W.g.row g i hg hi) (by intro z; cases z)) e, W.g.cols hg rw'⟩
/-- the sizes that clear asks for -/
structure Szs (h w s : Nat) (u : W3) : Prop where
  bd : Bd h w u.M T0
  nz : u.M s s ≠ 0
  e : ∃ e, e ≤ 120000000 ∧ Bb h u.F e ∧ Bb w u.L e
theorem lt5830 {z : Int} (h : z.natAbs ≤ T0) : z.natAbs < 2 ^ 5830 := by
  have := T0_lt
  omega
theorem log_ok {z : Int} (h : z.natAbs ≤ T0) : z.natAbs.log2 < 9000 := Nat.lt_of_lt_of_le (PySem.Flt.log2_lt_of (by decide) (lt5830 h)) (by decide)
theorem quo_ok {z P y : Int} {e : Nat} (hz : z.natAbs ≤ T0) (hP : P ≠ 0) (hy : y.natAbs < 2 ^ e) (he : e ≤ 120000000) : IntMulOk (-(z.fdiv P)) y := by
  have h1 : (-(z.fdiv P)).natAbs < 2 ^ 5830 := by
    rw [Int.natAbs_neg]
    exact Nat.lt_of_le_of_lt (fdiv_le z hP) (lt5830 hz)
  have h2 : y.natAbs < 2 ^ (e + 1) := Nat.lt_of_lt_of_le hy (Nat.pow_le_pow_right (by decide) (by omega))
  exact mulX_ok h1 h2 (by decide) (by omega) (by omega)
theorem mul_small {c y : Int} (h : -(2 ^ 64) < c ∧ c < 2 ^ 64) : IntMulOk c y := CMul.ok (.inl h)
section
variable {P : Program} {w : World} {K : PySem.W.Frag} {mg : Str → Option Value} {base : Heap} {CM CW : Addr} {fa fb f : Addr} {fda fdb fd : FuncData} {k : Nat}
def spClear (CW : Addr) : Sp := fun vs H Q _ => ∃ (B : Hp) (x : Addr) (h w : Nat) (a : Nat → Addr) (r : Nat → Nat → Addr) (u : W3) (s : Nat), vs = [.ref x, .int (s : Int)] ∧ WA B H CW x h w a r (mx3 u) ∧ (s < h ∧ s < w) ∧ Szs h w s u ∧
  ∀ H' r' b, WA B H' CW x h w a r' (mx3 (clr h w s u)) → (b = true ↔ Clean h w s (clr h w s u).M) → Q (.bl b) H'
theorem ok_clear (F : Fun K "clear" "Work.clear" sWorkClear f fd) (C : WCl K CW) (T : Blt mg) (CA : Cal K mg "added_row" sAddedRow ["rows", "target", "source", "factor"] fa fda) (GA : FnOk P w K mg base CX0 k fa fda ["rows", "target", "source", "factor"] spAddRow)
    (CB : Cal K mg "added_column" sAddedColumn ["rows", "target", "source", "factor"] fb fdb) (GB : FnOk P w K mg base CX0 k fb fdb ["rows", "target", "source", "factor"] spAddCol) : FnOk P w K mg base CX0 (k + 1) f fd ["self", "at"] (spClear CW) := by
  refine F.ok scWorkClear (fun vs H Q E h => ?_) (fun cdv A outer s H vs Q E hr h => ?_)
  · obtain ⟨B, x, h, w, a, r, u, s, rfl, _⟩ := h
    rfl
  · obtain ⟨B, x, h, w, a, r, u, s, rfl, W, ⟨l1, l2⟩, ⟨hbd, hnz, eb, he, bF, bL⟩, q⟩ := h
    refine ⟨_, (pss_cons (ps_set (i := 2) scWorkClear.nd rfl (by first | exact .inl rfl | exact .inr rfl) (kixl (K := K) (ha := (kixl (K := K) (ha := (kfld (K := K) (he := (pv 0)))) (hb := (pv 1)))) (hb := (pv 1))))
  (pss_cons (ps_set (i := 3) scWorkClear.nd rfl (by first | exact .inl rfl | exact .inr rfl) pe_bl)
  (pss_cons (ps_for PassesOwn.never rfl (pi_range2 (by rfl) T.range (pa_cons (pe_op op_add (pv 1) pe_int) (pa_cons (klen (K := K) T.len (pa_cons (kfld (K := K) (he := (pv 0))) pa_nil)) pa_nil))) (pg_name (i := 4) scWorkClear.nd rfl (by first | exact .inl rfl | exact .inr rfl)) (pss_cons (ps_set (i := 5) scWorkClear.nd rfl (by first | exact .inl rfl | exact .inr rfl) (pe_op op_fdivX (kixl (K := K) (ha := (kixl (K := K) (ha := (kfld (K := K) (he := (pv 0)))) (hb := (pv 4)))) (hb := (pv 1))) (pv 2)))
  (pss_cons (ps_expr (pcal CA GA hr pass0 (pa_cons (kfld (K := K) (he := (pv 0))) (pa_cons (pv 4) (pa_cons (pv 1) (pa_cons (pe_un un_neg (pv 5)) pa_nil))))))
  (pss_cons (ps_expr (pcal CA GA hr pass0 (pa_cons (kfld (K := K) (he := (pv 0))) (pa_cons (pv 4) (pa_cons (pv 1) (pa_cons (pe_un un_neg (pv 5)) pa_nil))))))
  (pss_one (ps_set (i := 3) scWorkClear.nd rfl (by first | exact .inl rfl | exact .inr rfl) (pe_and (pv 3) (pe_one (pe_cmpR op_eq (kixl (K := K) (ha := (kixl (K := K) (ha := (kfld (K := K) (he := (pv 0)))) (hb := (pv 4)))) (hb := (pv 1))) pe_int (nomark _))))))))))
  (pss_cons (ps_for PassesOwn.never rfl (pi_range2 (by rfl) T.range (pa_cons (pe_op op_add (pv 1) pe_int) (pa_cons (klen (K := K) T.len (pa_cons (kixl (K := K) (ha := (kfld (K := K) (he := (pv 0)))) (hb := pe_int)) pa_nil)) pa_nil))) (pg_name (i := 6) scWorkClear.nd rfl (by first | exact .inl rfl | exact .inr rfl)) (pss_cons (ps_set (i := 5) scWorkClear.nd rfl (by first | exact .inl rfl | exact .inr rfl) (pe_op op_fdivX (kixl (K := K) (ha := (kixl (K := K) (ha := (kfld (K := K) (he := (pv 0)))) (hb := (pv 1)))) (hb := (pv 6))) (pv 2)))
  (pss_cons (ps_expr (pcal CB GB hr pass0 (pa_cons (kfld (K := K) (he := (pv 0))) (pa_cons (pv 6) (pa_cons (pv 1) (pa_cons (pe_un un_neg (pv 5)) pa_nil))))))
  (pss_cons (ps_expr (pcal CB GB hr pass0 (pa_cons (kfld (K := K) (he := (pv 0))) (pa_cons (pv 6) (pa_cons (pv 1) (pa_cons (pe_un un_neg (pv 5)) pa_nil))))))
  (pss_one (ps_set (i := 3) scWorkClear.nd rfl (by first | exact .inl rfl | exact .inr rfl) (pe_and (pv 3) (pe_one (pe_cmpR op_eq (kixl (K := K) (ha := (kixl (K := K) (ha := (kfld (K := K) (he := (pv 0)))) (hb := (pv 1)))) (hb := (pv 6))) pe_int (nomark _))))))))))
  (pss_one (ps_ret (pv 3))))))), ?_⟩
    obtain ⟨dx, hx⟩ := W.i
    have e1 := W.g.top 1 (by omega)
    have er := W.g.row 1 s (by omega) (show s < d1 h w 1 from l1)
    have pos := W.g.pos
    have i3 : ∀ {n : Nat}, n < 5 → -(2 ^ 62 : Int) ≤ ((n : Nat) : Int) ∧ ((n : Nat) : Int) < 2 ^ 62 := fun h => by omega
    refine ⟨_, rfl, _, _, _, _, _, rfl, hx, C.c, C.middle, rfl, _, rfl, _, _, _, _, rfl, rfl, SqL.of e1, atI_refs (i := s) _ (show s < d1 h w 1 from l1), _, rfl, _, _, _, _, rfl, rfl, SqL.of er, atI_row (j := s) _ (show s < d2 h w 1 from l2), ?_⟩
    refine ⟨_, rfl, _, _, rfl, rfl, _, rfl, _, _, _, _, _, rfl, hx, C.c, C.middle, rfl, _, _, rfl, .inl (SqL.of e1), _, _, rfl, ⟨by omega, by omega, ?_, ?_⟩, ?_⟩
    · rw [refs_len]
      show -(2 ^ 62) ≤ ((h : Nat) : Int)
      omega
    · rw [refs_len]
      show ((h : Nat) : Int) < 2 ^ 62
      omega
    rw [refs_len]
    have en : (((h : Nat) : Int) - ((s : Int) + 1)).toNat = h - (s + 1) := by omega
    show ∃ W, _
    rw [show d1 h w 1 = h from rfl, en]
    refine for_range (fun n σ H' => ∃ b z1 z2 z3 r', σ = [some (.ref x), some (.int (s : Int)), some (.int (u.M s s)), some (.bl b), z1, z2, z3] ∧ WA B H' CW x h w a r' (mx3 (clrR s (u.M s s) n u)) ∧ (b = true ↔ ∀ i, s < i → i < s + 1 + n → (clrR s (u.M s s) n u).M i s = 0))
      ⟨true, none, none, none, r, rfl, W, ⟨fun _ i h1 h2 => by omega, fun _ => rfl⟩⟩ ?_ ?_
    · rintro n σ H1 hn ⟨b, z1, z2, z3, r1, rfl, W1, hb⟩
      rw [show (s : Int) + 1 + (n : Int) = ((s + 1 + n : Nat) : Int) from by omega]
      have hi : s + 1 + n < h := by omega
      obtain ⟨dx1, hx1⟩ := W1.i
      have t1 := W1.g.top 1 (by omega)
      have m1 := W1.g.row 1 (s + 1 + n) (by omega) (show s + 1 + n < d1 h w 1 from hi)
      have vM : (clrR s (u.M s s) n u).M (s + 1 + n) s = u.M (s + 1 + n) s := by rw [clrR_M, if_neg (by omega)]
      have vS : ∀ j, (clrR s (u.M s s) n u).M s j = u.M s j := fun j => by rw [clrR_M, if_neg (by omega)]
      have vF : ∀ j, (clrR s (u.M s s) n u).F s j = u.F s j := fun j => by rw [clrR_F, if_neg (by omega)]
      refine ⟨_, rfl, _, _, _, _, _, rfl, hx1, C.c, C.middle, rfl, _, rfl, _, _, _, _, rfl, rfl, SqL.of t1, atI_refs (i := s + 1 + n) _ (show s + 1 + n < d1 h w 1 from hi), _, rfl, _, _, _, _, rfl, rfl, SqL.of m1, atI_row (j := s) _ (show s < d2 h w 1 from l2), _, rfl, _, _, rfl, rfl, ⟨hnz, log_ok (hbd s s l1 l2)⟩, ?_⟩
      generalize hv : clrR s (u.M s s) n u = v at *
      -- the middle grid's row
      refine ⟨_, rfl, _, _, _, _, _, rfl, hx1, C.c, C.middle, rfl, _, rfl, _, rfl, _, rfl, _, rfl, ?_⟩
      refine ⟨a 1, r1 1, _, _, s + 1 + n, s, _, _, _, rfl, ⟨hi, l1, pos.2.2.2⟩, t1, m1, W1.g.row 1 s (by omega) (show s < d1 h w 1 from l1), fun j hj => ?_, fun q2 H2 nq hq ht bt => ?_⟩
      · show IntMulOk (-((v.M (s + 1 + n) s).fdiv (u.M s s))) (v.M s j)
        rw [vM, vS]
        exact quo_ok (hbd _ _ hi l2) hnz (lt5830 (hbd s j l1 hj)) (by decide)
      obtain ⟨r2, W2⟩ := W1.addrow (g := 1) (by omega) nq hq ht bt
      obtain ⟨dx2, hx2⟩ := W2.i
      -- the first grid's row
      refine ⟨_, rfl, _, _, _, _, _, rfl, hx2, C.c, C.first, rfl, _, rfl, _, rfl, _, rfl, _, rfl, ?_⟩
      refine ⟨a 0, r2 0, _, _, s + 1 + n, s, _, _, _, rfl, ⟨hi, l1, pos.2.2.1⟩, W2.g.top 0 (by omega), W2.g.row 0 (s + 1 + n) (by omega) (show s + 1 + n < d1 h w 0 from hi), W2.g.row 0 s (by omega) (show s < d1 h w 0 from l1), fun j hj => ?_, fun q3 H3 nq3 hq3 ht3 bt3 => ?_⟩
      · show IntMulOk (-((v.M (s + 1 + n) s).fdiv (u.M s s))) (v.F s j)
        rw [vM, vF]
        exact quo_ok (hbd _ _ hi l2) hnz (bF s j l1 hj) he
      obtain ⟨r3, W3⟩ := W2.addrow (g := 0) (by omega) nq3 hq3 ht3 bt3
      have W4 : WA B H3 CW x h w a r3 (mx3 (stepR s (s + 1 + n) (u.M s s) v)) := ⟨W3.i, W3.g.vals fun g i j hg _ _ => by
        match g, hg with
        | 0, _ => rfl
        | 1, _ => rfl
        | 2, _ => rfl⟩
      have es : clrR s (u.M s s) (n + 1) u = stepR s (s + 1 + n) (u.M s s) v := by rw [← hv]; rfl
      obtain ⟨dx4, hx4⟩ := W4.i
      have t4 := W4.g.top 1 (by omega)
      have m4 := W4.g.row 1 (s + 1 + n) (by omega) (show s + 1 + n < d1 h w 1 from hi)
      have old : ∀ i, i ≠ s + 1 + n → (stepR s (s + 1 + n) (u.M s s) v).M i s = v.M i s := fun i hi => if_neg hi
      refine ⟨_, rfl, b, rfl, ite2 (fun eb => ?_) (fun eb => ?_)⟩
      · refine ⟨_, rfl, _, _, _, _, _, rfl, hx4, C.c, C.middle, rfl, _, rfl, _, _, _, _, rfl, rfl, SqL.of t4, atI_refs (i := s + 1 + n) _ (show s + 1 + n < d1 h w 1 from hi), _, rfl, _, _, _, _, rfl, rfl, SqL.of m4, atI_row (j := s) _ (show s < d2 h w 1 from l2), rfl, ?_⟩
        refine ⟨_, _, _, _, r3, rfl, by rw [es]; exact W4, ?_⟩
        rw [es, decide_eq_true_iff]
        constructor
        · intro z i h1 h2
          by_cases ei : i = s + 1 + n
          · rw [ei]
            exact V.int.inj z
          · rw [old i ei]
            exact hb.mp eb i h1 (by omega)
        · intro z
          exact congrArg V.int (z (s + 1 + n) (by omega) (by omega))
      · refine ⟨_, _, _, _, r3, rfl, by rw [es]; exact W4, ⟨fun z => (nomatch z), fun z => absurd (hb.mpr fun i h1 h2 => ?_) eb⟩⟩
        have := z i h1 (by omega)
        rw [es, old i (by omega)] at this
        exact this
    · rintro σ H1 ⟨b, z1, z2, z3, r1, rfl, W1, hb⟩
      generalize hv : clrR s (u.M s s) (h - (s + 1)) u = v at *
      have vS : ∀ j, v.M s j = u.M s j := fun j => by rw [← hv, clrR_M, if_neg (by omega)]
      have vL : v.L = u.L := by rw [← hv, clrR_L]
      have vb : ∀ i, i < h → (v.M i s).natAbs ≤ T0 := fun i hi => by
        rw [← hv, clrR_M]
        by_cases z : s < i ∧ i < s + 1 + (h - (s + 1))
        · rw [if_pos z, rest_eq]
          have := fmod_lt (u.M i s) hnz
          have := hbd s s l1 l2
          omega
        · rw [if_neg z]
          exact hbd i s hi l2
      obtain ⟨dx1, hx1⟩ := W1.i
      have t1 := W1.g.top 1 (by omega)
      have m0 := W1.g.row 1 0 (by omega) (show 0 < d1 h w 1 from pos.1)
      refine ⟨_, rfl, _, _, rfl, rfl, _, rfl, _, _, _, _, _, rfl, hx1, C.c, C.middle, rfl, _, _, _, _, rfl, rfl, SqL.of t1, atI_refs (i := 0) _ (show 0 < d1 h w 1 from pos.1), _, _, rfl, .inl (SqL.of m0), _, _, rfl, ⟨by omega, by omega, ?_, ?_⟩, ?_⟩
      · rw [rowV_len]
        show -(2 ^ 62) ≤ ((w : Nat) : Int)
        omega
      · rw [rowV_len]
        show ((w : Nat) : Int) < 2 ^ 62
        omega
      rw [rowV_len]
      have en2 : (((w : Nat) : Int) - ((s : Int) + 1)).toNat = w - (s + 1) := by omega
      show ∃ W, _
      rw [show d2 h w 1 = w from rfl, en2]
      refine for_range (fun n σ H' => ∃ b z1 z2 z3, σ = [some (.ref x), some (.int (s : Int)), some (.int (u.M s s)), some (.bl b), z1, z2, z3] ∧ WA B H' CW x h w a r1 (mx3 (clrC s (u.M s s) n v)) ∧ (b = true ↔ (∀ i, s < i → i < h → v.M i s = 0) ∧ ∀ j, s < j → j < s + 1 + n → (clrC s (u.M s s) n v).M s j = 0))
        ⟨b, _, _, _, rfl, W1, ?_⟩ ?_ ?_
      · rw [hb]
        exact ⟨fun z => ⟨fun i h1 h2 => z i h1 (by omega), fun j h1 h2 => by omega⟩, fun z i h1 h2 => z.1 i h1 (by omega)⟩
      · rintro n σ H2 hn ⟨b, z1, z2, z3, rfl, W2, hb2⟩
        rw [show (s : Int) + 1 + (n : Int) = ((s + 1 + n : Nat) : Int) from by omega]
        have hj : s + 1 + n < w := by omega
        obtain ⟨dx2, hx2⟩ := W2.i
        have t2 := W2.g.top 1 (by omega)
        have m2 := W2.g.row 1 s (by omega) (show s < d1 h w 1 from l1)
        have cM : (clrC s (u.M s s) n v).M s (s + 1 + n) = u.M s (s + 1 + n) := by rw [clrC_M, if_neg (by omega), vS]
        have cC : ∀ i, (clrC s (u.M s s) n v).M i s = v.M i s := fun i => by rw [clrC_M, if_neg (by omega)]
        have cL : ∀ i, (clrC s (u.M s s) n v).L i s = u.L i s := fun i => by rw [clrC_L, if_neg (by omega), vL]
        refine ⟨_, rfl, _, _, _, _, _, rfl, hx2, C.c, C.middle, rfl, _, rfl, _, _, _, _, rfl, rfl, SqL.of t2, atI_refs (i := s) _ (show s < d1 h w 1 from l1), _, rfl, _, _, _, _, rfl, rfl, SqL.of m2, atI_row (j := s + 1 + n) _ (show s + 1 + n < d2 h w 1 from hj), _, rfl, _, _, rfl, rfl, ⟨hnz, log_ok (hbd s s l1 l2)⟩, ?_⟩
        generalize hz : clrC s (u.M s s) n v = z at *
        refine ⟨_, rfl, _, _, _, _, _, rfl, hx2, C.c, C.middle, rfl, _, rfl, _, rfl, _, rfl, _, rfl, ?_⟩
        refine ⟨a 1, r1 1, _, _, s + 1 + n, s, _, _, rfl, ⟨hj, l2, pos.2.2.2⟩, W2.g.rws (g := 1) (by omega), fun i hi => ?_, fun H3 rw3 => ?_⟩
        · show IntMulOk (-((z.M s (s + 1 + n)).fdiv (u.M s s))) (z.M i s)
          rw [cM, cC]
          exact quo_ok (hbd _ _ l1 hj) hnz (lt5830 (vb i hi)) (by decide)
        have W3 := W2.cols (g := 1) (by omega) rw3
        obtain ⟨dx3, hx3⟩ := W3.i
        refine ⟨_, rfl, _, _, _, _, _, rfl, hx3, C.c, C.last, rfl, _, rfl, _, rfl, _, rfl, _, rfl, ?_⟩
        refine ⟨a 2, r1 2, _, _, s + 1 + n, s, _, _, rfl, ⟨hj, l2, pos.2.2.2⟩, W3.g.rws (g := 2) (by omega), fun i hi => ?_, fun H4 rw4 => ?_⟩
        · show IntMulOk (-((z.M s (s + 1 + n)).fdiv (u.M s s))) (z.L i s)
          rw [cM, cL]
          exact quo_ok (hbd _ _ l1 hj) hnz (bL i s hi l2) he
        have W4 := W3.cols (g := 2) (by omega) rw4
        have W5 : WA B H4 CW x h w a r1 (mx3 (stepC s (s + 1 + n) (u.M s s) z)) := ⟨W4.i, W4.g.vals fun g i j hg _ _ => by
          match g, hg with
          | 0, _ => rfl
          | 1, _ => rfl
          | 2, _ => rfl⟩
        have es : clrC s (u.M s s) (n + 1) v = stepC s (s + 1 + n) (u.M s s) z := by rw [← hz]; rfl
        obtain ⟨dx5, hx5⟩ := W5.i
        have t5 := W5.g.top 1 (by omega)
        have m5 := W5.g.row 1 s (by omega) (show s < d1 h w 1 from l1)
        have old : ∀ j, j ≠ s + 1 + n → (stepC s (s + 1 + n) (u.M s s) z).M s j = z.M s j := fun i hi => if_neg hi
        refine ⟨_, rfl, b, rfl, ite2 (fun eb => ?_) (fun eb => ?_)⟩
        · refine ⟨_, rfl, _, _, _, _, _, rfl, hx5, C.c, C.middle, rfl, _, rfl, _, _, _, _, rfl, rfl, SqL.of t5, atI_refs (i := s) _ (show s < d1 h w 1 from l1), _, rfl, _, _, _, _, rfl, rfl, SqL.of m5, atI_row (j := s + 1 + n) _ (show s + 1 + n < d2 h w 1 from hj), rfl, ?_⟩
          refine ⟨_, _, _, _, rfl, by rw [es]; exact W5, ?_⟩
          rw [es, decide_eq_true_iff]
          constructor
          · intro y
            refine ⟨(hb2.mp eb).1, fun j h1 h2 => ?_⟩
            by_cases ei : j = s + 1 + n
            · rw [ei]
              exact V.int.inj y
            · rw [old j ei]
              exact (hb2.mp eb).2 j h1 (by omega)
          · intro y
            exact congrArg V.int (y.2 (s + 1 + n) (by omega) (by omega))
        · refine ⟨_, _, _, _, rfl, by rw [es]; exact W5, ⟨fun y => (nomatch y), fun y => absurd (hb2.mpr ⟨y.1, fun j h1 h2 => ?_⟩) eb⟩⟩
          have := y.2 j h1 (by omega)
          rw [es, old j (by omega)] at this
          exact this
      · rintro σ H2 ⟨b, z1, z2, z3, rfl, W2, hb2⟩
        have ec : clrC s (u.M s s) (w - (s + 1)) v = clr h w s u := by rw [← hv]; rfl
        rw [ec] at W2 hb2
        refine ⟨_, rfl, q H2 r1 b W2 (hb2.trans ⟨fun z => ⟨fun i h1 h2 => ?_, fun j h1 h2 => z.2 j h1 (by omega)⟩, fun z => ⟨fun i h1 h2 => ?_, fun j h1 h2 => z.2 j h1 (by omega)⟩⟩)⟩
        · rw [← ec, clrC_M, if_neg (by omega)]
          exact z.1 i h1 h2
        · have := z.1 i h1 h2
          rw [← ec, clrC_M, if_neg (by omega)] at this
          exact this
def spSpread (CW : Addr) : Sp := fun vs H Q _ => ∃ (B : Hp) (x : Addr) (h w : Nat) (a : Nat → Addr) (r : Nat → Nat → Addr) (u : W3) (s : Nat), vs = [.ref x, .int (s : Int)] ∧ WA B H CW x h w a r (mx3 u) ∧ (s < h ∧ s < w) ∧ u.M s s ≠ 0 ∧
  (∀ H', Same H H' → Fine h w s u.M → Q (.bl true) H') ∧ ∀ H' r' i0, s < i0 → i0 < h → (∃ y, y < w ∧ (u.M i0 y).fmod (u.M s s) ≠ 0) → WA B H' CW x h w a r' (mx3 (spr s i0 u)) → Q (.bl false) H'
theorem ok_spread (F : Fun K "spread" "Work.spread" sWorkSpread f fd) (C : WCl K CW) (T : Blt mg) (CA : Cal K mg "added_row" sAddedRow ["rows", "target", "source", "factor"] fa fda) (GA : FnOk P w K mg base CX0 k fa fda ["rows", "target", "source", "factor"] spAddRow) :
    FnOk P w K mg base CX0 (k + 1) f fd ["self", "at"] (spSpread CW) := by
  refine F.ok scWorkSpread (fun vs H Q E h => ?_) (fun cdv A outer s H vs Q E hr h => ?_)
  · obtain ⟨B, x, h, w, a, r, u, s, rfl, _⟩ := h
    rfl
  · obtain ⟨B, x, h, w, a, r, u, s, rfl, W, ⟨l1, l2⟩, hnz, q1, q2⟩ := h
    refine ⟨_, (pss_cons (ps_set (i := 2) scWorkSpread.nd rfl (by first | exact .inl rfl | exact .inr rfl) (kixl (K := K) (ha := (kixl (K := K) (ha := (kfld (K := K) (he := (pv 0)))) (hb := (pv 1)))) (hb := (pv 1))))
  (pss_cons (ps_for PassesOwn.never rfl (pi_range2 (by rfl) T.range (pa_cons (pe_op op_add (pv 1) pe_int) (pa_cons (klen (K := K) T.len (pa_cons (kfld (K := K) (he := (pv 0))) pa_nil)) pa_nil))) (pg_name (i := 3) scWorkSpread.nd rfl (by first | exact .inl rfl | exact .inr rfl)) (pss_one (ps_if (pt_val (kany (K := K) rfl T.any (pa_cons (pe_lc (own := [("item", 4)]) (g := (gName 4)) (tt := tYes) rfl scWorkSpread.nd (kpil (K := K) (hl := (kixl (K := K) (ha := (kfld (K := K) (he := (pv 0)))) (hb := (pv 3))))) (blkOk_by (N := nWorkSpread) (sc := defScope sWorkSpread) (by decide +kernel)) (fun _ _ _ _ _ => (pg_name (i := 4) scWorkSpread.nd rfl (by first | exact .inl rfl | exact .inr rfl))) (fun _ _ _ _ _ => pts_nil) (fun _ _ _ _ _ => (pe_cmpR op_ne (pe_op op_modN (pv 4) (pv 2)) pe_int (nomark _)))) pa_nil))) (pss_cons (ps_expr (pcal CA GA hr pass0 (pa_cons (kfld (K := K) (he := (pv 0))) (pa_cons (pv 1) (pa_cons (pv 3) (pa_cons pe_int pa_nil))))))
  (pss_cons (ps_expr (pcal CA GA hr pass0 (pa_cons (kfld (K := K) (he := (pv 0))) (pa_cons (pv 1) (pa_cons (pv 3) (pa_cons pe_int pa_nil))))))
  (pss_one (ps_ret pe_bl)))) pss_nil)))
  (pss_one (ps_ret pe_bl)))), ?_⟩
    obtain ⟨dx, hx⟩ := W.i
    have e1 := W.g.top 1 (by omega)
    have er := W.g.row 1 s (by omega) (show s < d1 h w 1 from l1)
    have pos := W.g.pos
    refine ⟨_, rfl, _, _, _, _, _, rfl, hx, C.c, C.middle, rfl, _, rfl, _, _, _, _, rfl, rfl, SqL.of e1, atI_refs (i := s) _ (show s < d1 h w 1 from l1), _, rfl, _, _, _, _, rfl, rfl, SqL.of er, atI_row (j := s) _ (show s < d2 h w 1 from l2), ?_⟩
    refine ⟨_, rfl, _, _, rfl, rfl, _, rfl, _, _, _, _, _, rfl, hx, C.c, C.middle, rfl, _, _, rfl, .inl (SqL.of e1), _, _, rfl, ⟨by omega, by omega, ?_, ?_⟩, ?_⟩
    · rw [refs_len]
      show -(2 ^ 62) ≤ ((h : Nat) : Int)
      omega
    · rw [refs_len]
      show ((h : Nat) : Int) < 2 ^ 62
      omega
    rw [refs_len]
    have en : (((h : Nat) : Int) - ((s : Int) + 1)).toNat = h - (s + 1) := by omega
    show ∃ W, _
    rw [show d1 h w 1 = h from rfl, en]
    refine for_range (fun n σ H' => Same H H' ∧ (∃ z1 z2, σ = [some (.ref x), some (.int (s : Int)), some (.int (u.M s s)), z1, z2]) ∧ ∀ i j, s < i → i < s + 1 + n → j < w → (u.M i j).fmod (u.M s s) = 0) ⟨Same.refl _, ⟨_, _, rfl⟩, fun i j h1 h2 _ => by omega⟩ ?_ ?_
    · rintro n σ H1 hn ⟨s1, ⟨z1, z2, rfl⟩, fine⟩
      rw [show (s : Int) + 1 + (n : Int) = ((s + 1 + n : Nat) : Int) from by omega]
      have hi : s + 1 + n < h := by omega
      have W1 := W.same s1
      have m1 := W1.g.row 1 (s + 1 + n) (by omega) (show s + 1 + n < d1 h w 1 from hi)
      refine ⟨_, rfl, _, _, _, _, _, rfl, s1 _ _ hx, C.c, C.middle, rfl, _, rfl, _, _, _, _, rfl, rfl, SqL.of (s1 _ _ e1), atI_refs (i := s + 1 + n) _ (show s + 1 + n < d1 h w 1 from hi), _, rfl, ⟨_, SqL.of m1⟩, fun D nD0 => ?_⟩
      have nD : H1 D = none := nD0
      have wl := walk_list (K := K) (a := r 1 (s + 1 + n)) (xs := rowV (d2 h w 1) (mx3 u 1 (s + 1 + n)))
      rw [rowV_len] at wl
      have hne : r 1 (s + 1 + n) ≠ D := ne_of_none m1 nD
      have := d2_le (g := 1) pos
      refine lc_map wl (by omega) (fun j z _ => z = .bl (!decide (V.int ((u.M (s + 1 + n) j).fmod (u.M s s)) = .int 0))) (fun _ _ _ _ _ h _ => h) (fun H' b => SqL.of (b _ _ hne (upd_new nD m1))) ?_ (mono_name 4) mono_yes nD ?_
      · rintro i y H9 H0 Kc hi b _ ⟨rfl, hy⟩ fin
        obtain ⟨_, rfl⟩ := rowV_get hy
        exact ⟨rfl, rfl, _, rfl, _, rfl, _, _, rfl, rfl, hnz, rfl, fin _ _ (Same.refl _) rfl⟩
      · intro H2 zs b hz hzl hzr
        have s2 : Same H1 H2 := But.same nD b
        have W2 := W1.same s2
        have ez : zs = ((List.range w).map fun j => !decide (V.int ((u.M (s + 1 + n) j).fmod (u.M s s)) = .int 0)).map V.bl := by
          refine List.ext_getElem? fun j => ?_
          by_cases hj : j < w
          · obtain ⟨z, e⟩ : ∃ z, zs[j]? = some z := ⟨_, List.getElem?_eq_getElem (by rw [hzl]; exact hj)⟩
            rw [e, hzr j z e, List.getElem?_map, List.getElem?_map, List.getElem?_range hj]
            rfl
          · rw [List.getElem?_eq_none (by rw [hzl]; exact Nat.le_of_not_lt hj), List.getElem?_eq_none (by simp; omega)]
        rw [ez] at hz
        refine ⟨_, _, rfl, SqL.of hz, _, rfl, ite2 (fun e => ?_) (fun e => ?_)⟩
        · have bad : ∃ y, y < w ∧ (u.M (s + 1 + n) y).fmod (u.M s s) ≠ 0 := by
            obtain ⟨c, hc, ec⟩ := List.any_eq_true.mp e
            obtain ⟨y, hy, ey⟩ := List.mem_map.mp hc
            refine ⟨y, List.mem_range.mp hy, fun z => ?_⟩
            rw [z] at ey
            rw [← ey] at ec
            exact absurd ec (by decide)
          obtain ⟨dx2, hx2⟩ := W2.i
          refine ⟨_, rfl, _, _, _, _, _, rfl, hx2, C.c, C.middle, rfl, _, rfl, _, rfl, ?_⟩
          refine ⟨a 1, r 1, _, _, s, s + 1 + n, _, _, _, rfl, ⟨l1, hi, pos.2.2.2⟩, W2.g.top 1 (by omega), W2.g.row 1 s (by omega) (show s < d1 h w 1 from l1), W2.g.row 1 (s + 1 + n) (by omega) (show s + 1 + n < d1 h w 1 from hi), fun j hj => mul_small (by omega), fun q3 H3 nq3 hq3 ht3 bt3 => ?_⟩
          obtain ⟨r3, W3⟩ := W2.addrow (g := 1) (by omega) nq3 hq3 ht3 bt3
          obtain ⟨dx3, hx3⟩ := W3.i
          refine ⟨_, rfl, _, _, _, _, _, rfl, hx3, C.c, C.first, rfl, _, rfl, _, rfl, ?_⟩
          refine ⟨a 0, r3 0, _, _, s, s + 1 + n, _, _, _, rfl, ⟨l1, hi, pos.2.2.1⟩, W3.g.top 0 (by omega), W3.g.row 0 s (by omega) (show s < d1 h w 0 from l1), W3.g.row 0 (s + 1 + n) (by omega) (show s + 1 + n < d1 h w 0 from hi), fun j hj => mul_small (by omega), fun q4 H4 nq4 hq4 ht4 bt4 => ?_⟩
          obtain ⟨r4, W4⟩ := W3.addrow (g := 0) (by omega) nq4 hq4 ht4 bt4
          refine q2 H4 r4 (s + 1 + n) (by omega) hi bad ⟨W4.i, W4.g.vals fun g i j hg _ _ => ?_⟩
          match g, hg with
          | 0, _ => rfl
          | 1, _ => rfl
          | 2, _ => rfl
        · refine ⟨s1.trans s2, ⟨_, _, rfl⟩, fun i j h1 h2 h3 => ?_⟩
          by_cases ei : i = s + 1 + n
          · rw [ei]
            refine Classical.byContradiction fun z => e (List.any_eq_true.mpr ⟨true, List.mem_map.mpr ⟨j, List.mem_range.mpr h3, ?_⟩, rfl⟩)
            rw [decide_eq_false (fun y => z (V.int.inj y))]
            rfl
          · exact fine i j h1 (by omega) h3
    · rintro σ H1 ⟨s1, ⟨z1, z2, rfl⟩, fine⟩
      exact q1 H1 s1 fun i j h1 h2 h3 => fine i j h1 (by omega) h3
end
end Wk
/-! Wk10: diagonal, divisors, count_units. -/
namespace Wk
open PySem PySem.Spec PyProof.Rows L2 Ev
/-- Work(..) and its methods -/
structure WkM (K : PySem.W.Frag) (mg : Str → Option Value) (CW fi fl fb fc fs ft : Addr) (fdi fdl fdb fdc fds fdt : FuncData) : Prop where
  c : WCl K CW
  mkc : Mk K CW fi
  b : Binds K fdi ["self", "matrix"] []
  g : mg "Work" = some (.ref CW)
  l : Meth K CW "least_place" fl
  bl : Binds K fdl ["self", "start"] []
  b_ : Meth K CW "bring" fb
  bb : Binds K fdb ["self", "at", "place"] []
  c_ : Meth K CW "clear" fc
  bc : Binds K fdc ["self", "at"] []
  s : Meth K CW "spread" fs
  bs : Binds K fds ["self", "at"] []
  t : Meth K CW "turn_sign" ft
  bt : Binds K fdt ["self", "at"] []
theorem min_is (h w : Nat) : (if ((w : Nat) : Int) < ((h : Nat) : Int) then ((w : Nat) : Int) else ((h : Nat) : Int)) = ((min h w : Nat) : Int) := by
  by_cases e : w < h
  · rw [if_pos (by omega), Nat.min_eq_right (by omega)]
  · rw [if_neg (by omega), Nat.min_eq_left (by omega)]
theorem WI.rowsL {B H : Hp} {h w : Nat} {a : Nat → Addr} {r : Nat → Nat → Addr} {V : Nat → Mx} (x : WI B H h w a r V) {g : Nat} (hg : g < 3) : RowsL H (a g) (d1 h w g) (d2 h w g) (V g) := ⟨r g, x.top g hg, fun i hi => x.row g i hg hi⟩
section
variable {P : Program} {w : World} {K : PySem.W.Frag} {mg : Str → Option Value} {base : Heap} {CM CW : Addr} {f fm fi fl fb fc fs ft : Addr} {fd fdm fdi fdl fdb fdc fds fdt : FuncData} {k : Nat}
def spDg (CM : Addr) : Sp := fun vs H Q _ => ∃ (m : Addr) (h w : Nat) (A : Mx), vs = [.ref m] ∧ Mat H CM m h w A ∧ (1 ≤ h ∧ h ≤ 3 ∧ 1 ≤ w ∧ w ≤ 5) ∧ Bd h w A 4 ∧
  ∀ p m0 m1 m2 H' D, Same H H' → H' p = some (.tup [.ref m0, .ref m1, .ref m2]) → Mat H' CM m1 h w D → RE h w A D → Dg h w (min h w) D → Q (.ref p) H'
def LoopW (H0 : Hp) (CW m x : Addr) (h w : Nat) (a : Nat → Addr) (n : Nat) (M : Mx) (μ : Nat) (σ : L2.St) (H' : Hp) : Prop := ∃ r u v, σ = [some (.ref m), some (.ref x), some (.int ((n : Nat) : Int)), some v] ∧ WA H0 H' CW x h w a r (mx3 u) ∧
  ((v = .non ∧ Sg h w (n + 1) M u) ∨ ∃ p i j, v = .ref p ∧ H' p = some (.tup [.int ((i : Nat) : Int), .int ((j : Nat) : Int)]) ∧ J h w n M μ u i j)
theorem dg_while {H0 H3 : Hp} {m x : Addr} {h w n μ : Nat} {a : Nat → Addr} {M : Mx} {v : L2.V} {D : Ends} (h3 : h ≤ 3) (nh : n < h) (nw : n < w) (W3 : LoopW H0 CW m x h w a n M μ [some (.ref m), some (.ref x), some (.int ((n : Nat) : Int)), some v] H3)
    (fin : ∀ r u v H', WA H0 H' CW x h w a r (mx3 u) → Sg h w (n + 1) M u → D.nx [some (.ref m), some (.ref x), some (.int ((n : Nat) : Int)), some v] H') :
    tWhile (tTest (tOp (fun x y H Q => y = .non ∧ Q (.bl (!decide (x = .non))) H) (tVar 3) (tC .non)))
      (tSeq (tDrop (tMeth CW "bring" (spBring CW) [] E0 (tVar 1) (tCons (tVar 2) (tCons (tVar 3) tNil))))
        (tSeq (tIfS (tAnd (tB (tMeth CW "clear" (spClear CW) [] E0 (tVar 1) (tCons (tVar 2) tNil))) (tB (tMeth CW "spread" (spSpread CW) [] E0 (tVar 1) (tCons (tVar 2) tNil)))) (tSeq (tDrop (tMeth CW "turn_sign" (spTurn CW) [] E0 (tVar 1) (tCons (tVar 2) tNil))) tBreak) tNext)
          (tAsg (tMeth CW "least_place" (spLeast CW) [] E0 (tVar 1) (tCons (tVar 2) tNil)) (gName 3)))) D [some (.ref m), some (.ref x), some (.int ((n : Nat) : Int)), some v] H3 := by
  refine ⟨LoopW H0 CW m x h w a n M, ⟨_, W3⟩, ?_⟩
  rintro μ σ H' ⟨r, u, v, rfl, W, c⟩
  refine ⟨_, rfl, rfl, _, rfl, ite2 (fun e => ?_) (fun e => ?_)⟩
  · have vn : v ≠ .non := fun z => by
      rw [decide_eq_true z] at e
      exact absurd e (by decide)
    rcases c with ⟨z, _⟩ | ⟨p, i, j, rfl, hp, J0⟩
    · exact absurd z vn
    refine ⟨fun σ' H'' => ∃ μ', μ' < μ ∧ LoopW H0 CW m x h w a n M μ' σ' H'', fun _ _ q => q, ?_⟩
    obtain ⟨dx, hx⟩ := W.i
    have ha := J0.ha
    have hw' := J0.hw
    obtain ⟨bd, ee, he, bF, bL⟩ := J0.safe
    refine ⟨_, rfl, x, dx, _, rfl, hx, rfl, _, rfl, _, rfl, ?_⟩
    refine ⟨H0, x, p, h, w, a, r, u, n, i, j, rfl, W, ⟨ha, hw', J0.lp.i2, J0.lp.j2⟩, hp, fun H4 r4 W4 => ?_⟩
    obtain ⟨dx4, hx4⟩ := W4.i
    refine ⟨_, rfl, x, dx4, _, rfl, hx4, rfl, _, rfl, ?_⟩
    refine ⟨H0, x, h, w, a, r4, brg n i j u, n, rfl, W4, ⟨ha, hw'⟩, ⟨bd_brg bd ha hw' J0.lp.i2 J0.lp.j2, by rw [brg_aa]; exact J0.lp.nz, ee, he, bF_brg bF ha J0.lp.i2, bL_brg bL hw' J0.lp.j2⟩, fun H5 r5 b W5 hb => ?_⟩
    obtain ⟨dx5, hx5⟩ := W5.i
    have aa : (clr h w n (brg n i j u)).M n n ≠ 0 := by
      rw [J0.trn.cl.aa, brg_aa]
      exact J0.lp.nz
    refine ⟨b, rfl, ite2 (fun eb => ?_) (fun eb => ?_)⟩
    · have cl := hb.mp eb
      refine ⟨_, rfl, x, dx5, _, rfl, hx5, rfl, _, rfl, ?_⟩
      refine ⟨H0, x, h, w, a, r5, _, n, rfl, W5, ⟨ha, hw'⟩, aa, fun H6 s6 fine => ?_, fun H6 r6 i0 h1 h2 h3' W6 => ?_⟩
      · refine ⟨true, rfl, iteT ?_⟩
        have W6 := W5.same s6
        obtain ⟨dx6, hx6⟩ := W6.i
        refine ⟨_, rfl, x, dx6, _, rfl, hx6, rfl, _, rfl, ?_⟩
        refine ⟨H0, x, h, w, a, r5, _, n, rfl, W6, ⟨ha, hw'⟩, fun H7 r7 W7 => ?_⟩
        refine fin r7 _ _ H7 W7 ?_
        split
        · exact sg_ngt (J0.end_ cl)
        · exact J0.end_ cl
      · refine ⟨false, rfl, iteF ?_⟩
        obtain ⟨dx6, hx6⟩ := W6.i
        refine ⟨_, rfl, x, dx6, _, rfl, hx6, rfl, _, rfl, ?_⟩
        refine ⟨H0, x, h, w, a, r6, _, n, rfl, W6, ha, hw', fun H7 s7 nil => ?_, fun p' i' j' H7 s7 lp hp' => ?_⟩
        · exact absurd nil (J0.trn.spr_nil cl (J0.spr_ cl h1 h2 h3'))
        · obtain ⟨μ', lt, J1⟩ := J0.sp cl h1 h2 h3' lp
          exact ⟨μ', lt, r6, _, _, rfl, W6.same s7, .inr ⟨p', i', j', rfl, hp', J1⟩⟩
    · refine iteF ?_
      have ncl : ¬ Clean h w n (clr h w n (brg n i j u)).M := fun z => eb (hb.mpr z)
      refine ⟨_, rfl, x, dx5, _, rfl, hx5, rfl, _, rfl, ?_⟩
      refine ⟨H0, x, h, w, a, r5, _, n, rfl, W5, ha, hw', fun H7 s7 nil => ?_, fun p' i' j' H7 s7 lp hp' => ?_⟩
      · exact absurd nil J0.trn.not_nil
      · obtain ⟨μ', lt, J1⟩ := J0.un ncl lp
        exact ⟨μ', lt, r5, _, _, rfl, W5.same s7, .inr ⟨p', i', j', rfl, hp', J1⟩⟩
  · have vn : v = .non := Classical.byContradiction fun z => e (by rw [decide_eq_false z]; rfl)
    rcases c with ⟨_, sg⟩ | ⟨p, i, j, z, _⟩
    · exact fin r u v H' W sg
    · rw [z] at vn
      cases vn
theorem ok_dg (F : Fun K "diagonal" "diagonal" sDiagonal f fd) (MM : MkM K mg CM fm fdm) (WM : WkM K mg CW fi fl fb fc fs ft fdi fdl fdb fdc fds fdt) (T : Blt mg)
    (GM : FnOk P w K mg base CX0 k fm fdm ["self", "rows"] (spMInit CM)) (GW : FnOk P w K mg base CX0 k fi fdi ["self", "matrix"] (spWInit CM CW)) (Gl : FnOk P w K mg base CX0 (k + 1) fl fdl ["self", "start"] (spLeast CW))
    (Gb : FnOk P w K mg base CX0 (k + 1) fb fdb ["self", "at", "place"] (spBring CW)) (Gc : FnOk P w K mg base CX0 (k + 1) fc fdc ["self", "at"] (spClear CW)) (Gs : FnOk P w K mg base CX0 (k + 1) fs fds ["self", "at"] (spSpread CW)) (Gt : FnOk P w K mg base CX0 (k + 1) ft fdt ["self", "at"] (spTurn CW)) :
    FnOk P w K mg base CX0 (k + 2) f fd ["matrix"] (spDg CM) := by
  refine F.ok scDiagonal (fun vs H Q E h => ?_) (fun cdv A outer s H vs Q E hr h => ?_)
  · obtain ⟨m, h, w, M, rfl, _⟩ := h
    rfl
  · obtain ⟨m, h, w, M, rfl, hM, ⟨p1, p2, p3, p4⟩, hbd, q⟩ := h
    refine ⟨_, (pss_cons (ps_set (i := 1) scDiagonal.nd rfl (by first | exact .inl rfl | exact .inr rfl) (pe_make WM.mkc GW (hr.mono (by omega)) (by rfl) WM.g WM.b .nil pass0 (pa_cons (pv 0) pa_nil)))
  (pss_cons (ps_for PassesOwn.never rfl (pi_range1 (by rfl) T.range (pa_cons (pe_callB (id := "min") (call_min2 rfl) (by rfl) T.min (by decide +kernel) (pa_cons (kfld (K := K) (he := (pv 0))) (pa_cons (kfld (K := K) (he := (pv 0))) pa_nil))) pa_nil)) (pg_name (i := 2) scDiagonal.nd rfl (by first | exact .inl rfl | exact .inr rfl)) (pss_cons (ps_set (i := 3) scDiagonal.nd rfl (by first | exact .inl rfl | exact .inr rfl) (pe_meth (pl := _) (pv 1) WM.c.c WM.l Gl hr WM.bl .nil pass0 (pa_cons (pv 2) pa_nil)))
  (pss_one (ps_while PassesOwn.never (pt_cmpR op_notN (pv 3) pe_non (nomark _)) (pss_cons (ps_expr (pe_meth (pl := _) (pv 1) WM.c.c WM.b_ Gb hr WM.bb .nil pass0 (pa_cons (pv 2) (pa_cons (pv 3) pa_nil))))
  (pss_cons (ps_if (PW.pt (pw_and (pt_val (pe_meth (pl := _) (pv 1) WM.c.c WM.c_ Gc hr WM.bc .nil pass0 (pa_cons (pv 2) pa_nil))) (pw_and1 (pt_val (pe_meth (pl := _) (pv 1) WM.c.c WM.s Gs hr WM.bs .nil pass0 (pa_cons (pv 2) pa_nil)))))) (pss_cons (ps_expr (pe_meth (pl := _) (pv 1) WM.c.c WM.t Gt hr WM.bt .nil pass0 (pa_cons (pv 2) pa_nil)))
  (pss_one ps_break)) pss_nil)
  (pss_one (ps_set (i := 3) scDiagonal.nd rfl (by first | exact .inl rfl | exact .inr rfl) (pe_meth (pl := _) (pv 1) WM.c.c WM.l Gl hr WM.bl .nil pass0 (pa_cons (pv 2) pa_nil))))))))))
  (pss_one (ps_ret (pe_tup (pa_cons (pe_make MM.mkc GM (hr.mono (by omega)) (by rfl) MM.g MM.b .nil pass0 (pa_cons (kfld (K := K) (he := (pv 1))) pa_nil)) (pa_cons (pe_make MM.mkc GM (hr.mono (by omega)) (by rfl) MM.g MM.b .nil pass0 (pa_cons (kfld (K := K) (he := (pv 1))) pa_nil)) (pa_cons (pe_make MM.mkc GM (hr.mono (by omega)) (by rfl) MM.g MM.b .nil pass0 (pa_cons (kfld (K := K) (he := (pv 1))) pa_nil)) pa_nil)))))))), ?_⟩
    refine ⟨_, rfl, fun x dx nx nd hne => ?_⟩
    have nx' : H x = none := nx
    have nd' : H dx = none := nd
    have s1 : Same H (upd H dx (.own x)) := same_new nd'
    have nx2 : upd H dx (.own x) x = none := by
      rw [upd_ne hne.symm]
      exact nx'
    have s2 : Same H (upd (upd H dx (.own x)) x (.ins CW dx [])) := s1.trans (same_new nx2)
    refine ⟨x, m, dx, h, w, M, H, rfl, upd_same, ⟨p1, p3, by omega, p4⟩, hM.same s2, s2, nx', fun H1 a r1 W1 => ⟨rfl, ?_⟩⟩
    obtain ⟨dm, am, rm, f1, f2, f3⟩ := hM
    refine ⟨_, rfl, _, _, _, _, _, rfl, W1.g.sm _ _ f1, MM.c.c, MM.c.height, rfl, _, rfl, _, _, _, _, _, rfl, W1.g.sm _ _ f1, MM.c.c, MM.c.width, rfl, _, _, rfl, ?_⟩
    rw [min_is]
    refine ⟨_, rfl, by omega, by omega, ?_⟩
    have en : (((min h w : Nat) : Int)).toNat = min h w := by omega
    rw [en]
    refine for_range (fun n σ H' => ∃ r u z1 z2, σ = [some (.ref m), some (.ref x), z1, z2] ∧ WA H H' CW x h w a r (mx3 u) ∧ Sg h w n M u) ⟨r1, _, _, _, rfl, W1, sg_first p1 p2 hbd⟩ ?_ ?_
    · rintro n σ H2 hn ⟨r, u, z1, z2, rfl, W2, sg⟩
      rw [show (0 : Int) + (n : Int) = ((n : Nat) : Int) from by omega]
      have nh : n < h := by omega
      have nw : n < w := by omega
      obtain ⟨dx2, hx2⟩ := W2.i
      refine ⟨_, rfl, x, dx2, _, rfl, hx2, rfl, _, rfl, ?_⟩
      refine ⟨H, x, h, w, a, r, mx3 u, n, rfl, W2, nh, nw, fun H3 s3 nil => ?_, fun p i j H3 s3 lp hp => ?_⟩
      · exact dg_while (μ := 0) p2 nh nw ⟨r, u, .non, rfl, W2.same s3, .inl ⟨rfl, sg.skip nh (by omega) nil⟩⟩ fun r u v H' W sg => ⟨r, u, _, _, rfl, W, sg⟩
      · obtain ⟨μ, jj⟩ := sg.enter (by omega) lp
        exact dg_while (μ := μ) p2 nh nw ⟨r, u, .ref p, rfl, W2.same s3, .inr ⟨p, i, j, rfl, hp, jj⟩⟩ fun r u v H' W sg => ⟨r, u, _, _, rfl, W, sg⟩
    · rintro σ H2 ⟨r, u, z1, z2, rfl, W2, sg⟩
      have pos := W2.g.pos
      obtain ⟨dx2, hx2⟩ := W2.i
      refine ⟨_, rfl, _, _, _, _, _, rfl, hx2, WM.c.c, WM.c.first, rfl, made_mat ⟨p1, by omega, show h ≤ 5 by omega⟩ (W2.g.rowsL (g := 0) (by omega)) fun m0 H3 s3 hm0 => ?_⟩
      have W3 := W2.same s3
      refine ⟨_, rfl, _, _, _, _, _, rfl, s3 _ _ hx2, WM.c.c, WM.c.middle, rfl, made_mat ⟨p1, by omega, p4⟩ (W3.g.rowsL (g := 1) (by omega)) fun m1 H4 s4 hm1 => ?_⟩
      have W4 := W3.same s4
      refine ⟨_, rfl, _, _, _, _, _, rfl, s4 _ _ (s3 _ _ hx2), WM.c.c, WM.c.last, rfl, made_mat ⟨p3, p4, p4⟩ (W4.g.rowsL (g := 2) (by omega)) fun m2 H5 s5 hm2 => ?_⟩
      refine ⟨size_ok (by show 3 ≤ 100000; decide), fun p np0 => ?_⟩
      have np : H5 p = none := np0
      exact q p m0 m1 m2 _ u.M (((W2.g.sm.trans s3).trans s4).trans (s5.trans (same_new np))) upd_same ((hm1.same s5).same (same_new np)) sg.re sg.dg
def divs (n : Nat) (D : Mx) : List Int := ((List.range n).map fun i => D i i).filter fun x => decide (x ≠ 0)
theorem divs_units (p : Int) (n : Nat) (D : Mx) : ((divs n D).filter fun x => decide (¬ p ∣ x)).length = (units p n D).length := by
  unfold divs units
  induction List.range n with
  | nil => rfl
  | cons i l ih =>
    rw [List.map_cons, List.filter_cons, List.filter_cons]
    by_cases h0 : D i i = 0
    · have hd : p ∣ D i i := by rw [h0]; exact Int.dvd_zero p
      rw [if_neg (by simp [h0]), if_neg (by simp [hd])]
      exact ih
    · rw [if_pos (by simp [h0]), List.filter_cons]
      by_cases hd : p ∣ D i i
      · rw [if_neg (by simp [hd]), if_neg (by simp [hd])]
        exact ih
      · rw [if_pos (by simp [hd]), if_pos (by simp [hd]), List.length_cons, List.length_cons, ih]
def spDivs (CM : Addr) : Sp := fun vs H Q _ => ∃ (m : Addr) (h w : Nat) (A : Mx), vs = [.ref m] ∧ Mat H CM m h w A ∧ (1 ≤ h ∧ h ≤ 3 ∧ 1 ≤ w ∧ w ≤ 5) ∧ Bd h w A 4 ∧
  ∀ p H' D, Same H H' → H' p = some (.lst ((divs (min h w) D).map V.int)) → RE h w A D → Dg h w (min h w) D → Q (.ref p) H'
theorem filt_take {l : List Int} {q : Int → Bool} {i : Nat} {x : Int} (h : l[i]? = some x) : (l.take (i + 1)).filter q = (l.take i).filter q ++ (if q x then [x] else []) := take_succ_filter q l i x h
theorem filt_len (l : List Int) (q : Int → Bool) (i : Nat) : ((l.take i).filter q).length ≤ l.length := Nat.le_trans (List.length_filter_le _ _) (by rw [List.length_take]; exact Nat.min_le_right _ _)
theorem ints_get {ns : List Int} {i : Nat} {x : V} (h : (ns.map V.int)[i]? = some x) : ∃ n, ns[i]? = some n ∧ x = .int n := by
  rw [List.getElem?_map] at h
  cases e : ns[i]? with
  | none => rw [e] at h; cases h
  | some n =>
    rw [e] at h
    exact ⟨n, rfl, (Option.some.inj h).symm⟩
theorem ok_divs {fD : Addr} {fdD : FuncData} (F : Fun K "divisors" "divisors" sDivisors f fd) (MC : MCl K CM) (T : Blt mg) (CD : Cal K mg "diagonal" sDiagonal ["matrix"] fD fdD) (GD : FnOk P w K mg base CX0 k fD fdD ["matrix"] (spDg CM)) :
    FnOk P w K mg base CX0 (k + 1) f fd ["matrix"] (spDivs CM) := by
  refine F.ok scDivisors (fun vs H Q E h => ?_) (fun cdv A outer s H vs Q E hr h => ?_)
  · obtain ⟨m, h, w, M, rfl, _⟩ := h
    rfl
  · obtain ⟨m, h, w, M, rfl, hM, hh, hbd, q⟩ := h
    refine ⟨_, (pss_cons (ps_set (i := 1) scDivisors.nd rfl (by first | exact .inl rfl | exact .inr rfl) (kixt (K := K) (ha := (pcal CD GD hr pass0 (pa_cons (pv 0) pa_nil))) (hb := pe_int)))
  (pss_cons (ps_setLc (i := 2) (own := [("at", 3)]) (g := (gName 3)) (tt := tYes) rfl scDivisors.nd rfl rfl (sw_true rfl rfl rfl (by decide +kernel)) (pi_range1 (by rfl) T.range (pa_cons (pe_callB (id := "min") (call_min2 rfl) (by rfl) T.min (by decide +kernel) (pa_cons (kfld (K := K) (he := (pv 0))) (pa_cons (kfld (K := K) (he := (pv 0))) pa_nil))) pa_nil)) (blkOk_by (N := nDivisors) (sc := defScope sDivisors) (by decide +kernel)) (fun _ _ _ _ _ => (pg_name (i := 3) scDivisors.nd rfl (by first | exact .inl rfl | exact .inr rfl))) (fun _ _ _ _ _ => pts_nil) (fun _ _ _ _ _ => (kixt (K := K) (ha := (kixt (K := K) (ha := (kfld (K := K) (he := (pv 1)))) (hb := (pv 3)))) (hb := (pv 3)))))
  (pss_one (ps_ret (pe_lc (own := [("number", 4)]) (g := (gName 4)) rfl scDivisors.nd (kpil (K := K) (hl := (pv 2))) (blkOk_by (N := nDivisors) (sc := defScope sDivisors) (by decide +kernel)) (fun _ _ _ _ _ => (pg_name (i := 4) scDivisors.nd rfl (by first | exact .inl rfl | exact .inr rfl))) (fun _ _ _ _ _ => pts_one (pt_cmpR op_ne (pv 4) pe_int (nomark _))) (fun _ _ _ _ _ => (pv 4))))))), ?_⟩
    refine ⟨_, rfl, m, h, w, M, rfl, hM, hh, hbd, fun p m0 m1 m2 H1 D s1 hp hm1 re dg => ?_⟩
    refine ⟨_, _, _, _, rfl, rfl, SqT.of hp, rfl, ?_⟩
    obtain ⟨dm, am, rm, f1, f2, f3⟩ := hM
    obtain ⟨d1', a1', r1', g1, g2, g3⟩ := hm1
    refine ⟨_, rfl, _, _, _, _, _, rfl, s1 _ _ f1, MC.c, MC.height, rfl, _, rfl, _, _, _, _, _, rfl, s1 _ _ f1, MC.c, MC.width, rfl, _, _, rfl, ?_⟩
    rw [min_is]
    refine ⟨_, rfl, by omega, by omega, fun L nL0 => ?_⟩
    have nL : H1 L = none := nL0
    have en : (((min h w : Nat) : Int)).toNat = min h w := by omega
    refine lc_map walk_range (by omega) (fun j z _ => z = .int (D j j)) (fun _ _ _ _ _ h _ => h) (fun _ _ => trivial) ?_ (mono_name 3) mono_yes nL ?_
    · rintro i y H9 H0 Kc hi b _ ⟨rfl, rfl⟩ fin
      have s2 : Same H1 H0 := But.same nL b
      rw [en] at hi
      refine ⟨rfl, rfl, _, rfl, _, _, _, _, _, rfl, s2 _ _ g1, MC.c, MC.rows, rfl, _, rfl, _, _, _, _, rfl, rfl, SqT.of (s2 _ _ g2), (by rw [Int.zero_add]; exact atI_refs (i := i) r1' (by omega)), _, rfl, _, _, _, _, rfl, rfl, SqT.of (s2 _ _ (g3 i (by omega))), (by rw [Int.zero_add]; exact atI_row (j := i) _ (by omega)), fin _ _ (Same.refl _) rfl⟩
    · intro H2 zs b hz hzl hzr
      have s2 : Same H1 H2 := But.same nL b
      have ez : zs = ((List.range (min h w)).map fun i => D i i).map V.int := by
        rw [row_of hzl hzr, en]
        unfold rowV
        rw [List.map_map]
        rfl
      rw [ez] at hz
      generalize hns : (List.range (min h w)).map (fun i => D i i) = ns at *
      have lns : ns.length ≤ 5 := by
        rw [← hns, List.length_map, List.length_range]
        omega
      refine ⟨_, rfl, _, rfl, ⟨_, SqL.of hz⟩, fun L2' nL20 => ?_⟩
      have nL2 : H2 L2' = none := nL20
      have hLL : L ≠ L2' := ne_of_none hz nL2
      refine lc_list (xs := ns.map V.int) (fun i H' => But L2' (upd H2 L2' (.lst [])) H' ∧ H' L2' = some (.lst (((ns.take i).filter fun x => decide (x ≠ 0)).map V.int))) ⟨But.refl _ _, upd_same⟩ (fun i H' _ pv => SqL.of (pv.1 _ _ hLL (upd_new nL2 hz))) ?_ ?_
      · rintro i y H3 hy ⟨b3, h3⟩
        obtain ⟨n0, hn0, rfl⟩ := ints_get hy
        refine ⟨rfl, _, rfl, rfl, _, rfl, ?_⟩
        refine ite2 (fun e => ?_) (fun e => ?_)
        · have ne : n0 ≠ 0 := fun z => by
            rw [z] at e
            exact absurd e (by decide)
          rw [filt_take hn0, if_pos (by simp [ne])]
          refine ⟨_, rfl, _, h3, ?_, b3.upd, ?_⟩
          · rw [List.length_map]
            have := filt_len ns (fun x : Int => decide (x ≠ 0)) i
            exact size_lt (by omega)
          · rw [upd_same, List.map_append]
            rfl
        · have ze : n0 = 0 := Classical.byContradiction fun z => e (by rw [decide_eq_false (fun y => z (V.int.inj y))]; rfl)
          rw [filt_take hn0, if_neg (by simp [ze]), List.append_nil]
          exact ⟨b3, h3⟩
      · rintro H3 ⟨b3, h3⟩
        rw [List.length_map, List.take_length] at h3
        refine q L2' H3 D ((s1.trans s2).trans (But.same nL2 b3)) ?_ re dg
        rw [h3, ← hns]
        rfl
def Good (p : Int) : Prop := p = 0 ∨ IsP p
def spCU : Sp := fun vs H Q _ => ∃ (l : Addr) (p : Int) (ns : List Int), vs = [.ref l, .int p] ∧ H l = some (.lst (ns.map V.int)) ∧ ns.length ≤ 5 ∧ 0 ≤ p ∧ p ≤ 10000 ∧ Good p ∧ ∀ H', Same H H' → Q (.int (((ns.filter fun x => decide (¬ p ∣ x)).length : Nat) : Int)) H'
theorem ok_cu {fZ : Addr} {fdZ : FuncData} (F : Fun K "count_units" "count_units" sCountUnits f fd) (T : Blt mg) (CZ : Cal K mg "is_zero" sIsZero ["n", "p"] fZ fdZ) (GZ : FnOk P w K mg base CX0 k fZ fdZ ["n", "p"] spIsZero) :
    FnOk P w K mg base CX0 (k + 1) f fd ["numbers", "p"] spCU := by
  refine F.ok scCountUnits (fun vs H Q E h => ?_) (fun cdv A outer s H vs Q E hr h => ?_)
  · obtain ⟨l, p, ns, rfl, _⟩ := h
    rfl
  · obtain ⟨l, p, ns, rfl, hl, hn, h0, hp, good, q⟩ := h
    refine ⟨_, (pss_one (ps_ret (klen (K := K) T.len (pa_cons (pe_lc (own := [("n", 2)]) (g := (gName 2)) rfl scCountUnits.nd (kpil (K := K) (hl := (pv 0))) (blkOk_by (N := nCountUnits) (sc := defScope sCountUnits) (by decide +kernel)) (fun _ _ _ _ _ => (pg_name (i := 2) scCountUnits.nd rfl (by first | exact .inl rfl | exact .inr rfl))) (fun _ _ _ _ _ => pts_one (pt_not (pt_val (pcal CZ GZ hr pass0 (pa_cons (pv 2) (pa_cons (pv 1) pa_nil)))))) (fun _ _ _ _ _ => (pv 2))) pa_nil)))), ?_⟩
    refine ⟨_, rfl, _, rfl, ⟨_, SqL.of hl⟩, fun L nL0 => ?_⟩
    have nL : H L = none := nL0
    have hLL : l ≠ L := ne_of_none hl nL
    refine lc_list (xs := ns.map V.int) (fun i H' => But L (upd H L (.lst [])) H' ∧ H' L = some (.lst (((ns.take i).filter fun x => decide (¬ p ∣ x)).map V.int))) ⟨But.refl _ _, upd_same⟩ (fun i H' _ pv => SqL.of (pv.1 _ _ hLL (upd_new nL hl))) ?_ ?_
    · rintro i y H3 hy ⟨b3, h3⟩
      obtain ⟨n0, hn0, rfl⟩ := ints_get hy
      refine ⟨rfl, _, rfl, _, rfl, n0, p, rfl, h0, hp, good, fun b hb => ⟨b, rfl, ?_⟩⟩
      by_cases e : p ∣ n0
      · have eb := hb.mpr e
        subst eb
        rw [filt_take hn0, if_neg (by simp [e]), List.append_nil]
        exact iteF ⟨b3, h3⟩
      · have eb : b = false := by
          cases b with
          | false => rfl
          | true => exact absurd (hb.mp rfl) e
        subst eb
        rw [filt_take hn0, if_pos (by simp [e])]
        refine iteT ⟨_, rfl, _, h3, ?_, b3.upd, ?_⟩
        · rw [List.length_map]
          have := filt_len ns (fun x : Int => decide (¬ p ∣ x)) i
          exact size_lt (by omega)
        · rw [upd_same, List.map_append]
          rfl
    · rintro H3 ⟨b3, h3⟩
      rw [List.length_map, List.take_length] at h3
      refine ⟨_, _, rfl, .inl (SqL.of h3), ?_⟩
      rw [List.length_map]
      exact q H3 (But.same nL b3)
end
end Wk
/-! Ru4: sorted(xs) of a list of lists of places. -/
namespace Ev
theorem ltN_int : ∀ a b : List Nat, ltN a b = decide ((a.map fun (n : Nat) => (n : Int)) < (b.map fun (n : Nat) => (n : Int)))
  | [], [] => by
    show false = _
    rw [decide_eq_false]
    exact List.not_lt_nil _
  | [], y :: ys => by
    show true = _
    rw [decide_eq_true]
    exact List.nil_lt_cons _ _
  | x :: xs, [] => by
    show false = _
    rw [decide_eq_false]
    exact List.not_lt_nil _
  | x :: xs, y :: ys => by
    have ih := ltN_int xs ys
    show (if x = y then ltN xs ys else decide (x < y)) = _
    rw [List.map_cons, List.map_cons]
    by_cases e : x = y
    · rw [if_pos e, ih]
      refine decide_eq_decide.mpr ?_
      rw [List.cons_lt_cons_iff]
      constructor
      · intro z
        exact .inr ⟨by rw [e], z⟩
      · intro z
        rcases z with z | z
        · omega
        · exact z.2
    · rw [if_neg e]
      refine decide_eq_decide.mpr ?_
      rw [List.cons_lt_cons_iff]
      constructor
      · intro z
        exact .inl (by omega)
      · intro z
        rcases z with z | z
        · omega
        · exact absurd z.1 (by omega)
end Ev
namespace Wk
open PySem PySem.Spec PyProof.Rows L2 Ev
open PySem.W (EachIs AllAlike Sortable dataLe)
theorem dN_rows : dataLe false dN = fun p q : List Nat => !ltN q p := by
  have e : dN = fun c : List Nat => PyData.list ((c.map fun (n : Nat) => (n : Int)).map .int) := funext fun c => by
    unfold dN
    rw [List.map_map]
    rfl
  rw [e, PySem.W.dataLe_rows]
  funext p q
  rw [ltN_int]
  show decide (¬ _) = _
  exact decide_not
theorem srt_ms (cs : List (List Nat)) : Srt (cs.mergeSort (dataLe false dN)) := by
  rw [dN_rows]
  refine (List.pairwise_mergeSort (le := fun p q : List Nat => !ltN q p) (fun a b c h1 h2 => ?_) (fun a b => ?_) cs).imp fun {a b} h => ?_
  · have e1 : ltN b a = false := by simpa using h1
    have e2 : ltN c b = false := by simpa using h2
    show (!ltN c a) = true
    rw [ltN_tr a b c e1 e2]
    rfl
  · show ((!ltN b a) || (!ltN a b)) = true
    by_cases e : ltN b a = true
    · rw [ltN_asym b a e]
      simp
    · rw [Bool.not_eq_true] at e
      rw [e]
      rfl
  · have h' : (!ltN b a) = true := h
    simpa using h'
theorem alike_nats (c d : List Nat) : PySem.W.alike (dN c) (dN d) = true := by
  have e : ∀ c : List Nat, dN c = PyData.list ((c.map fun (n : Nat) => (n : Int)).map .int) := fun c => by
    unfold dN
    rw [List.map_map]
    rfl
  rw [e, e]
  simp only [PySem.W.alike]
  exact PySem.W.alike_ints _ _
theorem each_of {R : Value → List Nat → Prop} {F : V → List Nat → Prop} : ∀ {xs : List V} {us : List Value} {cs : List (List Nat)}, Vals xs us → Paired F xs cs → (∀ x u c, F x c → RelV x u → R u c) → EachIs R us cs
  | _, _, _, .nil, .nil, _ => .nil
  | _, _, _, .cons r rs, .cons h hs, k => .cons (k _ _ _ h r) (each_of rs hs k)
theorem of_each {R : Value → List Nat → Prop} {F : V → List Nat → Prop} (k : ∀ u c, R u c → ∃ x, RelV x u ∧ F x c) : ∀ {us : List Value} {cs : List (List Nat)}, EachIs R us cs → ∃ xs, Vals xs us ∧ Paired F xs cs
  | _, _, .nil => ⟨[], .nil, .nil⟩
  | _, _, .cons h hs => by
    obtain ⟨x, r, f⟩ := k _ _ h
    obtain ⟨xs, r2, f2⟩ := of_each k hs
    exact ⟨x :: xs, .cons r r2, .cons f f2⟩
/-- sorted(xs), xs a list of lists of places: a new list of the same lists, in order -/
def rSortedL (K : PySem.W.Frag) : List V → Hp → VK → Prop := fun vs H Q => ∃ (p : Addr) (xs : List V) (cs : List (List Nat)) (B : Hp), vs = [.ref p] ∧ H p = some (.lst xs) ∧ LLs B H xs cs ∧
  ∀ q ys ds, H q = none → ds.Perm cs → Srt ds → LLs B H ys ds → Q (.ref q) (upd H q (.lst ys))
section
variable {X : Cx}
theorem cr_sortedL (hu : X.A.units + 65 < cLine) : CallR X (.builtin "sorted") (rSortedL X.K) := by
  intro pins s σ H vs us Q I r h
  obtain ⟨p, xs, cs, B, rfl, hp, hl, q⟩ := h
  obtain ⟨its, rv, pl, hz⟩ := I.list (SqL.of hp)
  obtain ⟨u, rfl, ru⟩ := vals1 r
  obtain rfl : u = Value.ref p := ru
  have e1 : EachIs (fun v c => ∃ q, v = Value.ref q ∧ B q = none ∧ H q = some (.lst (natL c))) its cs := each_of rv hl fun x u c ⟨q, ex, n, hq⟩ r => by
    subst ex
    exact ⟨q, r, n, hq⟩
  have e2 : EachIs (fun v c => ∃ as, Reads s.heap v (dN c) as) its cs := each_of rv hl fun x u c ⟨q, ex, n, hq⟩ r => Dp.reads I (dN c) x u (by rw [ex]; exact dp_nat hq) r
  have hlen : cs.length ≤ sizeLine := by rw [← hl.len]; exact hz
  refine PySem.W.sorted_data (enc := dN) (bs := cs) pl.isList e1 e2 (AllAlike.of alike_nats) (Sortable.others fun c => ⟨fun z => (by unfold dN at z; cases z), fun xs z => (by unfold dN at z; cases z)⟩) hlen (fun c _ => ?_) fun out ho he => ?_
  · have := dN_depth c
    omega
  · obtain ⟨ys, ry, fy⟩ := of_each (F := fun (v : V) (c : List Nat) => ∃ q, v = .ref q ∧ B q = none ∧ H q = some (.lst (natL c))) (fun u c ⟨q, e, n, hq⟩ => ⟨.ref q, e, q, rfl, n, hq⟩) he
    obtain ⟨e, hat⟩ := sortedAll_at s.heap its out.toArray
    have hlt : s.heap.objs.size ≤ s.heap.objs.size + 1 := Nat.le_succ _
    refine ⟨.ref (s.heap.objs.size + 1), upd H (s.heap.objs.size + 1) (.lst ys), I.laid (t' := s.toks) (fun b o eo => sortedAll_old eo) hlt ⟨?_, out, e, ry, hat⟩, rfl, q _ ys _ (I.hok.fresh hlt) (List.mergeSort_perm _ _) (srt_ms cs) fy⟩
    rw [ry.length, ho]
    exact hlen
end
section
variable {X : Cx} {K : PySem.W.Frag} {e : Expr} {t : TA} {p pos : Pos}
theorem ksorted (hu : X.A.units + 65 < cLine) (hm : X.mg "sorted" = none) (ha : PA X [e] t) (hK : X.K = K := by rfl) (hg : Gl X "sorted" := by rfl) (he : starEach [e] X.env = (false, eval e X.env) :: starEach [] X.env := by rfl) (hpl : (backTo pos (starEach [] X.env)).any (·.1) = false := by rfl) :
    PE X (.Call (.Name "sorted" p) [e] [] pos) (tCB (rSortedL K) t) := by
  subst hK
  exact pe_callB (id := "sorted") (cr_sortedL hu) hg hm (by decide +kernel) ha (he := he) (hpl := hpl)
end
end Wk
/-! Wk11: rank, rank_of, bases, circuits. -/
namespace Wk
open PySem PySem.Spec PyProof.Rows L2 Ev
theorem hu65 {k : Nat} {A : Around} (r : Room k A) : A.units + 65 < cLine := by
  have := r.un
  omega
def kwG {α : Type} (us ws : List α) : List α := match us, ws with
  | [a], [b] => [a, b]
  | _, _ => []
/-- f(e, p = ..) -/
structure CalK (K : PySem.W.Frag) (mg : Str → Option Value) (x : Str) (st : Stmt) (f : Addr) (fd : FuncData) : Prop where
  F : Fun K x x st f fd
  kb : KBinds K fd ["matrix", "p"] ["p"] kwG kwG
  m : mg x = some (.ref f)
/-- p is none: an error of the class at C with p, nothing else changed -/
def Bad (C : Addr) (p : Int) (H : Hp) (E : XK) : Prop := ¬ Good p → -10000 ≤ p ∧ ∀ d : Addr, H d = none → E (.ref C) (some d) (upd H d (.xd [(("p" : Str), .int p)]))
def Dims (h w : Nat) (A : Mx) : Prop := 1 ≤ h ∧ h ≤ 3 ∧ 1 ≤ w ∧ w ≤ 5 ∧ Bd h w A 4
theorem Good.dom {p : Int} (g : Good p) : Dom p := by
  rcases g with e | e
  · rw [e]
    exact dom0
  · exact e.dom
theorem Good.nn {p : Int} (g : Good p) : 0 ≤ p := by
  rcases g with e | e
  · omega
  · have := e.1
    omega
section
variable {P : Program} {w : World} {K : PySem.W.Frag} {mg : Str → Option Value} {base : Heap} {C CM : Addr} {f fC fU fD fR fP fO fH fA : Addr} {fd fdC fdU fdD fdR fdP fdO fdH fdA : FuncData} {k : Nat}
def spRank (C CM : Addr) : Sp := fun vs H Q E => ∃ (m : Addr) (p : Int) (h w : Nat) (A : Mx), vs = [.ref m, .int p] ∧ p ≤ 2048 ∧ Mat H CM m h w A ∧ Dims h w A ∧ (Good p → ∀ H', Same H H' → Q (.int ((lrank p h w A : Nat) : Int)) H') ∧ Bad C p H E
theorem ok_rank (F : Fun K "rank" "rank" sRank f fd) (CC : Cal K mg "checked" sChecked ["p"] fC fdC) (GC : FnOk P w K mg base (L2.CX P w) k fC fdC ["p"] (spChecked C)) (CU : Cal K mg "count_units" sCountUnits ["numbers", "p"] fU fdU) (GU : FnOk P w K mg base CX0 k fU fdU ["numbers", "p"] spCU)
    (CD : Cal K mg "divisors" sDivisors ["matrix"] fD fdD) (GD : FnOk P w K mg base CX0 k fD fdD ["matrix"] (spDivs CM)) : FnOk P w K mg base (L2.CX P w) (k + 1) f fd ["matrix", "p"] (spRank C CM) := by
  refine F.okX scRank (fun vs H Q E h => ?_) (fun cdv A outer s H vs Q E hr h => ?_)
  · obtain ⟨m, p, h, w, M, rfl, _⟩ := h
    rfl
  · obtain ⟨m, p, h, w, M, rfl, hp, hM, ⟨d1, d2, d3, d4, hbd⟩, q, bad⟩ := h
    refine ⟨_, (pss_cons (ps_expr (pcal CC GC hr (passes_call (takes_of rfl rfl rfl rfl) (fun _ _ _ _ h => h)) (pa_cons (pv 1) pa_nil)))
  (pss_one (ps_ret (pcal CU GU hr pass0 (pa_cons (pcal CD GD hr pass0 (pa_cons (pv 0) pa_nil)) (pa_cons (pv 1) pa_nil)))))), ?_⟩
    refine ⟨_, rfl, p, rfl, by omega, fun good => ?_, fun n => bad n⟩
    refine ⟨_, rfl, m, h, w, M, rfl, hM, ⟨d1, d2, d3, d4⟩, hbd, fun l H1 D s1 hl re dg => ?_⟩
    have ln : (divs (Nat.min h w) D).length ≤ 5 := by
      refine Nat.le_trans (List.length_filter_le _ _) ?_
      rw [List.length_map, List.length_range]
      exact Nat.le_trans (Nat.min_le_left h w) (by omega)
    refine ⟨_, rfl, l, p, divs (min h w) D, rfl, hl, ln, Good.nn good, by omega, good, fun H2 s2 => ?_⟩
    rw [divs_units, ranks (Good.dom good) (Good.nn good) hp d2 hbd re dg]
    exact q good H2 (s1.trans s2)
def spRankOf (CM : Addr) : Sp := fun vs H Q _ => ∃ (m l : Addr) (p : Int) (h w : Nat) (A : Mx) (c : List Nat), vs = [.ref m, .ref l, .int p] ∧ p ≤ 2048 ∧ Good p ∧ Mat H CM m h w A ∧ Dims h w A ∧ H l = some (.lst (natL c)) ∧ (c.length ≤ 5 ∧ ∀ x ∈ c, x < w) ∧ ∀ H', Same H H' → Q (.int ((rk p h A c : Nat) : Int)) H'
theorem ok_rankof (F : Fun K "rank_of" "rank_of" sRankOf f fd) (T : Blt mg) (CR : CalK K mg "rank" sRank fR fdR) (GR : FnOk P w K mg base (L2.CX P w) k fR fdR ["matrix", "p"] (spRank C CM)) (CP : Cal K mg "column_part" sColumnPart ["matrix", "columns"] fP fdP) (GP : FnOk P w K mg base CX0 k fP fdP ["matrix", "columns"] (spCPart CM)) :
    FnOk P w K mg base CX0 (k + 1) f fd ["matrix", "columns", "p"] (spRankOf CM) := by
  refine F.ok scRankOf (fun vs H Q E h => ?_) (fun cdv A outer s H vs Q E hr h => ?_)
  · obtain ⟨m, l, p, h, w, M, c, rfl, _⟩ := h
    rfl
  · obtain ⟨m, l, p, h, w, M, c, rfl, hp, good, hM, ⟨d1, d2, d3, d4, hbd⟩, hl, ⟨c5, hc⟩, q⟩ := h
    refine ⟨_, (pss_cons (ps_if (pt_cmpR op_eq (klen (K := K) T.len (pa_cons (pv 1) pa_nil)) pe_int (nomark _)) (pss_one (ps_ret pe_int)) pss_nil)
  (pss_one (ps_ret (pe_callK GR hr (by rfl) CR.m CR.F.kp CR.kb passL (pa_cons (pcal CP GP hr pass0 (pa_cons (pv 0) (pa_cons (pv 1) pa_nil))) pa_nil) (pk_cons (pv 2) pk_nil))))), ?_⟩
    refine ⟨_, rfl, _, _, rfl, .inl (SqL.of hl), rfl, _, rfl, ite2 (fun e => ?_) (fun e => ?_)⟩
    · have e0 : c.length = 0 := by
        have := V.int.inj (of_decide_eq_true e)
        rw [natL_len] at this
        omega
      have r0 : rk p h M c = 0 := by
        have := lrank_le (A := cols M c) good.dom good.nn hp d2 (bd_cols hbd hc)
        unfold rk
        omega
      have := q H (Same.refl _)
      rw [r0] at this
      exact this
    · have e1 : c.length ≠ 0 := fun z => e (by rw [natL_len, z]; rfl)
      refine ⟨_, rfl, _, rfl, m, l, h, w, M, c, rfl, hM, ⟨d1, by omega, c5, hc⟩, hl, fun m1 H1 s1 hM1 => ?_⟩
      refine ⟨_, rfl, m1, p, h, c.length, _, rfl, hp, hM1, ⟨d1, d2, by omega, c5, bd_cols hbd hc⟩, fun _ H2 s2 => ?_, fun n => absurd good n⟩
      exact q H2 (s1.trans s2)
def basesL (p : Int) (h w : Nat) (A : Mx) : List (List Nat) := (chs w (lrank p h w A)).filter fun c => decide (rk p h A c = lrank p h w A)
def spBases (C CM : Addr) : Sp := fun vs H Q E => ∃ (m : Addr) (p : Int) (h w : Nat) (A : Mx), vs = [.ref m, .int p] ∧ p ≤ 2048 ∧ Mat H CM m h w A ∧ Dims h w A ∧ (Good p → RetLL H Q (basesL p h w A)) ∧ Bad C p H E
theorem lls_filt {l : List (List Nat)} {q : List Nat → Bool} {i : Nat} {x : List Nat} (h : l[i]? = some x) : (l.take (i + 1)).filter q = (l.take i).filter q ++ (if q x then [x] else []) := take_succ_filter q l i x h
theorem llen (l : List (List Nat)) (q : List Nat → Bool) (i : Nat) : ((l.take i).filter q).length ≤ l.length := Nat.le_trans (List.length_filter_le _ _) (by rw [List.length_take]; exact Nat.min_le_right _ _)
theorem ok_bases (F : Fun K "bases" "bases" sBases f fd) (MC : MCl K CM) (CR : CalK K mg "rank" sRank fR fdR) (GR : FnOk P w K mg base (L2.CX P w) k fR fdR ["matrix", "p"] (spRank C CM)) (CH : Cal K mg "choices" sChoices ["many", "size"] fH fdH) (GH : FnOk P w K mg base CX0 k fH fdH ["many", "size"] (spChoices 5))
    (CO : Cal K mg "rank_of" sRankOf ["matrix", "columns", "p"] fO fdO) (GO : FnOk P w K mg base CX0 k fO fdO ["matrix", "columns", "p"] (spRankOf CM)) : FnOk P w K mg base (L2.CX P w) (k + 1) f fd ["matrix", "p"] (spBases C CM) := by
  refine F.okX scBases (fun vs H Q E h => ?_) (fun cdv A outer s H vs Q E hr h => ?_)
  · obtain ⟨m, p, h, w, M, rfl, _⟩ := h
    rfl
  · obtain ⟨m, p, h, w, M, rfl, hp, hM, hD, q, bad⟩ := h
    refine ⟨_, (pss_cons (ps_set (i := 2) scBases.nd rfl (by first | exact .inl rfl | exact .inr rfl) (pe_callK GR hr (by rfl) CR.m CR.F.kp CR.kb (passes_call (takes_of rfl rfl rfl rfl) (fun _ _ _ _ h => h)) (pa_cons (pv 0) pa_nil) (pk_cons (pv 1) pk_nil)))
  (pss_one (ps_ret (pe_lc (own := [("columns", 3)]) (g := (gName 3)) rfl scBases.nd (kpil (K := K) (hl := (pcal CH GH hr pass0 (pa_cons (kfld (K := K) (he := (pv 0))) (pa_cons (pv 2) pa_nil))))) (blkOk_by (N := nBases) (sc := defScope sBases) (by decide +kernel)) (fun _ _ _ _ _ => (pg_name (i := 3) scBases.nd rfl (by first | exact .inl rfl | exact .inr rfl))) (fun _ _ _ _ _ => pts_one (pt_cmpR op_eq (pcal CO GO hr pass0 (pa_cons (pv 0) (pa_cons (pv 3) (pa_cons (pv 1) pa_nil)))) (pv 2) (nomark _))) (fun _ _ _ _ _ => (pv 3)))))), ?_⟩
    refine ⟨_, rfl, _, rfl, m, p, h, w, M, rfl, hp, hM, hD, fun good H1 s1 => ?_, fun n => bad n⟩
    obtain ⟨d1, d2, d3, d4, hbd⟩ := hD
    have hM1 := hM.same s1
    have hM1' := hM1
    obtain ⟨dm, am, rm, f1, f2, f3⟩ := hM1'
    have lr : lrank p h w M ≤ w := lrank_le good.dom good.nn hp d2 hbd
    refine ⟨_, rfl, _, _, _, _, _, rfl, f1, MC.c, MC.width, rfl, _, rfl, w, lrank p h w M, rfl, d3, d4, lr, by omega, fun L xs H2 nL s2 hL lx => ?_⟩
    refine ⟨L, rfl, ⟨xs, SqL.of hL⟩, fun D nD0 => ?_⟩
    have nD : H2 D = none := nD0
    have hLD : L ≠ D := ne_of_none hL nD
    have clen := chs_len d3 d4 lr
    refine lc_list (xs := xs) (fun i H' => But D (upd H2 D (.lst [])) H' ∧ ∃ ys, H' D = some (.lst ys) ∧ LLs (upd H1 D (.lst [])) H' ys (((chs w (lrank p h w M)).take i).filter fun c => decide (rk p h M c = lrank p h w M))) ⟨But.refl _ _, [], upd_same, .nil⟩ (fun i H' _ pv => SqL.of (pv.1 _ _ hLD (upd_new nD hL))) ?_ ?_
    · rintro i y H3 hy ⟨b3, ys, hys, ly⟩
      obtain ⟨c, q0, hc, rfl, nq, hq⟩ := lx.at hy
      have s3 : Same H2 H3 := But.same nD b3
      have okc := chs_ok d3 d4 lr c (List.mem_of_getElem? hc)
      refine ⟨rfl, _, rfl, _, rfl, _, rfl, m, q0, p, h, w, M, c, rfl, hp, good, (hM1.same s2).same s3, ⟨d1, d2, d3, d4, hbd⟩, s3 _ _ hq, ⟨by omega, okc.2⟩, fun H4 s4 => ?_⟩
      have b4 := b3.trans (But.of s4)
      have hys4 := s4 _ _ hys
      have ly4 := ly.same s4
      refine ⟨_, rfl, rfl, _, rfl, ite2 (fun e => ?_) (fun e => ?_)⟩
      · have e1 : rk p h M c = lrank p h w M := by
          have := V.int.inj (of_decide_eq_true e)
          omega
        rw [lls_filt hc, if_pos (by simp [e1])]
        refine ⟨_, rfl, _, hys4, ?_, b4.upd, _, upd_same, ?_⟩
        · rw [ly4.len]
          have := llen (chs w (lrank p h w M)) (fun c => decide (rk p h M c = lrank p h w M)) i
          exact size_lt (by omega)
        · have nDq : q0 ≠ D := fun z => by
            rw [z, nD] at hq
            cases hq
          refine Paired.snoc (ly4.but upd_same (But.refl _ _).upd) ⟨q0, rfl, ?_, ?_⟩
          · rw [upd_ne nDq]
            exact nq
          · rw [upd_ne nDq]
            exact s4 _ _ (s3 _ _ hq)
      · have e1 : rk p h M c ≠ lrank p h w M := fun z => e (by rw [z]; exact decide_eq_true rfl)
        rw [lls_filt hc, if_neg (by simp [e1]), List.append_nil]
        exact ⟨b4, ys, hys4, ly4⟩
    · rintro H3 ⟨b3, ys, hys, ly⟩
      rw [lx.len, List.take_length] at ly
      exact q good D ys H3 (s1.free (s2.free nD)) ((s1.trans s2).trans (But.same nD b3)) hys (ly.less fun q' n => s1.free ((same_new (s2.free nD)).free n))
def circsL (p : Int) (h w : Nat) (A : Mx) : List (List Nat) := lcirc (depB p h A) w
def spCircs (C CM : Addr) : Sp := fun vs H Q E => ∃ (m : Addr) (p : Int) (h w : Nat) (A : Mx), vs = [.ref m, .int p] ∧ p ≤ 2048 ∧ Mat H CM m h w A ∧ Dims h w A ∧ (∀ i j, i < h → (A i j).natAbs ≤ 4) ∧ (Good p → RetLL H Q (circsL p h w A)) ∧ Bad C p H E
abbrev scC1 : Scope := fsc [(".0", .local), ("circuit", .local), ("all", .globalImplicit), ("columns", .free)]
theorem flat_nat (c : List Nat) : (natL c).all flatV = true := by
  rw [List.all_eq_true]
  intro x hx
  unfold natL at hx
  obtain ⟨n, _, rfl⟩ := List.mem_map.mp hx
  rfl
theorem in_nat (a : Nat) (c : List Nat) : inV (.int (a : Int)) (natL c) = decide (a ∈ c) := by
  unfold inV natL
  induction c with
  | nil => rfl
  | cons x c ih =>
    rw [List.map_cons, List.any_cons, ih]
    have e : eqV (.int (x : Int)) (.int (a : Int)) = decide (a = x) := by
      show ((x : Int) == (a : Int)) = _
      by_cases z : a = x
      · rw [z]
        simp
      · rw [decide_eq_false z]
        exact beq_eq_false_iff_ne.mpr (by omega)
    rw [e]
    by_cases z : a = x
    · rw [decide_eq_true z, decide_eq_true (List.mem_cons.mpr (.inl z))]
      rfl
    · rw [decide_eq_false z]
      by_cases y : a ∈ c
      · rw [decide_eq_true y, decide_eq_true (List.mem_cons.mpr (.inr y))]
        rfl
      · rw [decide_eq_false y, decide_eq_false fun q => (List.mem_cons.mp q).elim z y]
        rfl
theorem fold_mem (dep : List Nat → Bool) : ∀ (l a : List (List Nat)) (x : List Nat), x ∈ l.foldl (pstep dep) a → x ∈ a ∨ x ∈ l
  | [], a, x, h => .inl h
  | y :: l, a, x, h => by
    rcases fold_mem dep l (pstep dep a y) x h with z | z
    · unfold pstep at z
      split at z
      · rcases List.mem_append.mp z with z | z
        · exact .inl z
        · exact .inr (List.mem_cons.mpr (.inl (List.mem_singleton.mp z)))
      · exact .inl z
    · exact .inr (List.mem_cons_of_mem _ z)
theorem ok_circs (F : Fun K "circuits" "circuits" sCircuits f fd) (MC : MCl K CM) (T : Blt mg) (CC : Cal K mg "checked" sChecked ["p"] fC fdC) (GC : FnOk P w K mg base (L2.CX P w) k fC fdC ["p"] (spChecked C)) (CA : Cal K mg "all_columns" sAllColumns ["matrix"] fA fdA) (GA : FnOk P w K mg base CX0 k fA fdA ["matrix"] (spAll CM))
    (CO : Cal K mg "rank_of" sRankOf ["matrix", "columns", "p"] fO fdO) (GO : FnOk P w K mg base CX0 k fO fdO ["matrix", "columns", "p"] (spRankOf CM)) : FnOk P w K mg base (L2.CX P w) (k + 1) f fd ["matrix", "p"] (spCircs C CM) := by
  refine F.okX scCircuits (fun vs H Q E h => ?_) (fun cdv A outer s H vs Q E hr h => ?_)
  · obtain ⟨m, p, h, w, M, rfl, _⟩ := h
    rfl
  · obtain ⟨m, p, h, w, M, rfl, hp, hM, hD, hA, q, bad⟩ := h
    refine ⟨_, (pss_cons (ps_expr (pcal CC GC hr (passes_call (takes_of rfl rfl rfl rfl) (fun _ _ _ _ h => h)) (pa_cons (pv 1) pa_nil)))
  (PSs.nox (pss_cons (ps_set (i := 2) scCircuits.nd rfl (by first | exact .inl rfl | exact .inr rfl) (pe_lst pa_nil))
  (pss_cons (ps_for PassesOwn.never rfl (kpil (K := K) (hl := (pcal CA GA hr pass0 (pa_cons (pv 0) pa_nil)))) (pg_name (i := 3) scCircuits.nd rfl (by first | exact .inl rfl | exact .inr rfl)) (pss_cons (ps_setLc (i := 4) (own := [("circuit", 5)]) (g := (gName 5)) rfl scCircuits.nd rfl rfl (sw_true rfl rfl rfl (by decide +kernel)) (kpil (K := K) (hl := (pv 2))) (blkOk_by (N := nCircuits) (sc := defScope sCircuits) (by decide +kernel)) (fun _ _ _ _ _ => (pg_name (i := 5) scCircuits.nd rfl (by first | exact .inl rfl | exact .inr rfl))) (fun _ _ _ _ _ => pts_one (pt_val (kall (K := K) rfl T.all (pa_cons (pe_lc (own := [("at", 6)]) (g := (gName 6)) (tt := tYes) rfl scCircuits.nd (kpil (K := K) (hl := (pv 5))) (blkOk_by (N := nCircuits) (sc := relS scC1 (defScope sCircuits)) (by decide +kernel)) (fun _ _ _ _ _ => (pg_name (i := 6) scCircuits.nd rfl (by first | exact .inl rfl | exact .inr rfl))) (fun _ _ _ _ _ => pts_nil) (fun _ _ _ _ _ => (kin (K := K) (ha := (pv 6)) (hb := (pv 3))))) pa_nil)))) (fun _ _ _ _ _ => (pv 5)))
  (pss_one (ps_if (PW.pt (pw_and (teqD hr.units (K := K) (ha := (pv 4)) (hb := (pe_lst pa_nil))) (pw_and1 (pt_cmpR op_lt (pcal CO GO hr pass0 (pa_cons (pv 0) (pa_cons (pv 3) (pa_cons (pv 1) pa_nil)))) (klen (K := K) T.len (pa_cons (pv 3) pa_nil)) (nomark _))))) (pss_one (ps_expr (pe_bm PySem.F.plainAttrs_list PySem.F.slot_list_append PySem.F.type_list_append mt_append (pv 2) (pa_cons (pv 3) pa_nil)))) pss_nil))))
  (pss_one (ps_ret (ksorted (K := K) (hu65 hr) T.sorted (pa_cons (pv 2) pa_nil)))))))), ?_⟩
    refine ⟨_, rfl, p, rfl, by omega, fun good => ?_, fun n => bad n⟩
    refine ⟨size_ok (by show 0 ≤ 100000; decide), fun R nR0 => ?_⟩
    have nR : H R = none := nR0
    obtain ⟨d1, d2, d3, d4, hbd⟩ := hD
    have hR1 : (upd H R (.lst [])) R = some (.lst []) := upd_same
    have s01 : Same H (upd H R (.lst [])) := same_new nR
    refine ⟨_, rfl, m, h, w, M, rfl, hM.same s01, ⟨d3, d4⟩, fun L xs H2 nL s2 hL lx => ?_⟩
    have hLR : L ≠ R := fun z => by rw [z, hR1] at nL; cases nL
    have s02 : Same H H2 := s01.trans s2
    refine ⟨L, rfl, ⟨xs, SqL.of hL⟩, for_list (xs := xs) (fun i σ H' => ∃ z3 z4 z5 z6 ys, σ = [some (.ref m), some (.int p), some (.ref R), z3, z4, z5, z6] ∧ H' R = some (.lst ys) ∧ LLs (upd H R (.lst [])) H' ys (((allc w).take i).foldl (pstep (depB p h M)) []) ∧ But R H2 H')
      ⟨_, _, _, _, [], rfl, s2 _ _ hR1, .nil, But.refl _ _⟩ ?_ ?_ ?_⟩
    · rintro i σ H' _ ⟨z3, z4, z5, z6, ys, rfl, hy, ly, bu⟩
      exact SqL.of (bu _ _ hLR hL)
    · rintro i x σ H' hx ⟨z3, z4, z5, z6, ys, rfl, hy, ly, bu⟩
      obtain ⟨c, q0, hc, rfl, nq, hq⟩ := lx.at hx
      have q0R : q0 ≠ R := fun z => by rw [z, hR1] at nq; cases nq
      have hq' : H' q0 = some (.lst (natL c)) := bu _ _ q0R hq
      have okc := allc_ok d3 d4 c (List.mem_of_getElem? hc)
      have hM' : Mat H' CM m h w M := Mat.but (hM.same s02) (.inr ⟨_, s2 _ _ hR1⟩) bu
      have flen : (((allc w).take i).foldl (pstep (depB p h M)) []).length ≤ 32 := by
        have key : ∀ (l a : List (List Nat)), (l.foldl (pstep (depB p h M)) a).length ≤ a.length + l.length := by
          intro l
          induction l with
          | nil => intro a; exact Nat.le_refl _
          | cons y l ih =>
            intro a
            refine Nat.le_trans (ih _) ?_
            have : (pstep (depB p h M) a y).length ≤ a.length + 1 := by
              unfold pstep
              split
              · rw [List.length_append]
                exact Nat.le_refl _
              · omega
            rw [List.length_cons]
            omega
        refine Nat.le_trans (key _ _) ?_
        rw [List.length_take, (allc_perm d3 d4).length_eq]
        have := slists_len d3 d4
        show 0 + _ ≤ 32
        omega
      have efold : ((allc w).take (i + 1)).foldl (pstep (depB p h M)) [] = pstep (depB p h M) (((allc w).take i).foldl (pstep (depB p h M)) []) c := by
        rw [List.take_add_one, hc, List.foldl_append]
        rfl
      rw [efold]
      have fmem : ∀ x ∈ ((allc w).take i).foldl (pstep (depB p h M)) [], x.length ≤ 5 := fun x hx => by
        rcases fold_mem _ _ _ _ hx with z | z
        · cases z
        · have := allc_ok d3 d4 x (List.mem_of_mem_take z)
          omega
      generalize hfd : ((allc w).take i).foldl (pstep (depB p h M)) [] = fnd at *
      refine ⟨_, rfl, _, rfl, ⟨ys, SqL.of hy⟩, fun D nD0 => ?_⟩
      have nD : H' D = none := nD0
      have hRD : R ≠ D := ne_of_none hy nD
      refine lc_list (xs := ys) (fun j H3 => But D (upd H' D (.lst [])) H3 ∧ ∃ zs, H3 D = some (.lst zs) ∧ LLs (upd (upd H R (.lst [])) D (.lst [])) H3 zs ((fnd.take j).filter fun x => x.all fun a => decide (a ∈ c))) ⟨But.refl _ _, [], upd_same, .nil⟩ (fun j H3 _ pv => SqL.of (pv.1 _ _ hRD (upd_new nD hy))) ?_ ?_
      · rintro j y H3 hyj ⟨b3, zs, hzs, lz⟩
        obtain ⟨cy, qy, hcy, rfl, nqy, hqy⟩ := ly.at hyj
        have s3 : Same H' H3 := But.same nD b3
        have hqyD : qy ≠ D := ne_of_none hqy nD
        refine ⟨rfl, _, rfl, _, rfl, ⟨_, SqL.of (s3 _ _ hqy)⟩, fun D2 nD20 => ?_⟩
        have nD2 : H3 D2 = none := nD20
        have hqD2 : qy ≠ D2 := ne_of_none (s3 _ _ hqy) nD2
        have wl := walk_list (K := K) (a := qy) (xs := natL cy)
        rw [natL_len] at wl
        have cy5 : cy.length < 100000 := by
          have := fmem cy (List.mem_of_getElem? hcy)
          omega
        refine lc_map wl cy5 (fun l z _ => z = .bl (decide (cy.getD l 0 ∈ c))) (fun _ _ _ _ _ h _ => h) (fun H4 b4 => SqL.of (b4 _ _ hqD2 (upd_new nD2 (s3 _ _ hqy)))) ?_ (mono_name 6) mono_yes nD2 ?_
        · rintro l z H9 H4 Kc hl b4 _ ⟨rfl, hz⟩ fin
          obtain ⟨n, hn, rfl⟩ := natL_get hz
          have s4 : Same H3 H4 := But.same nD2 b4
          refine ⟨rfl, rfl, _, rfl, _, rfl, q0, natL c, rfl, .inl (SqL.of (s4 _ _ (s3 _ _ hq'))), rfl, flat_nat c, ?_⟩
          rw [if_neg (by decide), in_nat]
          refine fin _ _ (Same.refl _) ?_
          rw [List.getD_eq_getElem?_getD, hn]
          rfl
        · intro H4 bs b4 hbs hbl hbr
          have s4 : Same H3 H4 := But.same nD2 b4
          have eb : bs = (cy.map fun a => decide (a ∈ c)).map V.bl := by
            refine List.ext_getElem? fun l => ?_
            by_cases hl : l < cy.length
            · obtain ⟨z, e⟩ : ∃ z, bs[l]? = some z := ⟨_, List.getElem?_eq_getElem (by omega)⟩
              rw [e, hbr l z e, List.getElem?_map, List.getElem?_map, List.getElem?_eq_getElem hl, List.getD_eq_getElem?_getD, List.getElem?_eq_getElem hl]
              rfl
            · rw [List.getElem?_eq_none (by omega), List.getElem?_eq_none (by rw [List.length_map, List.length_map]; omega)]
          rw [eb] at hbs
          have ea : (cy.map fun a => decide (a ∈ c)).all id = cy.all fun a => decide (a ∈ c) := by
            rw [List.all_map]
            rfl
          refine ⟨D2, _, rfl, SqL.of hbs, _, rfl, ?_⟩
          rw [ea, lls_filt hcy]
          have b5 := b3.trans (But.of s4)
          have hz5 := s4 _ _ hzs
          have lz5 := lz.same s4
          refine ite2 (fun e => ?_) (fun e => ?_)
          · rw [if_pos e]
            refine ⟨_, rfl, _, hz5, ?_, b5.upd, _, upd_same, Paired.snoc (lz5.but upd_same (But.refl _ _).upd) ⟨qy, rfl, ?_, ?_⟩⟩
            · rw [lz5.len]
              have := llen fnd (fun x => x.all fun a => decide (a ∈ c)) j
              exact size_lt (by omega)
            · rw [upd_ne hqyD]
              exact nqy
            · rw [upd_ne hqyD]
              exact s4 _ _ (s3 _ _ hqy)
          · rw [if_neg e, List.append_nil]
            exact ⟨b5, zs, hz5, lz5⟩
      · rintro H3 ⟨b3, zs, hzs, lz⟩
        rw [ly.len, List.take_length] at lz
        have s3 : Same H' H3 := But.same nD b3
        have b03 := bu.trans (But.of s3)
        have ly3 := ly.same s3
        have keep : ∀ H4, Same H3 H4 → H4 R = some (.lst ys) ∧ LLs (upd H R (.lst [])) H4 ys fnd ∧ But R H2 H4 := fun H4 s4 => ⟨s4 _ _ (s3 _ _ hy), ly3.same s4, b03.trans (But.of s4)⟩
        refine ⟨_, rfl, size_ok (by show 0 ≤ 100000; decide), fun p0 np0 => ?_⟩
        have np : H3 p0 = none := np0
        have s4 := same_new (o := .lst []) np
        refine ⟨dNs _, dNs [], dp_nats (s4 _ _ hzs) (lz.same s4), dp_nats (B := H) upd_same .nil, dNs_shaped _, dNs_shaped _, ?_⟩
        rw [dNs_eqv]
        refine ⟨_, rfl, ite2 (fun e => ?_) (fun e => ?_)⟩
        · have e1 := of_decide_eq_true e
          refine ⟨_, rfl, _, rfl, _, rfl, m, q0, p, h, w, M, c, rfl, hp, good, (hM'.same s3).same s4, ⟨d1, d2, d3, d4, hbd⟩, s4 _ _ (s3 _ _ hq'), ⟨by omega, okc.2⟩, fun H5 s5 => ?_⟩
          have k5 := keep H5 (s4.trans s5)
          have hq5 := s5 _ _ (s4 _ _ (s3 _ _ hq'))
          refine ⟨_, rfl, _, _, rfl, .inl (SqL.of hq5), _, _, rfl, rfl, _, rfl, ?_⟩
          rw [natL_len]
          have ed : decide (((rk p h M c : Nat) : Int) < ((c.length : Nat) : Int)) = depB p h M c := by
            unfold depB
            exact decide_eq_decide.mpr (by omega)
          rw [ed]
          refine ite2 (fun e2 => ?_) (fun e2 => ?_)
          · refine ⟨_, rfl, .inl ⟨rfl, ys, SqL.of k5.1⟩, _, rfl, R, ys, _, rfl, rfl, k5.1, ?_, ?_⟩
            · rw [ly.len]
              exact size_lt (by omega)
            · refine ⟨_, _, _, _, _, rfl, upd_same, ?_, k5.2.2.upd⟩
              unfold pstep
              rw [if_pos ⟨e1, e2⟩]
              refine Paired.snoc (k5.2.1.but hR1 (But.refl _ _).upd) ⟨q0, rfl, nq, ?_⟩
              rw [upd_ne q0R]
              exact hq5
          · refine ⟨_, _, _, _, ys, rfl, k5.1, ?_, k5.2.2⟩
            unfold pstep
            rw [if_neg fun z => e2 z.2]
            exact k5.2.1
        · have k5 := keep _ s4
          refine iteF ⟨_, _, _, _, ys, rfl, k5.1, ?_, k5.2.2⟩
          unfold pstep
          rw [if_neg fun z => e (decide_eq_true z.1)]
          exact k5.2.1
    · rintro σ H' ⟨z3, z4, z5, z6, ys, rfl, hy, ly, bu⟩
      rw [lx.len, List.take_length] at ly
      refine ⟨_, rfl, R, ys, _, _, rfl, hy, ly, fun q2 ys2 ds nq2 hp2 hs2 l2 => ?_⟩
      have sm : Same H H' := But.same nR ((But.of s2).trans bu)
      have eds : ds = circsL p h w M := srt_uniq hs2 (lcirc_srt d3 d4) (hp2.trans (circ_perm d3 d4 fun S T s hs => dep_mono (Good.dom good) (Good.nn good) hp d2 hA S T s hs))
      have nq2' : H' q2 = none := nq2
      refine q good q2 ys2 _ (sm.free nq2') (sm.trans (same_new nq2')) upd_same ?_
      rw [← eds]
      exact (l2.same (same_new nq2')).less fun _ n => s01.free n
end
end Wk
/-! Wk12: the law's own defs: cell, draws, primes, less, lists. -/
namespace Wk
open PySem PySem.Spec PyProof.Rows L2 Ev
section
variable {P : Program} {w : World} {K : PySem.W.Frag} {mg : Str → Option Value} {base : Heap} {f fI : Addr} {fd fdI : FuncData} {k : Nat}
def spCell (K : PySem.W.Frag) : Sp := fun vs H Q _ => ∃ (l : Addr) (ns : List Int) (i : Int), vs = [.ref l, .int i] ∧ SqL K H l (ns.map V.int) ∧ 0 ≤ i ∧ ∀ z : Int, Q (.int z) H
theorem ok_cell (F : Fun K "_law_cell" "_law_cell" sLawCell f fd) (T : Blt mg) : FnOk P w K mg base CX0 (k + 1) f fd ["_law_script", "_law_k"] (spCell K) := by
  refine F.ok scLawCell (fun vs H Q E h => ?_) (fun cdv A outer s H vs Q E hr h => ?_)
  · obtain ⟨l, ns, i, rfl, _⟩ := h
    rfl
  · obtain ⟨l, ns, i, rfl, hl, h0, q⟩ := h
    refine ⟨_, (pss_cons (ps_if (pt_cmpR op_lt (pv 1) (klen (K := K) T.len (pa_cons (pv 0) pa_nil)) (nomark _)) (pss_one (ps_ret (kixl (K := K) (ha := (pv 0)) (hb := (pv 1))))) pss_nil)
  (pss_one (ps_ret pe_int))), ?_⟩
    refine ⟨_, rfl, _, rfl, _, _, rfl, .inl hl, _, _, rfl, rfl, _, rfl, ite2 (fun e => ?_) (fun e => q 0)⟩
    have e1 : i < (((ns.map V.int).length : Nat) : Int) := of_decide_eq_true e
    rw [List.length_map] at e1
    obtain ⟨n, rfl⟩ : ∃ n : Nat, i = (n : Int) := ⟨i.toNat, by omega⟩
    have hn : (ns.map V.int)[n]? = some (.int ns[n]) := by rw [List.getElem?_map, List.getElem?_eq_getElem (by omega)]; rfl
    exact ⟨_, rfl, _, rfl, _, _, _, _, rfl, rfl, hl, atI_nat hn, q _⟩
theorem fm {x m : Int} (h : 0 < m) : 0 ≤ x.fmod m ∧ x.fmod m < m := ⟨Int.fmod_nonneg_of_pos x h, Int.fmod_lt_of_pos x h⟩
def spDraws : Sp := fun vs H Q _ => ∃ (z : Int) (l : Addr) (ss : List Int), vs = [.int z, .ref l] ∧ H l = some (.lst (ss.map V.int)) ∧ ss.length ≤ 15 ∧ (∀ x ∈ ss, 0 < x ∧ x < 1073741824) ∧
  ∀ (p : Addr) (ds : List Int) (H' : Hp), H p = none → Same H H' → H' p = some (.lst (ds.map V.int)) → ds.length = ss.length → (∀ (i : Nat) (d : Int) (x : Int), ds[i]? = some d → ss[i]? = some x → 0 ≤ d ∧ d < x) → Q (.ref p) H'
theorem ok_draws (F : Fun K "_law_draws" "_law_draws" sLawDraws f fd) (T : Blt mg) : FnOk P w K mg base CX0 (k + 1) f fd ["_law_cell_here", "_law_sizes"] spDraws := by
  refine F.ok scLawDraws (fun vs H Q E h => ?_) (fun cdv A outer s H vs Q E hr h => ?_)
  · obtain ⟨z, l, ss, rfl, _⟩ := h
    rfl
  · obtain ⟨z, l, ss, rfl, hl, h15, hss, q⟩ := h
    refine ⟨_, (pss_cons (ps_set (i := 2) scLawDraws.nd rfl (by first | exact .inl rfl | exact .inr rfl) (pe_lst pa_nil))
  (pss_cons (ps_set (i := 3) scLawDraws.nd rfl (by first | exact .inl rfl | exact .inr rfl) (kabs T.abs (pa_cons (pv 0) pa_nil)))
  (pss_cons (ps_for PassesOwn.never rfl (pi_range1 (by rfl) T.range (pa_cons (klen (K := K) T.len (pa_cons (pv 1) pa_nil)) pa_nil)) (pg_name (i := 4) scLawDraws.nd rfl (by first | exact .inl rfl | exact .inr rfl)) (pss_one (ps_if (pt_cmpR op_ge (kabs T.abs (pa_cons (pv 0) pa_nil)) (pe_op op_pow pe_int pe_int) (nomark _)) (pss_cons (ps_expr (pe_bm PySem.F.plainAttrs_list PySem.F.slot_list_append PySem.F.type_list_append mt_append (pv 2) (pa_cons (pe_op op_modN (kint T.int (pa_cons (pv 3) pa_nil)) (kixl (K := K) (ha := (pv 1)) (hb := (pv 4)))) pa_nil)))
  (pss_one (ps_set (i := 3) scLawDraws.nd rfl (by first | exact .inl rfl | exact .inr rfl) (pe_op op_fdivN (pv 3) (kixl (K := K) (ha := (pv 1)) (hb := (pv 4))))))) (pss_cons (ps_set (i := 5) scLawDraws.nd rfl (by first | exact .inl rfl | exact .inr rfl) (pe_op op_modN (kint T.int (pa_cons (pe_op op_mul (pe_op op_add (pe_op op_add (pv 3) (pe_op op_mul pe_int (pv 4))) pe_int) pe_int) pa_nil)) pe_int))
  (pss_cons (ps_set (i := 5) scLawDraws.nd rfl (by first | exact .inl rfl | exact .inr rfl) (pe_op op_modN (kint T.int (pa_cons (pe_op op_add (pe_op op_add (pe_op op_mul (pe_op op_mul (pv 5) (pv 5)) pe_int) (pe_op op_mul pe_int (pv 4))) (pv 5)) pa_nil)) pe_int))
  (pss_one (ps_expr (pe_bm PySem.F.plainAttrs_list PySem.F.slot_list_append PySem.F.type_list_append mt_append (pv 2) (pa_cons (pe_op op_modN (pe_op op_fdivN (pv 5) pe_int) (kixl (K := K) (ha := (pv 1)) (hb := (pv 4)))) pa_nil)))))))))
  (pss_one (ps_ret (pv 2)))))), ?_⟩
    refine ⟨size_ok (by show 0 ≤ 100000; decide), fun D nD0 => ?_⟩
    have nD : H D = none := nD0
    have hlD : l ≠ D := ne_of_none hl nD
    refine ⟨_, rfl, _, rfl, _, rfl, _, _, rfl, .inl (SqL.of (upd_new nD hl)), _, rfl, by omega, by rw [List.length_map]; omega, ?_⟩
    have en : (((ss.map V.int).length : Nat) : Int).toNat = ss.length := by rw [List.length_map]; omega
    rw [en]
    refine for_range (fun i σ H' => ∃ (left : Int) (y1 y2 : Option V) (ds : List Int), σ = [some (.int z), some (.ref l), some (.ref D), some (.int left), y1, y2] ∧ But D (upd H D (.lst [])) H' ∧ H' D = some (.lst (ds.map V.int)) ∧ ds.length = i ∧
      ∀ (i : Nat) (d : Int) (x : Int), ds[i]? = some d → ss[i]? = some x → 0 ≤ d ∧ d < x) ⟨_, _, _, [], rfl, But.refl _ _, upd_same, rfl, fun i d x e => by cases e⟩ ?_ ?_
    · rintro i σ H' hi ⟨left, y1, y2, ds, rfl, b, hD, hdl, hd⟩
      have s1 : Same H H' := But.same nD b
      have hl' := s1 _ _ hl
      obtain ⟨x, hx⟩ : ∃ x, ss[i]? = some x := ⟨_, List.getElem?_eq_getElem hi⟩
      have hx' : (ss.map V.int)[i]? = some (.int x) := by rw [List.getElem?_map, hx]; rfl
      have x0 := hss x (List.mem_of_getElem? hx)
      have ax : atI (ss.map V.int) (0 + (i : Int)) = some (.int x) := by rw [Int.zero_add]; exact atI_nat hx'
      have next : ∀ d : Int, 0 ≤ d → d < x → (upd H' D (.lst (ds.map V.int ++ [.int d]))) D = some (.lst ((ds ++ [d]).map V.int)) ∧ (ds ++ [d]).length = i + 1 ∧ ∀ (i : Nat) (d' : Int) (x : Int), (ds ++ [d])[i]? = some d' → ss[i]? = some x → 0 ≤ d' ∧ d' < x := fun d h0 h1 => by
        refine ⟨by rw [upd_same, List.map_append]; rfl, by rw [List.length_append, hdl]; rfl, fun j d' x' e1 e2 => ?_⟩
        by_cases hj : j < ds.length
        · rw [List.getElem?_append_left hj] at e1
          exact hd j d' x' e1 e2
        · have ej : j = i := by
            have := (List.getElem?_eq_some_iff.mp e1).1
            rw [List.length_append] at this
            have : ([d] : List Int).length = 1 := rfl
            omega
          rw [ej] at e1 e2
          rw [hx] at e2
          rw [List.getElem?_append_right (by omega), hdl, Nat.sub_self] at e1
          cases e1
          cases e2
          exact ⟨h0, h1⟩
      refine ⟨_, rfl, _, rfl, _, _, rfl, rfl, ⟨by decide, by decide, by decide⟩, _, _, rfl, rfl, _, rfl, ite2 (fun e => ?_) (fun e => ?_)⟩
      · refine ⟨_, rfl, .inl ⟨rfl, _, SqL.of hD⟩, _, rfl, .inl ⟨_, rfl, _, rfl, _, rfl, _, _, _, _, rfl, rfl, SqL.of hl', ax, _, _, rfl, rfl, (by omega), ?_⟩⟩
        have fb := fm (x := left) (m := x) x0.1
        obtain ⟨n1, n2, n3⟩ := next _ fb.1 fb.2
        refine ⟨_, _, _, rfl, rfl, hD, by rw [List.length_map]; exact size_lt (by omega), ?_⟩
        refine ⟨_, rfl, _, rfl, _, rfl, _, _, _, _, rfl, rfl, SqL.of (by rw [upd_ne hlD]; exact hl'), ax, _, _, rfl, rfl, ⟨by omega, by omega⟩, ?_⟩
        exact ⟨_, _, _, ds ++ [left.fmod x], rfl, b.upd, n1, n2, n3⟩
      · refine ⟨_, rfl, _, rfl, _, _, rfl, rfl, .inl ⟨by decide, by decide⟩, _, _, rfl, rfl, _, _, rfl, rfl, _, _, rfl, rfl, .inr ⟨by decide, by decide⟩, .inl ⟨_, rfl, _, _, rfl, rfl, (show (2147483647 : Int) ≠ 0 by decide), ?_⟩⟩
        generalize ((left + 11 * (0 + (i : Int)) + 3) * 48271) = e1
        have b1 := fm (x := e1) (m := 2147483647) (by decide)
        refine ⟨_, rfl, _, rfl, _, _, rfl, rfl, .inl ⟨by omega, by omega⟩, _, _, rfl, rfl, .inr ⟨by decide, by decide⟩, _, rfl, _, _, rfl, rfl, .inl ⟨by decide, by decide⟩, _, _, rfl, rfl, _, rfl, _, _, rfl, rfl, .inl ⟨_, rfl, _, _, rfl, rfl, (show (2147483629 : Int) ≠ 0 by decide), ?_⟩⟩
        refine ⟨_, rfl, .inl ⟨rfl, _, SqL.of hD⟩, _, rfl, _, _, rfl, rfl, ⟨by decide, by decide⟩, _, rfl, _, rfl, _, _, _, _, rfl, rfl, SqL.of hl', ax, _, _, rfl, rfl, (by omega), ?_⟩
        generalize e2def : Int.fdiv _ _ = e2
        have fb := fm (x := e2) (m := x) x0.1
        obtain ⟨n1, n2, n3⟩ := next _ fb.1 fb.2
        refine ⟨_, _, _, rfl, rfl, hD, by rw [List.length_map]; exact size_lt (by omega), ?_⟩
        exact ⟨_, _, _, ds ++ [e2.fmod x], rfl, b.upd, n1, n2, n3⟩
    · rintro σ H' ⟨left, y1, y2, ds, rfl, b, hD, hdl, hd⟩
      exact ⟨_, rfl, q D ds H' nD (But.same nD b) hD hdl hd⟩
def spLPrime : Sp := fun vs H Q _ => ∃ n : Int, vs = [.int n] ∧ n ≤ 10000 ∧ ∀ b : Bool, (b = true ↔ LPr n) → Q (.bl b) H
theorem ok_lprime (F : Fun K "_law_is_prime" "_law_is_prime" sLawIsPrime f fd) : FnOk P w K mg base CX0 (k + 1) f fd ["_law_n"] spLPrime := by
  refine F.ok scLawIsPrime (fun vs H Q E h => ?_) (fun cdv A outer s H vs Q E hr h => ?_)
  · obtain ⟨n, rfl, _⟩ := h
    rfl
  · obtain ⟨n, rfl, hn, q⟩ := h
    refine ⟨_, (pss_cons (ps_if (PW.pt (pw_or (pt_cmpR op_lt (pv 0) pe_int (nomark _)) (pw_or1 (pt_cmpR op_eq (pe_op op_modN (pv 0) pe_int) pe_int (nomark _))))) (pss_one (ps_ret pe_bl)) pss_nil)
  (pss_cons (ps_set (i := 1) scLawIsPrime.nd rfl (by first | exact .inl rfl | exact .inr rfl) pe_int)
  (pss_cons (ps_while PassesOwn.never (pt_cmpR op_le (pe_op op_mul (pv 1) (pv 1)) (pv 0) (nomark _)) (pss_cons (ps_if (pt_cmpR op_eq (pe_op op_modN (pv 0) (pv 1)) pe_int (nomark _)) (pss_one (ps_ret pe_bl)) pss_nil)
  (pss_one (ps_set (i := 1) scLawIsPrime.nd rfl (by first | exact .inl rfl | exact .inr rfl) (pe_op op_add (pv 1) pe_int)))))
  (pss_one (ps_ret pe_bl))))), ?_⟩
    have early : (n < 3 ∨ n.fmod 2 = 0) → Q (.bl false) H := fun z => q false ⟨fun y => (nomatch y), fun y => (by
      rcases z with z | z
      · have := y.1
        omega
      · exact absurd z y.2.1)⟩
    refine ⟨_, rfl, _, _, rfl, rfl, _, rfl, ite2 (fun e => iteT (early (.inl (of_decide_eq_true e)))) (fun e => ?_)⟩
    have h3 : ¬ n < 3 := fun z => e (decide_eq_true z)
    refine ⟨_, rfl, _, _, rfl, rfl, (show (2 : Int) ≠ 0 by decide), rfl, _, rfl, ite2 (fun e => early (.inr (V.int.inj (of_decide_eq_true e)))) (fun e => ?_)⟩
    have ho : n.fmod 2 ≠ 0 := fun z => e (decide_eq_true (congrArg V.int z))
    refine ⟨fun m σ H' => H' = H ∧ ∃ d : Int, 3 ≤ d ∧ d ≤ n + 2 ∧ d.fmod 2 = 1 ∧ σ = [some (.int n), some (.int d)] ∧ m = (n + 2 - d).toNat ∧ ∀ e : Int, 3 ≤ e → e.fmod 2 = 1 → e < d → e * e ≤ n → n.fmod e ≠ 0, ⟨_, rfl, 3, by decide, by omega, by decide, rfl, rfl, fun e h1 _ h2 => by omega⟩, ?_⟩
    rintro m σ H' ⟨rfl, d, h2, hd, od, rfl, rfl, hs⟩
    refine ⟨_, rfl, _, rfl, _, _, rfl, rfl, .inl ⟨by omega, by omega⟩, _, rfl, _, _, rfl, rfl, _, rfl, ite2 (fun e => ?_) (fun e => ?_)⟩
    · have le : d * d ≤ n := of_decide_eq_true e
      have hdn : d ≤ n := by
        have : d * 1 ≤ d * d := Int.mul_le_mul_of_nonneg_left (by omega) (by omega)
        omega
      refine ⟨fun σ' H'' => H'' = H' ∧ σ' = [some (.int n), some (.int (d + 2))] ∧ n.fmod d ≠ 0, ?_, ?_⟩
      · rintro σ' H'' ⟨rfl, rfl, hm⟩
        have o2 : (d + 2).fmod 2 = 1 := by
          rw [Int.fmod_eq_emod_of_nonneg _ (by decide)] at od ⊢
          omega
        refine ⟨(n + 2 - (d + 2)).toNat, by omega, rfl, d + 2, by omega, by omega, o2, rfl, rfl, fun e' h3 h5 h4 h6 => ?_⟩
        by_cases z : e' = d
        · rw [z]; exact hm
        · refine hs e' h3 h5 ?_ h6
          have : e' ≠ d + 1 := fun y => by
            rw [y] at h5
            rw [Int.fmod_eq_emod_of_nonneg _ (by decide)] at od h5
            omega
          omega
      · refine ⟨_, rfl, _, rfl, _, _, rfl, rfl, (by omega), rfl, _, rfl, ite2 (fun e => ?_) (fun e => ?_)⟩
        · have e2 : n.fmod d = 0 := V.int.inj (of_decide_eq_true e)
          exact q false ⟨fun z => (nomatch z), fun z => absurd e2 (z.2.2 d h2 od le)⟩
        · have e2 : n.fmod d ≠ 0 := fun z => e (decide_eq_true (congrArg V.int z))
          exact ⟨_, rfl, _, _, rfl, rfl, rfl, rfl, e2⟩
    · have le : ¬ d * d ≤ n := fun z => e (decide_eq_true z)
      refine q true ⟨fun _ => ⟨by omega, ho, fun e' h3 h5 h4 => ?_⟩, fun _ => rfl⟩
      by_cases z : e' < d
      · exact hs e' h3 h5 z h4
      · have : d * d ≤ e' * e' := Int.mul_le_mul (by omega) (by omega) (by omega) (by omega)
        omega
def spPFrom : Sp := fun vs H Q _ => ∃ n : Int, vs = [.int n] ∧ n < 2000 ∧ ∀ q : Int, LPr q → q ≤ 2003 → Q (.int q) H
theorem ok_pfrom (F : Fun K "_law_prime_from" "_law_prime_from" sLawPrimeFrom f fd) (T : Blt mg) (CI : Cal K mg "_law_is_prime" sLawIsPrime ["_law_n"] fI fdI) (GI : FnOk P w K mg base CX0 k fI fdI ["_law_n"] spLPrime) : FnOk P w K mg base CX0 (k + 1) f fd ["_law_n"] spPFrom := by
  refine F.ok scLawPrimeFrom (fun vs H Q E h => ?_) (fun cdv A outer s H vs Q E hr h => ?_)
  · obtain ⟨n, rfl, _⟩ := h
    rfl
  · obtain ⟨n, rfl, hn, q⟩ := h
    refine ⟨_, (pss_cons (ps_set (i := 0) scLawPrimeFrom.nd rfl (by first | exact .inl rfl | exact .inr rfl) (pe_callB (id := "max") (call_max2 rfl) (by rfl) T.max (by decide +kernel) (pa_cons (pv 0) (pa_cons pe_int pa_nil))))
  (pss_cons (ps_set (i := 0) scLawPrimeFrom.nd rfl (by first | exact .inl rfl | exact .inr rfl) (pe_op op_sub (pe_op op_add (pv 0) pe_int) (pe_op op_modN (pv 0) pe_int)))
  (pss_cons (ps_while PassesOwn.never (pt_not (pt_val (pcal CI GI hr pass0 (pa_cons (pv 0) pa_nil)))) (pss_one (ps_set (i := 0) scLawPrimeFrom.nd rfl (by first | exact .inl rfl | exact .inr rfl) (pe_op op_add (pv 0) pe_int))))
  (pss_one (ps_ret (pv 0)))))), ?_⟩
    refine ⟨_, rfl, _, _, rfl, ?_⟩
    have hmx : ∃ x : Int, (if (3 : Int) > n then (3 : Int) else n) = x ∧ 3 ≤ x ∧ x < 2000 := by
      by_cases e : (3 : Int) > n
      · exact ⟨3, if_pos e, by decide, by decide⟩
      · exact ⟨n, if_neg e, by omega, hn⟩
    obtain ⟨x, ex, x3, x2⟩ := hmx
    rw [ex]
    refine ⟨_, rfl, _, _, rfl, rfl, _, rfl, _, _, rfl, rfl, (show (2 : Int) ≠ 0 by decide), _, _, rfl, rfl, ?_⟩
    refine ⟨fun m σ H' => H' = H ∧ ∃ y : Int, 3 ≤ y ∧ y ≤ 2003 ∧ y.fmod 2 = 1 ∧ σ = [some (.int y)] ∧ m = (2003 - y).toNat, ⟨_, rfl, x + 1 - x.fmod 2, ?_, ?_, ?_, rfl, rfl⟩, ?_⟩
    · rw [Int.fmod_eq_emod_of_nonneg _ (by decide)]
      omega
    · rw [Int.fmod_eq_emod_of_nonneg _ (by decide)]
      omega
    · rw [Int.fmod_eq_emod_of_nonneg _ (by decide), Int.fmod_eq_emod_of_nonneg _ (by decide)]
      omega
    · rintro m σ H' ⟨rfl, y, y3, y2, yo, rfl, rfl⟩
      refine ⟨_, rfl, y, rfl, by omega, fun b hb => ⟨b, rfl, ?_⟩⟩
      cases b with
      | true => exact iteF ⟨_, rfl, q y (hb.mp rfl) y2⟩
      | false =>
        have ne : y ≠ 2003 := fun z => by
          have := hb.mpr (by rw [z]; exact lpr_2003)
          cases this
        refine iteT ⟨fun σ' H'' => H'' = H' ∧ σ' = [some (.int (y + 2))], ?_, ⟨_, rfl, _, _, rfl, rfl, rfl, rfl⟩⟩
        rintro σ' H'' ⟨rfl, rfl⟩
        rw [Int.fmod_eq_emod_of_nonneg _ (by decide)] at yo
        refine ⟨(2003 - (y + 2)).toNat, by omega, rfl, y + 2, by omega, by omega, ?_, rfl, rfl⟩
        rw [Int.fmod_eq_emod_of_nonneg _ (by decide)]
        omega
def spLess : Sp := fun vs H Q _ => ∃ (a b : Addr) (n c : Nat) (p : Int) (X Y : Nat → Int), vs = [.ref a, .ref b, .int (c : Int), .int p] ∧ (c < n ∧ n ≤ 5 ∧ 0 ≤ p) ∧ H a = some (.lst (rowV n X)) ∧ H b = some (.lst (rowV n Y)) ∧ (∀ j, j < n → (X j).natAbs ≤ 140737488355328) ∧ (∀ j, j < n → (Y j).natAbs ≤ 140737488355328) ∧
  ∀ q H', H q = none → Same H H' → H' q = some (.lst (rowV n fun j => red p (X j * Y c - Y j * X c))) → Q (.ref q) H'
theorem ok_less (F : Fun K "_law_less" "_law_less" sLawLess f fd) (T : Blt mg) : FnOk P w K mg base CX0 (k + 1) f fd ["_law_row", "_law_base", "_law_at", "_law_char"] spLess := by
  refine F.ok scLawLess (fun vs H Q E h => ?_) (fun cdv A outer s H vs Q E hr h => ?_)
  · obtain ⟨a, b, n, c, p, x, y, rfl, _⟩ := h
    rfl
  · obtain ⟨a, b, n, c, p, x, y, rfl, ⟨hc, hn, hp⟩, ha, hb, bx, by', q⟩ := h
    refine ⟨_, (pss_cons (ps_set (i := 4) scLawLess.nd rfl (by first | exact .inl rfl | exact .inr rfl) (kixl (K := K) (ha := (pv 0)) (hb := (pv 2))))
  (pss_cons (ps_setLc (i := 5) (own := [("_law_j", 6)]) (g := (gName 6)) (tt := tYes) rfl scLawLess.nd rfl rfl (sw_true rfl rfl rfl (by decide +kernel)) (pi_range1 (by rfl) T.range (pa_cons (klen (K := K) T.len (pa_cons (pv 0) pa_nil)) pa_nil)) (blkOk_by (N := nLawLess) (sc := defScope sLawLess) (by decide +kernel)) (fun _ _ _ _ _ => (pg_name (i := 6) scLawLess.nd rfl (by first | exact .inl rfl | exact .inr rfl))) (fun _ _ _ _ _ => pts_nil) (fun _ _ _ _ _ => (pe_op op_sub (pe_op op_mul (kixl (K := K) (ha := (pv 0)) (hb := (pv 6))) (kixl (K := K) (ha := (pv 1)) (hb := (pv 2)))) (pe_op op_mul (kixl (K := K) (ha := (pv 1)) (hb := (pv 6))) (pv 4)))))
  (pss_cons (ps_if (pt_cmpR op_gt (pv 3) pe_int (nomark _)) (pss_one (ps_setLc (i := 5) (own := [("_law_item", 7)]) (g := (gName 7)) (tt := tYes) rfl scLawLess.nd rfl rfl (sw_true rfl rfl rfl (by decide +kernel)) (kpil (K := K) (hl := (pv 5))) (blkOk_by (N := nLawLess) (sc := defScope sLawLess) (by decide +kernel)) (fun _ _ _ _ _ => (pg_name (i := 7) scLawLess.nd rfl (by first | exact .inl rfl | exact .inr rfl))) (fun _ _ _ _ _ => pts_nil) (fun _ _ _ _ _ => (pe_op op_modN (kint T.int (pa_cons (pv 7) pa_nil)) (pv 3))))) pss_nil)
  (pss_one (ps_ret (pv 5)))))), ?_⟩
    refine ⟨_, rfl, _, rfl, _, _, _, _, rfl, rfl, SqL.of ha, atI_row x hc, ?_⟩
    refine ⟨_, rfl, _, _, rfl, .inl (SqL.of ha), _, rfl, by omega, by rw [rowV_len]; omega, fun D nD0 => ?_⟩
    have nD : H D = none := nD0
    have en : (((rowV n x).length : Nat) : Int).toNat = n := by rw [rowV_len]; omega
    refine lc_map walk_range (by omega) (fun j z _ => z = .int (x j * y c - y j * x c)) (fun _ _ _ _ _ h _ => h) (fun _ _ => trivial) ?_ (mono_name 6) mono_yes nD ?_
    · rintro i z H9 H0 Kc hi bb _ ⟨rfl, rfl⟩ fin
      rw [en] at hi
      have s1 : Same H H0 := But.same nD bb
      have i1 : ∀ f : Nat → Int, atI (rowV n f) (0 + (i : Int)) = some (.int (f i)) := fun f => by rw [Int.zero_add]; exact atI_row f hi
      have a1 := bx i hi
      have a2 := by' i hi
      refine ⟨rfl, rfl, ?_⟩
      refine ⟨_, rfl, _, rfl, _, _, _, _, rfl, rfl, SqL.of (s1 _ _ ha), i1 x, _, rfl, _, rfl, _, _, _, _, rfl, rfl, SqL.of (s1 _ _ hb), atI_row y hc, _, _, rfl, rfl, .inl ⟨by omega, by omega⟩, ?_⟩
      exact ⟨_, rfl, _, rfl, _, _, _, _, rfl, rfl, SqL.of (s1 _ _ hb), i1 y, _, rfl, _, _, rfl, rfl, .inl ⟨by omega, by omega⟩, _, _, rfl, rfl, fin _ _ (Same.refl _) rfl⟩
    · intro H1 zs bb hz hzl hzr
      have s1 : Same H H1 := But.same nD bb
      rw [en] at hzl
      rw [row_of hzl hzr] at hz
      refine ⟨_, rfl, _, _, rfl, rfl, _, rfl, ite2 (fun e => ?_) (fun e => ?_)⟩
      · have p0 : 0 < p := of_decide_eq_true e
        refine ⟨_, rfl, _, rfl, ⟨_, SqL.of hz⟩, fun D2 nD20 => ?_⟩
        have nD2 : H1 D2 = none := nD20
        have hDD : D ≠ D2 := ne_of_none hz nD2
        have wl := walk_list (K := K) (a := D) (xs := rowV n fun j => x j * y c - y j * x c)
        rw [rowV_len] at wl
        refine lc_map wl (by omega) (fun j z _ => z = .int (red p (x j * y c - y j * x c))) (fun _ _ _ _ _ h _ => h) (fun H4 b4 => SqL.of (b4 _ _ hDD (upd_new nD2 hz))) ?_ (mono_name 7) mono_yes nD2 ?_
        · rintro i z H9 H0 Kc hi b4 _ ⟨rfl, hz'⟩ fin
          obtain ⟨_, rfl⟩ := rowV_get hz'
          refine ⟨rfl, rfl, _, rfl, .inl ⟨_, rfl, _, rfl, _, _, rfl, rfl, by omega, fin _ _ (Same.refl _) ?_⟩⟩
          unfold red
          rw [if_pos p0]
        · intro H2 zs2 b4 hz2 hzl2 hzr2
          refine ⟨_, rfl, q D2 H2 (s1.free nD2) (s1.trans (But.same nD2 b4)) ?_⟩
          rw [hz2, row_of hzl2 hzr2]
      · have p0 : ¬ 0 < p := fun z => e (decide_eq_true z)
        refine ⟨_, rfl, q D H1 nD s1 ?_⟩
        rw [hz]
        refine congrArg (fun l => some (HO.lst l)) (rowV_congr fun j _ => ?_)
        unfold red
        rw [if_neg p0]
def spLists : Sp := fun vs H Q _ => ∃ u : Nat, vs = [.int (u : Int)] ∧ 1 ≤ u ∧ u ≤ 5 ∧ RetLL H Q (slists u)
theorem raw_len : ∀ n : Nat, (raw n).length = 2 ^ n
  | 0 => rfl
  | n + 1 => by
    show (raw n ++ (raw n).map fun r => r ++ [n]).length = _
    rw [List.length_append, List.length_map, raw_len n, Nat.pow_succ]
    omega
theorem raw_c : ∀ n : Nat, ∀ c ∈ raw n, c.length ≤ n
  | 0, c, h => by
    rw [List.mem_singleton.mp h]
    exact Nat.le_refl _
  | n + 1, c, h => by
    rcases List.mem_append.mp h with z | z
    · exact Nat.le_succ_of_le (raw_c n c z)
    · obtain ⟨d, hd, rfl⟩ := List.mem_map.mp z
      rw [List.length_append]
      exact Nat.succ_le_succ (raw_c n d hd)
theorem ok_lists (F : Fun K "_law_lists" "_law_lists" sLawLists f fd) (T : Blt mg) : FnOk P w K mg base CX0 (k + 1) f fd ["_law_many"] spLists := by
  refine F.ok scLawLists (fun vs H Q E h => ?_) (fun cdv A outer s H vs Q E hr h => ?_)
  · obtain ⟨u, rfl, _⟩ := h
    rfl
  · obtain ⟨u, rfl, h1, h5, q⟩ := h
    refine ⟨_, (pss_cons (ps_set (i := 1) scLawLists.nd rfl (by first | exact .inl rfl | exact .inr rfl) (pe_lst (pa_cons (pe_lst pa_nil) pa_nil)))
  (pss_cons (ps_for PassesOwn.never rfl (pi_range1 (by rfl) T.range (pa_cons (pv 0) pa_nil)) (pg_name (i := 2) scLawLists.nd rfl (by first | exact .inl rfl | exact .inr rfl)) (pss_one (ps_set (i := 1) scLawLists.nd rfl (by first | exact .inl rfl | exact .inr rfl) (pe_op op_cat (pv 1) (pe_lc (own := [("_law_row", 3)]) (g := (gName 3)) (tt := tYes) rfl scLawLists.nd (kpil (K := K) (hl := (pv 1))) (blkOk_by (N := nLawLists) (sc := defScope sLawLists) (by decide +kernel)) (fun _ _ _ _ _ => (pg_name (i := 3) scLawLists.nd rfl (by first | exact .inl rfl | exact .inr rfl))) (fun _ _ _ _ _ => pts_nil) (fun _ _ _ _ _ => (pe_op op_cat (pv 3) (pe_lst (pa_cons (pv 2) pa_nil)))))))))
  (pss_one (ps_ret (ksorted (K := K) (hu65 hr) T.sorted (pa_cons (pv 1) pa_nil)))))), ?_⟩
    refine ⟨size_ok (by show 0 ≤ 100000; decide), fun p0 n0 => ⟨size_ok (by show 1 ≤ 100000; decide), fun p1 n1 => ?_⟩⟩
    have hp0 : H p0 = none := n0
    have n1' : upd H p0 (.lst []) p1 = none := n1
    have sA : Same H (upd (upd H p0 (.lst [])) p1 (.lst [.ref p0])) := (same_new hp0).trans (same_new n1')
    refine ⟨_, rfl, u, rfl, by omega, by omega, ?_⟩
    have en : ((u : Nat) : Int).toNat = u := by omega
    rw [en]
    refine for_range (fun i σ H' => ∃ R x y ys, σ = [some (.int (u : Int)), some (.ref R), x, y] ∧ Same H H' ∧ H R = none ∧ H' R = some (.lst ys) ∧ LLs H H' ys (raw i)) ⟨p1, _, _, _, rfl, sA, (same_new hp0).free n1', upd_same, .cons ⟨p0, rfl, hp0, upd_new n1' upd_same⟩ .nil⟩ ?_ ?_
    · rintro i σ H' hi ⟨R, x, y, ys, rfl, s1, nR, hy, ly⟩
      have rl : (raw i).length ≤ 16 := by
        rw [raw_len]
        exact Nat.le_trans (Nat.pow_le_pow_right (n := 2) (by decide) (show i ≤ 4 by omega)) (by decide)
      refine ⟨_, rfl, _, rfl, _, rfl, ⟨ys, SqL.of hy⟩, fun D nD0 => ?_⟩
      have nD : H' D = none := nD0
      have hRD : R ≠ D := ne_of_none hy nD
      have wl := walk_list (K := K) (a := R) (xs := ys)
      refine lc_map wl (by rw [ly.len]; omega) (fun j z H3 => ∃ q c, z = .ref q ∧ (raw i)[j]? = some c ∧ upd H' D (.lst []) q = none ∧ H3 q = some (.lst (natL (c ++ [i])))) ?_ (fun H3 b => SqL.of (b _ _ hRD (upd_new nD hy))) ?_ (mono_name 3) mono_yes nD ?_
      · rintro j z H3 H4 _ ⟨q, c, rfl, hc, nq, hq⟩ b
        exact ⟨q, c, rfl, hc, nq, b _ _ (fun e => by rw [e, upd_same] at nq; cases nq) hq⟩
      · rintro j z H9 H3 Kc hj b ⟨o, hD⟩ ⟨rfl, hz⟩ fin
        obtain ⟨c, q0, hc, rfl, nq, hq⟩ := ly.at hz
        have s3 : Same H' H3 := But.same nD b
        refine ⟨rfl, rfl, ?_⟩
        refine ⟨_, rfl, _, rfl, size_ok (by show 1 ≤ 100000; decide), fun p1 np1 => ?_⟩
        have np1' : H3 p1 = none := np1
        refine ⟨_, _, _, _, rfl, rfl, upd_new np1' (s3 _ _ hq), upd_same, ?_, fun p2 np2 => ?_⟩
        · have := raw_c i c (List.mem_of_getElem? hc)
          exact size_ok (by rw [natL_len]; show _ + 1 ≤ _; omega)
        have np2' : upd H3 p1 (.lst [.int (0 + (i : Int))]) p2 = none := np2
        have n3 : H3 p2 = none := (same_new np1').free np2'
        refine fin _ _ ((same_new np1').trans (same_new np2')) ⟨p2, c, rfl, hc, ?_, ?_⟩
        · have hne : p2 ≠ D := fun z => by rw [z, hD] at n3; cases n3
          rw [upd_ne hne]
          exact s3.free n3
        · rw [natL_app, upd_same, Int.zero_add]
          rfl
      · rintro H3 zs b hz hzl hzr
        have s3 : Same H' H3 := But.same nD b
        refine ⟨_, _, _, _, rfl, rfl, s3 _ _ hy, hz, ?_, fun p3 np3 => ?_⟩
        · rw [hzl, ly.len]
          exact size_ok (by omega)
        have np3' : H3 p3 = none := np3
        have s4 := same_new (o := .lst (ys ++ zs)) np3'
        refine ⟨p3, _, _, ys ++ zs, rfl, (s1.trans s3).trans s4, s1.free (s3.free np3'), upd_same, ?_⟩
        refine paired_app (ly.same (s3.trans s4)) (paired_of ?_ fun j x c' h1 h2 => ?_)
        · rw [hzl, List.length_map, ly.len]
        · obtain ⟨q, c, rfl, hc, nq, hq⟩ := hzr j x h1
          rw [List.getElem?_map, hc] at h2
          rw [← Option.some.inj h2]
          exact ⟨q, rfl, s1.free ((same_new nD).free nq), s4 _ _ hq⟩
    · rintro σ H' ⟨R, x, y, ys, rfl, s1, nR, hy, ly⟩
      refine ⟨_, rfl, R, ys, _, _, rfl, hy, ly, fun q2 ys2 ds nq2 hp2 hs2 l2 => ?_⟩
      have nq2' : H' q2 = none := nq2
      have e : ds = slists u := srt_uniq hs2 (slists_srt h1 h5) (hp2.trans (isort_perm _).symm)
      refine q q2 ys2 _ (s1.free nq2') (s1.trans (same_new nq2')) upd_same ?_
      rw [← e]
      exact l2.same (same_new nq2')
end
end Wk
/-! Wk13: the law's rank. -/
namespace Wk
open PySem PySem.Spec PyProof.Rows L2 Ev
abbrev scR1 : Scope := fsc [(".0", .local), ("_law_row", .cell), ("_law_columns", .free)]
abbrev scR2 : Scope := fsc [(".0", .local), ("_law_row", .local), ("_law_char", .free)]
theorem Grd.ar {B H : Hp} {a : Addr} {r : Nat → Addr} {n m i : Nat} {N : Mx} (x : Grd B H a r n m N) (hi : i < n) : a ≠ r i := fun z => by
  have e1 := x.top
  have e2 := x.row i hi
  rw [z, e2] at e1
  exact refs_ne_row (n := n) (by omega) (Option.some.inj e1).symm
theorem Grd.swap {B H H' : Hp} {a : Addr} {r : Nat → Addr} {n m t s : Nat} {N : Mx} (x : Grd B H a r n m N) (ht : t < n) (hs : s < n) (hh : H' a = some (.lst (refs n fun k => r (sw t s k)))) (b : But a H H') : Grd B H' a (fun k => r (sw t s k)) n m (rowSwap N t s) :=
  ⟨hh, fun i hi => b _ _ (x.ar (sw_lt' ht hs hi)).symm (x.row _ (sw_lt' ht hs hi)), fun i j hi hj e => sw_inj (x.inj _ _ (sw_lt' ht hs hi) (sw_lt' ht hs hj) e), x.na, fun i hi => x.nr _ (sw_lt' ht hs hi)⟩
theorem Grd.vals {B H : Hp} {a : Addr} {r : Nat → Addr} {n m : Nat} {N N2 : Mx} (x : Grd B H a r n m N) (e : ∀ i j, i < n → j < m → N i j = N2 i j) : Grd B H a r n m N2 :=
  ⟨x.top, fun i hi => by rw [x.row i hi, rowV_congr fun j hj => e i j hi hj], x.inj, x.na, x.nr⟩
theorem Grd.setrow {B H H' : Hp} {a q : Addr} {r : Nat → Addr} {n m t : Nat} {N : Mx} {X : Nat → Int} (x : Grd B H a r n m N) (sB : Same B H) (nq : H q = none) (hq : H' q = some (.lst (rowV m X))) (ht : H' a = some (.lst (refs n fun k => if k = t then q else r k))) (b : But a H H') :
    Grd B H' a (fun k => if k = t then q else r k) n m (fun i => if i = t then X else N i) := by
  have nqr : ∀ i, i < n → q ≠ r i := fun i hi z => by
    have := x.row i hi
    rw [← z, nq] at this
    cases this
  refine ⟨ht, fun i hi => ?_, fun i j hi hj e => ?_, x.na, fun i hi => ?_⟩
  · by_cases e : i = t
    · simp only [if_pos e]
      exact hq
    · simp only [if_neg e]
      exact b _ _ (x.ar hi).symm (x.row i hi)
  · by_cases e1 : i = t
    · by_cases e2 : j = t
      · omega
      · simp only [if_pos e1, if_neg e2] at e
        exact absurd e (nqr j hj)
    · by_cases e2 : j = t
      · simp only [if_neg e1, if_pos e2] at e
        exact absurd e.symm (nqr i hi)
      · simp only [if_neg e1, if_neg e2] at e
        exact x.inj i j hi hj e
  · by_cases e : i = t
    · simp only [if_pos e]
      exact sB.free nq
    · simp only [if_neg e]
      exact x.nr i hi
/-- B keeps whatever becomes of a, a not in B -/
theorem same_but {B H H' : Hp} {a : Addr} (s : Same B H) (na : B a = none) (b : But a H H') : Same B H' := fun c o e => b c o (fun z => by rw [z, na] at e; cases e) (s c o e)
theorem GB_le (z : Nat) : GB z ≤ 140737488355328 := by
  unfold GB
  split
  · decide
  · split <;> decide
theorem plc_take {M : Mx} {sz h c i : Nat} (hi : i < h - sz) : ((List.range' sz (h - sz)).take (i + 1)).filter (fun k => decide (M k c ≠ 0)) = ((List.range' sz (h - sz)).take i).filter (fun k => decide (M k c ≠ 0)) ++ (if decide (M (sz + i) c ≠ 0) = true then [sz + i] else []) := by
  refine take_succ_filter _ _ i (sz + i) ?_
  rw [List.getElem?_range' (by omega), Nat.one_mul]
section
variable {P : Program} {w_ : World} {K : PySem.W.Frag} {mg : Str → Option Value} {base : Heap} {f fL : Addr} {fd fdL : FuncData} {k : Nat}
def spLRank : Sp := fun vs H Q _ => ∃ (l q : Addr) (p : Int) (h w : Nat) (A : Mx) (c : List Nat), vs = [.ref l, .ref q, .int p] ∧ p ≤ 2048 ∧ Good p ∧ RowsL H l h w A ∧ Dims h w A ∧ H q = some (.lst (natL c)) ∧ (c.length ≤ 5 ∧ ∀ x ∈ c, x < w) ∧ ∀ H', Same H H' → Q (.int ((rk p h A c : Nat) : Int)) H'
theorem ok_lrank (F : Fun K "_law_rank" "_law_rank" sLawRank f fd) (T : Blt mg) (CL : Cal K mg "_law_less" sLawLess ["_law_row", "_law_base", "_law_at", "_law_char"] fL fdL) (GL : FnOk P w_ K mg base CX0 k fL fdL ["_law_row", "_law_base", "_law_at", "_law_char"] spLess) :
    FnOk P w_ K mg base CX0 (k + 1) f fd ["_law_rows_here", "_law_columns", "_law_char"] spLRank := by
  refine F.ok scLawRank (fun vs H Q E h => ?_) (fun cdv A outer s H vs Q E hr h => ?_)
  · obtain ⟨l, q0, p, h, w, M, c, rfl, _⟩ := h
    rfl
  · obtain ⟨l, q0, p, h, w, M, c, rfl, hp, good, ⟨r, hl, hrow⟩, ⟨d1, d2, d3, d4, hbd⟩, hq, ⟨c5, hc⟩, q⟩ := h
    have hM0 : ∃ M0 : Mx, M0 = fun i j => red p (cols M c i j) := ⟨_, rfl⟩
    obtain ⟨M0, hM0⟩ := hM0
    have bC : Bd h c.length (cols M c) 4 := bd_cols hbd hc
    have gi := fun c' hc' => gau_inv (A := cols M c) good.dom good.nn hp d2 bC c' hc'
    rw [← hM0] at gi
    have erk : rk p h M c = (gau p h c.length M0).2 := by
      rw [hM0]
      rfl
    have rest : ∃ tr, PSs (cxOf CX0 P w_ K mg base nLawRank "_law_rank" (defScope sLawRank) f cdv A outer s H E).nox ((defBody sLawRank).drop 2) tr ∧
        ∀ (L : Addr) (t : Nat → Addr) (H1 : Hp) (x4 x5 x6 x7 x8 x9 : Option L2.V), Same H H1 → Grd H H1 L t h c.length M0 → tr { nx := fun _ H' => Q .non H', rt := Q } [some (.ref l), some (.ref q0), some (.int p), some (.ref L), x4, x5, x6, x7, x8, x9] H1 := by
      refine ⟨_, (pss_cons (ps_set (i := 4) scLawRank.nd rfl (by first | exact .inl rfl | exact .inr rfl) pe_int)
  (pss_cons (ps_for PassesOwn.never rfl (pi_range1 (by rfl) T.range (pa_cons (klen (K := K) T.len (pa_cons (pv 1) pa_nil)) pa_nil)) (pg_name (i := 5) scLawRank.nd rfl (by first | exact .inl rfl | exact .inr rfl)) (pss_cons (ps_setLc (i := 6) (own := [("_law_k", 7)]) (g := (gName 7)) rfl scLawRank.nd rfl rfl (sw_true rfl rfl rfl (by decide +kernel)) (pi_range2 (by rfl) T.range (pa_cons (pv 4) (pa_cons (klen (K := K) T.len (pa_cons (pv 3) pa_nil)) pa_nil))) (blkOk_by (N := nLawRank) (sc := defScope sLawRank) (by decide +kernel)) (fun _ _ _ _ _ => (pg_name (i := 7) scLawRank.nd rfl (by first | exact .inl rfl | exact .inr rfl))) (fun _ _ _ _ _ => pts_one (pt_cmpR op_ne (kixl (K := K) (ha := (kixl (K := K) (ha := (pv 3)) (hb := (pv 7)))) (hb := (pv 5))) pe_int (nomark _))) (fun _ _ _ _ _ => (pv 7)))
  (pss_one (ps_if (tneD hr.units (K := K) (ha := (pv 6)) (hb := (pe_lst pa_nil))) (pss_cons (ps_asg (pe_tup (pa_cons (kixl (K := K) (ha := (pv 3)) (hb := (kixl (K := K) (ha := (pv 6)) (hb := pe_int)))) (pa_cons (kixl (K := K) (ha := (pv 3)) (hb := (pv 4))) pa_nil))) (pg_tup rfl (pgs_cons (pg_sub (pv 3) (pv 4) set_list) (pgs_cons (pg_sub (pv 3) (kixl (K := K) (ha := (pv 6)) (hb := pe_int)) set_list) pgs_nil))))
  (pss_cons (ps_for PassesOwn.never rfl (pi_range2 (by rfl) T.range (pa_cons (pe_op op_add (pv 4) pe_int) (pa_cons (klen (K := K) T.len (pa_cons (pv 3) pa_nil)) pa_nil))) (pg_name (i := 7) scLawRank.nd rfl (by first | exact .inl rfl | exact .inr rfl)) (pss_one (ps_asg (pcal CL GL hr pass0 (pa_cons (kixl (K := K) (ha := (pv 3)) (hb := (pv 7))) (pa_cons (kixl (K := K) (ha := (pv 3)) (hb := (pv 4))) (pa_cons (pv 5) (pa_cons (pv 2) pa_nil))))) (pg_sub (pv 3) (pv 7) set_list))))
  (pss_one (ps_set (i := 4) scLawRank.nd rfl (by first | exact .inl rfl | exact .inr rfl) (pe_op op_add (pv 4) pe_int))))) pss_nil))))
  (pss_one (ps_ret (pv 4))))), ?_⟩
      intro L t H1 x4 x5 x6 x7 x8 x9 s1 G1
      have hq1 := s1 _ _ hq
      refine ⟨_, rfl, _, _, rfl, .inl (SqL.of hq1), _, rfl, by omega, by rw [natL_len]; omega, ?_⟩
      have en : (((natL c).length : Nat) : Int).toNat = c.length := by rw [natL_len]; omega
      rw [en]
      refine for_range (fun c' σ H' => ∃ x5 x6 x7 x8 x9 t, σ = [some (.ref l), some (.ref q0), some (.int p), some (.ref L), some (.int (((gau p h c' M0).2 : Nat) : Int)), x5, x6, x7, x8, x9] ∧ Same H H' ∧ Grd H H' L t h c.length (gau p h c' M0).1) ⟨_, _, _, _, _, t, rfl, s1, G1⟩ ?_ ?_
      · rintro c' σ H2 hc' ⟨x5, x6, x7, x8, x9, t, rfl, s2, G2⟩
        rw [Int.zero_add]
        obtain ⟨co, gi'⟩ := gi c' (by omega)
        have estep : gau p h (c' + 1) M0 = gstep p h c' (gau p h c' M0) := rfl
        rw [estep]
        generalize gau p h c' M0 = sm at *
        obtain ⟨N, sz⟩ := sm
        have szh : sz ≤ h := gi'.sz
        have bN : ∀ i j, i < h → j < c.length → (N i j).natAbs ≤ 140737488355328 := fun i j hi hj => Nat.le_trans (gi'.bd i j hi hj) (GB_le sz)
        refine ⟨_, rfl, _, rfl, _, _, rfl, .inl (SqL.of G2.top), ?_⟩
        rw [refs_len]
        refine ⟨_, _, rfl, ⟨by omega, by omega, by omega, by omega⟩, fun D nD0 => ?_⟩
        have nD : H2 D = none := nD0
        have hLD : L ≠ D := ne_of_none G2.top nD
        have en2 : (((h : Nat) : Int) - ((sz : Nat) : Int)).toNat = h - sz := by omega
        show ∃ W, _
        rw [en2]
        refine lc_range (fun i H3 => But D (upd H2 D (.lst [])) H3 ∧ H3 D = some (.lst (natL (((List.range' sz (h - sz)).take i).filter fun k => decide (N k c' ≠ 0))))) ⟨But.refl _ _, upd_same⟩ ?_ ?_
        · rintro i H3 hi ⟨b3, h3⟩
          have s3 : Same H2 H3 := But.same nD b3
          rw [show ((sz : Nat) : Int) + (i : Int) = ((sz + i : Nat) : Int) from by omega]
          refine ⟨rfl, _, rfl, _, rfl, _, _, _, _, rfl, rfl, SqL.of (s3 _ _ G2.top), atI_refs (i := sz + i) t (by omega), _, rfl, _, _, _, _, rfl, rfl, SqL.of (s3 _ _ (G2.row (sz + i) (by omega))), atI_row (j := c') _ hc', rfl, _, rfl, ?_⟩
          rw [plc_take hi]
          refine ite2 (fun e => ?_) (fun e => ?_)
          · have e' : (!decide (V.int (N (sz + i) c') = .int 0)) = true := e
            have ne : N (sz + i) c' ≠ 0 := fun z => by
              rw [z] at e'
              exact absurd e' (by decide)
            rw [if_pos (decide_eq_true ne), natL_app]
            refine ⟨_, rfl, _, h3, ?_, b3.upd, upd_same⟩
            rw [natL_len]
            have := List.length_filter_le (fun k => decide (N k c' ≠ 0)) ((List.range' sz (h - sz)).take i)
            have l2 : ((List.range' sz (h - sz)).take i).length ≤ h - sz := by
              rw [List.length_take, List.length_range']
              exact Nat.min_le_right _ _
            exact size_lt (by omega)
          · have ze : N (sz + i) c' = 0 := Classical.byContradiction fun z => e (by rw [decide_eq_false (fun y => z (V.int.inj y))]; rfl)
            rw [if_neg (by rw [decide_eq_true_iff]; exact fun z => z ze), List.append_nil]
            exact ⟨b3, h3⟩
        · rintro H3 ⟨b3, h3⟩
          have s3 : Same H2 H3 := But.same nD b3
          have epl : ((List.range' sz (h - sz)).take (h - sz)).filter (fun k => decide (N k c' ≠ 0)) = plc N sz h c' := by
            rw [List.take_of_length_le (by rw [List.length_range']; exact Nat.le_refl _)]
            rfl
          rw [epl] at h3
          have G3 := G2.same s3
          refine ⟨_, rfl, size_ok (by show 0 ≤ 100000; decide), fun p0 np0 => ?_⟩
          have np : H3 p0 = none := np0
          have s4 := same_new (o := .lst []) np
          refine ⟨dN _, dN [], dp_nat (s4 _ _ h3), dp_nat upd_same, dN_shaped _, dN_shaped _, ?_⟩
          rw [dN_eqv]
          refine ⟨_, rfl, ?_⟩
          have G4 := G3.same s4
          have s04 : Same H (upd H3 p0 (.lst [])) := (s2.trans s3).trans s4
          have h4 := s4 _ _ h3
          generalize upd H3 p0 (.lst []) = H4 at *
          cases hpl : plc N sz h c' with
          | nil =>
            refine iteF ?_
            have e : gstep p h c' (N, sz) = (N, sz) := by
              unfold gstep
              rw [show plc (N, sz).1 (N, sz).2 h c' = [] from hpl]
            rw [e]
            exact ⟨_, _, _, _, _, t, rfl, s04, G4⟩
          | cons kk pl =>
            refine iteT ?_
            have mk := mem_plc.mp (show kk ∈ plc N sz h c' by rw [hpl]; exact List.mem_cons_self)
            rw [hpl] at h4
            have a0 : atI (natL (kk :: pl)) (0 : Int) = some (.int ((kk : Nat) : Int)) := atI_nat (j := 0) rfl
            have szl : sz < h := by omega
            have e : gstep p h c' (N, sz) = (fun i j => if sz < i then lessM p (rowSwap N sz kk) sz i c' j else rowSwap N sz kk i j, sz + 1) := by
              unfold gstep
              rw [show plc (N, sz).1 (N, sz).2 h c' = kk :: pl from hpl]
            rw [e]
            refine ⟨_, rfl, _, rfl, _, _, _, _, rfl, rfl, SqL.of h4, a0, _, _, _, _, rfl, rfl, SqL.of G4.top, atI_refs (i := kk) t mk.2.1, _, rfl, _, rfl, _, _, _, _, rfl, rfl, SqL.of G4.top, atI_refs (i := sz) t szl, size_ok (by show 2 ≤ 100000; decide), fun T0 nT0 => ?_⟩
            have nT : H4 T0 = none := nT0
            have hDL : D ≠ L := hLD.symm
            have hDT : D ≠ T0 := ne_of_none h4 nT
            refine ⟨_, _, rfl, SqT.of upd_same, rfl, _, _, rfl, ?_⟩
            refine ⟨_, rfl, _, rfl, _, _, _, sz, rfl, rfl, upd_new nT G4.top, (by rw [refs_len]; exact ixN_nat szl), _, _, rfl, ?_⟩
            refine ⟨_, rfl, _, rfl, _, _, _, _, rfl, rfl, SqL.of (by rw [upd_ne hDL, upd_ne hDT]; exact h4), a0, _, _, _, kk, rfl, rfl, upd_same, (by rw [List.length_set, refs_len]; exact ixN_nat mk.2.1), rfl, ?_⟩
            rw [upd_upd, refs_set, refs_set]
            have eq : (fun k => if k = kk then t sz else if k = sz then t kk else t k) = fun k => t (sw sz kk k) := funext fun k => by
              unfold sw
              by_cases e1 : k = kk
              · by_cases e2 : k = sz
                · rw [if_pos e1, if_pos e2, ← e1, ← e2]
                · rw [if_pos e1, if_neg e2, if_pos e1]
              · by_cases e2 : k = sz
                · rw [if_neg e1, if_pos e2, if_pos e2]
                · rw [if_neg e1, if_neg e2, if_neg e2, if_neg e1]
            rw [eq]
            have bT : But L H4 (upd (upd H4 T0 (.tup [.ref (t kk), .ref (t sz)])) L (.lst (refs h fun k => t (sw sz kk k)))) := (But.of (same_new nT)).upd
            have G5 := G4.swap szl mk.2.1 (H' := upd (upd H4 T0 (.tup [.ref (t kk), .ref (t sz)])) L (.lst (refs h fun k => t (sw sz kk k)))) upd_same bT
            have s05 : Same H (upd (upd H4 T0 (.tup [.ref (t kk), .ref (t sz)])) L (.lst (refs h fun k => t (sw sz kk k)))) := same_but s04 G4.na bT
            generalize upd (upd H4 T0 (.tup [.ref (t kk), .ref (t sz)])) L (.lst (refs h fun k => t (sw sz kk k))) = H5 at *
            refine ⟨_, rfl, _, _, rfl, rfl, _, rfl, _, _, rfl, .inl (SqL.of G5.top), ?_⟩
            rw [refs_len]
            refine ⟨_, _, rfl, ⟨by omega, by omega, by omega, by omega⟩, ?_⟩
            have en3 : (((h : Nat) : Int) - (((sz : Nat) : Int) + 1)).toNat = h - (sz + 1) := by omega
            show ∃ W, _
            rw [en3]
            have bS : ∀ i j, i < h → j < c.length → (rowSwap N sz kk i j).natAbs ≤ 140737488355328 := fun i j hi hj => bN _ _ (sw_lt' szl mk.2.1 hi) hj
            refine for_range (fun m σ H' => ∃ x6 x7 x8 x9 t, σ = [some (.ref l), some (.ref q0), some (.int p), some (.ref L), some (.int ((sz : Nat) : Int)), some (.int ((c' : Nat) : Int)), x6, x7, x8, x9] ∧ Same H H' ∧ Grd H H' L t h c.length (fun i j => if sz < i ∧ i < sz + 1 + m then lessM p (rowSwap N sz kk) sz i c' j else rowSwap N sz kk i j))
              ⟨_, _, _, _, _, rfl, s05, G5.vals fun i j _ _ => by rw [if_neg (by omega)]⟩ ?_ ?_
            · rintro m σ H6 hm ⟨x6, x7, x8, x9, t6, rfl, s06, G6⟩
              rw [show ((sz : Nat) : Int) + 1 + (m : Int) = ((sz + 1 + m : Nat) : Int) from by omega]
              have hk : sz + 1 + m < h := by omega
              have rk1 := G6.row (sz + 1 + m) hk
              have rk0 := G6.row sz szl
              have e1 : (fun j => if sz < sz + 1 + m ∧ sz + 1 + m < sz + 1 + m then lessM p (rowSwap N sz kk) sz (sz + 1 + m) c' j else rowSwap N sz kk (sz + 1 + m) j) = rowSwap N sz kk (sz + 1 + m) := funext fun j => if_neg (by omega)
              have e0 : (fun j => if sz < sz ∧ sz < sz + 1 + m then lessM p (rowSwap N sz kk) sz sz c' j else rowSwap N sz kk sz j) = rowSwap N sz kk sz := funext fun j => if_neg (by omega)
              rw [e1] at rk1
              rw [e0] at rk0
              refine ⟨_, rfl, _, rfl, _, _, _, _, rfl, rfl, SqL.of G6.top, atI_refs (i := sz + 1 + m) t6 hk, _, rfl, _, rfl, _, _, _, _, rfl, rfl, SqL.of G6.top, atI_refs (i := sz) t6 szl, _, rfl, _, rfl, ?_⟩
              refine ⟨_, _, c.length, c', p, _, _, rfl, ⟨hc', c5, good.nn⟩, rk1, rk0, fun j hj => bS _ _ hk hj, fun j hj => bS _ _ szl hj, fun q3 H7 nq3 s7 hq3 => ?_⟩
              refine ⟨_, rfl, _, rfl, _, _, _, sz + 1 + m, rfl, rfl, s7 _ _ G6.top, (by rw [refs_len]; exact ixN_nat hk), ?_⟩
              rw [refs_set]
              have b7 : But L H6 (upd H7 L (.lst (refs h fun k => if k = sz + 1 + m then q3 else t6 k))) := (But.of s7).upd
              have hLq : q3 ≠ L := fun z => by
                have := G6.top
                rw [← z, nq3] at this
                cases this
              have G8 := G6.setrow s06 nq3 (t := sz + 1 + m) (H' := upd H7 L (.lst (refs h fun k => if k = sz + 1 + m then q3 else t6 k))) (by rw [upd_ne hLq]; exact hq3) upd_same b7
              refine ⟨_, _, _, _, _, rfl, same_but s06 G6.na b7, G8.vals fun i j hi hj => ?_⟩
              by_cases ei : i = sz + 1 + m
              · rw [if_pos ei, if_pos (by omega), ei]
                rfl
              · rw [if_neg ei]
                by_cases e2 : sz < i ∧ i < sz + 1 + m
                · rw [if_pos e2, if_pos (by omega)]
                · rw [if_neg e2, if_neg (by omega)]
            · rintro σ H6 ⟨x6, x7, x8, x9, t6, rfl, s06, G6⟩
              refine ⟨_, rfl, _, _, rfl, rfl, _, _, _, _, _, t6, rfl, s06, G6.vals fun i j hi _ => ?_⟩
              show _ = if sz < i then lessM p (rowSwap N sz kk) sz i c' j else rowSwap N sz kk i j
              by_cases e2 : sz < i
              · rw [if_pos ⟨e2, by omega⟩, if_pos e2]
              · rw [if_neg (fun z => e2 z.1), if_neg e2]
      · rintro σ H2 ⟨x5, x6, x7, x8, x9, t, rfl, s2, G2⟩
        refine ⟨_, rfl, ?_⟩
        rw [← erk]
        exact q H2 s2
    obtain ⟨tr, hrest, ht⟩ := rest
    refine ⟨_, (pss_cons (ps_set (i := 3) scLawRank.nd rfl (by first | exact .inl rfl | exact .inr rfl) (pe_lc (own := [("_law_row", 8)]) (g := (gName 8)) (tt := tYes) rfl scLawRank.nd (kpil (K := K) (hl := (pv 0))) (blkOk_by (N := nLawRank) (sc := defScope sLawRank) (by decide +kernel)) (fun _ _ _ _ _ => (pg_name (i := 8) scLawRank.nd rfl (by first | exact .inl rfl | exact .inr rfl))) (fun _ _ _ _ _ => pts_nil) (fun _ _ _ _ _ => (pe_lc (own := [("_law_at", 5)]) (g := (gName 5)) (tt := tYes) rfl scLawRank.nd (kpil (K := K) (hl := (pv 1))) (blkOk_by (N := nLawRank) (sc := relS scR1 (defScope sLawRank)) (by decide +kernel)) (fun _ _ _ _ _ => (pg_name (i := 5) scLawRank.nd rfl (by first | exact .inl rfl | exact .inr rfl))) (fun _ _ _ _ _ => pts_nil) (fun _ _ _ _ _ => (kixl (K := K) (ha := (pv 8)) (hb := (pv 5))))))))
  (pss_cons (ps_if (pt_cmpR op_gt (pv 2) pe_int (nomark _)) (pss_one (ps_set (i := 3) scLawRank.nd rfl (by first | exact .inl rfl | exact .inr rfl) (pe_lc (own := [("_law_row", 8)]) (g := (gName 8)) (tt := tYes) rfl scLawRank.nd (kpil (K := K) (hl := (pv 3))) (blkOk_by (N := nLawRank) (sc := defScope sLawRank) (by decide +kernel)) (fun _ _ _ _ _ => (pg_name (i := 8) scLawRank.nd rfl (by first | exact .inl rfl | exact .inr rfl))) (fun _ _ _ _ _ => pts_nil) (fun _ _ _ _ _ => (pe_lc (own := [("_law_item", 9)]) (g := (gName 9)) (tt := tYes) rfl scLawRank.nd (kpil (K := K) (hl := (pv 8))) (blkOk_by (N := nLawRank) (sc := relS scR2 (defScope sLawRank)) (by decide +kernel)) (fun _ _ _ _ _ => (pg_name (i := 9) scLawRank.nd rfl (by first | exact .inl rfl | exact .inr rfl))) (fun _ _ _ _ _ => pts_nil) (fun _ _ _ _ _ => (pe_op op_modN (kint T.int (pa_cons (pv 9) pa_nil)) (pv 2)))))))) pss_nil)
  hrest)), ?_⟩
    refine ⟨_, rfl, _, rfl, ⟨_, SqL.of hl⟩, fun D nD0 => ?_⟩
    have nD : H D = none := nD0
    have hlD : l ≠ D := ne_of_none hl nD
    have wl := walk_list (K := K) (a := l) (xs := refs h r)
    rw [refs_len] at wl
    refine lc_new wl (by omega) (fun i => .lst (rowV c.length (cols M c i))) (fun H' b => SqL.of (b _ _ hlD (upd_new nD hl))) ?_ (mono_name 8) mono_yes nD ?_
    · rintro i x H9 H0 Kc hi b ⟨o, hD⟩ ⟨rfl, hx⟩ fin
      obtain ⟨_, rfl⟩ := refs_get hx
      have s1 : Same H H0 := But.same nD b
      refine ⟨rfl, rfl, ?_⟩
      refine ⟨_, rfl, _, rfl, ⟨_, SqL.of (s1 _ _ hq)⟩, fun D2 nD20 => ?_⟩
      have nD2 : H0 D2 = none := nD20
      have hqD : q0 ≠ D2 := ne_of_none (s1 _ _ hq) nD2
      have w2 := walk_list (K := K) (a := q0) (xs := natL c)
      rw [natL_len] at w2
      refine lc_map w2 (by omega) (fun j z _ => z = .int (cols M c i j)) (fun _ _ _ _ _ h _ => h) (fun H' b => SqL.of (b _ _ hqD (upd_new nD2 (s1 _ _ hq)))) ?_ (mono_name 5) mono_yes nD2 ?_
      · rintro j x H8 H7 Kc2 hj b2 _ ⟨rfl, hx2⟩ fin2
        obtain ⟨y, hy, rfl⟩ := natL_get hx2
        have s2 : Same H H7 := s1.trans (But.same nD2 b2)
        refine ⟨rfl, rfl, ?_⟩
        refine ⟨_, rfl, _, rfl, _, _, _, _, rfl, rfl, SqL.of (s2 _ _ (hrow i hi)), atI_row _ (hc y (List.mem_of_getElem? hy)), fin2 _ _ (Same.refl _) ?_⟩
        show V.int (M i y) = V.int (M i (c.getD j 0))
        rw [List.getD_eq_getElem?_getD, hy]
        rfl
      · intro H7 zs b2 hz hzl hzr
        refine fin D2 H7 (But.same nD2 b2) nD2 ?_
        rw [hz, row_of hzl hzr]
    · intro H1 t b hz hr' hn' hj
      have s1 : Same H H1 := But.same nD b
      refine ⟨_, rfl, _, _, rfl, rfl, _, rfl, ite2 (fun e => ?_) (fun e => ?_)⟩
      · have p0 : 0 < p := of_decide_eq_true e
        refine ⟨_, rfl, _, rfl, ⟨_, SqL.of hz⟩, fun D2 nD20 => ?_⟩
        have nD2 : H1 D2 = none := nD20
        have hDD : D ≠ D2 := ne_of_none hz nD2
        have wl2 := walk_list (K := K) (a := D) (xs := refs h t)
        rw [refs_len] at wl2
        refine lc_new wl2 (by omega) (fun i => .lst (rowV c.length (M0 i))) (fun H' b => SqL.of (b _ _ hDD (upd_new nD2 hz))) ?_ (mono_name 8) mono_yes nD2 ?_
        · rintro i x H9 H0 Kc hi b ⟨o, hD⟩ ⟨rfl, hx⟩ fin
          obtain ⟨_, rfl⟩ := refs_get hx
          have s2 : Same H1 H0 := But.same nD2 b
          refine ⟨rfl, rfl, ?_⟩
          refine ⟨_, rfl, _, rfl, ⟨_, SqL.of (s2 _ _ (hr' i hi))⟩, fun D3 nD30 => ?_⟩
          have nD3 : H0 D3 = none := nD30
          have hqD : t i ≠ D3 := ne_of_none (s2 _ _ (hr' i hi)) nD3
          have w3 := walk_list (K := K) (a := t i) (xs := rowV c.length (cols M c i))
          rw [rowV_len] at w3
          refine lc_map w3 (by omega) (fun j z _ => z = .int (M0 i j)) (fun _ _ _ _ _ h _ => h) (fun H' b => SqL.of (b _ _ hqD (upd_new nD3 (s2 _ _ (hr' i hi))))) ?_ (mono_name 9) mono_yes nD3 ?_
          · rintro j x H8 H7 Kc2 hj b2 _ ⟨rfl, hx2⟩ fin2
            obtain ⟨_, rfl⟩ := rowV_get hx2
            refine ⟨rfl, rfl, _, rfl, .inl ⟨_, rfl, _, rfl, _, _, rfl, rfl, by omega, fin2 _ _ (Same.refl _) ?_⟩⟩
            rw [hM0]
            show V.int _ = V.int (red p (cols M c i j))
            unfold red
            rw [if_pos p0]
          · intro H7 zs b2 hz2 hzl hzr
            refine fin D3 H7 (But.same nD3 b2) nD3 ?_
            rw [hz2, row_of hzl hzr]
        · intro H2 t2 b2 hz2 hr2 hn2 hj2
          have s2 : Same H1 H2 := But.same nD2 b2
          have G2 : Grd H H2 D2 t2 h c.length M0 := ⟨hz2, hr2, hj2, s1.free nD2, fun i hi => s1.free (hn2 i hi).1⟩
          exact ht D2 t2 H2 _ _ _ _ _ _ (s1.trans s2) G2
      · have p0 : ¬ 0 < p := fun z => e (decide_eq_true z)
        have eM : M0 = cols M c := by
          rw [hM0]
          funext i j
          unfold red
          rw [if_neg p0]
        have G1 : Grd H H1 D t h c.length M0 := ⟨hz, by rw [eM]; exact hr', hj, nD, fun i hi => (hn' i hi).1⟩
        exact ht D t H1 _ _ _ _ _ _ s1 G1
end
end Wk
/-! Wk14: the law's rows, bases, circuits. -/
namespace Wk
open PySem PySem.Spec PyProof.Rows L2 Ev
section
variable {X : Cx} {K : PySem.W.Frag} {e : Expr} {lo hi : Option Expr} {te : TE} {tl th : TO} {pos p2 : Pos}
theorem kslice (he : PE X e te) (hl : PO X lo tl) (hu : PO X hi th) (hK : X.K = K := by rfl) : PE X (.Subscript e (.Slice lo hi none p2) pos) (tSl (rSlL K) te tl th) := by
  subst hK
  exact pe_slice sl_list he hl hu
end
section
variable {P : Program} {w_ : World} {K : PySem.W.Frag} {mg : Str → Option Value} {base : Heap} {f fL fR fD : Addr} {fd fdL fdR fdD : FuncData} {k : Nat}
/-- behind column w nothing new: the first column again -/
def Wide (A : Mx) (w : Nat) : Prop := cols A (List.range w) = A
def spLBases : Sp := fun vs H Q _ => ∃ (l : Addr) (p : Int) (h w : Nat) (A : Mx), vs = [.ref l, .int p] ∧ p ≤ 2048 ∧ Good p ∧ RowsL H l h w A ∧ Dims h w A ∧ Wide A w ∧ RetLL H Q (basesL p h w A)
theorem natL_range (w : Nat) : rgV 0 (w : Int) = natL (List.range w) := by
  unfold rgV natL
  rw [show ((w : Int) - 0).toNat = w from by omega]
  refine List.map_congr_left fun i _ => ?_
  rw [Int.zero_add]
theorem ok_lbases (F : Fun K "_law_bases" "_law_bases" sLawBases f fd) (T : Blt mg) (CR : Cal K mg "_law_rank" sLawRank ["_law_rows_here", "_law_columns", "_law_char"] fR fdR) (GR : FnOk P w_ K mg base CX0 k fR fdR ["_law_rows_here", "_law_columns", "_law_char"] spLRank)
    (CL : Cal K mg "_law_lists" sLawLists ["_law_many"] fL fdL) (GL : FnOk P w_ K mg base CX0 k fL fdL ["_law_many"] spLists) : FnOk P w_ K mg base CX0 (k + 1) f fd ["_law_rows_here", "_law_char"] spLBases := by
  refine F.ok scLawBases (fun vs H Q E h => ?_) (fun cdv A outer s H vs Q E hr h => ?_)
  · obtain ⟨l, p, h, w, M, rfl, _⟩ := h
    rfl
  · obtain ⟨l, p, h, w, M, rfl, hp, good, hR, hD, hw, q⟩ := h
    have hR' := hR
    obtain ⟨r, hl, hrow⟩ := hR'
    have hD' := hD
    obtain ⟨d1, d2, d3, d4, hbd⟩ := hD'
    refine ⟨_, (pss_cons (ps_set (i := 2) scLawBases.nd rfl (by first | exact .inl rfl | exact .inr rfl) (klen (K := K) T.len (pa_cons (kixl (K := K) (ha := (pv 0)) (hb := pe_int)) pa_nil)))
  (pss_cons (ps_set (i := 3) scLawBases.nd rfl (by first | exact .inl rfl | exact .inr rfl) (pcal CR GR hr pass0 (pa_cons (pv 0) (pa_cons (pe_listRg rfl (by rfl) T.list (prg_1 (by rfl) T.range (pv 2))) (pa_cons (pv 1) pa_nil)))))
  (pss_cons (ps_setLc (i := 4) (own := [("_law_row", 5)]) (g := (gName 5)) rfl scLawBases.nd rfl rfl (sw_true rfl rfl rfl (by decide +kernel)) (kpil (K := K) (hl := (pcal CL GL hr pass0 (pa_cons (pv 2) pa_nil)))) (blkOk_by (N := nLawBases) (sc := defScope sLawBases) (by decide +kernel)) (fun _ _ _ _ _ => (pg_name (i := 5) scLawBases.nd rfl (by first | exact .inl rfl | exact .inr rfl))) (fun _ _ _ _ _ => pts_one (pt_cmpR op_eq (klen (K := K) T.len (pa_cons (pv 5) pa_nil)) (pv 3) (nomark _))) (fun _ _ _ _ _ => (pv 5)))
  (pss_one (ps_ret (pe_lc (own := [("_law_row", 5)]) (g := (gName 5)) rfl scLawBases.nd (kpil (K := K) (hl := (pv 4))) (blkOk_by (N := nLawBases) (sc := defScope sLawBases) (by decide +kernel)) (fun _ _ _ _ _ => (pg_name (i := 5) scLawBases.nd rfl (by first | exact .inl rfl | exact .inr rfl))) (fun _ _ _ _ _ => pts_one (pt_cmpR op_eq (pcal CR GR hr pass0 (pa_cons (pv 0) (pa_cons (pv 5) (pa_cons (pv 1) pa_nil)))) (pv 3) (nomark _))) (fun _ _ _ _ _ => (pv 5)))))))), ?_⟩
    refine ⟨_, rfl, _, _, _, _, rfl, rfl, SqL.of hl, atI_refs (i := 0) r (by omega), _, _, rfl, .inl (SqL.of (hrow 0 (by omega))), ?_⟩
    rw [rowV_len]
    refine ⟨_, rfl, _, rfl, _, rfl, RgOk.of_le (by omega) (by omega) (by omega) (by omega), fun p0 np0 => ?_⟩
    have np : H p0 = none := np0
    have s1 := same_new (o := .lst (rgV 0 ((w : Nat) : Int))) np
    have h0 : (upd H p0 (.lst (rgV 0 ((w : Nat) : Int)))) p0 = some (.lst (natL (List.range w))) := by rw [upd_same, natL_range]
    generalize upd H p0 (.lst (rgV 0 ((w : Nat) : Int))) = H1 at *
    refine ⟨_, rfl, l, p0, p, h, w, M, List.range w, rfl, hp, good, hR.same s1, hD, h0, ⟨by rw [List.length_range]; exact d4, fun x hx => List.mem_range.mp hx⟩, fun H2 s2 => ?_⟩
    have esz : rk p h M (List.range w) = lrank p h w M := by
      unfold rk
      rw [List.length_range]
      exact congrArg (lrank p h w) hw
    rw [esz]
    have lr : lrank p h w M ≤ w := lrank_le good.dom good.nn hp d2 hbd
    refine ⟨_, rfl, w, rfl, d3, d4, fun L xs H3 nL s3 hL lx => ?_⟩
    have s03 : Same H H3 := (s1.trans s2).trans s3
    refine ⟨L, rfl, ⟨xs, SqL.of hL⟩, fun D nD0 => ?_⟩
    have nD : H3 D = none := nD0
    have hLD : L ≠ D := ne_of_none hL nD
    have sl := slists_len d3 d4
    refine lc_list (xs := xs) (fun i H' => But D (upd H3 D (.lst [])) H' ∧ ∃ ys, H' D = some (.lst ys) ∧ LLs (upd H2 D (.lst [])) H' ys (((slists w).take i).filter fun c => decide (c.length = lrank p h w M))) ⟨But.refl _ _, [], upd_same, .nil⟩ (fun i H' _ pv => SqL.of (pv.1 _ _ hLD (upd_new nD hL))) ?_ ?_
    · rintro i y H4 hy ⟨b4, ys, hys, ly⟩
      obtain ⟨c, q0, hc, rfl, nq, hq⟩ := lx.at hy
      have s4 : Same H3 H4 := But.same nD b4
      have nDq : q0 ≠ D := ne_of_none hq nD
      refine ⟨rfl, _, rfl, _, _, rfl, .inl (SqL.of (s4 _ _ hq)), _, rfl, rfl, _, rfl, ?_⟩
      rw [natL_len, lls_filt hc]
      refine ite2 (fun e => ?_) (fun e => ?_)
      · have e1 : c.length = lrank p h w M := by
          have := V.int.inj (of_decide_eq_true e)
          omega
        rw [if_pos (by simp [e1])]
        refine ⟨_, rfl, _, hys, ?_, b4.upd, _, upd_same, Paired.snoc (ly.but upd_same (But.refl _ _).upd) ⟨q0, rfl, ?_, ?_⟩⟩
        · rw [ly.len]
          have := llen (slists w) (fun c => decide (c.length = lrank p h w M)) i
          exact size_lt (by omega)
        · rw [upd_ne nDq]
          exact nq
        · rw [upd_ne nDq]
          exact s4 _ _ hq
      · have e1 : c.length ≠ lrank p h w M := fun z => e (by rw [z]; exact decide_eq_true rfl)
        rw [if_neg (by simp [e1]), List.append_nil]
        exact ⟨b4, ys, hys, ly⟩
    · rintro H4 ⟨b4, ys, hys, ly⟩
      rw [lx.len, List.take_length, ← chs_is d3 d4 lr] at ly
      have s4 : Same H3 H4 := But.same nD b4
      have hR4 : RowsL H4 l h w M := (hR.same s03).same s4
      refine ⟨_, rfl, _, rfl, ⟨_, SqL.of hys⟩, fun D2 nD20 => ?_⟩
      have nD2 : H4 D2 = none := nD20
      have hDD : D ≠ D2 := ne_of_none hys nD2
      have clen := chs_len d3 d4 lr
      refine lc_list (xs := ys) (fun i H' => But D2 (upd H4 D2 (.lst [])) H' ∧ ∃ zs, H' D2 = some (.lst zs) ∧ LLs (upd H2 D2 (.lst [])) H' zs (((chs w (lrank p h w M)).take i).filter fun c => decide (rk p h M c = lrank p h w M))) ⟨But.refl _ _, [], upd_same, .nil⟩ (fun i H' _ pv => SqL.of (pv.1 _ _ hDD (upd_new nD2 hys))) ?_ ?_
      · rintro i y H5 hy ⟨b5, zs, hzs, lz⟩
        obtain ⟨c, q0, hc, rfl, nq, hq⟩ := ly.at hy
        have s5 : Same H4 H5 := But.same nD2 b5
        have nDq : q0 ≠ D2 := ne_of_none hq nD2
        have okc := chs_ok d3 d4 lr c (List.mem_of_getElem? hc)
        refine ⟨rfl, _, rfl, _, rfl, _, rfl, l, q0, p, h, w, M, c, rfl, hp, good, hR4.same s5, hD, s5 _ _ hq, ⟨by omega, okc.2⟩, fun H6 s6 => ?_⟩
        have b6 := b5.trans (But.of s6)
        have hz6 := s6 _ _ hzs
        have lz6 := lz.same s6
        refine ⟨_, rfl, rfl, _, rfl, ?_⟩
        rw [lls_filt hc]
        refine ite2 (fun e => ?_) (fun e => ?_)
        · have e1 : rk p h M c = lrank p h w M := by
            have := V.int.inj (of_decide_eq_true e)
            omega
          rw [if_pos (by simp [e1])]
          refine ⟨_, rfl, _, hz6, ?_, b6.upd, _, upd_same, Paired.snoc (lz6.but upd_same (But.refl _ _).upd) ⟨q0, rfl, ?_, ?_⟩⟩
          · rw [lz6.len]
            have := llen (chs w (lrank p h w M)) (fun c => decide (rk p h M c = lrank p h w M)) i
            exact size_lt (by omega)
          · rw [upd_ne nDq]
            exact (same_new (s3.free nD)).free nq
          · rw [upd_ne nDq]
            exact s6 _ _ (s5 _ _ hq)
        · have e1 : rk p h M c ≠ lrank p h w M := fun z => e (by rw [z]; exact decide_eq_true rfl)
          rw [if_neg (by simp [e1]), List.append_nil]
          exact ⟨b6, zs, hz6, lz6⟩
      · rintro H5 ⟨b5, zs, hzs, lz⟩
        rw [ly.len, List.take_length] at lz
        have s5 : Same H4 H5 := But.same nD2 b5
        have nD24 : H2 D2 = none := s3.free (s4.free nD2)
        exact q D2 zs H5 ((s03.trans s4).free nD2) ((s03.trans s4).trans s5) hzs (lz.less fun q' n => (s1.trans s2).free ((same_new nD24).free n))
def spLCircs : Sp := fun vs H Q _ => ∃ (l : Addr) (p : Int) (h w : Nat) (A : Mx), vs = [.ref l, .int p] ∧ p ≤ 2048 ∧ Good p ∧ RowsL H l h w A ∧ Dims h w A ∧ RetLL H Q (circsL p h w A)
theorem cut_to (c : List Nat) {i : Nat} (h : i ≤ c.length) : cutV (natL c) none (some (i : Int)) = natL (c.take i) := by
  unfold cutV
  rw [HT.sIx_none, HT.sIx_nat, natL_len, List.drop_zero, Nat.sub_zero, Nat.min_eq_left h]
  unfold natL
  rw [List.map_take]
theorem cut_from (c : List Nat) {i : Nat} (h : i ≤ c.length) : cutV (natL c) (some (i : Int)) none = natL (c.drop i) := by
  unfold cutV
  rw [HT.sIx_none, HT.sIx_nat, natL_len, Nat.min_eq_left h]
  unfold natL
  rw [← List.map_drop, List.take_of_length_le (by rw [List.length_map, List.length_drop]; exact Nat.le_refl _)]
theorem ok_lcircs (F : Fun K "_law_circuits" "_law_circuits" sLawCircuits f fd) (T : Blt mg) (CR : Cal K mg "_law_rank" sLawRank ["_law_rows_here", "_law_columns", "_law_char"] fR fdR) (GR : FnOk P w_ K mg base CX0 k fR fdR ["_law_rows_here", "_law_columns", "_law_char"] spLRank)
    (CL : Cal K mg "_law_lists" sLawLists ["_law_many"] fL fdL) (GL : FnOk P w_ K mg base CX0 k fL fdL ["_law_many"] spLists) : FnOk P w_ K mg base CX0 (k + 1) f fd ["_law_rows_here", "_law_char"] spLCircs := by
  refine F.ok scLawCircuits (fun vs H Q E h => ?_) (fun cdv A outer s H vs Q E hr h => ?_)
  · obtain ⟨l, p, h, w, M, rfl, _⟩ := h
    rfl
  · obtain ⟨l, p, h, w, M, rfl, hp, good, hR, hD, q⟩ := h
    have hR' := hR
    obtain ⟨r, hl, hrow⟩ := hR'
    have hD' := hD
    obtain ⟨d1, d2, d3, d4, hbd⟩ := hD'
    refine ⟨_, (pss_cons (ps_set (i := 2) scLawCircuits.nd rfl (by first | exact .inl rfl | exact .inr rfl) (pe_lst pa_nil))
  (pss_cons (ps_for PassesOwn.never rfl (kpil (K := K) (hl := (pcal CL GL hr pass0 (pa_cons (klen (K := K) T.len (pa_cons (kixl (K := K) (ha := (pv 0)) (hb := pe_int)) pa_nil)) pa_nil)))) (pg_name (i := 3) scLawCircuits.nd rfl (by first | exact .inl rfl | exact .inr rfl)) (pss_one (ps_if (pt_cmpR op_lt (pcal CR GR hr pass0 (pa_cons (pv 0) (pa_cons (pv 3) (pa_cons (pv 1) pa_nil)))) (klen (K := K) T.len (pa_cons (pv 3) pa_nil)) (nomark _)) (pss_cons (ps_setLc (i := 4) (own := [("_law_at", 5)]) (g := (gName 5)) (tt := tYes) rfl scLawCircuits.nd rfl rfl (sw_true rfl rfl rfl (by decide +kernel)) (pi_range1 (by rfl) T.range (pa_cons (klen (K := K) T.len (pa_cons (pv 3) pa_nil)) pa_nil)) (blkOk_by (N := nLawCircuits) (sc := defScope sLawCircuits) (by decide +kernel)) (fun _ _ _ _ _ => (pg_name (i := 5) scLawCircuits.nd rfl (by first | exact .inl rfl | exact .inr rfl))) (fun _ _ _ _ _ => pts_nil) (fun _ _ _ _ _ => (pe_op op_cat (kslice (K := K) (pv 3) po_none (po_some (pv 5))) (kslice (K := K) (pv 3) (po_some (pe_op op_add (pv 5) pe_int)) po_none))))
  (pss_one (ps_if (pt_val (kall (K := K) rfl T.all (pa_cons (pe_lc (own := [("_law_part", 6)]) (g := (gName 6)) (tt := tYes) rfl scLawCircuits.nd (kpil (K := K) (hl := (pv 4))) (blkOk_by (N := nLawCircuits) (sc := defScope sLawCircuits) (by decide +kernel)) (fun _ _ _ _ _ => (pg_name (i := 6) scLawCircuits.nd rfl (by first | exact .inl rfl | exact .inr rfl))) (fun _ _ _ _ _ => pts_nil) (fun _ _ _ _ _ => (pe_cmpR op_eq (pcal CR GR hr pass0 (pa_cons (pv 0) (pa_cons (pv 6) (pa_cons (pv 1) pa_nil)))) (klen (K := K) T.len (pa_cons (pv 6) pa_nil)) (nomark _)))) pa_nil))) (pss_one (ps_expr (pe_bm PySem.F.plainAttrs_list PySem.F.slot_list_append PySem.F.type_list_append mt_append (pv 2) (pa_cons (pv 3) pa_nil)))) pss_nil))) pss_nil)))
  (pss_one (ps_ret (pv 2))))), ?_⟩
    refine ⟨size_ok (by show 0 ≤ 100000; decide), fun R nR0 => ?_⟩
    have nR : H R = none := nR0
    have hR1 : (upd H R (.lst [])) R = some (.lst []) := upd_same
    have s01 : Same H (upd H R (.lst [])) := same_new nR
    refine ⟨_, rfl, _, _, _, _, rfl, rfl, SqL.of (s01 _ _ hl), atI_refs (i := 0) r (by omega), _, _, rfl, .inl (SqL.of (s01 _ _ (hrow 0 (by omega)))), w, (by rw [rowV_len]; rfl), d3, d4, fun L xs H2 nL s2 hL lx => ?_⟩
    have hLR : L ≠ R := fun z => by rw [z, hR1] at nL; cases nL
    have s02 : Same H H2 := s01.trans s2
    have sl := slists_len d3 d4
    refine ⟨L, rfl, ⟨xs, SqL.of hL⟩, for_list (xs := xs) (fun i σ H' => ∃ z3 z4 z5 z6 ys, σ = [some (.ref l), some (.int p), some (.ref R), z3, z4, z5, z6] ∧ H' R = some (.lst ys) ∧ LLs (upd H R (.lst [])) H' ys (((slists w).take i).filter (isC (depB p h M))) ∧ But R H2 H')
      ⟨_, _, _, _, [], rfl, s2 _ _ hR1, .nil, But.refl _ _⟩ ?_ ?_ ?_⟩
    · rintro i σ H' _ ⟨z3, z4, z5, z6, ys, rfl, hy, ly, bu⟩
      exact SqL.of (bu _ _ hLR hL)
    · rintro i x σ H' hx ⟨z3, z4, z5, z6, ys, rfl, hy, ly, bu⟩
      obtain ⟨c, q0, hc, rfl, nq, hq⟩ := lx.at hx
      have q0R : q0 ≠ R := fun z => by rw [z, hR1] at nq; cases nq
      have hq' : H' q0 = some (.lst (natL c)) := bu _ _ q0R hq
      have okc := slists_ok d3 d4 c (List.mem_of_getElem? hc)
      have s0' : Same H H' := But.same nR ((But.of s2).trans bu)
      have hRR : RowsL H' l h w M := hR.same s0'
      have rk_le : ∀ d : List Nat, (∀ x ∈ d, x < w) → rk p h M d ≤ d.length := fun d hd => lrank_le good.dom good.nn hp d2 (bd_cols hbd hd)
      have keep : ∀ H4, Same H' H4 → H4 R = some (.lst ys) ∧ LLs (upd H R (.lst [])) H4 ys (((slists w).take i).filter (isC (depB p h M))) ∧ But R H2 H4 := fun H4 s4 => ⟨s4 _ _ hy, ly.same s4, bu.trans (But.of s4)⟩
      refine ⟨_, rfl, _, rfl, _, rfl, l, q0, p, h, w, M, c, rfl, hp, good, hRR, hD, hq', ⟨by omega, okc.2⟩, fun H3 s3 => ?_⟩
      refine ⟨_, rfl, _, _, rfl, .inl (SqL.of (s3 _ _ hq')), _, _, rfl, rfl, _, rfl, ?_⟩
      rw [natL_len, lls_filt hc]
      have ed : decide (((rk p h M c : Nat) : Int) < ((c.length : Nat) : Int)) = depB p h M c := by
        unfold depB
        exact decide_eq_decide.mpr (by omega)
      rw [ed]
      refine ite2 (fun e => ?_) (fun e => ?_)
      · have hq3 := s3 _ _ hq'
        refine ⟨_, rfl, _, _, rfl, .inl (SqL.of hq3), _, rfl, by omega, by rw [natL_len]; omega, fun D nD0 => ?_⟩
        have nD : H3 D = none := nD0
        have en : (((natL c).length : Nat) : Int).toNat = c.length := by rw [natL_len]; omega
        refine lc_map walk_range (by rw [en]; omega) (fun j z H4 => ∃ q, z = .ref q ∧ q ≠ D ∧ H4 q = some (.lst (natL (c.take j ++ c.drop (j + 1))))) ?_ (fun _ _ => trivial) ?_ (mono_name 5) mono_yes nD ?_
        · rintro j z H4 H5 _ ⟨q, rfl, nq, hq⟩ b
          exact ⟨q, rfl, nq, b _ _ nq hq⟩
        · rintro j x H9 H4 Kc hj b ⟨o, hD4⟩ ⟨rfl, rfl⟩ fin
          rw [en] at hj
          rw [show (fun i : Nat => V.int (0 + (i : Int))) j = V.int (j : Int) from by show V.int _ = _; rw [Int.zero_add]]
          have s4 : Same H3 H4 := But.same nD b
          have hq4 := s4 _ _ hq3
          refine ⟨rfl, rfl, ?_⟩
          refine ⟨_, rfl, _, rfl, j, rfl, q0, natL c, rfl, SqL.of hq4, fun p1 np1 => ?_⟩
          have np1' : H4 p1 = none := np1
          rw [cut_to c (by omega)]
          refine ⟨_, rfl, _, rfl, _, _, rfl, rfl, ((j + 1 : Nat) : Int), rfl, q0, natL c, rfl, SqL.of (upd_new np1' hq4), fun p2 np2 => ?_⟩
          rw [cut_from c (by omega)]
          have np2' : upd H4 p1 (.lst (natL (c.take j))) p2 = none := np2
          refine ⟨_, _, _, _, rfl, rfl, upd_new np2' upd_same, upd_same, ?_, fun p3 np3 => ?_⟩
          · rw [natL_len, natL_len, List.length_take, List.length_drop]
            exact size_ok (by omega)
          have np3' : upd (upd H4 p1 (.lst (natL (c.take j)))) p2 (.lst (natL (c.drop (j + 1)))) p3 = none := np3
          have n3 : H4 p3 = none := (same_new np1').free ((same_new np2').free np3')
          refine fin _ _ (((same_new np1').trans (same_new np2')).trans (same_new np3')) ⟨p3, rfl, (fun z => by rw [z, hD4] at n3; cases n3), ?_⟩
          rw [natL_app]
          exact upd_same
        · intro H4 zs b hz hzl hzr
          rw [en] at hzl
          have s4 : Same H3 H4 := But.same nD b
          refine ⟨_, rfl, _, rfl, ⟨_, SqL.of hz⟩, fun D2 nD20 => ?_⟩
          have nD2 : H4 D2 = none := nD20
          have hDD : D ≠ D2 := ne_of_none hz nD2
          have wl := walk_list (K := K) (a := D) (xs := zs)
          rw [hzl] at wl
          refine lc_map wl (by omega) (fun j z _ => z = .bl (!depB p h M (c.take j ++ c.drop (j + 1)))) (fun _ _ _ _ _ h _ => h) (fun H5 b5 => SqL.of (b5 _ _ hDD (upd_new nD2 hz))) ?_ (mono_name 6) mono_yes nD2 ?_
          · rintro j x H9 H5 Kc hj b5 _ ⟨rfl, hx5⟩ fin
            obtain ⟨q3, rfl, _, hq3⟩ := hzr j x hx5
            have s5 : Same H4 H5 := But.same nD2 b5
            have okp : ∀ x ∈ c.take j ++ c.drop (j + 1), x < w := fun x hx => okc.2 x ((part_sub c j).mem hx)
            have lp : (c.take j ++ c.drop (j + 1)).length ≤ 5 := by
              have := (part_sub c j).length_le
              omega
            refine ⟨rfl, rfl, ?_⟩
            refine ⟨_, rfl, _, rfl, _, rfl, l, q3, p, h, w, M, _, rfl, hp, good, ((hRR.same s3).same s4).same s5, hD, s5 _ _ hq3, ⟨lp, okp⟩, fun H6 s6 => ?_⟩
            refine ⟨_, rfl, _, _, rfl, .inl (SqL.of (s6 _ _ (s5 _ _ hq3))), rfl, fin _ _ s6 ?_⟩
            rw [natL_len]
            refine congrArg V.bl ?_
            have le := rk_le _ okp
            unfold depB
            by_cases z : rk p h M (c.take j ++ c.drop (j + 1)) = (c.take j ++ c.drop (j + 1)).length
            · rw [z, decide_eq_true rfl, decide_eq_false (by omega)]
              rfl
            · rw [decide_eq_false (fun y => z (by have := V.int.inj y; omega)), decide_eq_true (by omega)]
              rfl
          · intro H5 bs b5 hbs hbl hbr
            have s5 : Same H4 H5 := But.same nD2 b5
            have eb : bs = ((List.range c.length).map fun j => !depB p h M (c.take j ++ c.drop (j + 1))).map V.bl := by
              refine List.ext_getElem? fun j => ?_
              by_cases hj : j < c.length
              · obtain ⟨z, e⟩ : ∃ z, bs[j]? = some z := ⟨_, List.getElem?_eq_getElem (by omega)⟩
                rw [e, hbr j z e, List.getElem?_map, List.getElem?_map, List.getElem?_range hj]
                rfl
              · rw [List.getElem?_eq_none (by omega), List.getElem?_eq_none (by rw [List.length_map, List.length_map, List.length_range]; omega)]
            rw [eb] at hbs
            have ea : ((List.range c.length).map fun j => !depB p h M (c.take j ++ c.drop (j + 1))).all id = (List.range c.length).all fun j => !depB p h M (c.take j ++ c.drop (j + 1)) := by
              rw [List.all_map]
              rfl
            have k5 := keep H5 ((s3.trans s4).trans s5)
            refine ⟨D2, _, rfl, SqL.of hbs, _, rfl, ?_⟩
            rw [ea]
            have eC : isC (depB p h M) c = (List.range c.length).all fun j => !depB p h M (c.take j ++ c.drop (j + 1)) := by
              unfold isC
              rw [e, Bool.true_and]
            rw [eC]
            refine ite2 (fun e2 => ?_) (fun e2 => ?_)
            · rw [if_pos e2]
              refine ⟨_, rfl, .inl ⟨rfl, ys, SqL.of k5.1⟩, _, rfl, R, ys, _, rfl, rfl, k5.1, ?_, ?_⟩
              · rw [ly.len]
                have := llen (slists w) (isC (depB p h M)) i
                exact size_lt (by omega)
              · refine ⟨_, _, _, _, _, rfl, upd_same, Paired.snoc (k5.2.1.but hR1 (But.refl _ _).upd) ⟨q0, rfl, nq, ?_⟩, k5.2.2.upd⟩
                rw [upd_ne q0R]
                exact s5 _ _ (s4 _ _ hq3)
            · rw [if_neg e2, List.append_nil]
              exact ⟨_, _, _, _, ys, rfl, k5.1, k5.2.1, k5.2.2⟩
      · have k5 := keep H3 s3
        have eC : isC (depB p h M) c = false := by
          unfold isC
          rw [Bool.not_eq_true] at e
          rw [e, Bool.false_and]
        rw [eC, if_neg Bool.false_ne_true, List.append_nil]
        exact ⟨_, _, _, _, ys, rfl, k5.1, k5.2.1, k5.2.2⟩
    · rintro σ H' ⟨z3, z4, z5, z6, ys, rfl, hy, ly, bu⟩
      rw [lx.len, List.take_length] at ly
      exact ⟨_, rfl, q R ys H' nR (But.same nR ((But.of s2).trans bu)) hy (ly.less fun _ n => s01.free n)⟩
def spLRows : Sp := fun vs H Q _ => ∃ (z : Int) (h w : Nat), vs = [.int z, .int (h : Int), .int (w : Int), .int 4] ∧ (1 ≤ h ∧ h ≤ 3 ∧ 1 ≤ w ∧ w ≤ 5) ∧
  ∀ l A H', Same H H' → RowsL H' l h w A → (∀ i j, (A i j).natAbs ≤ 4) → Wide A w → Q (.ref l) H'
theorem ok_lrows (F : Fun K "_law_rows" "_law_rows" sLawRows f fd) (T : Blt mg) (CD : Cal K mg "_law_draws" sLawDraws ["_law_cell_here", "_law_sizes"] fD fdD) (GD : FnOk P w_ K mg base CX0 k fD fdD ["_law_cell_here", "_law_sizes"] spDraws) :
    FnOk P w_ K mg base CX0 (k + 1) f fd ["_law_cell_here", "_law_height", "_law_width", "_law_reach"] spLRows := by
  refine F.ok scLawRows (fun vs H Q E h => ?_) (fun cdv A outer s H vs Q E hr h => ?_)
  · obtain ⟨z, h, w, rfl, _⟩ := h
    rfl
  · obtain ⟨z, h, w, rfl, ⟨d1, d2, d3, d4⟩, q⟩ := h
    refine ⟨_, (pss_cons (ps_set (i := 4) scLawRows.nd rfl (by first | exact .inl rfl | exact .inr rfl) (pcal CD GD hr pass0 (pa_cons (pv 0) (pa_cons (pe_op op_rep (pe_lst (pa_cons (pe_op op_add (pe_op op_mul pe_int (pv 3)) pe_int) pa_nil)) (pe_op op_mul (pv 1) (pv 2))) pa_nil))))
  (pss_cons (ps_set (i := 4) scLawRows.nd rfl (by first | exact .inl rfl | exact .inr rfl) (pe_lc (own := [("_law_k", 5)]) (g := (gName 5)) (tt := tYes) rfl scLawRows.nd (kpil (K := K) (hl := (pv 4))) (blkOk_by (N := nLawRows) (sc := defScope sLawRows) (by decide +kernel)) (fun _ _ _ _ _ => (pg_name (i := 5) scLawRows.nd rfl (by first | exact .inl rfl | exact .inr rfl))) (fun _ _ _ _ _ => pts_nil) (fun _ _ _ _ _ => (pe_op op_sub (pv 5) (pv 3)))))
  (pss_one (ps_ret (pe_lc (own := [("_law_i", 6)]) (g := (gName 6)) (tt := tYes) rfl scLawRows.nd (pi_range1 (by rfl) T.range (pa_cons (pv 1) pa_nil)) (blkOk_by (N := nLawRows) (sc := defScope sLawRows) (by decide +kernel)) (fun _ _ _ _ _ => (pg_name (i := 6) scLawRows.nd rfl (by first | exact .inl rfl | exact .inr rfl))) (fun _ _ _ _ _ => pts_nil) (fun _ _ _ _ _ => (kslice (K := K) (pv 4) (po_some (pe_op op_mul (pv 6) (pv 2))) (po_some (pe_op op_mul (pe_op op_add (pv 6) pe_int) (pv 2)))))))))), ?_⟩
    have hw15 : h * w ≤ 15 := Nat.mul_le_mul d2 d4
    have ehw : ((h : Int) * (w : Int)) = ((h * w : Nat) : Int) := (Int.natCast_mul h w).symm
    refine ⟨_, rfl, _, rfl, _, _, rfl, rfl, .inl ⟨by decide, by decide⟩, _, _, rfl, rfl, size_ok (by show 1 ≤ 100000; decide), fun p0 np0 => ?_⟩
    have np : H p0 = none := np0
    refine ⟨_, rfl, _, rfl, _, _, rfl, rfl, .inl ⟨by omega, by omega⟩, ?_⟩
    have en : ((h : Int) * (w : Int)).toNat = h * w := by rw [ehw]; omega
    refine ⟨_, (h : Int) * (w : Int), _, rfl, rfl, upd_same, by rw [ehw]; omega, by rw [ehw]; omega, size_ok (by rw [en]; show 1 * _ ≤ _; omega), fun p1 np1 => ?_⟩
    have np1' : upd H p0 (.lst [.int (2 * 4 + 1)]) p1 = none := np1
    have esz : (List.replicate ((h : Int) * (w : Int)).toNat [V.int (2 * 4 + 1)]).flatten = (List.replicate (h * w) (9 : Int)).map V.int := by
      rw [en, rep_one, List.map_replicate]
      unfold rowV
      refine List.ext_getElem? fun j => ?_
      by_cases hj : j < h * w
      · rw [List.getElem?_map, List.getElem?_range hj, List.getElem?_replicate, if_pos hj]
        rfl
      · rw [List.getElem?_eq_none (by rw [List.length_map, List.length_range]; omega), List.getElem?_eq_none (by rw [List.length_replicate]; omega)]
    have s1 : Same H (upd (upd H p0 (.lst [.int (2 * 4 + 1)])) p1 (.lst (List.replicate ((h : Int) * (w : Int)).toNat [V.int (2 * 4 + 1)]).flatten)) := (same_new np).trans (same_new np1')
    refine ⟨z, p1, List.replicate (h * w) 9, rfl, by rw [upd_same, esz], by rw [List.length_replicate]; exact hw15, fun x hx => by rw [(List.mem_replicate.mp hx).2]; exact ⟨by decide, by decide⟩, fun L ds H2 nL s2 hL hdl hd => ?_⟩
    rw [List.length_replicate] at hdl
    have hdb : ∀ (i : Nat) (d : Int), ds[i]? = some d → 0 ≤ d ∧ d < 9 := fun i d e => hd i d 9 e (by
      have := (List.getElem?_eq_some_iff.mp e).1
      rw [List.getElem?_replicate, if_pos (by omega)])
    refine ⟨_, rfl, L, rfl, ⟨_, SqL.of hL⟩, fun D nD0 => ?_⟩
    have nD : H2 D = none := nD0
    have hLD : L ≠ D := ne_of_none hL nD
    have wl := walk_list (K := K) (a := L) (xs := ds.map V.int)
    rw [List.length_map, hdl] at wl
    refine lc_map wl (by omega) (fun j z _ => z = .int (ds.getD j 0 - 4)) (fun _ _ _ _ _ h _ => h) (fun H3 b => SqL.of (b _ _ hLD (upd_new nD hL))) ?_ (mono_name 5) mono_yes nD ?_
    · rintro i x H9 H3 Kc hi b _ ⟨rfl, hx⟩ fin
      obtain ⟨n0, hn0, rfl⟩ := ints_get hx
      refine ⟨rfl, rfl, _, rfl, _, rfl, _, _, rfl, rfl, fin _ _ (Same.refl _) ?_⟩
      rw [List.getD_eq_getElem?_getD, hn0]
      rfl
    · intro H3 zs b hz hzl hzr
      have s3 : Same H2 H3 := But.same nD b
      have ez := row_of hzl hzr
      rw [ez] at hz
      refine ⟨_, rfl, _, rfl, by omega, by omega, fun D2 nD20 => ?_⟩
      have nD2 : H3 D2 = none := nD20
      have enh : ((h : Nat) : Int).toNat = h := by omega
      have hA : ∃ A : Mx, A = fun i j => ds.getD (i * w + (if j < w then j else 0)) 0 - 4 := ⟨_, rfl⟩
      obtain ⟨A0, hA0⟩ := hA
      refine lc_new walk_range (by rw [enh]; omega) (fun i => .lst (rowV w (A0 i))) (fun _ _ => trivial) ?_ (mono_name 6) mono_yes nD2 ?_
      · rintro i x H9 H4 Kc hi b4 ⟨o, hD4⟩ ⟨rfl, rfl⟩ fin
        rw [enh] at hi
        have s4 : Same H3 H4 := But.same nD2 b4
        have iw : i * w + w ≤ h * w := by
          have := Nat.mul_le_mul_right w (show i + 1 ≤ h from hi)
          rw [Nat.add_mul, Nat.one_mul] at this
          exact this
        rw [show (fun i : Nat => V.int (0 + (i : Int))) i = V.int (i : Int) from by show V.int _ = _; rw [Int.zero_add]]
        have m1 : ((i : Int) * (w : Int)) = ((i * w : Nat) : Int) := (Int.natCast_mul i w).symm
        have m2 : (((i : Int) + 1) * (w : Int)) = ((i * w + w : Nat) : Int) := by
          rw [Int.add_mul, Int.one_mul, m1]
          omega
        refine ⟨rfl, rfl, ?_⟩
        refine ⟨_, rfl, _, rfl, _, rfl, _, _, rfl, rfl, .inl ⟨by omega, by omega⟩, _, rfl, _, rfl, _, _, rfl, rfl, _, rfl, _, _, rfl, rfl, .inl ⟨by omega, by omega⟩, _, rfl, ?_⟩
        refine ⟨D, _, rfl, SqL.of (s4 _ _ hz), fun p2 np2 => ?_⟩
        have np2' : H4 p2 = none := np2
        refine fin p2 _ (same_new np2') np2' ?_
        rw [upd_same, m1, m2]
        refine congrArg (fun l => some (HO.lst l)) ?_
        unfold cutV
        rw [HT.sIx_nat, HT.sIx_nat, rowV_len, Nat.min_eq_left (by omega), Nat.min_eq_left (by omega)]
        refine List.ext_getElem? fun j => ?_
        by_cases hj : j < w
        · rw [List.getElem?_take_of_lt (by omega), List.getElem?_drop, rowV_at _ (by omega), rowV_at _ hj, hA0]
          show _ = some (V.int (ds.getD (i * w + if j < w then j else 0) 0 - 4))
          rw [if_pos hj]
        · rw [List.getElem?_eq_none (by rw [List.length_take, List.length_drop, rowV_len]; omega), List.getElem?_eq_none (by rw [rowV_len]; omega)]
      · intro H4 t b4 hz4 hr4 _ _
        rw [enh] at hz4 hr4
        have s4 : Same H3 H4 := But.same nD2 b4
        refine q D2 A0 H4 (((s1.trans s2).trans s3).trans s4) ⟨t, hz4, hr4⟩ (fun i j => ?_) ?_
        · rw [hA0]
          show (ds.getD (i * w + (if j < w then j else 0)) 0 - 4).natAbs ≤ 4
          generalize i * w + (if j < w then j else 0) = n0
          rw [List.getD_eq_getElem?_getD]
          cases e : ds[n0]? with
          | none => decide
          | some d =>
            have := hdb n0 d e
            show (d - 4).natAbs ≤ 4
            omega
        · unfold Wide
          funext i j
          show A0 i ((List.range w).getD j 0) = A0 i j
          rw [List.getD_eq_getElem?_getD, hA0]
          by_cases hj : j < w
          · rw [List.getElem?_range hj]
            rfl
          · rw [List.getElem?_eq_none (by rw [List.length_range]; omega)]
            show ds.getD (i * w + (if 0 < w then 0 else 0)) 0 - 4 = ds.getD (i * w + (if j < w then j else 0)) 0 - 4
            rw [if_neg hj]
            split <;> rfl
end
end Wk
/-! Ru5: the error's class (a class over a class over ValueError, its __init__ with super().__init__(f-text) and a field): making one, raising it, its field in an except suite. Lines after the worked proof 42_own_error_by_import. -/
namespace PySem
namespace BadX
open PySem.W PySem.Calls PyProof.Rows PySem.HandSPX
abbrev sBad : Stmt := L2.inClass (Wk.topS 3) 0
/-- what the written part says of BadCharacteristic, at C, and of its __init__, at fI -/
structure BadTxt (P : Program) (K : Frag) (mg : Str → Option Value) (C fI : Addr) : Prop where
  gC : mg "BadCharacteristic" = some (.ref C)
  cls : ∃ nm q N bs bm sn sub ab col dd k0 k1 k2 k3 k5, K.lookup C = some (excClassObj nm q C N bs bm true sn sub ab col dd k0 k1 k2 k3 k5 "ValueError.__new__") ∧ PySem.HandSPX.refsVE bm = true
  sa : findIn K (.ref C) "__setattr__" = some (some (.builtin "object.__setattr__"))
  ga : findIn K (.ref C) "__getattribute__" = some (some (.builtin "BaseException.__getattribute__"))
  gg : findIn K (.ref C) "__getattr__" = some none
  noN : findIn K (.ref C) "p" = some none
  iC : findIn K (.ref C) "__init__" = some (some (.ref fI))
  tC : typeIn K (.ref fI) = some (.type "function")
  kC : keepIn K (.ref C) = true
  exC : subIn K (.ref C) (.type "BaseException") = some true
  tyC : typeIn K (.ref C) = some (.type "type")
  hdC : hasDictIn K C = true
  te : exmOne K (.ref C) (.ref C) = some true
  fn : ∃ (oc : Value) (od : Option Addr) (kV doc pm : Value) (an : Option Addr) (ct : Value) (osl : Array (Option Value)) (cc cda : Addr),
    K.lookup fI = some ⟨oc, od, .func (ksFn "__init__" "BadCharacteristic.__init__" (L2.defArgs sBad) (L2.defBody sBad) (L2.defScope sBad) .none kV doc pm an (.ref cda) ct cc), osl⟩ ∧ codeIn K (.ref cda) "BadCharacteristic.__init__" = true ∧
    (∃ ccl cdd vs ccs file tf, K.lookup cda = some ⟨ccl, cdd, .fields vs, ccs⟩ ∧ vs[2]? = some (.str file tf) ∧ ((P.main.file : Str) == file) = true) ∧ ∃ cl cld csl, K.lookup cc = some ⟨cl, cld, .cell (some (.ref C)), csl⟩
  sup : mg "super" = none
  top : (P.main.scope.names.lookup ("super" : Str)).isSome = false
  su : ks_superIn K C C "__init__" = some (some (.builtin "ValueError.__init__"))
  ve : subIn K (.ref C) (.type "ValueError") = some true
  mr : mroIn K C (.ref C) = some true
  op : nsIn K cStatics "thirdparty.any" = some none
theorem one_size (v : Value) : [v].length ≤ sizeLine := by
  rw [sizeLine_eq]
  exact (by decide : 1 ≤ 16777216)
/-- what __init__ leaves of a fresh exception at x -/
structure InitEnd (h h' : Heap) (x C dx : Addr) (v : Value) : Prop where
  keep : ∀ b o, b ≠ x → h.get? b = some o → h'.get? b = some o
  obj : ∃ t1, h'.get? x = some { cls := .ref C, dict := some dx, data := .fields #[.ref t1, .none, .none, .none, .bool false, .none] }
  dbig : h.objs.size ≤ dx
  dne : dx ≠ x
  ns : h'.Ns1 dx (fun y => if y = "p" then some v else none)
structure OwnMade (h h' : Heap) (e C d : Addr) (v : Value) : Prop where
  keep : ∀ b o, h.get? b = some o → h'.get? b = some o
  new : h.objs.size ≤ e
  obj : ∃ oe vs, h'.get? e = some oe ∧ oe.cls = .ref C ∧ oe.dict = some d ∧ oe.data = .fields vs ∧ vs[1]? = some .none
  dbig : h.objs.size ≤ d
  dne : d ≠ e
  ns : h'.Ns1 d (fun y => if y = "p" then some v else none)
/-- the module's names, the built-in ones -/
structure Tops (h : Heap) (mg : Str → Option Value) : Prop where
  g : h.Ns mainGlobals mg
  b : ∃ mb, h.Ns builtinsNs mb ∧ ∀ x : Str, x ≠ "__name__" → mb x = bootBuiltins x
theorem boot_super : bootBuiltins "super" = some (.type "super") := by decide +kernel
theorem nocell : ∀ x ∈ (L2.defScope sBad).names, x.2 ≠ .cell := by decide +kernel
theorem loc_self : (L2.defScope sBad).names.lookup ("self" : Str) = some .local := by decide +kernel
theorem loc_p : (L2.defScope sBad).names.lookup ("p" : Str) = some .local := by decide +kernel
section
variable {prog : Program} {w : World} {A : Around} {E : Value → Shared → Prop} {R : Result → Shared → Prop} {s : Shared} {K : Frag} {mg : Str → Option Value} {C fI : Addr}
theorem bad_init (T : BadTxt prog K mg C fI) {x t0 : Addr} {i : Int} {ti : Tok} (X : K.In s.heap) (M : Tops s.heap mg) (hlim : s.heap.NoLimit) (hx : s.heap.get? x = some (PySem.HandSPX.excO C t0)) (hnx : K.lookup x = none) (hroom : A.depth < recursionLimit) (hlog : i.natAbs.log2 < 1000)
    (hq : ∀ h' tk dx, InitEnd s.heap h' x C dx (.int i ti) → R (.ok (.ret .none)) { s with heap := h', toks := tk }) :
    codeAny (model prog w) A (.call (.ref fI) ⟨[.ref x, .int i ti], []⟩) R s := by
  obtain ⟨oc, od, kV, doc, pm, an, ct, osl, cc, cda, ho, hcd, ⟨ccl, cdd, vs, ccs, file, tf, hcode, hvs, hfile⟩, cl, cld, csl, hcell⟩ := T.fn
  obtain ⟨nm, q, N, bs, bm, sn, sub, ab, col, dd, k0, k1, k2, k3, k5, hC, hbm⟩ := T.cls
  have hcl : clsIn K C = some { name := nm, bases := bs, mro := .ref C :: bm, ns := N, qualname := q, hasDict := true, slotNames := sn, subclasses := sub, abstract := ab, collection := col, hasDel := false } := by unfold clsIn; rw [hC] <;> rfl
  refine ks_codeAny_call_defAt (fd := ksFn "__init__" "BadCharacteristic.__init__" (L2.defArgs sBad) (L2.defBody sBad) (L2.defScope sBad) .none kV doc pm an (.ref cda) ct cc) (body := L2.defBody sBad) (binds := [("self", .ref x), ("p", .int i ti)]) hroom (X _ _ ho) rfl hlim (codeRec_of X hcd) rfl
    (BindsTo.of_eq (by first | rfl | with_unfolding_all rfl)) nocell (by
      intro y hy
      rcases List.mem_cons.mp hy with rfl | hy
      · exact loc_self
      · rcases List.mem_cons.mp hy with rfl | hy
        · exact loc_p
        · cases hy) (fun h1 hns hk => ?_) rfl rfl rfl
  have X1 : K.In h1 := X.keeps hk
  have hx1 := hk _ _ hx
  have M1 : Tops h1 mg := ⟨M.g.keeps hk, let ⟨mb, b1, b2⟩ := M.b; ⟨mb, b1.keeps hk, b2⟩⟩
  obtain ⟨mb, b1, b2⟩ := M1.b
  obtain ⟨hp0, g, d, tk0, os⟩ := s
  have hxL : hp0.objs.size ≠ x := Nat.ne_of_gt (Heap.lt_size hx)
  have hxC : x ≠ C := fun z => by
    rw [z, hC] at hnx
    cases hnx
  have hD1 := X1 _ _ hC
  show wpAt _ _ _ (execs (_ :: _) _) _ _ ⟨h1, g, d, _, os⟩
  generalize tk0 + _ = tk1
  refine ks_wpAt_execs_cons (ks_wpAt_Expr_any (ks_wpAt_MethodCall ?_))
  refine ks_wpAt_super_base rfl rfl rfl rfl (X1 _ _ ho) rfl rfl rfl (X1 _ _ hcode) rfl hvs hfile T.top ?_
  refine ks_loadName_global rfl rfl (loadGlobal_builtin M1.g T.sup b1 ((b2 _ (by decide)).trans boot_super) ⟨rfl, ?_⟩)
  refine wpAny_loadName_free rfl rfl rfl ⟨_, X1 _ _ hcell, rfl⟩ ?_
  refine wpAny_loadName_local (v := .ref x) rfl rfl hns rfl ?_
  refine ks_wpAny_isType_cls hD1 rfl ⟨rfl, ?_⟩
  refine ks_wpAny_call_super hD1 rfl hx1 rfl (fun c e => by cases e) (looks_mroIn X1 T.mr) (fun h2 e2 k2 => ?_)
  have X2 : K.In h2 := X1.keeps k2
  have hx2 := k2 _ _ hx1
  have I2 : InstAt h2 x (PySem.HandSPX.excO C t0) C none := ⟨hx2, rfl, rfl, trivial⟩
  have hm : alongIn K "__init__" (((Value.ref C :: bm).dropWhile (· != .ref C)).drop 1) = some (some (.builtin "ValueError.__init__")) := by
    have := T.su
    unfold ks_superIn at this
    rw [hcl] at this
    exact this
  refine kxs_getMethod kxs_ValueError e2 (looks_opaque X2 T.op) (l₀ := .ref C :: bm) ?_ rfl X2 hm (I2.type.andThen (looks_subIn X2 T.ve)) hxC rfl ?_
  · exact fun A Q E s k q => wpAny_bind ((looks_clsIn X2 hcl) A _ E s k (wpAny_pure q))
  have hmw : (h2.push (kxs_mw "ValueError.__init__" x)).get? h2.objs.size = some (kxs_mw "ValueError.__init__" x) := Heap.get?_push_at rfl rfl
  have k3 : ∀ b o, h2.get? b = some o → (h2.push (kxs_mw "ValueError.__init__" x)).get? b = some o := fun b o e => Heap.get?_push_of_some _ e
  generalize hu : h2.objs.size = u at *
  generalize h2.push (kxs_mw "ValueError.__init__" x) = h3 at *
  have X3 : K.In h3 := X2.keeps k3
  have hx3 := k3 _ _ hx2
  refine kxs_callWith (i := "ValueError.__init__") (x := x) rfl ?_
  refine evalArgs_plain ?_
  refine args_cons (wpAny_JoinedStr ?_) rfl
  have hns3 := hns.keeps (fun b o e => k3 b o (k2 b o e))
  have hlp : i.natAbs.log2 < 1920 := Nat.lt_trans hlog (by decide)
  show wpAny _ _ (eval (.FormattedValue _ (-1) none _) _) _ _ _
  refine wpAny_FormattedValue_plain ?_
  refine wpAny_Name (wpAny_loadName_local (v := .int i ti) rfl rfl hns3 rfl ?_) (by decide)
  refine wpAny_formatField_int hlp ⟨_, _, rfl, ?_, ?_⟩
  · rw [Str.length_append]
    exact Nat.le_trans (by rw [ofString_length]; exact Nat.add_le_add (Nat.le_refl _) (int_text_length_le (k := 1000) (by decide) hlog)) (by rw [sizeLine_eq]; decide)
  refine Calls.Constant_str ⟨_, _, rfl, ?_, ?_⟩
  · rw [Str.length_append, Str.length_append]
    exact Nat.le_trans (by rw [ofString_length]; exact Nat.add_le_add (Nat.add_le_add (Nat.le_refl _) (int_text_length_le (k := 1000) (by decide) hlog)) (Nat.le_refl _)) (by rw [sizeLine_eq]; decide +kernel)
  refine ⟨?_, ?_⟩
  · rw [Str.length_append, Str.length_append]
    exact Nat.le_trans (by rw [ofString_length]; exact Nat.add_le_add (Nat.add_le_add (Nat.le_refl _) (int_text_length_le (k := 1000) (by decide) hlog)) (Nat.le_refl _)) (by rw [sizeLine_eq]; decide +kernel)
  refine args_nil ⟨hmw, ?_⟩
  have FB := PySem.F.excBase_ValueError
  have hC3 := X3 _ _ hC
  have M3 : ∀ b o, h1.get? b = some o → h3.get? b = some o := fun b o e => k3 b o (k2 b o e)
  refine wpAny_call (codeAny_of_tree ?_)
  show wpAny _ _ (callAny (.ref u) ⟨[.str _ _], []⟩) _ _ ⟨h3, g, d, _, os⟩
  simp only [callAny]
  refine wpAny_bind (wpAny_load hmw ?_)
  simp only [kxs_mw, show (Value.type "method-wrapper" == Value.type "method" || Value.type "method-wrapper" == Value.type "builtin_function_or_method" || Value.type "method-wrapper" == Value.type "method-wrapper") = true by decide, if_true]
  refine KFB.if_so (by decide) ?_
  refine wpAny_bind (check_bound_init FB.toExcCallFacts hC3 hx3 rfl ?_)
  refine wpAny_bind (wpAny_pure (wpAny_pure ?_))
  refine ⟨plainId_quiet FB.init.plain _, codeAny_builtin FB.initEntry ?_⟩
  refine exc_init_tree (cls := .ref C) (t0 := t0) (dv := none) (c2 := .none) (c3 := .none) (b4 := .bool false) hx3 (one_size _) fun h4 k4 hx4 ht4 => ?_
  obtain ⟨oL, a1, a2, hL, a3⟩ := hns3
  have hL4 := k4 _ _ hxL hL
  have hns4 : h4.Ns hp0.objs.size (fun x_1 => List.lookup x_1 [(("self" : Str), Value.ref x), ("p", .int i ti)].reverse) := ⟨oL, a1, a2, hL4, a3⟩
  have X4 : K.In h4 := fun a o e => k4 a o (fun z => by rw [z, hnx] at e; cases e) (X3 a o e)
  show wpAt _ _ _ (execs [_] _) _ _ ⟨h4, g, d, _, os⟩
  refine ks_wpAt_execs_cons (wpAt_of_wpAny (plainObj_wpAny_Assign_Attribute ?_))
  refine wpAny_Name (wpAny_loadName_local (v := .int i ti) rfl rfl hns4 rfl ?_) (by decide)
  refine wpAny_Name (wpAny_loadName_local (v := .ref x) rfl rfl hns4 rfl ?_) (by decide)
  refine set_plain X4 (od := none) ⟨hx4, rfl, rfl, trivial⟩ T.sa ?_
  refine PySem.HandSPX.exc_osa X4 hx4 hcl (show PySem.HandSPX.refsVE (.ref C :: bm) = true from hbm) rfl T.noN (fun h5 tk5 dx k5 dn dne hx5 hn5 => ?_)
  show wpAt _ _ _ (execs [] _) _ _ ⟨h5, g, d, _, os⟩
  refine wpAt_of_wpAny (wpAny_execs_nil ?_)
  refine hq h5 tk5 dx ⟨fun b o hb e => k5 b o hb (k4 b o hb (M3 b o (hk b o e))), ⟨_, hx5⟩, ?_, dne, hn5⟩
  exact Nat.le_of_lt (Nat.lt_of_lt_of_le (Heap.lt_size hL4) dn)
theorem bad_made (T : BadTxt prog K mg C fI) {i : Int} {ti : Tok} (X : K.In s.heap) (M : Tops s.heap mg) (hlim : s.heap.NoLimit) (hroom : A.depth + 1 < recursionLimit) (hlog : i.natAbs.log2 < 1000)
    (hq : ∀ h' tk e d, OwnMade s.heap h' e C d (.int i ti) → R (.ok (.ret (.ref e))) { s with heap := h', toks := tk }) :
    codeAny (model prog w) A (.call (.ref C) ⟨[.int i ti], []⟩) R s := by
  obtain ⟨nm, q, N, bs, bm, sn, sub, ab, col, dd, k0, k1, k2, k3, k5, hC, hbm⟩ := T.cls
  obtain ⟨hp, g, dr, tk, os⟩ := s
  have k : ∀ b o, hp.get? b = some o → ((hp.push (kdv_tup [.int i ti])).push (PySem.HandSPX.excO C hp.objs.size)).get? b = some o := fun b o e => Heap.get?_push_of_some _ (Heap.get?_push_of_some _ e)
  have hget : ((hp.push (kdv_tup [.int i ti])).push (PySem.HandSPX.excO C hp.objs.size)).get? (hp.objs.size + 1) = some (PySem.HandSPX.excO C hp.objs.size) := by heap_get
  have hnx : K.lookup (hp.objs.size + 1) = none := by
    cases e : K.lookup (hp.objs.size + 1) with
    | none => rfl
    | some o =>
      have z : hp.get? (hp.objs.size + 1) = some o := X _ _ e
      exact absurd (Nat.lt_of_succ_lt (Heap.lt_size z)) (Nat.lt_irrefl _)
  refine PySem.HandSPX.call_own PySem.F.excBase_ValueError (fun X => PySem.HandSPX.refsVE_contains X bm hbm) (X _ _ hC) (looks_findIn X T.iC) (fun self => bind_fn X self T.tC) (one_size _) ?_
  refine bad_init (s := ⟨(hp.push (kdv_tup [.int i ti])).push (PySem.HandSPX.excO C hp.objs.size), g, dr, tk, os⟩) T (X.keeps k) ⟨M.g.keeps k, let ⟨mb, b1, b2⟩ := M.b; ⟨mb, b1.keeps k, b2⟩⟩ (hlim.keeps k) hget hnx ?_ hlog fun h' tk' dx ⟨k', ⟨t1, hx⟩, dn, dne, hns⟩ => ?_
  · show A.depth + 1 < recursionLimit
    exact hroom
  · have old : ∀ b o, hp.get? b = some o → h'.get? b = some o := fun b o e => k' b o (Nat.ne_of_lt (Nat.lt_succ_of_lt (Heap.lt_size e))) (k b o e)
    have z : hp.objs.size + 1 + 1 ≤ dx := by
      first
        | (simpa only [Heap.size_push] using dn)
        | exact dn
        | (have q := dn; rw [Heap.size_push, Heap.size_push] at q; exact q)
    exact ⟨rfl, hq h' tk' (hp.objs.size + 1) dx ⟨old, Nat.le_succ _, ⟨_, _, hx, rfl, rfl, rfl, rfl⟩, Nat.le_trans (Nat.le_trans (Nat.le_succ _) (Nat.le_succ _)) z, dne, hns⟩⟩
end
end BadX
end PySem
namespace L2
open PySem PySem.Spec PyProof.Rows
theorem relO_bad {v : V} {v' : Value} (r : RelV v v') (f : Str) : RelO (List.lookup f [(("p" : Str), v)]) (if f = "p" then some v' else none) := by
  by_cases hw : f = "p"
  · subst hw
    rw [if_pos rfl]
    have q : List.lookup ("p" : Str) [(("p" : Str), v)] = some v := by simp [List.lookup]
    rw [q]
    exact r
  · rw [if_neg hw]
    have qw : (f == ("p" : Str)) = false := by simpa using hw
    have q2 : List.lookup f [(("p" : Str), v)] = none := by simp [List.lookup, qw]
    rw [q2]
    trivial
section
variable {X : Cx} {C fI : Addr}
/-- BadCharacteristic(e) -/
def tMkBad (C : Addr) (ta : TA) : St → Hp → XK → Prop := fun σ H Q => ta σ H fun vs H1 => ∃ i : Int, vs = [.int i] ∧ i.natAbs.log2 < 1000 ∧ ∀ d, H1 d = none → Q (.ref C) (some d) (upd H1 d (.xd [(("p" : Str), .int i)]))
theorem pmk_bad {a : Expr} {ta : TA} {p pos : Pos} {k : Nat} (T : PySem.BadX.BadTxt X.prog X.K X.mg C fI) (hr : Room k X.A) (ha : PA X [a] ta) (hg : Gl X "BadCharacteristic" := by rfl)
    (he : starEach (a :: []) X.env = (false, eval a X.env) :: starEach [] X.env := by rfl) (hpl : (backTo pos (starEach [] X.env)).any (·.1) = false := by rfl) :
    PMk X (.Call (.Name "BadCharacteristic" p) [a] [] pos) (tMkBad C ta) := by
  intro pins s σ H Q I h
  refine wpAny_Call_Name_kw (ld_glob I hg T.gC ?_)
  refine PySem.W.callWith_K (h₀ := X.base) I.ok.mod.kin T.kC (thn (ha.run pos pins s σ H _ I h) fun us s1 hh => ?_) he hpl
  obtain ⟨vs, H1, I1, r1, v, ev, hlog, q1⟩ := hh
  subst ev
  refine ⟨I1.kIn, ?_⟩
  cases r1 with
  | cons rv rn =>
    rename_i v' us'
    cases rn
    obtain ⟨ti, rfl⟩ := rv
    show wpAny _ _ (call (.ref C) [.int v ti]) _ _ _
    have hlim := I1.nolimit
    have hT : PySem.BadX.Tops s1.heap X.mg := ⟨I1.mod.glob.keeps I1.bk, let ⟨mb, b1, b2⟩ := I1.mod.blt; ⟨mb, b1.keeps I1.bk, b2⟩⟩
    obtain ⟨hp, g, dr, tk, os⟩ := s1
    refine wpAny_call (PySem.BadX.bad_made T I1.kIn hT hlim (by have := hr.dp; omega) hlog fun h' tk' e d M => ?_)
    show MkP X pins σ Q (.ref e) ⟨h', g, dr, tk', os⟩
    obtain ⟨oe, fv, hoe, hc, hd, hdat, h1⟩ := M.obj
    have hns := M.ns
    obtain ⟨G', g1, g2⟩ := restrict h' fun b => decide (b ≠ e)
    have gk : ∀ b, b ≠ e → G'.get? b = h'.get? b := fun b hb => g1 b (decide_eq_true hb)
    have ge : G'.get? e = none := g2 e (by simp)
    have old : ∀ b o, hp.get? b = some o → G'.get? b = some o := fun b o q => (gk b (Nat.ne_of_lt (Nat.lt_of_lt_of_le (Heap.lt_size q) M.new))).trans (M.keep b o q)
    have ob : ObjOk X.prog X.w (upd H1 d (.xd [(("p" : Str), .int v)])) G' d (.xd [(("p" : Str), .int v)]) :=
      ⟨_, hns.at (fun o q => (gk d M.dne).trans q), fun f => relO_bad (v := .int v) ⟨ti, rfl⟩ f⟩
    have J : Inv X pins σ (upd H1 d (.xd [(("p" : Str), .int v)])) ⟨G', g, dr, tk', os⟩ := I1.laid (t' := tk') old M.dbig ob
    refine ⟨e, oe, fv, ⟨G', g, dr, tk', os⟩, _, .ref C, some d, rfl, J, fun b o q => ?_, ge, hoe, ⟨hc, hd⟩, hdat, h1, ?_, rfl, I1.bare, raises_own T.exC T.tyC, q1 d (I1.hok.fresh M.dbig)⟩
    · by_cases hb : b = e
      · have q' : G'.get? b = some o := q
        rw [hb, ge] at q'; cases q'
      · exact (gk b hb).symm.trans q
    · rw [upd_ne (Ne.symm M.dne)]
      exact I1.hok.fresh M.new
/-- raise BadCharacteristic(e) -/
def tRaiseBad (C : Addr) (W : WX) (ta : TA) : TS := fun _ σ H => tMkBad C ta σ H fun cls d H' => W cls d σ H'
theorem ps_raiseBad {a : Expr} {ta : TA} {W : WX} {p pos pos2 : Pos} {k : Nat} (hc : X.calm = true) (T : PySem.BadX.BadTxt X.prog X.K X.mg C fI) (hr : Room k X.A) (tk : Takes X W) (ha : PA X [a] ta) (hg : Gl X "BadCharacteristic" := by rfl)
    (he : starEach (a :: []) X.env = (false, eval a X.env) :: starEach [] X.env := by rfl) (hpl : (backTo pos (starEach [] X.env)).any (·.1) = false := by rfl) :
    PS X (.Raise (some (.Call (.Name "BadCharacteristic" p) [a] [] pos)) none pos2) (tRaiseBad C W ta) := ps_raise hc tk (pmk_bad T hr ha hg he hpl)
/-- e.p, e the exception that the suite holds (at a; its class cls, its dict d) -/
def tBadP (C : Addr) (a : Addr) (cls : Value) (d : Option Addr) (te : TE) : TE := fun σ H Q => te σ H fun x H1 => x = .ref a ∧ cls = .ref C ∧ ∃ (dd : Addr) (v : V), d = some dd ∧ H1 dd = some (.xd [(("p" : Str), v)]) ∧ Q v H1
theorem pe_badP {a : Addr} {oe : Obj} {cls : Value} {d : Option Addr} {pn : List (Addr × Obj)} {e : Expr} {te : TE} {pos : Pos} (T : PySem.BadX.BadTxt X.prog X.K X.mg C fI) (hz : Zc cls d oe) (hf : ∃ vs, oe.data = .fields vs) (he : PE (X.suite a ((a, oe) :: pn)) e te)
    (hb : attributeBase e "p" X.env (eval e X.env) = eval e X.env := by rfl) :
    PE (X.suite a ((a, oe) :: pn)) (.Attribute e "p" pos) (tBadP C a cls d te) := by
  refine ⟨fun pins s σ H Q I h => ?_⟩
  refine attr_of hb (thn (he.run pins s σ H _ I h) fun u s1 hh => ?_)
  obtain ⟨x, H1, I1, rx, ex, ec, dd, v, ed, ea, q⟩ := hh
  subst ex
  obtain rfl : u = Value.ref a := rx
  subst ec
  subst ed
  obtain ⟨ha, _⟩ := I1.pin (a, oe) (List.mem_append_left _ List.mem_cons_self)
  obtain ⟨vs, hd⟩ := hf
  have hx : ObjOk X.prog X.w H1 s1.heap dd (.xd [(("p" : Str), v)]) := I1.hok dd _ ea
  obtain ⟨mA, hns, hr⟩ := hx
  obtain ⟨od, ho, hl⟩ := lookIn_ns hns
  have l : List.lookup ("p" : Str) [(("p" : Str), v)] = some v := by simp [List.lookup]
  obtain ⟨u, hu, ru⟩ := RelO.some_of (v := v) (o := mA "p") (by rw [← l]; exact hr "p")
  have J : PySem.W.InstAt s1.heap a oe C (some od) := ⟨ha, hz.1, by unfold PySem.W.notCls; rw [hd] <;> rfl, by rw [hz.2]; exact ho⟩
  exact HandSPX.exc_get I1.kIn J T.ga T.gg T.exC (PySem.W.findObj_own T.hdC T.noN rfl (by rw [hl, hu])) (handed_of ru) ⟨v, H1, I1.tok _, ru, q⟩
end
end L2
/-! Wk15: checked, the law's refused, the law. -/
namespace L2
open PySem PySem.Spec PyProof.Rows
section
variable {X : Cx} {CX : CXT} {k : Nat} {f : Addr} {fd : FuncData} {ps ks : List Str} {sp : Sp} {E : St → XK} {x : Str} {p pos : Pos} {e : Expr} {es : List Expr} {t tk : TA} {kws : List Keyword} {g : List Value → List Value → List Value} {gV : List V → List V → List V}
theorem run_fnkS {pins : List (Addr × Obj)} {σ : St} {H : Hp} {s : Shared} {Q : VK} {us ws : List Value} {vs zs : List V} (F : FnOk X.prog X.w X.K X.mg X.base CX k f fd ps sp) (hr : Room k X.A) (hb : KBinds X.K fd ps ks g gV) (hx : PassesAt CX X σ (E σ))
    (I : Inv X pins σ H s) (r : Vals vs us) (rz : Vals zs ws) (h : sp (gV vs zs) H Q (E σ)) : wpAny (model X.prog X.w) X.A (call (.ref f) us (ks.zip ws)) (EP X pins σ Q) X.xe s := by
  have r2 := hb.rel r rz
  have hl : (g us ws).length = ps.length := by rw [← r2.length]; exact F.len _ _ _ _ h
  refine wpAny_call (codeAny_mono (F.run X.A X.stack s H ⟨us, ks.zip ws⟩ (g us ws) (gV vs zs) Q (E σ) hr I.env0 (hb.to s us ws I.kIn hl) r2 h) fun r s' hq => ?_)
  cases r with
  | error e => exact hx pins H s e s' I hq
  | ok fl =>
    cases fl with
    | ret u => exact I.after hq
    | next => exact False.elim hq
    | brk => exact False.elim hq
    | cont => exact False.elim hq
def tCallKS (sp : Sp) (gV : List V → List V → List V) (E : St → XK) (t tk : TA) : TE := fun σ H Q => t σ H fun vs H1 => tk σ H1 fun zs H2 => sp (gV vs zs) H2 Q (E σ)
/-- f(e, .., k = v, ..) within a try -/
theorem pe_callKS (F : FnOk X.prog X.w X.K X.mg X.base CX k f fd ps sp) (hr : Room k X.A) (hg : Gl X x) (hm : X.mg x = some (.ref f)) (hk : PySem.W.keepIn X.K (.ref f) = true) (hb : KBinds X.K fd ps ks g gV) (hx : ∀ σ, PassesAt CX X σ (E σ))
    (ha : PA X (e :: es) t) (hkw : PK X kws tk) (hall : (backToKw pos (keywordEach kws X.env)).all (·.1.isSome) = true := by rfl) (hks : (backToKw pos (keywordEach kws X.env)).filterMap (·.1) = ks := by rfl)
    (hdb : (x == ("__debug__" : Str)) = false := by decide) (he : starEach (e :: es) X.env = (false, eval e X.env) :: starEach es X.env := by rfl)
    (hpl : ((backTo pos (starEach (e :: es) X.env)).any (·.1) || (backToKw pos (keywordEach kws X.env)).any (·.1.isNone)) = false := by rfl) :
    PE X (.Call (.Name x p) (e :: es) kws pos) (tCallKS sp gV E t tk) := by
  refine ⟨fun pins s σ H Q I h => ?_⟩
  refine wpAny_Call_Name_kw (ld_glob I hg hm ?_ hdb)
  refine PySem.W.callWith_KW (h₀ := X.base) I.ok.mod.kin hk hall (thn (ha.run pos pins s σ H _ I h) fun us s1 ⟨vs, H1, I1, r, q⟩ => ?_) hpl he
  refine thn (hkw.run pos pins s1 σ H1 _ I1 q) fun ws s2 ⟨zs, H2, I2, rz, q2⟩ => ⟨I2.kIn, ?_⟩
  rw [hks]
  exact run_fnkS F hr hb (hx σ) I2 r rz q2
end
end L2
namespace Wk
open PySem PySem.Spec PyProof.Rows L2 Ev
section
variable {P : Program} {w_ : World} {K : PySem.W.Frag} {mg : Str → Option Value} {base : Heap} {C CM fX : Addr} {f fI fB fC fm fDr fCe fRo fPf fLb fLc fRe : Addr} {fd fdI fdB fdC fdm fdDr fdCe fdRo fdPf fdLb fdLc fdRe : FuncData} {k : Nat}
theorem log_small {p : Int} (h1 : -10000 ≤ p) (h2 : p ≤ 10000) : p.natAbs.log2 < 1000 := by
  have h : p.natAbs < 2 ^ 14 := by omega
  exact Nat.lt_trans (PySem.Flt.log2_lt_of (by decide) h) (by decide)
theorem ok_checked (F : Fun K "checked" "checked" sChecked f fd) (T : PySem.BadX.BadTxt P K mg C fX) (CI : Cal K mg "is_prime" sIsPrime ["n"] fI fdI) (GI : FnOk P w_ K mg base CX0 k fI fdI ["n"] spIsPrime) : FnOk P w_ K mg base (L2.CX P w_) (k + 1) f fd ["p"] (spChecked C) := by
  refine F.okX scChecked (fun vs H Q E h => ?_) (fun cdv A outer s H vs Q E hr h => ?_)
  · obtain ⟨p, rfl, _⟩ := h
    rfl
  · obtain ⟨p, rfl, hp, q1, q2⟩ := h
    refine ⟨_, (pss_cons (ps_if (PW.pt (pw_and (pt_cmpR op_ne (pv 0) pe_int (nomark _)) (pw_and1 (pt_not (pt_val (pcal CI GI hr pass0 (pa_cons (pv 0) pa_nil))))))) (pss_one (ps_raiseBad rfl T hr (takes_of rfl rfl rfl rfl) (by exact (pa_cons (pv 0) pa_nil)))) pss_nil)
  (pss_one (ps_ret (pv 0)))), ?_⟩
    refine ⟨_, rfl, rfl, _, rfl, ite2 (fun e => ?_) (fun e => ?_)⟩
    · have p0 : p ≠ 0 := fun z => by
        rw [z] at e
        exact absurd e (by decide)
      refine ⟨_, rfl, p, rfl, hp, fun b hb => ⟨b, rfl, ?_⟩⟩
      cases b with
      | true => exact iteF ⟨_, rfl, q1 (.inr (hb.mp rfl))⟩
      | false =>
        have bad : ¬ (p = 0 ∨ IsP p) := fun z => by
          rcases z with z | z
          · exact p0 z
          · have := hb.mpr z
            cases this
        obtain ⟨lo, q3⟩ := q2 bad
        exact iteT ⟨_, rfl, p, rfl, log_small lo hp, fun d hd => q3 d hd⟩
    · have p0 : p = 0 := Classical.byContradiction fun z => e (by rw [decide_eq_false (fun y => z (V.int.inj y))]; rfl)
      exact iteF ⟨_, rfl, q1 (.inl p0)⟩
def spRefused (CM : Addr) : Sp := fun vs H Q _ => ∃ (m : Addr) (z p : Int) (h w : Nat) (A : Mx), vs = [.int z, .ref m, .int p] ∧ ¬ Good p ∧ (-10000 ≤ p ∧ p ≤ 2048) ∧ Mat H CM m h w A ∧ Dims h w A ∧ (∀ i j, i < h → (A i j).natAbs ≤ 4) ∧ ∀ H', Same H H' → Q (.bl true) H'
theorem ok_refused (F : Fun K "_law_refused" "_law_refused" sLawRefused f fd) (T : PySem.BadX.BadTxt P K mg C fX) (CB : CalK K mg "bases" sBases fB fdB) (GB : FnOk P w_ K mg base (L2.CX P w_) k fB fdB ["matrix", "p"] (spBases C CM))
    (CC : CalK K mg "circuits" sCircuits fC fdC) (GC : FnOk P w_ K mg base (L2.CX P w_) k fC fdC ["matrix", "p"] (spCircs C CM)) : FnOk P w_ K mg base CX0 (k + 1) f fd ["_law_which", "_law_matrix", "_law_char"] (spRefused CM) := by
  refine F.ok scLawRefused (fun vs H Q E h => ?_) (fun cdv A outer s H vs Q E hr h => ?_)
  · obtain ⟨m, z, p, h, w, M, rfl, _⟩ := h
    rfl
  · obtain ⟨m, z, p, h, w, M, rfl, bad, hp, hM, hD, hA, q⟩ := h
    refine ⟨_, pss_cons (ps_try_as (i := 3) (tb := fun W => tIfS (tTest (tOp rEq (tVar 0) (tC (.int 0)))) (tDrop (tCallKS (spBases C CM) kwG (WE W) (tCons (tVar 1) tNil) (tCons (tVar 2) tNil))) (tDrop (tCallKS (spCircs C CM) kwG (WE W) (tCons (tVar 1) tNil) (tCons (tVar 2) tNil))))
        (ts := fun a cls d => tRet (tOp rEq (tBadP C a cls d (tVar 3)) (tVar 2))) (Wout := fun _ _ _ _ => False) rfl rfl scLawRefused.nd rfl rfl ⟨rfl, by decide, Or.inl T.gC⟩ takes0
        (fun W pn xe tk _ => pss_one (ps_if (pt_cmpR op_eq (pv 0) pe_int (nomark _)) (pss_one (ps_expr (by exact (pe_callKS GB hr rfl CB.m CB.F.kp CB.kb (fun σ => passAt tk σ) (by exact (pa_cons (pv 1) pa_nil)) (by exact (pk_cons (pv 2) pk_nil))))))
          (pss_one (ps_expr (by exact (pe_callKS GC hr rfl CC.m CC.F.kp CC.kb (fun σ => passAt tk σ) (by exact (pa_cons (pv 1) pa_nil)) (by exact (pk_cons (pv 2) pk_nil))))))))
        (fun a oe cls d pn hz hf => pss_one (ps_ret (by exact (pe_cmpR op_eq (pe_badP T hz hf (pv 3)) (pv 2) (nomark _))))))
      (pss_one (ps_ret pe_bl)), ?_⟩
    have fin : ∀ (d : Addr), H d = none → Q (.bl (decide (V.int p = V.int p))) (upd H d (.xd [(("p" : Str), .int p)])) := fun d hd => by
      rw [decide_eq_true rfl]
      exact q _ (same_new hd)
    refine ⟨_, rfl, rfl, _, rfl, ite2 (fun _ => ?_) (fun _ => ?_)⟩
    · refine ⟨_, rfl, _, rfl, m, p, h, w, M, rfl, hp.2, hM, hD, fun g => absurd g bad, fun _ => ⟨hp.1, fun d hd => ?_⟩⟩
      refine ⟨true, T.te, fun _ a0 _ => ?_, fun q => Bool.noConfusion q⟩
      exact ⟨_, rfl, rfl, rfl, d, _, rfl, upd_same, _, rfl, rfl, fin d hd⟩
    · refine ⟨_, rfl, _, rfl, m, p, h, w, M, rfl, hp.2, hM, hD, hA, fun g => absurd g bad, fun _ => ⟨hp.1, fun d hd => ?_⟩⟩
      refine ⟨true, T.te, fun _ a0 _ => ?_, fun q => Bool.noConfusion q⟩
      exact ⟨_, rfl, rfl, rfl, d, _, rfl, upd_same, _, rfl, rfl, fin d hd⟩
theorem same_upd {A B : Hp} {p : Addr} {o : HO} (s : Same A B) (n : A p = none) : Same A (upd B p o) := fun b u e => by
  rw [upd_ne (ne_of_none e n)]
  exact s b u e
/-- a list of at most n items -/
def IsL (H : Hp) (q : Addr) (n : Nat) : Prop := ∃ ys : List V, H q = some (.lst ys) ∧ ys.length ≤ n
theorem IsL.upd {H : Hp} {q p : Addr} {n : Nat} {ys : List V} (h : IsL H q n) (hy : ys.length ≤ n) : IsL (upd H p (.lst ys)) q n := by
  by_cases e : q = p
  · rw [e]
    exact ⟨ys, upd_same, hy⟩
  · obtain ⟨zs, hz, hl⟩ := h
    exact ⟨zs, by rw [upd_ne e]; exact hz, hl⟩
theorem IsL.same {H H' : Hp} {q : Addr} {n : Nat} (h : IsL H q n) (s : Same H H') : IsL H' q n :=
  let ⟨ys, h1, h2⟩ := h
  ⟨ys, s _ _ h1, h2⟩
theorem bases_len {p : Int} {h w : Nat} {A : Mx} (d3 : 1 ≤ w) (d4 : w ≤ 5) (lr : lrank p h w A ≤ w) : (basesL p h w A).length ≤ 32 := Nat.le_trans (List.length_filter_le _ _) (chs_len d3 d4 lr)
theorem circs_len {p : Int} {h w : Nat} {A : Mx} (d3 : 1 ≤ w) (d4 : w ≤ 5) : (circsL p h w A).length ≤ 32 := Nat.le_trans (List.length_filter_le _ _) (slists_len d3 d4)
def spLaw (K : PySem.W.Frag) : Sp := fun vs H Q _ => ∃ (l : Addr) (ns : List Int), vs = [.ref l] ∧ SqL K H l (ns.map V.int) ∧ ∀ H', Q (.bl true) H'
theorem bad_1 : ¬ Good 1 := fun z => by
  rcases z with z | z
  · exact absurd z (by decide)
  · exact absurd z.1 (by decide)
theorem bad_m1 : ¬ Good (-1) := fun z => by
  rcases z with z | z
  · exact absurd z (by decide)
  · exact absurd z.1 (by decide)
theorem bad_m2 : ¬ Good (-2) := fun z => by
  rcases z with z | z
  · exact absurd z (by decide)
  · exact absurd z.1 (by decide)
theorem bad_4 : ¬ Good 4 := fun z => by
  rcases z with z | z
  · exact absurd z (by decide)
  · exact z.2 2 (by decide) (by decide) (by decide)
theorem bad_9 : ¬ Good 9 := fun z => by
  rcases z with z | z
  · exact absurd z (by decide)
  · exact z.2 3 (by decide) (by decide) (by decide)
theorem bad_15 : ¬ Good 15 := fun z => by
  rcases z with z | z
  · exact absurd z (by decide)
  · exact z.2 3 (by decide) (by decide) (by decide)
theorem bad_100 : ¬ Good 100 := fun z => by
  rcases z with z | z
  · exact absurd z (by decide)
  · exact z.2 2 (by decide) (by decide) (by decide)
theorem bad_at : ∀ d : Nat, d < 7 → ∃ p : Int, atI [V.int 1, V.int 4, V.int (-2), V.int 9, V.int (-1), V.int 15, V.int 100] (d : Int) = some (.int p) ∧ ¬ Good p ∧ -10000 ≤ p ∧ p ≤ 2048
  | 0, _ => ⟨1, rfl, bad_1, by decide, by decide⟩
  | 1, _ => ⟨4, rfl, bad_4, by decide, by decide⟩
  | 2, _ => ⟨-2, rfl, bad_m2, by decide, by decide⟩
  | 3, _ => ⟨9, rfl, bad_9, by decide, by decide⟩
  | 4, _ => ⟨-1, rfl, bad_m1, by decide, by decide⟩
  | 5, _ => ⟨15, rfl, bad_15, by decide, by decide⟩
  | 6, _ => ⟨100, rfl, bad_100, by decide, by decide⟩
  | d + 7, h => absurd h (by omega)
theorem chars_ok {q : Int} (hq : LPr q) (h3 : q ≤ 2003) {i : Nat} {x : V} (h : ([V.int 0, V.int 2, V.int 3, V.int 5, V.int q, V.int 2, V.int 0] : List V)[i]? = some x) : ∃ p, x = .int p ∧ Good p ∧ p ≤ 2048 := by
  have m := List.mem_of_getElem? h
  simp only [List.mem_cons, List.not_mem_nil, or_false] at m
  rcases m with rfl | rfl | rfl | rfl | rfl | rfl | rfl
  · exact ⟨0, rfl, .inl rfl, by decide⟩
  · exact ⟨2, rfl, .inr isP_2, by decide⟩
  · exact ⟨3, rfl, .inr isP_3, by decide⟩
  · exact ⟨5, rfl, .inr isP_5, by decide⟩
  · exact ⟨q, rfl, .inr hq.isP, by omega⟩
  · exact ⟨2, rfl, .inr isP_2, by decide⟩
  · exact ⟨0, rfl, .inl rfl, by decide⟩
theorem ok_law (F : Fun K "law" "law" sLaw f fd) (T : Blt mg) (isL : PySem.W.kitOne K (.type "list") (.type "list") = some true) (MM : MkM K mg CM fm fdm) (GM : FnOk P w_ K mg base CX0 k fm fdm ["self", "rows"] (spMInit CM))
    (CDr : Cal K mg "_law_draws" sLawDraws ["_law_cell_here", "_law_sizes"] fDr fdDr) (GDr : FnOk P w_ K mg base CX0 (k + 1) fDr fdDr ["_law_cell_here", "_law_sizes"] spDraws) (CCe : Cal K mg "_law_cell" sLawCell ["_law_script", "_law_k"] fCe fdCe) (GCe : FnOk P w_ K mg base CX0 (k + 1) fCe fdCe ["_law_script", "_law_k"] (spCell K))
    (CRo : Cal K mg "_law_rows" sLawRows ["_law_cell_here", "_law_height", "_law_width", "_law_reach"] fRo fdRo) (GRo : FnOk P w_ K mg base CX0 (k + 1) fRo fdRo ["_law_cell_here", "_law_height", "_law_width", "_law_reach"] spLRows)
    (CPf : Cal K mg "_law_prime_from" sLawPrimeFrom ["_law_n"] fPf fdPf) (GPf : FnOk P w_ K mg base CX0 (k + 1) fPf fdPf ["_law_n"] spPFrom)
    (CLb : Cal K mg "_law_bases" sLawBases ["_law_rows_here", "_law_char"] fLb fdLb) (GLb : FnOk P w_ K mg base CX0 (k + 1) fLb fdLb ["_law_rows_here", "_law_char"] spLBases)
    (CLc : Cal K mg "_law_circuits" sLawCircuits ["_law_rows_here", "_law_char"] fLc fdLc) (GLc : FnOk P w_ K mg base CX0 (k + 1) fLc fdLc ["_law_rows_here", "_law_char"] spLCircs)
    (CRe : Cal K mg "_law_refused" sLawRefused ["_law_which", "_law_matrix", "_law_char"] fRe fdRe) (GRe : FnOk P w_ K mg base CX0 (k + 1) fRe fdRe ["_law_which", "_law_matrix", "_law_char"] (spRefused CM))
    (CB : CalK K mg "bases" sBases fB fdB) (GB : FnOk P w_ K mg base (L2.CX P w_) (k + 1) fB fdB ["matrix", "p"] (spBases C CM)) (CC : CalK K mg "circuits" sCircuits fC fdC) (GC : FnOk P w_ K mg base (L2.CX P w_) (k + 1) fC fdC ["matrix", "p"] (spCircs C CM)) :
    FnOk P w_ K mg base CX0 (k + 2) f fd ["_law_script"] (spLaw K) := by
  refine F.ok scLaw (fun vs H Q E h => ?_) (fun cdv A outer s H vs Q E hr h => ?_)
  · obtain ⟨l, ns, rfl, _⟩ := h
    rfl
  · obtain ⟨l, ns, rfl, hl, q⟩ := h
    refine ⟨_, (pss_cons (ps_set (i := 1) scLaw.nd rfl (by first | exact .inl rfl | exact .inr rfl) (pcal CDr GDr hr pass0 (pa_cons (pcal CCe GCe hr pass0 (pa_cons (pv 0) (pa_cons pe_int pa_nil))) (pa_cons (pe_lst (pa_cons pe_int (pa_cons pe_int (pa_cons pe_int (pa_cons pe_int pa_nil))))) pa_nil))))
  (pss_cons (ps_set (i := 2) scLaw.nd rfl (by first | exact .inl rfl | exact .inr rfl) (pcal CRo GRo hr pass0 (pa_cons (pcal CCe GCe hr pass0 (pa_cons (pv 0) (pa_cons pe_int pa_nil))) (pa_cons (pe_op op_add pe_int (kixl (K := K) (ha := (pv 1)) (hb := pe_int))) (pa_cons (pe_op op_add pe_int (kixl (K := K) (ha := (pv 1)) (hb := pe_int))) (pa_cons pe_int pa_nil))))))
  (pss_cons (ps_set (i := 3) scLaw.nd rfl (by first | exact .inl rfl | exact .inr rfl) (pe_make MM.mkc GM (hr.mono (by omega)) (by rfl) MM.g MM.b .nil pass0 (pa_cons (pv 2) pa_nil)))
  (pss_cons (ps_for PassesOwn.never rfl (kpil (K := K) (hl := (pe_lst (pa_cons pe_int (pa_cons pe_int (pa_cons pe_int (pa_cons pe_int (pa_cons (pcal CPf GPf hr pass0 (pa_cons (kixl (K := K) (ha := (pv 1)) (hb := pe_int)) pa_nil)) (pa_cons pe_int (pa_cons pe_int pa_nil)))))))))) (pg_name (i := 4) scLaw.nd rfl (by first | exact .inl rfl | exact .inr rfl)) (pss_cons (ps_set (i := 5) scLaw.nd rfl (by first | exact .inl rfl | exact .inr rfl) (pe_callK GB hr (by rfl) CB.m CB.F.kp CB.kb passL (pa_cons (pv 3) pa_nil) (pk_cons (pv 4) pk_nil)))
  (pss_cons (ps_if (PW.pt (pw_or (pt_not (pt_val (pe_callB (id := "isinstance") call_isi (by rfl) T.isinstance (by decide +kernel) (pa_cons (pv 5) (pa_cons (pe_bltn (v := .ty "list") (by rfl) T.list (by decide +kernel) rfl) pa_nil))))) (pw_or1 (tneD hr.units (K := K) (ha := (pv 5)) (hb := (pcal CLb GLb hr pass0 (pa_cons (pv 2) (pa_cons (pv 4) pa_nil)))))))) (pss_one (ps_ret pe_bl)) pss_nil)
  (pss_cons (ps_set (i := 6) scLaw.nd rfl (by first | exact .inl rfl | exact .inr rfl) (pe_callK GC hr (by rfl) CC.m CC.F.kp CC.kb passL (pa_cons (pv 3) pa_nil) (pk_cons (pv 4) pk_nil)))
  (pss_cons (ps_if (PW.pt (pw_or (pt_not (pt_val (pe_callB (id := "isinstance") call_isi (by rfl) T.isinstance (by decide +kernel) (pa_cons (pv 6) (pa_cons (pe_bltn (v := .ty "list") (by rfl) T.list (by decide +kernel) rfl) pa_nil))))) (pw_or1 (tneD hr.units (K := K) (ha := (pv 6)) (hb := (pcal CLc GLc hr pass0 (pa_cons (pv 2) (pa_cons (pv 4) pa_nil)))))))) (pss_one (ps_ret pe_bl)) pss_nil)
  (pss_cons (ps_expr (pe_bm PySem.F.plainAttrs_list PySem.F.slot_list_append PySem.F.type_list_append mt_append (pv 5) (pa_cons (pe_lst (pa_cons pe_int pa_nil)) pa_nil)))
  (pss_cons (ps_expr (pe_bm PySem.F.plainAttrs_list PySem.F.slot_list_append PySem.F.type_list_append mt_append (pv 6) (pa_cons (pe_lst (pa_cons pe_int pa_nil)) pa_nil)))
  (pss_one (ps_expr (pe_bm PySem.F.plainAttrs_list PySem.F.slot_list_append PySem.F.type_list_append mt_append (kixl (K := K) (ha := (pv 5)) (hb := pe_int)) (pa_cons pe_int pa_nil)))))))))))
  (pss_cons (ps_set (i := 7) scLaw.nd rfl (by first | exact .inl rfl | exact .inr rfl) (kixl (K := K) (ha := (pe_lst (pa_cons pe_int (pa_cons pe_int (pa_cons (pe_un un_neg pe_int) (pa_cons pe_int (pa_cons (pe_un un_neg pe_int) (pa_cons pe_int (pa_cons pe_int pa_nil))))))))) (hb := (kixl (K := K) (ha := (pv 1)) (hb := pe_int)))))
  (pss_one (ps_ret (pe_and (pcal CRe GRe hr pass0 (pa_cons pe_int (pa_cons (pv 3) (pa_cons (pv 7) pa_nil)))) (pe_one (pcal CRe GRe hr pass0 (pa_cons pe_int (pa_cons (pv 3) (pa_cons (pv 7) pa_nil))))))))))))), ?_⟩
    refine ⟨_, rfl, l, ns, 0, rfl, hl, by decide, fun z0 => ⟨size_ok (by show 4 ≤ 100000; decide), fun p0 np0 => ?_⟩⟩
    have np : H p0 = none := np0
    refine ⟨z0, p0, [3, 5, 2000, 7], rfl, upd_same, by decide, by decide, fun hd ds H1 nh s1 hh hl4 hb => ?_⟩
    have s01 : Same H H1 := (same_new np).trans s1
    match ds, hl4 with
    | [a0, b0, c0, e0], _ =>
    have ba := hb 0 a0 3 rfl rfl
    have bb := hb 1 b0 5 rfl rfl
    have bc := hb 2 c0 2000 rfl rfl
    have be := hb 3 e0 7 rfl rfl
    obtain ⟨a, rfl⟩ : ∃ a : Nat, a0 = (a : Int) := ⟨a0.toNat, by omega⟩
    obtain ⟨b, rfl⟩ : ∃ b : Nat, b0 = (b : Int) := ⟨b0.toNat, by omega⟩
    obtain ⟨e, rfl⟩ : ∃ e : Nat, e0 = (e : Int) := ⟨e0.toNat, by omega⟩
    refine ⟨_, rfl, l, ns, 1, rfl, Same.seq s01 hl, by decide, fun z1 => ?_⟩
    refine ⟨_, rfl, _, _, _, _, rfl, rfl, SqL.of hh, rfl, _, _, rfl, rfl, _, rfl, _, _, _, _, rfl, rfl, SqL.of hh, rfl, _, _, rfl, rfl, ?_⟩
    refine ⟨z1, a + 1, b + 1, ?_, ⟨by omega, by omega, by omega, by omega⟩, fun L A H2 s2 hR hA hw => ?_⟩
    · show [V.int z1, V.int (1 + (a : Int)), V.int (1 + (b : Int)), V.int 4] = _
      rw [show (1 : Int) + (a : Int) = ((a + 1 : Nat) : Int) from by omega, show (1 : Int) + (b : Int) = ((b + 1 : Nat) : Int) from by omega]
    refine ⟨_, rfl, made_mat ⟨by omega, by omega, by omega⟩ hR fun m H3 s3 hM => ?_⟩
    have hh3 := s3 _ _ (s2 _ _ hh)
    have hD : Dims (a + 1) (b + 1) A := ⟨by omega, by omega, by omega, by omega, fun i j hi _ => hA i j⟩
    have hA' : ∀ i j, i < a + 1 → (A i j).natAbs ≤ 4 := fun i j _ => hA i j
    obtain ⟨d1, d2, d3, d4, hbd⟩ := id hD
    refine ⟨_, rfl, _, _, _, _, rfl, rfl, SqL.of hh3, rfl, c0, rfl, bc.2, fun qp lp lq => ⟨size_ok (by show 7 ≤ 100000; decide), fun Pl nPl0 => ?_⟩⟩
    have nPl : H3 Pl = none := nPl0
    have sB := same_new (o := .lst [.int 0, .int 2, .int 3, .int 5, .int qp, .int 2, .int 0]) nPl
    have hP : (upd H3 Pl (.lst [.int 0, .int 2, .int 3, .int 5, .int qp, .int 2, .int 0])) Pl = some (.lst [.int 0, .int 2, .int 3, .int 5, .int qp, .int 2, .int 0]) := upd_same
    have hRB := (hR.same s3).same sB
    have hMB := hM.same sB
    have hhB := sB _ _ hh3
    generalize upd H3 Pl (.lst [.int 0, .int 2, .int 3, .int 5, .int qp, .int 2, .int 0]) = HB at *
    refine ⟨Pl, rfl, ⟨_, SqL.of hP⟩, for_list (xs := [.int 0, .int 2, .int 3, .int 5, .int qp, .int 2, .int 0]) (fun i σ H' => ∃ z4 z5 z6 z7, σ = [some (.ref l), some (.ref hd), some (.ref L), some (.ref m), z4, z5, z6, z7] ∧ Same HB H') ⟨_, _, _, _, rfl, Same.refl _⟩ ?_ ?_ ?_⟩
    · rintro i σ H' _ ⟨z4, z5, z6, z7, rfl, sH⟩
      exact SqL.of (sH _ _ hP)
    · rintro i x σ H' hx ⟨z4, z5, z6, z7, rfl, sH⟩
      obtain ⟨p, rfl, good, hp⟩ := chars_ok lp lq hx
      have lr : lrank p (a + 1) (b + 1) A ≤ b + 1 := lrank_le good.dom good.nn hp d2 hbd
      refine ⟨_, rfl, _, rfl, m, p, _, _, A, rfl, hp, hMB.same sH, hD, fun _ pt xs H1' npt st hpt lt => ?_, fun n => absurd good n⟩
      have sB1 := sH.trans st
      refine ⟨_, rfl, .ref pt, .ty "list", _, _, true, rfl, .ty "list", .base (.lst hpt), isL, true, rfl, iteF ?_⟩
      refine ⟨_, rfl, _, rfl, _, rfl, L, p, _, _, A, rfl, hp, good, hRB.same sB1, hD, hw, fun pb ys H2' npb sb hpb lb => ?_⟩
      refine ⟨dNs _, dNs _, dp_nats (sb _ _ hpt) (lt.same sb), dp_nats hpb lb, dNs_shaped _, dNs_shaped _, ?_⟩
      rw [dNs_eqv, decide_eq_true rfl]
      refine ⟨_, rfl, iteF ?_⟩
      have sB2 := sB1.trans sb
      refine ⟨_, rfl, _, rfl, m, p, _, _, A, rfl, hp, hMB.same sB2, hD, hA', fun _ pl zs H3' npl sl hpl ll => ?_, fun n => absurd good n⟩
      have sB3 := sB2.trans sl
      refine ⟨_, rfl, .ref pl, .ty "list", _, _, true, rfl, .ty "list", .base (.lst hpl), isL, true, rfl, iteF ?_⟩
      refine ⟨_, rfl, _, rfl, _, rfl, L, p, _, _, A, rfl, hp, good, hRB.same sB3, hD, fun pc ws H4 npc sc hpc lc => ?_⟩
      refine ⟨dNs _, dNs _, dp_nats (sc _ _ hpl) (ll.same sc), dp_nats hpc lc, dNs_shaped _, dNs_shaped _, ?_⟩
      rw [dNs_eqv, decide_eq_true rfl]
      refine ⟨_, rfl, iteF ?_⟩
      have sB4 := sB3.trans sc
      have hpt2 := sb _ _ hpt
      have hpt4 := sc _ _ (sl _ _ hpt2)
      have hpl4 := sc _ _ hpl
      have ptl : pt ≠ pl := ne_of_none hpt2 npl
      have xl : xs.length ≤ 32 := by
        rw [lt.len]
        exact bases_len d3 d4 lr
      have zl : zs.length ≤ 32 := by
        rw [ll.len]
        exact circs_len d3 d4
      -- told.append([99])
      refine ⟨_, rfl, .inl ⟨rfl, _, SqL.of hpt4⟩, size_ok (by show 1 ≤ 100000; decide), fun pn npn0 => ?_⟩
      have npn : H4 pn = none := npn0
      refine ⟨pt, xs, .ref pn, rfl, rfl, upd_new npn hpt4, size_lt (by omega), ?_⟩
      -- least.append([99])
      have npt0 : HB pt = none := sH.free npt
      have npl0 : HB pl = none := sB2.free npl
      have npn00 : HB pn = none := sB4.free npn
      have sB6 : Same HB (upd (upd H4 pn (.lst [.int 99])) pt (.lst (xs ++ [.ref pn]))) := same_upd (same_upd sB4 npn00) npt0
      have hpl6 : (upd (upd H4 pn (.lst [.int 99])) pt (.lst (xs ++ [.ref pn]))) pl = some (.lst zs) := by
        rw [upd_ne ptl.symm]
        exact upd_new npn hpl4
      have hpt6 : (upd (upd H4 pn (.lst [.int 99])) pt (.lst (xs ++ [.ref pn]))) pt = some (.lst (xs ++ [.ref pn])) := upd_same
      have first : ∃ q0 : Addr, (xs ++ [V.ref pn])[0]? = some (.ref q0) ∧ HB q0 = none ∧ IsL (upd (upd H4 pn (.lst [.int 99])) pt (.lst (xs ++ [.ref pn]))) q0 40 := by
        have l1 : (xs ++ [V.ref pn]).length ≤ 40 := by
          rw [List.length_append]
          show xs.length + 1 ≤ 40
          omega
        cases xs with
        | nil => exact ⟨pn, rfl, npn00, IsL.upd ⟨_, upd_same, by show 1 ≤ 40; decide⟩ l1⟩
        | cons x0 xs' =>
          obtain ⟨c, q0, hc, rfl, nq, hq⟩ := lt.at (i := 0) rfl
          have okc := chs_ok d3 d4 lr c (List.mem_filter.mp (List.mem_of_getElem? hc)).1
          have i1 : IsL H4 q0 40 := ⟨_, sc _ _ (sl _ _ (sb _ _ hq)), by rw [natL_len]; omega⟩
          exact ⟨q0, rfl, sH.free nq, (i1.upd (by show 1 ≤ 40; decide)).upd l1⟩
      generalize upd (upd H4 pn (.lst [.int 99])) pt (.lst (xs ++ [.ref pn])) = H6 at *
      obtain ⟨q0, hq0, nq0, iq0⟩ := first
      refine ⟨_, rfl, .inl ⟨rfl, _, SqL.of hpl6⟩, size_ok (by show 1 ≤ 100000; decide), fun pn2 npn20 => ?_⟩
      have npn2 : H6 pn2 = none := npn20
      refine ⟨pl, zs, .ref pn2, rfl, rfl, upd_new npn2 hpl6, size_lt (by omega), ?_⟩
      have sB8 : Same HB (upd (upd H6 pn2 (.lst [.int 99])) pl (.lst (zs ++ [.ref pn2]))) := same_upd (same_upd sB6 (sB6.free npn2)) npl0
      have hpt8 : (upd (upd H6 pn2 (.lst [.int 99])) pl (.lst (zs ++ [.ref pn2]))) pt = some (.lst (xs ++ [.ref pn])) := by
        rw [upd_ne ptl]
        exact upd_new npn2 hpt6
      have iq8 : IsL (upd (upd H6 pn2 (.lst [.int 99])) pl (.lst (zs ++ [.ref pn2]))) q0 40 := (iq0.upd (by show 1 ≤ 40; decide)).upd (by
        rw [List.length_append]
        show zs.length + 1 ≤ 40
        omega)
      generalize upd (upd H6 pn2 (.lst [.int 99])) pl (.lst (zs ++ [.ref pn2])) = H8 at *
      obtain ⟨vs, hvs, lvs⟩ := iq8
      -- told[0].append(5)
      refine ⟨_, rfl, _, _, _, _, rfl, rfl, SqL.of hpt8, atI_nat (j := 0) hq0, .inl ⟨rfl, _, SqL.of hvs⟩, q0, vs, .int 5, rfl, rfl, hvs, size_lt (by omega), ?_⟩
      exact ⟨_, _, _, _, rfl, same_upd sB8 nq0⟩
    · rintro σ H' ⟨z4, z5, z6, z7, rfl, sH⟩
      obtain ⟨pb, hpb, bad, lo, hi⟩ := bad_at e (by omega)
      refine ⟨_, rfl, _, rfl, size_ok (by show 7 ≤ 100000; decide), fun p5 np50 => ?_⟩
      have np5 : H' p5 = none := np50
      refine ⟨_, rfl, _, _, _, _, rfl, rfl, SqL.of (upd_new np5 (sH _ _ hhB)), rfl, _, _, _, _, rfl, rfl, SqL.of upd_same, hpb, ?_⟩
      have s5 := same_new (o := .lst [.int 1, .int 4, .int (-2), .int 9, .int (-1), .int 15, .int 100]) np5
      have hM5 := (hMB.same sH).same s5
      refine ⟨_, rfl, _, rfl, m, 0, pb, _, _, A, rfl, bad, ⟨lo, hi⟩, hM5, hD, hA', fun H7 s7 => ⟨true, rfl, iteT ?_⟩⟩
      exact ⟨_, rfl, _, rfl, m, 1, pb, _, _, A, rfl, bad, ⟨lo, hi⟩, hM5.same s7, hD, hA', fun H8 s8 => q H8⟩
end
end Wk
/-! Wk16: all parts put together (printed by gen_all.py). -/
namespace Wk
open PySem PySem.Spec PyProof.Rows L2 Ev
theorem exm_self {K : PySem.W.Frag} {S : Addr} (h1 : PySem.W.subIn K (.ref S) (.type "BaseException") = some true) (h2 : PySem.W.isClsIn K S = true) (h3 : PySem.W.typeIn K (.ref S) = some (.type "type")) (h4 : PySem.W.subIn K (.ref S) (.ref S) = some true) :
    PySem.W.exmOne K (.ref S) (.ref S) = some true := by
  have e1 : (PySem.W.subIn K (.ref S) (.type "BaseException") == some true) = true := by rw [h1] <;> rfl
  have e2 : ((PySem.W.clsIn K S).isSome && PySem.W.typeIn K (.ref S) == some (.type "type")) = true := by
    have h2' : (PySem.W.clsIn K S).isSome = true := h2
    rw [h2', h3] <;> rfl
  show (if (PySem.W.subIn K (.ref S) (.type "BaseException") == some true) = true then (if ((PySem.W.clsIn K S).isSome && PySem.W.typeIn K (.ref S) == some (.type "type")) = true then PySem.W.subIn K (.ref S) (.ref S) else none) else none) = some true
  rw [if_pos e1, if_pos e2]
  exact h4
theorem kwG_len {α : Type} {us ws : List α} (h : (kwG us ws).length = 2) : ∃ a b, us = [a] ∧ ws = [b] := by
  match us, ws with
  | [a], [b] => exact ⟨a, b, rfl, rfl⟩
  | [], _ => exact absurd h (by simp [kwG])
  | _ :: _ :: _, _ => exact absurd h (by simp [kwG])
  | [_], [] => exact absurd h (by simp [kwG])
  | [_], _ :: _ :: _ => exact absurd h (by simp [kwG])
theorem kwG_rel {vs zs : List V} {us ws : List Value} (r : Vals vs us) (q : Vals zs ws) : Vals (kwG vs zs) (kwG us ws) := by
  cases r with
  | nil => exact .nil
  | cons r1 r2 =>
    cases r2 with
    | nil =>
      cases q with
      | nil => exact .nil
      | cons q1 q2 =>
        cases q2 with
        | nil => exact .cons r1 (.cons q1 .nil)
        | cons _ _ => exact .nil
    | cons _ _ => exact .nil
/-- what the text's defs with a keyword bind -/
theorem kb_of {K : PySem.W.Frag} {fd : FuncData} (h : ∀ a b : Value, bindArgs fd ⟨[a], [(("p" : Str), b)]⟩ = pure [(("matrix" : Str), a), (("p" : Str), b)]) : KBinds K fd ["matrix", "p"] ["p"] kwG kwG :=
  ⟨fun s us ws _ hl => by
    obtain ⟨a, b, rfl, rfl⟩ := kwG_len hl
    exact .of_eq (h a b), fun r q => kwG_rel r q⟩
theorem all_mk {l : PySem.W.OpenLaw} {w : World} {K : PySem.W.Frag} {h : Heap} {mg : Str → Option Value} {fa : Addr} (X : K.In h) (G : h.Ns mainGlobals mg) (hfa : mg "law" = some (.ref fa))
    {f0 f1 f2 f3 f4 f5 f6 f7 f8 f9 f10 f11 f12 f13 f14 f15 f16 f17 f18 f19 f20 f21 f22 f23 f24 f25 f26 f27 CM CW m0 m1 m2 m3 m4 m5 m6 m7 p0 g0 p1 g1 CB fX cc cda : Addr} {oc0 kV0 dc0 pm0 cd0 ct0 oc1 kV1 dc1 pm1 cd1 ct1 oc2 kV2 dc2 pm2 cd2 ct2 oc3 kV3 dc3 pm3 cd3 ct3 oc4 kV4 dc4 pm4 cd4 ct4 oc5 kV5 dc5 pm5 cd5 ct5 oc6 kV6 dc6 pm6 cd6 ct6 oc7 kV7 dc7 pm7 cd7 ct7 oc8 kV8 dc8 pm8 cd8 ct8 oc9 kV9 dc9 pm9 cd9 ct9 oc10 kV10 dc10 pm10 cd10 ct10 oc11 kV11 dc11 pm11 cd11 ct11 oc12 kV12 dc12 pm12 cd12 ct12 oc13 kV13 dc13 pm13 cd13 ct13 oc14 kV14 dc14 pm14 cd14 ct14 oc15 kV15 dc15 pm15 cd15 ct15 oc16 kV16 dc16 pm16 cd16 ct16 oc17 kV17 dc17 pm17 cd17 ct17 oc18 kV18 dc18 pm18 cd18 ct18 oc19 kV19 dc19 pm19 cd19 ct19 oc20 kV20 dc20 pm20 cd20 ct20 oc21 kV21 dc21 pm21 cd21 ct21 oc22 kV22 dc22 pm22 cd22 ct22 oc23 kV23 dc23 pm23 cd23 ct23 oc24 kV24 dc24 pm24 cd24 ct24 oc25 kV25 dc25 pm25 cd25 ct25 oc26 kV26 dc26 pm26 cd26 ct26 oc27 kV27 dc27 pm27 cd27 ct27 ocm0 kVm0 dcm0 pmm0 cdm0 ctm0 ocm1 kVm1 dcm1 pmm1 cdm1 ctm1 ocm2 kVm2 dcm2 pmm2 cdm2 ctm2 ocm3 kVm3 dcm3 pmm3 cdm3 ctm3 ocm4 kVm4 dcm4 pmm4 cdm4 ctm4 ocm5 kVm5 dcm5 pmm5 cdm5 ctm5 ocm6 kVm6 dcm6 pmm6 cdm6 ctm6 ocm7 kVm7 dcm7 pmm7 cdm7 ctm7 ocg0 kVg0 dcg0 pmg0 cdg0 ctg0 ocg1 kVg1 dcg1 pmg1 cdg1 ctg1 ocB kVB dcB pmB ctB ccl clB : Value} {od0 an0 od1 an1 od2 an2 od3 an3 od4 an4 od5 an5 od6 an6 od7 an7 od8 an8 od9 an9 od10 an10 od11 an11 od12 an12 od13 an13 od14 an14 od15 an15 od16 an16 od17 an17 od18 an18 od19 an19 od20 an20 od21 an21 od22 an22 od23 an23 od24 an24 od25 an25 od26 an26 od27 an27 odm0 anm0 odm1 anm1 odm2 anm2 odm3 anm3 odm4 anm4 odm5 anm5 odm6 anm6 odm7 anm7 odg0 ang0 odg1 ang1 odB anB cdd cldB dd : Option Addr} {sl0 sl1 sl2 sl3 sl4 sl5 sl6 sl7 sl8 sl9 sl10 sl11 sl12 sl13 sl14 sl15 sl16 sl17 sl18 sl19 sl20 sl21 sl22 sl23 sl24 sl25 sl26 sl27 slm0 slm1 slm2 slm3 slm4 slm5 slm6 slm7 slg0 slg1 slB ccs cslB : Array (Option Value)} {rs0 rs1 bs bm sub : List Value} {nm qn file : Str} {NB : Addr} {sn : List Str} {ab : Bool} {col : Option Bool} {e0 e1 e2 e3 e5 : Option Value} {vsB : Array Value} {tf : Tok}
    (a0 : PySem.W.nsIn K mainGlobals "is_prime" = some (some (.ref f0)))
    (l0 : K.lookup f0 = some ⟨oc0, od0, .func (PySem.W.fnOf "is_prime" "is_prime" (defArgs sIsPrime) (defBody sIsPrime) (defScope sIsPrime) .none kV0 dc0 pm0 an0 cd0 ct0), sl0⟩)
    (c0 : PySem.W.codeIn K cd0 "is_prime" = true)
    (k0 : PySem.W.keepIn K (.ref f0) = true)
    (a1 : PySem.W.nsIn K mainGlobals "checked" = some (some (.ref f1)))
    (l1 : K.lookup f1 = some ⟨oc1, od1, .func (PySem.W.fnOf "checked" "checked" (defArgs sChecked) (defBody sChecked) (defScope sChecked) .none kV1 dc1 pm1 an1 cd1 ct1), sl1⟩)
    (c1 : PySem.W.codeIn K cd1 "checked" = true)
    (k1 : PySem.W.keepIn K (.ref f1) = true)
    (a2 : PySem.W.nsIn K mainGlobals "is_zero" = some (some (.ref f2)))
    (l2 : K.lookup f2 = some ⟨oc2, od2, .func (PySem.W.fnOf "is_zero" "is_zero" (defArgs sIsZero) (defBody sIsZero) (defScope sIsZero) .none kV2 dc2 pm2 an2 cd2 ct2), sl2⟩)
    (c2 : PySem.W.codeIn K cd2 "is_zero" = true)
    (k2 : PySem.W.keepIn K (.ref f2) = true)
    (a3 : PySem.W.nsIn K mainGlobals "choices" = some (some (.ref f3)))
    (l3 : K.lookup f3 = some ⟨oc3, od3, .func (PySem.W.fnOf "choices" "choices" (defArgs sChoices) (defBody sChoices) (defScope sChoices) .none kV3 dc3 pm3 an3 cd3 ct3), sl3⟩)
    (c3 : PySem.W.codeIn K cd3 "choices" = true)
    (k3 : PySem.W.keepIn K (.ref f3) = true)
    (a4 : PySem.W.nsIn K mainGlobals "added_row" = some (some (.ref f4)))
    (l4 : K.lookup f4 = some ⟨oc4, od4, .func (PySem.W.fnOf "added_row" "added_row" (defArgs sAddedRow) (defBody sAddedRow) (defScope sAddedRow) .none kV4 dc4 pm4 an4 cd4 ct4), sl4⟩)
    (c4 : PySem.W.codeIn K cd4 "added_row" = true)
    (k4 : PySem.W.keepIn K (.ref f4) = true)
    (a5 : PySem.W.nsIn K mainGlobals "added_column" = some (some (.ref f5)))
    (l5 : K.lookup f5 = some ⟨oc5, od5, .func (PySem.W.fnOf "added_column" "added_column" (defArgs sAddedColumn) (defBody sAddedColumn) (defScope sAddedColumn) .none kV5 dc5 pm5 an5 cd5 ct5), sl5⟩)
    (c5 : PySem.W.codeIn K cd5 "added_column" = true)
    (k5 : PySem.W.keepIn K (.ref f5) = true)
    (a6 : PySem.W.nsIn K mainGlobals "exchanged_columns" = some (some (.ref f6)))
    (l6 : K.lookup f6 = some ⟨oc6, od6, .func (PySem.W.fnOf "exchanged_columns" "exchanged_columns" (defArgs sExchangedColumns) (defBody sExchangedColumns) (defScope sExchangedColumns) .none kV6 dc6 pm6 an6 cd6 ct6), sl6⟩)
    (c6 : PySem.W.codeIn K cd6 "exchanged_columns" = true)
    (k6 : PySem.W.keepIn K (.ref f6) = true)
    (a7 : PySem.W.nsIn K mainGlobals "diagonal" = some (some (.ref f7)))
    (l7 : K.lookup f7 = some ⟨oc7, od7, .func (PySem.W.fnOf "diagonal" "diagonal" (defArgs sDiagonal) (defBody sDiagonal) (defScope sDiagonal) .none kV7 dc7 pm7 an7 cd7 ct7), sl7⟩)
    (c7 : PySem.W.codeIn K cd7 "diagonal" = true)
    (k7 : PySem.W.keepIn K (.ref f7) = true)
    (a8 : PySem.W.nsIn K mainGlobals "divisors" = some (some (.ref f8)))
    (l8 : K.lookup f8 = some ⟨oc8, od8, .func (PySem.W.fnOf "divisors" "divisors" (defArgs sDivisors) (defBody sDivisors) (defScope sDivisors) .none kV8 dc8 pm8 an8 cd8 ct8), sl8⟩)
    (c8 : PySem.W.codeIn K cd8 "divisors" = true)
    (k8 : PySem.W.keepIn K (.ref f8) = true)
    (a9 : PySem.W.nsIn K mainGlobals "count_units" = some (some (.ref f9)))
    (l9 : K.lookup f9 = some ⟨oc9, od9, .func (PySem.W.fnOf "count_units" "count_units" (defArgs sCountUnits) (defBody sCountUnits) (defScope sCountUnits) .none kV9 dc9 pm9 an9 cd9 ct9), sl9⟩)
    (c9 : PySem.W.codeIn K cd9 "count_units" = true)
    (k9 : PySem.W.keepIn K (.ref f9) = true)
    (a10 : PySem.W.nsIn K mainGlobals "rank" = some (some (.ref f10)))
    (l10 : K.lookup f10 = some ⟨oc10, od10, .func (PySem.W.fnOf "rank" "rank" (defArgs sRank) (defBody sRank) (defScope sRank) .none kV10 dc10 pm10 an10 cd10 ct10), sl10⟩)
    (c10 : PySem.W.codeIn K cd10 "rank" = true)
    (k10 : PySem.W.keepIn K (.ref f10) = true)
    (a11 : PySem.W.nsIn K mainGlobals "column_part" = some (some (.ref f11)))
    (l11 : K.lookup f11 = some ⟨oc11, od11, .func (PySem.W.fnOf "column_part" "column_part" (defArgs sColumnPart) (defBody sColumnPart) (defScope sColumnPart) .none kV11 dc11 pm11 an11 cd11 ct11), sl11⟩)
    (c11 : PySem.W.codeIn K cd11 "column_part" = true)
    (k11 : PySem.W.keepIn K (.ref f11) = true)
    (a12 : PySem.W.nsIn K mainGlobals "rank_of" = some (some (.ref f12)))
    (l12 : K.lookup f12 = some ⟨oc12, od12, .func (PySem.W.fnOf "rank_of" "rank_of" (defArgs sRankOf) (defBody sRankOf) (defScope sRankOf) .none kV12 dc12 pm12 an12 cd12 ct12), sl12⟩)
    (c12 : PySem.W.codeIn K cd12 "rank_of" = true)
    (k12 : PySem.W.keepIn K (.ref f12) = true)
    (a13 : PySem.W.nsIn K mainGlobals "all_columns" = some (some (.ref f13)))
    (l13 : K.lookup f13 = some ⟨oc13, od13, .func (PySem.W.fnOf "all_columns" "all_columns" (defArgs sAllColumns) (defBody sAllColumns) (defScope sAllColumns) .none kV13 dc13 pm13 an13 cd13 ct13), sl13⟩)
    (c13 : PySem.W.codeIn K cd13 "all_columns" = true)
    (k13 : PySem.W.keepIn K (.ref f13) = true)
    (a14 : PySem.W.nsIn K mainGlobals "bases" = some (some (.ref f14)))
    (l14 : K.lookup f14 = some ⟨oc14, od14, .func (PySem.W.fnOf "bases" "bases" (defArgs sBases) (defBody sBases) (defScope sBases) .none kV14 dc14 pm14 an14 cd14 ct14), sl14⟩)
    (c14 : PySem.W.codeIn K cd14 "bases" = true)
    (k14 : PySem.W.keepIn K (.ref f14) = true)
    (a15 : PySem.W.nsIn K mainGlobals "circuits" = some (some (.ref f15)))
    (l15 : K.lookup f15 = some ⟨oc15, od15, .func (PySem.W.fnOf "circuits" "circuits" (defArgs sCircuits) (defBody sCircuits) (defScope sCircuits) .none kV15 dc15 pm15 an15 cd15 ct15), sl15⟩)
    (c15 : PySem.W.codeIn K cd15 "circuits" = true)
    (k15 : PySem.W.keepIn K (.ref f15) = true)
    (a16 : PySem.W.nsIn K mainGlobals "_law_cell" = some (some (.ref f16)))
    (l16 : K.lookup f16 = some ⟨oc16, od16, .func (PySem.W.fnOf "_law_cell" "_law_cell" (defArgs sLawCell) (defBody sLawCell) (defScope sLawCell) .none kV16 dc16 pm16 an16 cd16 ct16), sl16⟩)
    (c16 : PySem.W.codeIn K cd16 "_law_cell" = true)
    (k16 : PySem.W.keepIn K (.ref f16) = true)
    (a17 : PySem.W.nsIn K mainGlobals "_law_draws" = some (some (.ref f17)))
    (l17 : K.lookup f17 = some ⟨oc17, od17, .func (PySem.W.fnOf "_law_draws" "_law_draws" (defArgs sLawDraws) (defBody sLawDraws) (defScope sLawDraws) .none kV17 dc17 pm17 an17 cd17 ct17), sl17⟩)
    (c17 : PySem.W.codeIn K cd17 "_law_draws" = true)
    (k17 : PySem.W.keepIn K (.ref f17) = true)
    (a18 : PySem.W.nsIn K mainGlobals "_law_is_prime" = some (some (.ref f18)))
    (l18 : K.lookup f18 = some ⟨oc18, od18, .func (PySem.W.fnOf "_law_is_prime" "_law_is_prime" (defArgs sLawIsPrime) (defBody sLawIsPrime) (defScope sLawIsPrime) .none kV18 dc18 pm18 an18 cd18 ct18), sl18⟩)
    (c18 : PySem.W.codeIn K cd18 "_law_is_prime" = true)
    (k18 : PySem.W.keepIn K (.ref f18) = true)
    (a19 : PySem.W.nsIn K mainGlobals "_law_prime_from" = some (some (.ref f19)))
    (l19 : K.lookup f19 = some ⟨oc19, od19, .func (PySem.W.fnOf "_law_prime_from" "_law_prime_from" (defArgs sLawPrimeFrom) (defBody sLawPrimeFrom) (defScope sLawPrimeFrom) .none kV19 dc19 pm19 an19 cd19 ct19), sl19⟩)
    (c19 : PySem.W.codeIn K cd19 "_law_prime_from" = true)
    (k19 : PySem.W.keepIn K (.ref f19) = true)
    (a20 : PySem.W.nsIn K mainGlobals "_law_less" = some (some (.ref f20)))
    (l20 : K.lookup f20 = some ⟨oc20, od20, .func (PySem.W.fnOf "_law_less" "_law_less" (defArgs sLawLess) (defBody sLawLess) (defScope sLawLess) .none kV20 dc20 pm20 an20 cd20 ct20), sl20⟩)
    (c20 : PySem.W.codeIn K cd20 "_law_less" = true)
    (k20 : PySem.W.keepIn K (.ref f20) = true)
    (a21 : PySem.W.nsIn K mainGlobals "_law_rank" = some (some (.ref f21)))
    (l21 : K.lookup f21 = some ⟨oc21, od21, .func (PySem.W.fnOf "_law_rank" "_law_rank" (defArgs sLawRank) (defBody sLawRank) (defScope sLawRank) .none kV21 dc21 pm21 an21 cd21 ct21), sl21⟩)
    (c21 : PySem.W.codeIn K cd21 "_law_rank" = true)
    (k21 : PySem.W.keepIn K (.ref f21) = true)
    (a22 : PySem.W.nsIn K mainGlobals "_law_lists" = some (some (.ref f22)))
    (l22 : K.lookup f22 = some ⟨oc22, od22, .func (PySem.W.fnOf "_law_lists" "_law_lists" (defArgs sLawLists) (defBody sLawLists) (defScope sLawLists) .none kV22 dc22 pm22 an22 cd22 ct22), sl22⟩)
    (c22 : PySem.W.codeIn K cd22 "_law_lists" = true)
    (k22 : PySem.W.keepIn K (.ref f22) = true)
    (a23 : PySem.W.nsIn K mainGlobals "_law_bases" = some (some (.ref f23)))
    (l23 : K.lookup f23 = some ⟨oc23, od23, .func (PySem.W.fnOf "_law_bases" "_law_bases" (defArgs sLawBases) (defBody sLawBases) (defScope sLawBases) .none kV23 dc23 pm23 an23 cd23 ct23), sl23⟩)
    (c23 : PySem.W.codeIn K cd23 "_law_bases" = true)
    (k23 : PySem.W.keepIn K (.ref f23) = true)
    (a24 : PySem.W.nsIn K mainGlobals "_law_rows" = some (some (.ref f24)))
    (l24 : K.lookup f24 = some ⟨oc24, od24, .func (PySem.W.fnOf "_law_rows" "_law_rows" (defArgs sLawRows) (defBody sLawRows) (defScope sLawRows) .none kV24 dc24 pm24 an24 cd24 ct24), sl24⟩)
    (c24 : PySem.W.codeIn K cd24 "_law_rows" = true)
    (k24 : PySem.W.keepIn K (.ref f24) = true)
    (a25 : PySem.W.nsIn K mainGlobals "_law_circuits" = some (some (.ref f25)))
    (l25 : K.lookup f25 = some ⟨oc25, od25, .func (PySem.W.fnOf "_law_circuits" "_law_circuits" (defArgs sLawCircuits) (defBody sLawCircuits) (defScope sLawCircuits) .none kV25 dc25 pm25 an25 cd25 ct25), sl25⟩)
    (c25 : PySem.W.codeIn K cd25 "_law_circuits" = true)
    (k25 : PySem.W.keepIn K (.ref f25) = true)
    (a26 : PySem.W.nsIn K mainGlobals "_law_refused" = some (some (.ref f26)))
    (l26 : K.lookup f26 = some ⟨oc26, od26, .func (PySem.W.fnOf "_law_refused" "_law_refused" (defArgs sLawRefused) (defBody sLawRefused) (defScope sLawRefused) .none kV26 dc26 pm26 an26 cd26 ct26), sl26⟩)
    (c26 : PySem.W.codeIn K cd26 "_law_refused" = true)
    (k26 : PySem.W.keepIn K (.ref f26) = true)
    (a27 : PySem.W.nsIn K mainGlobals "law" = some (some (.ref f27)))
    (l27 : K.lookup f27 = some ⟨oc27, od27, .func (PySem.W.fnOf "law" "law" (defArgs sLaw) (defBody sLaw) (defScope sLaw) .none kV27 dc27 pm27 an27 cd27 ct27), sl27⟩)
    (c27 : PySem.W.codeIn K cd27 "law" = true)
    (k27 : PySem.W.keepIn K (.ref f27) = true)
    (aCM : PySem.W.nsIn K mainGlobals "Matrix" = some (some (.ref CM)))
    (pgM : PySem.W.plainGet K CM Str.empty = true)
    (hdM : PySem.W.hasDictIn K CM = true)
    (poM : PySem.W.plainOver K CM = true)
    (saM : PySem.W.findIn K (.ref CM) "__setattr__" = some (some (.builtin "object.__setattr__")))
    (mkM : PySem.W.makesIn K CM = true)
    (kcM : PySem.W.keepIn K (.ref CM) = true)
    (nMrows : PySem.W.findIn K (.ref CM) "rows" = some none)
    (nMheight : PySem.W.findIn K (.ref CM) "height" = some none)
    (nMwidth : PySem.W.findIn K (.ref CM) "width" = some none)
    (aCW : PySem.W.nsIn K mainGlobals "Work" = some (some (.ref CW)))
    (pgW : PySem.W.plainGet K CW Str.empty = true)
    (hdW : PySem.W.hasDictIn K CW = true)
    (poW : PySem.W.plainOver K CW = true)
    (saW : PySem.W.findIn K (.ref CW) "__setattr__" = some (some (.builtin "object.__setattr__")))
    (mkW : PySem.W.makesIn K CW = true)
    (kcW : PySem.W.keepIn K (.ref CW) = true)
    (nWfirst : PySem.W.findIn K (.ref CW) "first" = some none)
    (nWmiddle : PySem.W.findIn K (.ref CW) "middle" = some none)
    (nWlast : PySem.W.findIn K (.ref CW) "last" = some none)
    (am0 : PySem.W.findIn K (.ref CM) "__init__" = some (some (.ref m0)))
    (im0 : PySem.W.isFn K (.ref m0) = true)
    (lm0 : K.lookup m0 = some ⟨ocm0, odm0, .func (PySem.W.fnOf "__init__" "Matrix.__init__" (defArgs sMatrixInit) (defBody sMatrixInit) (defScope sMatrixInit) .none kVm0 dcm0 pmm0 anm0 cdm0 ctm0), slm0⟩)
    (cm0 : PySem.W.codeIn K cdm0 "Matrix.__init__" = true)
    (km0 : PySem.W.keepIn K (.ref m0) = true)
    (am1 : PySem.W.findIn K (.ref CM) "part" = some (some (.ref m1)))
    (im1 : PySem.W.isFn K (.ref m1) = true)
    (lm1 : K.lookup m1 = some ⟨ocm1, odm1, .func (PySem.W.fnOf "part" "Matrix.part" (defArgs sMatrixPart) (defBody sMatrixPart) (defScope sMatrixPart) .none kVm1 dcm1 pmm1 anm1 cdm1 ctm1), slm1⟩)
    (cm1 : PySem.W.codeIn K cdm1 "Matrix.part" = true)
    (km1 : PySem.W.keepIn K (.ref m1) = true)
    (am2 : PySem.W.findIn K (.ref CW) "__init__" = some (some (.ref m2)))
    (im2 : PySem.W.isFn K (.ref m2) = true)
    (lm2 : K.lookup m2 = some ⟨ocm2, odm2, .func (PySem.W.fnOf "__init__" "Work.__init__" (defArgs sWorkInit) (defBody sWorkInit) (defScope sWorkInit) .none kVm2 dcm2 pmm2 anm2 cdm2 ctm2), slm2⟩)
    (cm2 : PySem.W.codeIn K cdm2 "Work.__init__" = true)
    (km2 : PySem.W.keepIn K (.ref m2) = true)
    (am3 : PySem.W.findIn K (.ref CW) "least_place" = some (some (.ref m3)))
    (im3 : PySem.W.isFn K (.ref m3) = true)
    (lm3 : K.lookup m3 = some ⟨ocm3, odm3, .func (PySem.W.fnOf "least_place" "Work.least_place" (defArgs sWorkLeastPlace) (defBody sWorkLeastPlace) (defScope sWorkLeastPlace) .none kVm3 dcm3 pmm3 anm3 cdm3 ctm3), slm3⟩)
    (cm3 : PySem.W.codeIn K cdm3 "Work.least_place" = true)
    (km3 : PySem.W.keepIn K (.ref m3) = true)
    (am4 : PySem.W.findIn K (.ref CW) "bring" = some (some (.ref m4)))
    (im4 : PySem.W.isFn K (.ref m4) = true)
    (lm4 : K.lookup m4 = some ⟨ocm4, odm4, .func (PySem.W.fnOf "bring" "Work.bring" (defArgs sWorkBring) (defBody sWorkBring) (defScope sWorkBring) .none kVm4 dcm4 pmm4 anm4 cdm4 ctm4), slm4⟩)
    (cm4 : PySem.W.codeIn K cdm4 "Work.bring" = true)
    (km4 : PySem.W.keepIn K (.ref m4) = true)
    (am5 : PySem.W.findIn K (.ref CW) "clear" = some (some (.ref m5)))
    (im5 : PySem.W.isFn K (.ref m5) = true)
    (lm5 : K.lookup m5 = some ⟨ocm5, odm5, .func (PySem.W.fnOf "clear" "Work.clear" (defArgs sWorkClear) (defBody sWorkClear) (defScope sWorkClear) .none kVm5 dcm5 pmm5 anm5 cdm5 ctm5), slm5⟩)
    (cm5 : PySem.W.codeIn K cdm5 "Work.clear" = true)
    (km5 : PySem.W.keepIn K (.ref m5) = true)
    (am6 : PySem.W.findIn K (.ref CW) "spread" = some (some (.ref m6)))
    (im6 : PySem.W.isFn K (.ref m6) = true)
    (lm6 : K.lookup m6 = some ⟨ocm6, odm6, .func (PySem.W.fnOf "spread" "Work.spread" (defArgs sWorkSpread) (defBody sWorkSpread) (defScope sWorkSpread) .none kVm6 dcm6 pmm6 anm6 cdm6 ctm6), slm6⟩)
    (cm6 : PySem.W.codeIn K cdm6 "Work.spread" = true)
    (km6 : PySem.W.keepIn K (.ref m6) = true)
    (am7 : PySem.W.findIn K (.ref CW) "turn_sign" = some (some (.ref m7)))
    (im7 : PySem.W.isFn K (.ref m7) = true)
    (lm7 : K.lookup m7 = some ⟨ocm7, odm7, .func (PySem.W.fnOf "turn_sign" "Work.turn_sign" (defArgs sWorkTurnSign) (defBody sWorkTurnSign) (defScope sWorkTurnSign) .none kVm7 dcm7 pmm7 anm7 cdm7 ctm7), slm7⟩)
    (cm7 : PySem.W.codeIn K cdm7 "Work.turn_sign" = true)
    (km7 : PySem.W.keepIn K (.ref m7) = true)
    (rdM : PySem.W.readsIn K CM (.type "type") = true)
    (gaM : PySem.W.specialIn K (.ref CM) "__getattribute__" = some (some (.builtin "type.__getattribute__")))
    (at0 : PySem.W.findCls K (.ref CM) (.type "type") "unit" = some (.get (.builtin "classmethod.__get__") (.ref p0) .none (.ref CM)))
    (rc0 : PySem.W.recIn K p0 "classmethod" = some (.ref g0 :: rs0))
    (fi0 : PySem.W.fnIn K g0 = true)
    (lg0 : K.lookup g0 = some ⟨ocg0, odg0, .func (PySem.W.fnOf "unit" "Matrix.unit" (defArgs sMatrixUnit) (defBody sMatrixUnit) (defScope sMatrixUnit) .none kVg0 dcg0 pmg0 ang0 cdg0 ctg0), slg0⟩)
    (cg0 : PySem.W.codeIn K cdg0 "Matrix.unit" = true)
    (kg0 : PySem.W.keepIn K (.ref g0) = true)
    (at1 : PySem.W.findCls K (.ref CM) (.type "type") "diagonal" = some (.get (.builtin "classmethod.__get__") (.ref p1) .none (.ref CM)))
    (rc1 : PySem.W.recIn K p1 "classmethod" = some (.ref g1 :: rs1))
    (fi1 : PySem.W.fnIn K g1 = true)
    (lg1 : K.lookup g1 = some ⟨ocg1, odg1, .func (PySem.W.fnOf "diagonal" "Matrix.diagonal" (defArgs sMatrixDiagonal) (defBody sMatrixDiagonal) (defScope sMatrixDiagonal) .none kVg1 dcg1 pmg1 ang1 cdg1 ctg1), slg1⟩)
    (cg1 : PySem.W.codeIn K cdg1 "Matrix.diagonal" = true)
    (kg1 : PySem.W.keepIn K (.ref g1) = true)
    (z_len : PySem.W.nsIn K mainGlobals "len" = some none)
    (z_abs : PySem.W.nsIn K mainGlobals "abs" = some none)
    (z_any : PySem.W.nsIn K mainGlobals "any" = some none)
    (z_all : PySem.W.nsIn K mainGlobals "all" = some none)
    (z_list : PySem.W.nsIn K mainGlobals "list" = some none)
    (z_tuple : PySem.W.nsIn K mainGlobals "tuple" = some none)
    (z_int : PySem.W.nsIn K mainGlobals "int" = some none)
    (z_max : PySem.W.nsIn K mainGlobals "max" = some none)
    (z_min : PySem.W.nsIn K mainGlobals "min" = some none)
    (z_sorted : PySem.W.nsIn K mainGlobals "sorted" = some none)
    (z_range : PySem.W.nsIn K mainGlobals "range" = some none)
    (z_zip : PySem.W.nsIn K mainGlobals "zip" = some none)
    (z_enumerate : PySem.W.nsIn K mainGlobals "enumerate" = some none)
    (z_isinstance : PySem.W.nsIn K mainGlobals "isinstance" = some none)
    (aB : PySem.W.nsIn K mainGlobals "BadCharacteristic" = some (some (.ref CB)))
    (xB : K.lookup CB = some (excClassObj nm qn CB NB bs bm true sn sub ab col dd e0 e1 e2 e3 e5 "ValueError.__new__"))
    (rB : PySem.HandSPX.refsVE bm = true)
    (saB : PySem.W.findIn K (.ref CB) "__setattr__" = some (some (.builtin "object.__setattr__")))
    (gaB : PySem.W.findIn K (.ref CB) "__getattribute__" = some (some (.builtin "BaseException.__getattribute__")))
    (ggB : PySem.W.findIn K (.ref CB) "__getattr__" = some none)
    (npB : PySem.W.findIn K (.ref CB) "p" = some none)
    (iB : PySem.W.findIn K (.ref CB) "__init__" = some (some (.ref fX)))
    (tB : PySem.W.typeIn K (.ref fX) = some (.type "function"))
    (kB : PySem.W.keepIn K (.ref CB) = true)
    (eB : PySem.W.subIn K (.ref CB) (.type "BaseException") = some true)
    (tyB : PySem.W.typeIn K (.ref CB) = some (.type "type"))
    (hdB : PySem.W.hasDictIn K CB = true)
    (icB : PySem.W.isClsIn K CB = true)
    (sB : PySem.W.subIn K (.ref CB) (.ref CB) = some true)
    (lB : K.lookup fX = some ⟨ocB, odB, .func (PySem.W.ksFn "__init__" "BadCharacteristic.__init__" (defArgs PySem.BadX.sBad) (defBody PySem.BadX.sBad) (defScope PySem.BadX.sBad) .none kVB dcB pmB anB (.ref cda) ctB cc), slB⟩)
    (cB : PySem.W.codeIn K (.ref cda) "BadCharacteristic.__init__" = true)
    (ldB : K.lookup cda = some ⟨ccl, cdd, .fields vsB, ccs⟩)
    (vB : vsB[2]? = some (.str file tf))
    (flB : ((l.prog.main.file : Str) == file) = true)
    (lcB : K.lookup cc = some ⟨clB, cldB, .cell (some (.ref CB)), cslB⟩)
    (supB : PySem.W.nsIn K mainGlobals "super" = some none)
    (topB : (l.prog.main.scope.names.lookup ("super" : Str)).isSome = false)
    (suB : PySem.W.ks_superIn K CB CB "__init__" = some (some (.builtin "ValueError.__init__")))
    (veB : PySem.W.subIn K (.ref CB) (.type "ValueError") = some true)
    (mrB : PySem.W.mroIn K CB (.ref CB) = some true)
    (opB : PySem.W.nsIn K cStatics "thirdparty.any" = some none) :
    ∃ fd : FuncData, (∀ (s : Shared) (v : Value), BindsTo s fd ⟨[v], []⟩ [("_law_script", v)]) ∧ ∀ base : Heap, K.In base → base.Ns mainGlobals mg → FnOk l.prog w K mg base CX0 13 fa fd ["_law_script"] (spLaw K) := by
  have e := hfa.symm.trans (PySem.W.mg_of X G a27)
  cases e
  have isL : PySem.W.kitOne K (.type "list") (.type "list") = some true := if_pos (beq_self_eq_true _)
  have T : Blt mg := ⟨PySem.W.mg_none_of X G z_len, PySem.W.mg_none_of X G z_abs, PySem.W.mg_none_of X G z_any, PySem.W.mg_none_of X G z_all, PySem.W.mg_none_of X G z_list, PySem.W.mg_none_of X G z_tuple, PySem.W.mg_none_of X G z_int, PySem.W.mg_none_of X G z_max, PySem.W.mg_none_of X G z_min, PySem.W.mg_none_of X G z_sorted, PySem.W.mg_none_of X G z_range, PySem.W.mg_none_of X G z_zip, PySem.W.mg_none_of X G z_enumerate, PySem.W.mg_none_of X G z_isinstance⟩
  have F0 := fun_mk (st := sIsPrime) l0 c0 k0
  have C0 : Cal K mg "is_prime" sIsPrime ["n"] f0 _ := ⟨F0, F0.binds fun _ _ _ _ _ _ us hl => match us, hl with | [_], _ => rfl, PySem.W.mg_of X G a0⟩
  have F1 := fun_mk (st := sChecked) l1 c1 k1
  have C1 : Cal K mg "checked" sChecked ["p"] f1 _ := ⟨F1, F1.binds fun _ _ _ _ _ _ us hl => match us, hl with | [_], _ => rfl, PySem.W.mg_of X G a1⟩
  have F2 := fun_mk (st := sIsZero) l2 c2 k2
  have C2 : Cal K mg "is_zero" sIsZero ["n", "p"] f2 _ := ⟨F2, F2.binds fun _ _ _ _ _ _ us hl => match us, hl with | [_, _], _ => rfl, PySem.W.mg_of X G a2⟩
  have F3 := fun_mk (st := sChoices) l3 c3 k3
  have C3 : Cal K mg "choices" sChoices ["many", "size"] f3 _ := ⟨F3, F3.binds fun _ _ _ _ _ _ us hl => match us, hl with | [_, _], _ => rfl, PySem.W.mg_of X G a3⟩
  have F4 := fun_mk (st := sAddedRow) l4 c4 k4
  have C4 : Cal K mg "added_row" sAddedRow ["rows", "target", "source", "factor"] f4 _ := ⟨F4, F4.binds fun _ _ _ _ _ _ us hl => match us, hl with | [_, _, _, _], _ => rfl, PySem.W.mg_of X G a4⟩
  have F5 := fun_mk (st := sAddedColumn) l5 c5 k5
  have C5 : Cal K mg "added_column" sAddedColumn ["rows", "target", "source", "factor"] f5 _ := ⟨F5, F5.binds fun _ _ _ _ _ _ us hl => match us, hl with | [_, _, _, _], _ => rfl, PySem.W.mg_of X G a5⟩
  have F6 := fun_mk (st := sExchangedColumns) l6 c6 k6
  have C6 : Cal K mg "exchanged_columns" sExchangedColumns ["rows", "first", "second"] f6 _ := ⟨F6, F6.binds fun _ _ _ _ _ _ us hl => match us, hl with | [_, _, _], _ => rfl, PySem.W.mg_of X G a6⟩
  have F7 := fun_mk (st := sDiagonal) l7 c7 k7
  have C7 : Cal K mg "diagonal" sDiagonal ["matrix"] f7 _ := ⟨F7, F7.binds fun _ _ _ _ _ _ us hl => match us, hl with | [_], _ => rfl, PySem.W.mg_of X G a7⟩
  have F8 := fun_mk (st := sDivisors) l8 c8 k8
  have C8 : Cal K mg "divisors" sDivisors ["matrix"] f8 _ := ⟨F8, F8.binds fun _ _ _ _ _ _ us hl => match us, hl with | [_], _ => rfl, PySem.W.mg_of X G a8⟩
  have F9 := fun_mk (st := sCountUnits) l9 c9 k9
  have C9 : Cal K mg "count_units" sCountUnits ["numbers", "p"] f9 _ := ⟨F9, F9.binds fun _ _ _ _ _ _ us hl => match us, hl with | [_, _], _ => rfl, PySem.W.mg_of X G a9⟩
  have F10 := fun_mk (st := sRank) l10 c10 k10
  have C10 : CalK K mg "rank" sRank f10 _ := ⟨F10, kb_of fun a b => rfl, PySem.W.mg_of X G a10⟩
  have F11 := fun_mk (st := sColumnPart) l11 c11 k11
  have C11 : Cal K mg "column_part" sColumnPart ["matrix", "columns"] f11 _ := ⟨F11, F11.binds fun _ _ _ _ _ _ us hl => match us, hl with | [_, _], _ => rfl, PySem.W.mg_of X G a11⟩
  have F12 := fun_mk (st := sRankOf) l12 c12 k12
  have C12 : Cal K mg "rank_of" sRankOf ["matrix", "columns", "p"] f12 _ := ⟨F12, F12.binds fun _ _ _ _ _ _ us hl => match us, hl with | [_, _, _], _ => rfl, PySem.W.mg_of X G a12⟩
  have F13 := fun_mk (st := sAllColumns) l13 c13 k13
  have C13 : Cal K mg "all_columns" sAllColumns ["matrix"] f13 _ := ⟨F13, F13.binds fun _ _ _ _ _ _ us hl => match us, hl with | [_], _ => rfl, PySem.W.mg_of X G a13⟩
  have F14 := fun_mk (st := sBases) l14 c14 k14
  have C14 : CalK K mg "bases" sBases f14 _ := ⟨F14, kb_of fun a b => rfl, PySem.W.mg_of X G a14⟩
  have F15 := fun_mk (st := sCircuits) l15 c15 k15
  have C15 : CalK K mg "circuits" sCircuits f15 _ := ⟨F15, kb_of fun a b => rfl, PySem.W.mg_of X G a15⟩
  have F16 := fun_mk (st := sLawCell) l16 c16 k16
  have C16 : Cal K mg "_law_cell" sLawCell ["_law_script", "_law_k"] f16 _ := ⟨F16, F16.binds fun _ _ _ _ _ _ us hl => match us, hl with | [_, _], _ => rfl, PySem.W.mg_of X G a16⟩
  have F17 := fun_mk (st := sLawDraws) l17 c17 k17
  have C17 : Cal K mg "_law_draws" sLawDraws ["_law_cell_here", "_law_sizes"] f17 _ := ⟨F17, F17.binds fun _ _ _ _ _ _ us hl => match us, hl with | [_, _], _ => rfl, PySem.W.mg_of X G a17⟩
  have F18 := fun_mk (st := sLawIsPrime) l18 c18 k18
  have C18 : Cal K mg "_law_is_prime" sLawIsPrime ["_law_n"] f18 _ := ⟨F18, F18.binds fun _ _ _ _ _ _ us hl => match us, hl with | [_], _ => rfl, PySem.W.mg_of X G a18⟩
  have F19 := fun_mk (st := sLawPrimeFrom) l19 c19 k19
  have C19 : Cal K mg "_law_prime_from" sLawPrimeFrom ["_law_n"] f19 _ := ⟨F19, F19.binds fun _ _ _ _ _ _ us hl => match us, hl with | [_], _ => rfl, PySem.W.mg_of X G a19⟩
  have F20 := fun_mk (st := sLawLess) l20 c20 k20
  have C20 : Cal K mg "_law_less" sLawLess ["_law_row", "_law_base", "_law_at", "_law_char"] f20 _ := ⟨F20, F20.binds fun _ _ _ _ _ _ us hl => match us, hl with | [_, _, _, _], _ => rfl, PySem.W.mg_of X G a20⟩
  have F21 := fun_mk (st := sLawRank) l21 c21 k21
  have C21 : Cal K mg "_law_rank" sLawRank ["_law_rows_here", "_law_columns", "_law_char"] f21 _ := ⟨F21, F21.binds fun _ _ _ _ _ _ us hl => match us, hl with | [_, _, _], _ => rfl, PySem.W.mg_of X G a21⟩
  have F22 := fun_mk (st := sLawLists) l22 c22 k22
  have C22 : Cal K mg "_law_lists" sLawLists ["_law_many"] f22 _ := ⟨F22, F22.binds fun _ _ _ _ _ _ us hl => match us, hl with | [_], _ => rfl, PySem.W.mg_of X G a22⟩
  have F23 := fun_mk (st := sLawBases) l23 c23 k23
  have C23 : Cal K mg "_law_bases" sLawBases ["_law_rows_here", "_law_char"] f23 _ := ⟨F23, F23.binds fun _ _ _ _ _ _ us hl => match us, hl with | [_, _], _ => rfl, PySem.W.mg_of X G a23⟩
  have F24 := fun_mk (st := sLawRows) l24 c24 k24
  have C24 : Cal K mg "_law_rows" sLawRows ["_law_cell_here", "_law_height", "_law_width", "_law_reach"] f24 _ := ⟨F24, F24.binds fun _ _ _ _ _ _ us hl => match us, hl with | [_, _, _, _], _ => rfl, PySem.W.mg_of X G a24⟩
  have F25 := fun_mk (st := sLawCircuits) l25 c25 k25
  have C25 : Cal K mg "_law_circuits" sLawCircuits ["_law_rows_here", "_law_char"] f25 _ := ⟨F25, F25.binds fun _ _ _ _ _ _ us hl => match us, hl with | [_, _], _ => rfl, PySem.W.mg_of X G a25⟩
  have F26 := fun_mk (st := sLawRefused) l26 c26 k26
  have C26 : Cal K mg "_law_refused" sLawRefused ["_law_which", "_law_matrix", "_law_char"] f26 _ := ⟨F26, F26.binds fun _ _ _ _ _ _ us hl => match us, hl with | [_, _, _], _ => rfl, PySem.W.mg_of X G a26⟩
  have F27 := fun_mk (st := sLaw) l27 c27 k27
  have Fm0 := fun_mk (st := sMatrixInit) lm0 cm0 km0
  have bm0 := Fm0.binds (ps := ["self", "rows"]) fun _ _ _ _ _ _ us hl => match us, hl with | [_, _], _ => rfl
  have Fm1 := fun_mk (st := sMatrixPart) lm1 cm1 km1
  have bm1 := Fm1.binds (ps := ["self", "rows", "columns"]) fun _ _ _ _ _ _ us hl => match us, hl with | [_, _, _], _ => rfl
  have Fm2 := fun_mk (st := sWorkInit) lm2 cm2 km2
  have bm2 := Fm2.binds (ps := ["self", "matrix"]) fun _ _ _ _ _ _ us hl => match us, hl with | [_, _], _ => rfl
  have Fm3 := fun_mk (st := sWorkLeastPlace) lm3 cm3 km3
  have bm3 := Fm3.binds (ps := ["self", "start"]) fun _ _ _ _ _ _ us hl => match us, hl with | [_, _], _ => rfl
  have Fm4 := fun_mk (st := sWorkBring) lm4 cm4 km4
  have bm4 := Fm4.binds (ps := ["self", "at", "place"]) fun _ _ _ _ _ _ us hl => match us, hl with | [_, _, _], _ => rfl
  have Fm5 := fun_mk (st := sWorkClear) lm5 cm5 km5
  have bm5 := Fm5.binds (ps := ["self", "at"]) fun _ _ _ _ _ _ us hl => match us, hl with | [_, _], _ => rfl
  have Fm6 := fun_mk (st := sWorkSpread) lm6 cm6 km6
  have bm6 := Fm6.binds (ps := ["self", "at"]) fun _ _ _ _ _ _ us hl => match us, hl with | [_, _], _ => rfl
  have Fm7 := fun_mk (st := sWorkTurnSign) lm7 cm7 km7
  have bm7 := Fm7.binds (ps := ["self", "at"]) fun _ _ _ _ _ _ us hl => match us, hl with | [_, _], _ => rfl
  have Fg0 := fun_mk (st := sMatrixUnit) lg0 cg0 kg0
  have bg0 := Fg0.binds (ps := ["cls", "n"]) fun _ _ _ _ _ _ us hl => match us, hl with | [_, _], _ => rfl
  have Fg1 := fun_mk (st := sMatrixDiagonal) lg1 cg1 kg1
  have bg1 := Fg1.binds (ps := ["cls", "numbers", "height", "width"]) fun _ _ _ _ _ _ us hl => match us, hl with | [_, _, _, _], _ => rfl
  have MC : MCl K CM := ⟨⟨pgM, hdM, poM, saM⟩, nMrows, nMheight, nMwidth⟩
  have WC : WCl K CW := ⟨⟨pgW, hdW, poW, saW⟩, nWfirst, nWmiddle, nWlast⟩
  have MM : MkM K mg CM m0 _ := ⟨MC, ⟨mkM, am0, im0, kcM⟩, bm0, PySem.W.mg_of X G aCM⟩
  have MU : MUn K CM (.type "type") p1 g1 p0 g0 _ _ := ⟨⟨rdM, gaM⟩, ⟨at1, ⟨_, rc1⟩, fi1⟩, bg1, ⟨at0, ⟨_, rc0⟩, fi0⟩, bg0⟩
  have WM : WkM K mg CW m2 m3 m4 m5 m6 m7 _ _ _ _ _ _ := ⟨WC, ⟨mkW, am2, im2, kcW⟩, bm2, PySem.W.mg_of X G aCW, ⟨am3, im3, km3⟩, bm3, ⟨am4, im4, km4⟩, bm4, ⟨am5, im5, km5⟩, bm5, ⟨am6, im6, km6⟩, bm6, ⟨am7, im7, km7⟩, bm7⟩
  have TB : PySem.BadX.BadTxt l.prog K mg CB fX :=
    { gC := PySem.W.mg_of X G aB, cls := ⟨nm, qn, NB, bs, bm, sn, sub, ab, col, dd, e0, e1, e2, e3, e5, xB, rB⟩, sa := saB, ga := gaB, gg := ggB, noN := npB, iC := iB, tC := tB, kC := kB, exC := eB, tyC := tyB, hdC := hdB, te := exm_self eB icB tyB sB,
      fn := ⟨_, _, _, _, _, _, _, _, cc, cda, lB, cB, ⟨_, _, vsB, _, file, tf, ldB, vB, flB⟩, ⟨_, _, _, lcB⟩⟩, sup := PySem.W.mg_none_of X G supB, top := topB, su := suB, ve := veB, mr := mrB, op := opB }
  refine ⟨PySem.W.fnOf "law" "law" (defArgs sLaw) (defBody sLaw) (defScope sLaw) .none kV27 dc27 pm27 an27 cd27 ct27, fun s v => .of_eq rfl, fun base _ _ => ?_⟩
  · have gIsPrime := ok_is_prime (P := l.prog) (w := w) (mg := mg) (base := base) (k := 0) F0
    have gChecked := ok_checked (P := l.prog) (w_ := w) (base := base) (k := 2) F1 TB C0 (gIsPrime.mono (by decide))
    have gIsZero := ok_is_zero (k := 3) F2 C1 gChecked
    have gChoices := ok_choices (P := l.prog) (w := w) (base := base) C3 T 5
    have gMInit := ok_minit (P := l.prog) (w := w) (base := base) (k := 0) Fm0 MC T
    have gDiag := ok_diag (k := 1) Fg1 MM (gMInit.mono (by decide)) T
    have gUnit := ok_unit (k := 3) Fg0 MU gDiag
    have gPart := ok_part (k := 1) Fm1 MM (gMInit.mono (by decide))
    have gAll := ok_all (k := 6) F13 MC C3 gChoices T
    have gCPart := ok_cpart (k := 3) F11 MM ⟨am1, im1, km1⟩ bm1 gPart T
    have gAddRow := ok_addRow (P := l.prog) (w := w) (base := base) (k := 0) F4 T
    have gAddCol := ok_addCol (P := l.prog) (w := w) (mg := mg) (base := base) (k := 0) F5
    have gExCol := ok_exCol (P := l.prog) (w := w) (mg := mg) (base := base) (k := 0) F6
    have gWInit := ok_winit (k := 4) Fm2 MM MU gUnit WC T
    have gLeast := ok_least (P := l.prog) (w := w) (base := base) (k := 0) Fm3 WC T
    have gBring := ok_bring (k := 1) Fm4 WC C6 gExCol
    have gClear := ok_clear (k := 1) Fm5 WC T C4 gAddRow C5 gAddCol
    have gSpread := ok_spread (k := 1) Fm6 WC T C4 gAddRow
    have gTurn := ok_turn (P := l.prog) (w := w) (mg := mg) (base := base) (k := 0) Fm7 WC
    have gDg := ok_dg (k := 5) F7 MM WM T (gMInit.mono (by decide)) gWInit (gLeast.mono (by decide)) (gBring.mono (by decide)) (gClear.mono (by decide)) (gSpread.mono (by decide)) (gTurn.mono (by decide))
    have gDivs := ok_divs (k := 7) F8 MC T C7 gDg
    have gCU := ok_cu (k := 4) F9 T C2 gIsZero
    have gRank := ok_rank (k := 8) F10 C1 (gChecked.mono (by decide)) C9 (gCU.mono (by decide)) C8 gDivs
    have gRankOf := ok_rankof (k := 9) F12 T C10 gRank C11 (gCPart.mono (by decide))
    have gBases := ok_bases (k := 10) F14 MC C10 (gRank.mono (by decide)) C3 (gChoices.mono (by decide)) C12 gRankOf
    have gCircs := ok_circs (k := 10) F15 MC T C1 (gChecked.mono (by decide)) C13 (gAll.mono (by decide)) C12 gRankOf
    have gCell := ok_cell (P := l.prog) (w := w) (base := base) (k := 0) F16 T
    have gDraws := ok_draws (P := l.prog) (w := w) (base := base) (k := 0) F17 T
    have gLPrime := ok_lprime (P := l.prog) (w := w) (mg := mg) (base := base) (k := 0) F18
    have gPFrom := ok_pfrom (k := 1) F19 T C18 gLPrime
    have gLess := ok_less (P := l.prog) (w := w) (base := base) (k := 0) F20 T
    have gLRank := ok_lrank (k := 1) F21 T C20 gLess
    have gLists := ok_lists (P := l.prog) (w := w) (base := base) (k := 0) F22 T
    have gLBases := ok_lbases (k := 2) F23 T C21 gLRank C22 (gLists.mono (by decide))
    have gLRows := ok_lrows (k := 1) F24 T C17 gDraws
    have gLCircs := ok_lcircs (k := 2) F25 T C21 gLRank C22 (gLists.mono (by decide))
    have gRefused := ok_refused (k := 11) F26 TB C14 gBases C15 gCircs
    exact ok_law (k := 11) F27 T isL MM (gMInit.mono (by decide)) C17 (gDraws.mono (by decide)) C16 (gCell.mono (by decide)) C24 (gLRows.mono (by decide)) C19 (gPFrom.mono (by decide)) C23 (gLBases.mono (by decide)) C25 (gLCircs.mono (by decide)) C26 gRefused C14 (gBases.mono (by decide)) C15 (gCircs.mono (by decide))
end Wk
open PySem PySem.W PyProof.Rows in
set_option maxRecDepth 100000 in
set_option maxHeartbeats 0 in
theorem PySem.Challenge.cw_everyfield_k58_whole_bases_and_circuits_holds : PySem.Challenge.rw_everyfield_k58_whole_bases_and_circuits.Holds := by
  w_on; o_law; k_head; (case hw => w_witness2)
  k_fill
  refine L2.walk_of (l := PySem.Challenge.rw_everyfield_k58_whole_bases_and_circuits) (n := 63) (k := 13) (x := "_law_script") (CX := fun _ => L2.CX0) (sp := fun _ => Wk.spLaw _) rfl (by decide) rfl ⟨rfl, by decide, by decide⟩ (fun w h Y => PySem.W.kIn_of Y) ?F (fun _ _ a ns _ _ hS => ⟨a, ns, rfl, hS, fun _ => rfl⟩) (fun _ _ _ _ _ z => z)
  case F =>
    intro w mg fa h KX G hmg
    refine' Wk.all_mk KX G hmg ?a0 ?l0 ?c0 ?k0 ?a1 ?l1 ?c1 ?k1 ?a2 ?l2 ?c2 ?k2 ?a3 ?l3 ?c3 ?k3 ?a4 ?l4 ?c4 ?k4 ?a5 ?l5 ?c5 ?k5 ?a6 ?l6 ?c6 ?k6 ?a7 ?l7 ?c7 ?k7 ?a8 ?l8 ?c8 ?k8 ?a9 ?l9 ?c9 ?k9 ?a10 ?l10 ?c10 ?k10 ?a11 ?l11 ?c11 ?k11 ?a12 ?l12 ?c12 ?k12 ?a13 ?l13 ?c13 ?k13 ?a14 ?l14 ?c14 ?k14 ?a15 ?l15 ?c15 ?k15 ?a16 ?l16 ?c16 ?k16 ?a17 ?l17 ?c17 ?k17 ?a18 ?l18 ?c18 ?k18 ?a19 ?l19 ?c19 ?k19 ?a20 ?l20 ?c20 ?k20 ?a21 ?l21 ?c21 ?k21 ?a22 ?l22 ?c22 ?k22 ?a23 ?l23 ?c23 ?k23 ?a24 ?l24 ?c24 ?k24 ?a25 ?l25 ?c25 ?k25 ?a26 ?l26 ?c26 ?k26 ?a27 ?l27 ?c27 ?k27 ?aCM ?pgM ?hdM ?poM ?saM ?mkM ?kcM ?nMrows ?nMheight ?nMwidth ?aCW ?pgW ?hdW ?poW ?saW ?mkW ?kcW ?nWfirst ?nWmiddle ?nWlast ?am0 ?im0 ?lm0 ?cm0 ?km0 ?am1 ?im1 ?lm1 ?cm1 ?km1 ?am2 ?im2 ?lm2 ?cm2 ?km2 ?am3 ?im3 ?lm3 ?cm3 ?km3 ?am4 ?im4 ?lm4 ?cm4 ?km4 ?am5 ?im5 ?lm5 ?cm5 ?km5 ?am6 ?im6 ?lm6 ?cm6 ?km6 ?am7 ?im7 ?lm7 ?cm7 ?km7 ?rdM ?gaM ?at0 ?rc0 ?fi0 ?lg0 ?cg0 ?kg0 ?at1 ?rc1 ?fi1 ?lg1 ?cg1 ?kg1 ?z_len ?z_abs ?z_any ?z_all ?z_list ?z_tuple ?z_int ?z_max ?z_min ?z_sorted ?z_range ?z_zip ?z_enumerate ?z_isinstance ?aB ?xB ?rB ?saB ?gaB ?ggB ?npB ?iB ?tB ?kB ?eB ?tyB ?hdB ?icB ?sB ?lB ?cB ?ldB ?vB ?flB ?lcB ?supB ?topB ?suB ?veB ?mrB ?opB
    (case a0 => k_is)
    (case l0 => k_is)
    (case c0 => k_is)
    (case k0 => k_is)
    (case a1 => k_is)
    (case l1 => k_is)
    (case c1 => k_is)
    (case k1 => k_is)
    (case a2 => k_is)
    (case l2 => k_is)
    (case c2 => k_is)
    (case k2 => k_is)
    (case a3 => k_is)
    (case l3 => k_is)
    (case c3 => k_is)
    (case k3 => k_is)
    (case a4 => k_is)
    (case l4 => k_is)
    (case c4 => k_is)
    (case k4 => k_is)
    (case a5 => k_is)
    (case l5 => k_is)
    (case c5 => k_is)
    (case k5 => k_is)
    (case a6 => k_is)
    (case l6 => k_is)
    (case c6 => k_is)
    (case k6 => k_is)
    (case a7 => k_is)
    (case l7 => k_is)
    (case c7 => k_is)
    (case k7 => k_is)
    (case a8 => k_is)
    (case l8 => k_is)
    (case c8 => k_is)
    (case k8 => k_is)
    (case a9 => k_is)
    (case l9 => k_is)
    (case c9 => k_is)
    (case k9 => k_is)
    (case a10 => k_is)
    (case l10 => k_is)
    (case c10 => k_is)
    (case k10 => k_is)
    (case a11 => k_is)
    (case l11 => k_is)
    (case c11 => k_is)
    (case k11 => k_is)
    (case a12 => k_is)
    (case l12 => k_is)
    (case c12 => k_is)
    (case k12 => k_is)
    (case a13 => k_is)
    (case l13 => k_is)
    (case c13 => k_is)
    (case k13 => k_is)
    (case a14 => k_is)
    (case l14 => k_is)
    (case c14 => k_is)
    (case k14 => k_is)
    (case a15 => k_is)
    (case l15 => k_is)
    (case c15 => k_is)
    (case k15 => k_is)
    (case a16 => k_is)
    (case l16 => k_is)
    (case c16 => k_is)
    (case k16 => k_is)
    (case a17 => k_is)
    (case l17 => k_is)
    (case c17 => k_is)
    (case k17 => k_is)
    (case a18 => k_is)
    (case l18 => k_is)
    (case c18 => k_is)
    (case k18 => k_is)
    (case a19 => k_is)
    (case l19 => k_is)
    (case c19 => k_is)
    (case k19 => k_is)
    (case a20 => k_is)
    (case l20 => k_is)
    (case c20 => k_is)
    (case k20 => k_is)
    (case a21 => k_is)
    (case l21 => k_is)
    (case c21 => k_is)
    (case k21 => k_is)
    (case a22 => k_is)
    (case l22 => k_is)
    (case c22 => k_is)
    (case k22 => k_is)
    (case a23 => k_is)
    (case l23 => k_is)
    (case c23 => k_is)
    (case k23 => k_is)
    (case a24 => k_is)
    (case l24 => k_is)
    (case c24 => k_is)
    (case k24 => k_is)
    (case a25 => k_is)
    (case l25 => k_is)
    (case c25 => k_is)
    (case k25 => k_is)
    (case a26 => k_is)
    (case l26 => k_is)
    (case c26 => k_is)
    (case k26 => k_is)
    (case a27 => k_is)
    (case l27 => k_is)
    (case c27 => k_is)
    (case k27 => k_is)
    (case aCM => k_is)
    (case pgM => k_is)
    (case hdM => k_is)
    (case poM => k_is)
    (case saM => k_is)
    (case mkM => k_is)
    (case kcM => k_is)
    (case nMrows => k_is)
    (case nMheight => k_is)
    (case nMwidth => k_is)
    (case aCW => k_is)
    (case pgW => k_is)
    (case hdW => k_is)
    (case poW => k_is)
    (case saW => k_is)
    (case mkW => k_is)
    (case kcW => k_is)
    (case nWfirst => k_is)
    (case nWmiddle => k_is)
    (case nWlast => k_is)
    (case am0 => k_is)
    (case im0 => k_is)
    (case lm0 => k_is)
    (case cm0 => k_is)
    (case km0 => k_is)
    (case am1 => k_is)
    (case im1 => k_is)
    (case lm1 => k_is)
    (case cm1 => k_is)
    (case km1 => k_is)
    (case am2 => k_is)
    (case im2 => k_is)
    (case lm2 => k_is)
    (case cm2 => k_is)
    (case km2 => k_is)
    (case am3 => k_is)
    (case im3 => k_is)
    (case lm3 => k_is)
    (case cm3 => k_is)
    (case km3 => k_is)
    (case am4 => k_is)
    (case im4 => k_is)
    (case lm4 => k_is)
    (case cm4 => k_is)
    (case km4 => k_is)
    (case am5 => k_is)
    (case im5 => k_is)
    (case lm5 => k_is)
    (case cm5 => k_is)
    (case km5 => k_is)
    (case am6 => k_is)
    (case im6 => k_is)
    (case lm6 => k_is)
    (case cm6 => k_is)
    (case km6 => k_is)
    (case am7 => k_is)
    (case im7 => k_is)
    (case lm7 => k_is)
    (case cm7 => k_is)
    (case km7 => k_is)
    (case rdM => k_is)
    (case gaM => k_is)
    (case at0 => k_is)
    (case rc0 => k_is)
    (case fi0 => k_is)
    (case lg0 => k_is)
    (case cg0 => k_is)
    (case kg0 => k_is)
    (case at1 => k_is)
    (case rc1 => k_is)
    (case fi1 => k_is)
    (case lg1 => k_is)
    (case cg1 => k_is)
    (case kg1 => k_is)
    (case z_len => k_is)
    (case z_abs => k_is)
    (case z_any => k_is)
    (case z_all => k_is)
    (case z_list => k_is)
    (case z_tuple => k_is)
    (case z_int => k_is)
    (case z_max => k_is)
    (case z_min => k_is)
    (case z_sorted => k_is)
    (case z_range => k_is)
    (case z_zip => k_is)
    (case z_enumerate => k_is)
    (case z_isinstance => k_is)
    (case aB => k_is)
    (case xB => k_is)
    (case rB => first | rfl | (decide +kernel) | k_is)
    (case saB => k_is)
    (case gaB => k_is)
    (case ggB => k_is)
    (case npB => k_is)
    (case iB => k_is)
    (case tB => k_is)
    (case kB => k_is)
    (case eB => k_is)
    (case tyB => k_is)
    (case hdB => k_is)
    (case icB => k_is)
    (case sB => first | rfl | k_is)
    (case lB => k_is)
    (case cB => k_is)
    (case ldB => k_is)
    (case vB => first | rfl | (decide +kernel) | k_is)
    (case flB => first | rfl | (decide +kernel) | k_is)
    (case lcB => k_is)
    (case supB => k_is)
    (case topB => first | rfl | (decide +kernel) | k_is)
    (case suB => first | ks_is | k_is)
    (case veB => k_is)
    (case mrB => k_is)
    (case opB => k_is)
