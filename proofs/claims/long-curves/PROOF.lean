import PyProof.Rows.All
import Wide.All
import OpenK.AllK
import Wide.FinOn
import HandS.ForMost
import HandS.Defaults
import HandS.Conv
import HandS.IsInst
import HandS.Style
import HandS.Flow
import HandS.Wide
import HandS.Steps
import HandS.HeadHook2
import PySem.Challenge.RW_fewestlines_k60_whole_long_curves
import HandS.Head0
import HandS.Head1
import HandS.Head2
import HandS.HeadEnd
import HandS.Evl
import KE.KDictZip
set_option Elab.async false
set_option linter.all false
set_option maxRecDepth 100000
set_option maxHeartbeats 4000000
namespace FL
/-! fractions by cross multiplication -/
theorem fr_trans {a b c d e f : Int} (hd : 0 < d) (hb : 0 < b) (hf : 0 < f) (h1 : a * d ≤ c * b) (h2 : c * f ≤ e * d) : a * f ≤ e * b := by
  have h3 : a * d * f ≤ c * b * f := Int.mul_le_mul_of_nonneg_right h1 (by omega)
  have h4 : c * f * b ≤ e * d * b := Int.mul_le_mul_of_nonneg_right h2 (by omega)
  have h5 : (a * f) * d ≤ (e * b) * d := by grind
  exact Int.le_of_mul_le_mul_right h5 hd
theorem fr_trans_lt {a b c d e f : Int} (hd : 0 < d) (hb : 0 < b) (hf : 0 < f) (h1 : a * d ≤ c * b) (h2 : c * f < e * d) : a * f < e * b := by
  have h3 : a * d * f ≤ c * b * f := Int.mul_le_mul_of_nonneg_right h1 (by omega)
  have h4 : c * f * b < e * d * b := Int.mul_lt_mul_of_pos_right h2 hb
  have h5 : (a * f) * d < (e * b) * d := by grind
  exact Int.lt_of_mul_lt_mul_right h5 (by omega)
/-- three points on top of one another -/
theorem mid_up {bx b_y cx cy tx ty X Y : Int} (h1 : bx < cx) (h2 : cx < tx) (h3 : tx < X)
    (turn : (cx - bx) * (ty - b_y) - (cy - b_y) * (tx - bx) ≤ 0) :
    (Y - cy) * (X - bx) ≤ (Y - b_y) * (X - cx) ∨ (Y - cy) * (X - tx) ≤ (Y - ty) * (X - cx) := by
  refine Classical.byContradiction fun h => ?_
  have h4 : (Y - b_y) * (X - cx) < (Y - cy) * (X - bx) := by omega
  have h5 : (Y - ty) * (X - cx) < (Y - cy) * (X - tx) := by omega
  have hu : 0 < cx - bx := by omega
  have hv : 0 < tx - cx := by omega
  have hD : 0 < X - cx := by omega
  have h6 := Int.mul_lt_mul_of_pos_right h4 hv
  have h7 := Int.mul_lt_mul_of_pos_right h5 hu
  have h8 := Int.mul_le_mul_of_nonneg_right turn (Int.le_of_lt hD)
  grind
section
variable (x lo hi : Nat → Int) (n : Nat)
def AscN : Prop := ∀ i j : Nat, i < j → j < n → x i < x j
def FitN : Prop := ∀ i j k m : Nat, i < j → j < n → k < m → m < n → (lo j - hi i) * (x m - x k) ≤ (hi m - lo k) * (x j - x i)
structure FlatOK (a b : Nat) : Prop where
  lt : a < b
  ltn : b < n
  best : ∀ i j : Nat, i < j → j < n → (lo j - hi i) * (x b - x a) ≤ (lo b - hi a) * (x j - x i)
structure SteepOK (c d : Nat) : Prop where
  lt : c < d
  ltn : d < n
  best : ∀ i j : Nat, i < j → j < n → (hi d - lo c) * (x j - x i) ≤ (hi j - lo i) * (x d - x c)
end
section
variable {x lo hi : Nat → Int} {n : Nat}
theorem AscN.pos (h : AscN x n) {i j : Nat} (hij : i < j) (hj : j < n) : 0 < x j - x i := by have := h i j hij hj; omega
theorem flat_below (A : AscN x n) (F : FitN x lo hi n) (L : ∀ k, k < n → lo k ≤ hi k) {a b : Nat} (P : FlatOK x lo hi n a b) {k : Nat} (hk : k < n) :
    (lo k - hi a) * (x b - x a) ≤ (lo b - hi a) * (x k - x a) := by
  have hab := A.pos P.lt P.ltn
  rcases Nat.lt_trichotomy a k with h | h | h
  · exact P.best a k h hk
  · subst h
    have h1 := L a hk
    have h2 : (lo a - hi a) * (x b - x a) ≤ 0 * (x b - x a) := Int.mul_le_mul_of_nonneg_right (by omega) (by omega)
    grind
  · have h1 := F a b k a P.lt P.ltn h (by have := P.lt; have := P.ltn; omega)
    grind
theorem flat_above (A : AscN x n) (F : FitN x lo hi n) (L : ∀ k, k < n → lo k ≤ hi k) {a b : Nat} (P : FlatOK x lo hi n a b) {k : Nat} (hk : k < n) :
    (lo b - hi a) * (x k - x a) ≤ (hi k - hi a) * (x b - x a) := by
  have hab := A.pos P.lt P.ltn
  rcases Nat.lt_trichotomy k b with h | h | h
  · have h1 := P.best k b h P.ltn
    grind
  · subst h
    have h1 := L k hk
    have h2 : (lo k - hi k) * (x k - x a) ≤ 0 * (x k - x a) := Int.mul_le_mul_of_nonneg_right (by omega) (by omega)
    grind
  · have h1 := F a b b k P.lt P.ltn h hk
    grind
theorem steep_below (A : AscN x n) (F : FitN x lo hi n) (L : ∀ k, k < n → lo k ≤ hi k) {c d : Nat} (P : SteepOK x lo hi n c d) {k : Nat} (hk : k < n) :
    (lo k - lo c) * (x d - x c) ≤ (hi d - lo c) * (x k - x c) := by
  have hab := A.pos P.lt P.ltn
  rcases Nat.lt_trichotomy k d with h | h | h
  · have h1 := P.best k d h P.ltn
    grind
  · subst h
    have h1 := L k hk
    have h2 : (lo k - hi k) * (x k - x c) ≤ 0 * (x k - x c) := Int.mul_le_mul_of_nonneg_right (by omega) (by omega)
    grind
  · have h1 := F d k c d h hk P.lt P.ltn
    grind
theorem steep_above (A : AscN x n) (F : FitN x lo hi n) (L : ∀ k, k < n → lo k ≤ hi k) {c d : Nat} (P : SteepOK x lo hi n c d) {k : Nat} (hk : k < n) :
    (hi d - lo c) * (x k - x c) ≤ (hi k - lo c) * (x d - x c) := by
  have hab := A.pos P.lt P.ltn
  rcases Nat.lt_trichotomy c k with h | h | h
  · exact P.best c k h hk
  · subst h
    have h1 := L c hk
    have h2 : (lo c - hi c) * (x d - x c) ≤ 0 * (x d - x c) := Int.mul_le_mul_of_nonneg_right (by omega) (by omega)
    grind
  · have h1 := F k c c d h (by have := P.lt; have := P.ltn; omega) P.lt P.ltn
    grind
/-- a new one fits, if it meets the two extreme lines -/
theorem fit_ext (A : AscN x (n + 1)) (F : FitN x lo hi n) (L : ∀ k, k < n + 1 → lo k ≤ hi k) {a b c d : Nat} (P : FlatOK x lo hi n a b) (S : SteepOK x lo hi n c d)
    (nc1 : (lo b - hi a) * (x n - x b) ≤ (hi n - lo b) * (x b - x a)) (nc2 : (lo n - hi d) * (x d - x c) ≤ (hi d - lo c) * (x n - x d)) : FitN x lo hi (n + 1) := by
  have A' : AscN x n := fun i j h1 h2 => A i j h1 (by omega)
  have L' : ∀ k, k < n → lo k ≤ hi k := fun k h => L k (by omega)
  have hab := A'.pos P.lt P.ltn
  have hcd := A'.pos S.lt S.ltn
  -- the flattest line below a new upper end
  have B1 : ∀ k, k < n → (lo b - hi a) * (x n - x k) ≤ (hi n - lo k) * (x b - x a) := fun k hk => by
    have h1 := flat_below A' F L' P hk
    grind
  have B2 : ∀ k, k < n → (lo n - hi k) * (x d - x c) ≤ (hi d - lo c) * (x n - x k) := fun k hk => by
    have h1 := steep_above A' F L' S hk
    grind
  intro i j k m hij hj hkm hm
  have xij := A.pos hij hj
  have xkm := A.pos hkm hm
  by_cases hjn : j < n
  · by_cases hmn : m < n
    · exact F i j k m hij hjn hkm hmn
    · have e : m = n := by omega
      subst e
      exact fr_trans hab xij xkm (P.best i j hij hjn) (B1 k (by omega))
  · have e : j = n := by omega
    subst e
    by_cases hmn : m < j
    · exact fr_trans hcd xij xkm (B2 i hij) (S.best k m hkm hmn)
    · have e : m = j := by omega
      subst e
      have hl := L m (by omega)
      rcases Nat.lt_trichotomy i k with h | h | h
      · have xik := A'.pos h hkm
        have h1 := fr_trans hab xik xkm (P.best i k h hkm) (B1 k hkm)
        have h2 : (lo m - hi m) * (x m - x k) ≤ 0 * (x m - x k) := Int.mul_le_mul_of_nonneg_right (by omega) (by omega)
        grind
      · subst h
        have h2 : (lo m - hi m) * (x m - x i) ≤ 0 * (x m - x i) := Int.mul_le_mul_of_nonneg_right (by omega) (by omega)
        have h3 : (lo i - hi i) * (x m - x i) ≤ 0 * (x m - x i) := Int.mul_le_mul_of_nonneg_right (by have := L' i hij; omega) (by omega)
        grind
      · have xki := A'.pos h hij
        have h1 := fr_trans hcd xij xki (B2 i hij) (S.best k i h hij)
        have h2 : (lo m - hi m) * (x m - x i) ≤ 0 * (x m - x i) := Int.mul_le_mul_of_nonneg_right (by omega) (by omega)
        grind
theorem flat_keep (A : AscN x (n + 1)) (F : FitN x lo hi n) (L : ∀ k, k < n + 1 → lo k ≤ hi k) {a b : Nat} (P : FlatOK x lo hi n a b)
    (h : (lo n - hi a) * (x b - x a) ≤ (lo b - hi a) * (x n - x a)) : FlatOK x lo hi (n + 1) a b := by
  refine ⟨P.lt, by have := P.ltn; omega, fun i j hij hj => ?_⟩
  by_cases hjn : j < n
  · exact P.best i j hij hjn
  · have e : j = n := by omega
    subst e
    have h1 := flat_above (fun i j h1 h2 => A i j h1 (by omega)) F (fun k h => L k (by omega)) P hij
    grind
theorem flat_new (A : AscN x (n + 1)) {a b g : Nat} (P : FlatOK x lo hi n a b) (hg : g < n) (best : ∀ i, i < n → (lo n - hi i) * (x n - x g) ≤ (lo n - hi g) * (x n - x i))
    (h : (lo b - hi a) * (x n - x a) ≤ (lo n - hi a) * (x b - x a)) : FlatOK x lo hi (n + 1) g n := by
  refine ⟨hg, by omega, fun i j hij hj => ?_⟩
  by_cases hjn : j < n
  · have h1 := P.best i j hij hjn
    have xab := A.pos P.lt (by have := P.ltn; omega)
    have xan := A.pos (show a < n by have := P.lt; have := P.ltn; omega) (Nat.lt_succ_self n)
    have xgn := A.pos hg (Nat.lt_succ_self n)
    have xij := A.pos hij hj
    have h2 := fr_trans xab xij xan h1 h
    exact fr_trans xan xij xgn h2 (best a (by have := P.lt; have := P.ltn; omega))
  · have e : j = n := by omega
    subst e
    exact best i hij
theorem steep_keep (A : AscN x (n + 1)) (F : FitN x lo hi n) (L : ∀ k, k < n + 1 → lo k ≤ hi k) {c d : Nat} (P : SteepOK x lo hi n c d)
    (h : (hi d - lo c) * (x n - x c) ≤ (hi n - lo c) * (x d - x c)) : SteepOK x lo hi (n + 1) c d := by
  refine ⟨P.lt, by have := P.ltn; omega, fun i j hij hj => ?_⟩
  by_cases hjn : j < n
  · exact P.best i j hij hjn
  · have e : j = n := by omega
    subst e
    have h1 := steep_below (fun i j h1 h2 => A i j h1 (by omega)) F (fun k h => L k (by omega)) P hij
    grind
theorem steep_new (A : AscN x (n + 1)) {c d g : Nat} (P : SteepOK x lo hi n c d) (hg : g < n) (best : ∀ i, i < n → (hi n - lo g) * (x n - x i) ≤ (hi n - lo i) * (x n - x g))
    (h : (hi n - lo c) * (x d - x c) ≤ (hi d - lo c) * (x n - x c)) : SteepOK x lo hi (n + 1) g n := by
  refine ⟨hg, by omega, fun i j hij hj => ?_⟩
  by_cases hjn : j < n
  · have h1 := P.best i j hij hjn
    have xcd := A.pos P.lt (by have := P.ltn; omega)
    have xcn := A.pos (show c < n by have := P.lt; have := P.ltn; omega) (Nat.lt_succ_self n)
    have xgn := A.pos hg (Nat.lt_succ_self n)
    have xij := A.pos hij hj
    have h2 := fr_trans xcd xcn xij h h1
    exact fr_trans xcn xgn xij (best c (by have := P.lt; have := P.ltn; omega)) h2
  · have e : j = n := by omega
    subst e
    exact best i hij
/-- a point below the flattest line: three that do not fit -/
theorem no_fit1 {a b : Nat} (hab : a < b) (hbn : b < n) (h : (hi n - lo b) * (x b - x a) < (lo b - hi a) * (x n - x b)) : ¬ FitN x lo hi (n + 1) := fun F => by
  have := F a b b n hab (by omega) hbn (by omega)
  omega
theorem no_fit2 {c d : Nat} (hcd : c < d) (hdn : d < n) (h : (hi d - lo c) * (x n - x d) < (lo n - hi d) * (x d - x c)) : ¬ FitN x lo hi (n + 1) := fun F => by
  have := F d n c d hdn (by omega) hcd (by omega)
  omega
theorem FitN.mono {m : Nat} (F : FitN x lo hi n) (h : m ≤ n) : FitN x lo hi m := fun i j k l a b c d => F i j k l a (by omega) c (by omega)

/-! hulls: lists of indexes that are enough -/
/-- for the tops: some top of S is at least as good as the i-th, for any later place -/
def DomT (x hi : Nat → Int) (S : List Nat) (n : Nat) (from_ : Int) : Prop := ∀ i, i < n → ∀ X Y : Int, from_ < X → ∃ c, c ∈ S ∧ (Y - hi i) * (X - x c) ≤ (Y - hi c) * (X - x i)
def DomB (x lo : Nat → Int) (S : List Nat) (n : Nat) (from_ : Int) : Prop := ∀ i, i < n → ∀ X Y : Int, from_ < X → ∃ c, c ∈ S ∧ (Y - lo c) * (X - x i) ≤ (Y - lo i) * (X - x c)
theorem DomT.more {S : List Nat} {f g : Int} (D : DomT x hi S n f) (h : f ≤ g) : DomT x hi (S ++ [n]) (n + 1) g := fun i hi' X Y hX => by
  by_cases hin : i < n
  · obtain ⟨c, hc, q⟩ := D i hin X Y (by omega)
    exact ⟨c, List.mem_append_left _ hc, q⟩
  · have e : i = n := by omega
    subst e
    exact ⟨i, by simp, Int.le_refl _⟩
theorem DomB.more {S : List Nat} {f g : Int} (D : DomB x lo S n f) (h : f ≤ g) : DomB x lo (S ++ [n]) (n + 1) g := fun i hi' X Y hX => by
  by_cases hin : i < n
  · obtain ⟨c, hc, q⟩ := D i hin X Y (by omega)
    exact ⟨c, List.mem_append_left _ hc, q⟩
  · have e : i = n := by omega
    subst e
    exact ⟨i, by simp, Int.le_refl _⟩
/-- the last but one and the new one stand for the last one -/
theorem DomT.pop {S : List Nat} {p q : Nat} (A : AscN x (n + 1)) (hpq : p < q) (hq : q < n) (hS : ∀ c, c ∈ S → c < n) (D : DomT x hi (S ++ [p] ++ [q] ++ [n]) (n + 1) (x n))
    (turn : (x q - x p) * (hi n - hi p) - (hi q - hi p) * (x n - x p) ≤ 0) : DomT x hi (S ++ [p] ++ [n]) (n + 1) (x n) := fun i hi' X Y hX => by
  obtain ⟨c, hc, h⟩ := D i hi' X Y hX
  simp only [List.mem_append, List.mem_singleton] at hc
  have xi : 0 < X - x i := by
    by_cases e : i = n
    · subst e; omega
    · have := A.pos (show i < n by omega) (Nat.lt_succ_self n); omega
  have xp := A.pos (show p < n by omega) (Nat.lt_succ_self n)
  have xq := A.pos hq (Nat.lt_succ_self n)
  have xpq := A.pos hpq (by omega)
  rcases hc with ((hc | hc) | hc) | hc
  · exact ⟨c, by simp [hc], h⟩
  · exact ⟨c, by simp [hc], h⟩
  · subst hc
    rcases mid_up (bx := x p) (b_y := hi p) (cx := x c) (cy := hi c) (tx := x n) (ty := hi n) (X := X) (Y := Y) (by omega) (by omega) hX turn with g | g
    · exact ⟨p, by simp, fr_trans (show 0 < X - x c by omega) xi (show 0 < X - x p by omega) h g⟩
    · exact ⟨n, by simp, fr_trans (show 0 < X - x c by omega) xi (show 0 < X - x n by omega) h g⟩
  · exact ⟨c, by simp [hc], h⟩
theorem mid_down {bx b_y cx cy tx ty X Y : Int} (h1 : bx < cx) (h2 : cx < tx) (h3 : tx < X)
    (turn : 0 ≤ (cx - bx) * (ty - b_y) - (cy - b_y) * (tx - bx)) :
    (Y - b_y) * (X - cx) ≤ (Y - cy) * (X - bx) ∨ (Y - ty) * (X - cx) ≤ (Y - cy) * (X - tx) := by
  refine Classical.byContradiction fun h => ?_
  have h4 : (Y - cy) * (X - bx) < (Y - b_y) * (X - cx) := by omega
  have h5 : (Y - cy) * (X - tx) < (Y - ty) * (X - cx) := by omega
  have hu : 0 < cx - bx := by omega
  have hv : 0 < tx - cx := by omega
  have hD : 0 < X - cx := by omega
  have h6 := Int.mul_lt_mul_of_pos_right h4 hv
  have h7 := Int.mul_lt_mul_of_pos_right h5 hu
  have h8 := Int.mul_nonneg turn (Int.le_of_lt hD)
  grind
theorem DomB.pop {S : List Nat} {p q : Nat} (A : AscN x (n + 1)) (hpq : p < q) (hq : q < n) (hS : ∀ c, c ∈ S → c < n) (D : DomB x lo (S ++ [p] ++ [q] ++ [n]) (n + 1) (x n))
    (turn : 0 ≤ (x q - x p) * (lo n - lo p) - (lo q - lo p) * (x n - x p)) : DomB x lo (S ++ [p] ++ [n]) (n + 1) (x n) := fun i hi' X Y hX => by
  obtain ⟨c, hc, h⟩ := D i hi' X Y hX
  simp only [List.mem_append, List.mem_singleton] at hc
  have xi : 0 < X - x i := by
    by_cases e : i = n
    · subst e; omega
    · have := A.pos (show i < n by omega) (Nat.lt_succ_self n); omega
  have xp := A.pos (show p < n by omega) (Nat.lt_succ_self n)
  have xq := A.pos hq (Nat.lt_succ_self n)
  have xpq := A.pos hpq (by omega)
  rcases hc with ((hc | hc) | hc) | hc
  · exact ⟨c, by simp [hc], h⟩
  · exact ⟨c, by simp [hc], h⟩
  · subst hc
    rcases mid_down (bx := x p) (b_y := lo p) (cx := x c) (cy := lo c) (tx := x n) (ty := lo n) (X := X) (Y := Y) (by omega) (by omega) hX turn with g | g
    · exact ⟨p, by simp, fr_trans (show 0 < X - x c by omega) (show 0 < X - x p by omega) xi g h⟩
    · exact ⟨n, by simp, fr_trans (show 0 < X - x c by omega) (show 0 < X - x n by omega) xi g h⟩
  · exact ⟨c, by simp [hc], h⟩
end
/-! three points, lines -/
def mid3 (a b c : Int × Int) : Int := b.2 * (c.1 - a.1) - a.2 * (c.1 - b.1) - c.2 * (b.1 - a.1)
def T3 (e : Int) (a b c : Int × Int) : Prop := ((mid3 a b c).natAbs : Int) ≤ 2 * e * (c.1 - a.1)
def NearL (e : Int) (l : Int × Int × Int) (p : Int × Int) : Prop := ((l.1 * p.1 + l.2.1 - p.2 * l.2.2).natAbs : Int) ≤ e * l.2.2
section
variable {X Y : Nat → Int} {e : Int} {n : Nat}
def loF (Y : Nat → Int) (e : Int) (i : Nat) : Int := Y i - e
def hiF (Y : Nat → Int) (e : Int) (i : Nat) : Int := Y i + e
theorem no_three1 {a b : Nat} (h : (hiF Y e n - loF Y e b) * (X b - X a) < (loF Y e b - hiF Y e a) * (X n - X b)) : ¬ T3 e (X a, Y a) (X b, Y b) (X n, Y n) := fun t => by
  unfold T3 mid3 at t
  unfold hiF loF at h
  dsimp only at t h
  have h2 : Y b * (X n - X a) - Y a * (X n - X b) - Y n * (X b - X a) ≤ 2 * e * (X n - X a) := by omega
  grind
theorem no_three2 {c d : Nat} (h : (hiF Y e d - loF Y e c) * (X n - X d) < (loF Y e n - hiF Y e d) * (X d - X c)) : ¬ T3 e (X c, Y c) (X d, Y d) (X n, Y n) := fun t => by
  unfold T3 mid3 at t
  unfold hiF loF at h
  dsimp only at t h
  have h2 : -(Y d * (X n - X c) - Y c * (X n - X d) - Y n * (X d - X c)) ≤ 2 * e * (X n - X c) := by omega
  grind
/-- a line with a slope between the extreme ones -/
theorem line_near (A : AscN X n) (he : 0 ≤ e) {a b c d : Nat} (P : FlatOK X (loF Y e) (hiF Y e) n a b) (S : SteepOK X (loF Y e) (hiF Y e) n c d) {p q w : Int} (hw : 0 < w)
    (h1 : (loF Y e b - hiF Y e a) * w ≤ p * (X b - X a)) (h2 : p * (X d - X c) ≤ (hiF Y e d - loF Y e c) * w) {j : Nat} (hj : j < n) (hq : q = Y j * w - e * w - p * X j) (hmax : ∀ i, i < n → Y i * w - e * w - p * X i ≤ q)
    {i : Nat} (hi : i < n) : NearL e (p, q, w) (X i, Y i) := by
  have hab := A.pos P.lt P.ltn
  have hcd := A.pos S.lt S.ltn
  have lower := hmax i hi
  have upper : p * X i + q - Y i * w ≤ e * w := by
    rcases Nat.lt_trichotomy i j with h | h | h
    · have xij := A.pos h hj
      have h3 := fr_trans hab xij hw (P.best i j h hj) h1
      unfold loF hiF at h3
      grind
    · subst h
      have h3 : 0 ≤ e * w := Int.mul_nonneg he (Int.le_of_lt hw)
      grind
    · have xji := A.pos h hi
      have h3 := fr_trans hcd hw xji h2 (S.best j i h hi)
      unfold loF hiF at h3
      grind
  have l2 : -(e * w) ≤ p * X i + q - Y i * w := by grind
  show ((p * X i + q - Y i * w).natAbs : Int) ≤ e * w
  omega
structure LineOk (e : Int) (X Y : Nat → Int) (n : Nat) (l : Int × Int × Int) : Prop where
  d1 : 1 ≤ l.2.2
  d2 : l.2.2 ≤ 2000000
  near : ∀ i, i < n → NearL e l (X i, Y i)
  up : (∀ i j, i < j → j < n → Y i ≤ Y j) → 0 ≤ l.1
end
/-! cuttings -/
/-- the points of a piece fit: from s up to t -/
def FitS (X : Nat → Int) (lo hi : Nat → Int) (s t : Nat) : Prop := FitN (fun i => X (s + i)) (fun i => lo (s + i)) (fun i => hi (s + i)) (t - s)
/-- how far the greedy cutting has come: p taken, cs the closed pieces' starts, s the current one's; Fs s t: from s up to t all is well -/
inductive Gr (Fs : Nat → Nat → Prop) : Nat → List Nat → Nat → Prop
  | zero : Gr Fs 0 [] 0
  | take {p : Nat} {cs : List Nat} {s : Nat} : Gr Fs p cs s → Fs s (p + 1) → Gr Fs (p + 1) cs s
  | close {p : Nat} {cs : List Nat} {s : Nat} : Gr Fs p cs s → ¬ Fs s (p + 1) → Gr Fs (p + 1) (cs ++ [s]) p
theorem Gr.det {Fs : Nat → Nat → Prop} : ∀ {p : Nat} {cs cs' : List Nat} {s s' : Nat}, Gr Fs p cs s → Gr Fs p cs' s' → cs = cs' ∧ s = s'
  | 0, _, _, _, _, .zero, .zero => ⟨rfl, rfl⟩
  | p + 1, _, _, _, _, .take a f, .take b _ => Gr.det a b
  | p + 1, _, _, _, _, .take a f, .close b g => by
    obtain ⟨rfl, rfl⟩ := Gr.det a b
    exact absurd f g
  | p + 1, _, _, _, _, .close a f, .take b g => by
    obtain ⟨rfl, rfl⟩ := Gr.det a b
    exact absurd g f
  | p + 1, _, _, _, _, .close a f, .close b _ => by
    obtain ⟨rfl, rfl⟩ := Gr.det a b
    exact ⟨rfl, rfl⟩
theorem Gr.le {Fs : Nat → Nat → Prop} {p : Nat} {cs : List Nat} {s : Nat} (g : Gr Fs p cs s) : s ≤ p := by
  induction g with
  | zero => exact Nat.le_refl _
  | take _ _ ih => omega
  | close _ _ ih => omega
theorem Gr.iff {Fs Gs : Nat → Nat → Prop} {n : Nat} (h : ∀ s t, t ≤ n → (Fs s t ↔ Gs s t)) {p : Nat} {cs : List Nat} {s : Nat} (hp : p ≤ n) (g : Gr Fs p cs s) : Gr Gs p cs s := by
  induction g with
  | zero => exact .zero
  | take _ f ih => exact .take (ih (by omega)) ((h _ _ hp).mp f)
  | close _ f ih => exact .close (ih (by omega)) (fun z => f ((h _ _ hp).mpr z))
/-- the start of the piece behind the k-th, or m -/
def nxt {α : Type} (pcs : List (Int × α)) (m : Int) (k : Nat) : Int := match pcs[k + 1]? with
  | some q => q.1
  | none => m
/-- a right cutting: Ln l i: the line l is right at the i-th; Rs r s t: r is a reason from s to t -/
structure CutOk {α β : Type} (Ln : α → Nat → Prop) (Rs : β → Int → Int → Prop) (m : Int) (pcs : List (Int × α)) (rs : List β) : Prop where
  first : ∀ q, pcs[0]? = some q → q.1 = 0
  asc : ∀ (k : Nat) (q : Int × α), pcs[k]? = some q → 0 ≤ q.1 ∧ q.1 < nxt pcs m k ∧ nxt pcs m k ≤ m
  line : ∀ (k : Nat) (q : Int × α), pcs[k]? = some q → ∀ i : Nat, q.1 ≤ (i : Int) → (i : Int) < nxt pcs m k → Ln q.2 i
  len : rs.length ≤ pcs.length
  reason : ∀ (k : Nat) (r : β) (q : Int × α), rs[k]? = some r → pcs[k]? = some q → Rs r q.1 (nxt pcs m k)
section
variable {α β : Type} {Ln : α → Nat → Prop} {Rs : β → Int → Int → Prop} {m : Int} {pcs : List (Int × α)} {rs : List β}
theorem nxt_append_lt {q : Int × α} {m' : Int} {k : Nat} (hk : k + 1 < pcs.length) : nxt (pcs ++ [q]) m' k = nxt pcs m k := by
  unfold nxt
  rw [List.getElem?_append_left hk]
  rw [List.getElem?_eq_getElem hk]
theorem nxt_append_last {q : Int × α} {m' : Int} {k : Nat} (hk : k + 1 = pcs.length) : nxt (pcs ++ [q]) m' k = q.1 := by
  unfold nxt
  rw [List.getElem?_append_right (by omega), show k + 1 - pcs.length = 0 by omega]
  rfl
theorem nxt_none {k : Nat} (hk : pcs.length ≤ k + 1) : nxt pcs m k = m := by
  unfold nxt
  rw [List.getElem?_eq_none hk]
theorem nxt_append_end {q : Int × α} {m' : Int} {k : Nat} (hk : k = pcs.length) : nxt (pcs ++ [q]) m' k = m' := by
  apply nxt_none
  rw [List.length_append, List.length_singleton]
  omega
/-- the closed pieces up to s, one more from s to m' -/
theorem CutOk.push' {s m' : Int} {l : α} (C : CutOk Ln Rs s pcs rs) (h0 : pcs = [] → s = 0) (hs : 0 ≤ s) (hm : s < m') (ln : ∀ i : Nat, s ≤ (i : Int) → (i : Int) < m' → Ln l i) : CutOk Ln Rs m' (pcs ++ [(s, l)]) rs := by
  have split : ∀ (k : Nat) (q : Int × α), (pcs ++ [(s, l)])[k]? = some q → (k < pcs.length ∧ pcs[k]? = some q ∧ nxt (pcs ++ [(s, l)]) m' k = nxt pcs s k) ∨ (k = pcs.length ∧ q = (s, l) ∧ nxt (pcs ++ [(s, l)]) m' k = m') := fun k q h => by
    by_cases hk : k < pcs.length
    · rw [List.getElem?_append_left hk] at h
      refine .inl ⟨hk, h, ?_⟩
      by_cases hk2 : k + 1 < pcs.length
      · exact nxt_append_lt hk2
      · rw [nxt_append_last (by omega), nxt_none (by omega)]
    · have hlen := (List.getElem?_eq_some_iff.mp h).1
      rw [List.length_append, List.length_singleton] at hlen
      have ek : k = pcs.length := by omega
      subst ek
      rw [List.getElem?_append_right (Nat.le_refl _), Nat.sub_self] at h
      exact .inr ⟨rfl, (Option.some.inj h).symm, nxt_append_end rfl⟩
  have bound : ∀ (k : Nat) (q : Int × α), pcs[k]? = some q → nxt pcs s k ≤ s := fun k q h => (C.asc k q h).2.2
  refine ⟨fun q h => ?_, fun k q h => ?_, fun k q h i h1 h2 => ?_, ?_, fun k r q hr h => ?_⟩
  · rcases split 0 q h with ⟨_, h, _⟩ | ⟨h, e, _⟩
    · exact C.first q h
    · rw [e]
      exact h0 (List.length_eq_zero_iff.mp h.symm)
  · rcases split k q h with ⟨_, h, e⟩ | ⟨_, e, e2⟩
    · rw [e]
      obtain ⟨a, b, c⟩ := C.asc k q h
      exact ⟨a, b, by omega⟩
    · rw [e2, e]
      exact ⟨hs, hm, Int.le_refl _⟩
  · rcases split k q h with ⟨_, h, e⟩ | ⟨_, e, e2⟩
    · rw [e] at h2
      exact C.line k q h i h1 h2
    · rw [e2] at h2
      rw [e] at h1 ⊢
      exact ln i h1 h2
  · rw [List.length_append]
    have := C.len
    omega
  · have hkr := (List.getElem?_eq_some_iff.mp hr).1
    rcases split k q h with ⟨_, h, e⟩ | ⟨e, _, _⟩
    · rw [e]
      exact C.reason k r q hr h
    · have := C.len
      omega
theorem CutOk.push {s m' : Int} {l : α} (C : CutOk Ln Rs s pcs rs) (hl : rs.length = pcs.length) (h0 : pcs = [] → s = 0) (hs : 0 ≤ s) (hm : s < m') (ln : ∀ i : Nat, s ≤ (i : Int) → (i : Int) < m' → Ln l i) : CutOk Ln Rs m' (pcs ++ [(s, l)]) rs := C.push' h0 hs hm ln
/-- the reason of the last piece -/
theorem CutOk.why {m : Int} {r : β} (C : CutOk Ln Rs m pcs rs) (hl : rs.length + 1 = pcs.length) (hr : ∀ q, pcs[rs.length]? = some q → Rs r q.1 m) : CutOk Ln Rs m pcs (rs ++ [r]) := by
  refine ⟨C.first, C.asc, C.line, by rw [List.length_append, List.length_singleton]; omega, fun k r' q h hq => ?_⟩
  by_cases hk : k < rs.length
  · rw [List.getElem?_append_left hk] at h
    exact C.reason k r' q h hq
  · have hlen := (List.getElem?_eq_some_iff.mp h).1
    rw [List.length_append, List.length_singleton] at hlen
    have ek : k = rs.length := by omega
    subst ek
    rw [List.getElem?_append_right (Nat.le_refl _), Nat.sub_self] at h
    cases (Option.some.inj h)
    rw [nxt_none (by omega)]
    exact hr q hq
theorem CutOk.nil : CutOk Ln Rs 0 ([] : List (Int × α)) ([] : List β) :=
  ⟨fun q h => by simp at h, fun k q h => by simp at h, fun k q h => by simp at h, Nat.le_refl _, fun k r q h => by simp at h⟩
end
/-! points of a list -/
def px (pts : List (Int × Int)) (i : Nat) : Int := (pts.getD i (0, 0)).1
def py (pts : List (Int × Int)) (i : Nat) : Int := (pts.getD i (0, 0)).2
theorem px_of {pts : List (Int × Int)} {i : Nat} {p : Int × Int} (h : pts[i]? = some p) : px pts i = p.1 := by
  unfold px
  rw [List.getD_eq_getElem?_getD, h]
  rfl
theorem py_of {pts : List (Int × Int)} {i : Nat} {p : Int × Int} (h : pts[i]? = some p) : py pts i = p.2 := by
  unfold py
  rw [List.getD_eq_getElem?_getD, h]
  rfl
/-- points as they are passed -/
structure PtsOk (pts : List (Int × Int)) : Prop where
  asc : AscN (px pts) pts.length
  bd : ∀ i, i < pts.length → -1000000 ≤ px pts i ∧ px pts i ≤ 1000000
  len : pts.length ≤ 10000
  pos : 0 < pts.length
/-- a line of a piece is right at the i-th point -/
def LnP (e : Int) (X Y : Nat → Int) (l : Int × Int × Int) (i : Nat) : Prop := NearL e l (X i, Y i)
/-- three indexes from s to t whose points do not fit -/
def RsP (e : Int) (X Y : Nat → Int) (r : Int × Int × Int) (s t : Int) : Prop := s ≤ r.1 ∧ r.1 < r.2.1 ∧ r.2.1 < r.2.2 ∧ r.2.2 ≤ t ∧ ¬ T3 e (X r.1.toNat, Y r.1.toNat) (X r.2.1.toNat, Y r.2.1.toNat) (X r.2.2.toNat, Y r.2.2.toNat)
def SegP (e : Int) (X Y : Nat → Int) (s t : Nat) : Prop := FitS X (loF Y e) (hiF Y e) s t
def intsOf (cs : List Nat) : List Int := cs.map fun k : Nat => (k : Int)
/-- what cut gives -/
structure CutR (e : Int) (X Y : Nat → Int) (n : Nat) (pcs : List (Int × Int × Int × Int)) (rs : List (Int × Int × Int)) : Prop where
  ok : CutOk (LnP e X Y) (RsP e X Y) n pcs rs
  len : rs.length + 1 = pcs.length
  gr : ∃ cs s, Gr (SegP e X Y) n cs s ∧ pcs.map (·.1) = intsOf (cs ++ [s])
  d : ∀ (k : Nat) (q : Int × Int × Int × Int), pcs[k]? = some q → 1 ≤ q.2.2.2 ∧ q.2.2.2 ≤ 2000000 ∧ ((∀ i j, i < j → j < n → Y i ≤ Y j) → 0 ≤ q.2.1)
theorem ascN_shift {X : Nat → Int} {n s t : Nat} (A : AscN X n) (h : s + t ≤ n) : AscN (fun i => X (s + i)) t := fun i j hij hj => A (s + i) (s + j) (by omega) (by omega)
/-- the same starts -/
theorem starts_eq {Fs : Nat → Nat → Prop} {n : Nat} {l l' : List Int} (h : ∃ cs s, Gr Fs n cs s ∧ l = intsOf (cs ++ [s])) (h' : ∃ cs s, Gr Fs n cs s ∧ l' = intsOf (cs ++ [s])) : l = l' := by
  obtain ⟨cs, s, g, rfl⟩ := h
  obtain ⟨cs', s', g', rfl⟩ := h'
  obtain ⟨rfl, rfl⟩ := g.det g'
  rfl
section
variable {α β : Type} {Ln : α → Nat → Prop} {Rs : β → Int → Int → Prop} {m : Int} {pcs pcs' : List (Int × α)} {rs rs' : List β}
theorem nxt_map {γ : Type} {pcs' : List (Int × γ)} (h : pcs.map (·.1) = pcs'.map (·.1)) (k : Nat) : nxt pcs m k = nxt pcs' m k := by
  have e : (pcs.map (·.1))[k + 1]? = (pcs'.map (·.1))[k + 1]? := by rw [h]
  rw [List.getElem?_map, List.getElem?_map] at e
  unfold nxt
  cases h1 : pcs[k + 1]? with
  | none =>
    rw [h1] at e
    cases h2 : pcs'[k + 1]? with
    | none => rfl
    | some q => rw [h2] at e; cases e
  | some p =>
    rw [h1] at e
    cases h2 : pcs'[k + 1]? with
    | none => rw [h2] at e; cases e
    | some q =>
      rw [h2] at e
      exact Option.some.inj e
/-- the reasons of one with the lines of another -/
theorem CutOk.mix (C : CutOk Ln Rs m pcs rs) (C' : CutOk Ln Rs m pcs' rs') (h : pcs.map (·.1) = pcs'.map (·.1)) : CutOk Ln Rs m pcs rs' := by
  have hlen : pcs.length = pcs'.length := by
    have := congrArg List.length h
    rw [List.length_map, List.length_map] at this
    exact this
  refine ⟨C.first, C.asc, C.line, by rw [hlen]; exact C'.len, fun k r q hr hq => ?_⟩
  have hk : k < pcs'.length := by rw [← hlen]; exact (List.getElem?_eq_some_iff.mp hq).1
  have e : (pcs.map (·.1))[k]? = (pcs'.map (·.1))[k]? := by rw [h]
  rw [List.getElem?_map, List.getElem?_map, hq, List.getElem?_eq_getElem hk] at e
  have e2 : q.1 = pcs'[k].1 := Option.some.inj e
  rw [e2, nxt_map h]
  exact C'.reason k r _ hr (List.getElem?_eq_getElem hk)
end
/-- a reduced fraction stands for the fraction -/
theorem red_le {n1 d1 g p w n2 d2 : Int} (hg : 0 < g) (e1 : p * g = n1) (e2 : w * g = d1) (h : n1 * d2 ≤ n2 * d1) : p * d2 ≤ n2 * w := by
  have h1 : (p * d2) * g ≤ (n2 * w) * g := by
    have a1 : (p * d2) * g = n1 * d2 := by rw [← e1]; grind
    have a2 : (n2 * w) * g = n2 * d1 := by rw [← e2]; grind
    omega
  exact Int.le_of_mul_le_mul_right h1 hg
theorem red_ge {n1 d1 g p w n2 d2 : Int} (hg : 0 < g) (e1 : p * g = n2) (e2 : w * g = d2) (h : n1 * d2 ≤ n2 * d1) : n1 * w ≤ p * d1 := by
  have h1 : (n1 * w) * g ≤ (p * d1) * g := by
    have a1 : (n1 * w) * g = n1 * d2 := by rw [← e2]; grind
    have a2 : (p * d1) * g = n2 * d1 := by rw [← e1]; grind
    omega
  exact Int.le_of_mul_le_mul_right h1 hg
theorem red_pos {w g d : Int} (hg : 0 < g) (e : w * g = d) (hd : 0 < d) : 0 < w ∧ w ≤ d := by
  have h1 : 0 < w := by
    rcases Int.lt_trichotomy w 0 with h | h | h
    · have := Int.mul_neg_of_neg_of_pos h hg
      omega
    · subst h
      omega
    · exact h
  refine ⟨h1, ?_⟩
  have := Int.mul_le_mul_of_nonneg_left (show 1 ≤ g by omega) (Int.le_of_lt h1)
  omega
theorem red_sign {p g n : Int} (hg : 0 < g) (e : p * g = n) : (p ≤ 0 → n ≤ 0) ∧ (0 ≤ p → 0 ≤ n) ∧ (p < 0 → n < 0) := by
  refine ⟨fun h => ?_, fun h => ?_, fun h => ?_⟩
  · have := Int.mul_le_mul_of_nonneg_right h (Int.le_of_lt hg)
    omega
  · have := Int.mul_nonneg h (Int.le_of_lt hg)
    omega
  · have := Int.mul_neg_of_neg_of_pos h hg
    omega
theorem CutOk.start_ge {α β : Type} {Ln : α → Nat → Prop} {Rs : β → Int → Int → Prop} {m : Int} {pcs : List (Int × α)} {rs : List β} (C : CutOk Ln Rs m pcs rs) : ∀ (k : Nat) (q : Int × α), pcs[k]? = some q → (k : Int) ≤ q.1
  | 0, q, h => (C.asc 0 q h).1
  | k + 1, q, h => by
    have hk := (List.getElem?_eq_some_iff.mp h).1
    have h1 : pcs[k]? = some pcs[k] := List.getElem?_eq_getElem (by omega)
    have ih := C.start_ge k _ h1
    have h2 := (C.asc k _ h1).2.1
    unfold nxt at h2
    rw [h] at h2
    dsimp only at h2
    omega
theorem starts_len {α β : Type} {Ln : α → Nat → Prop} {Rs : β → Int → Int → Prop} {m : Nat} {pcs : List (Int × α)} {rs : List β} (C : CutOk Ln Rs (m : Int) pcs rs) : pcs.length ≤ m := by
  by_cases h : pcs.length = 0
  · omega
  · have h1 : pcs[pcs.length - 1]? = some pcs[pcs.length - 1] := List.getElem?_eq_getElem (by omega)
    have h2 := C.start_ge _ _ h1
    have h3 := (C.asc _ _ h1).2.1
    rw [nxt_none (by omega)] at h3
    omega
section
variable {α β : Type} {Ln : α → Nat → Prop} {Rs : β → Int → Int → Prop} {m : Int} {pcs : List (Int × α)} {rs : List β}
/-- where the pieces end -/
theorem ends_get (k : Nat) (hk : k < pcs.length) : (((pcs.map (·.1)).drop 1) ++ [m])[k]? = some (nxt pcs m k) := by
  unfold nxt
  by_cases h : k + 1 < pcs.length
  · rw [List.getElem?_append_left (by rw [List.length_drop, List.length_map]; omega), List.getElem?_drop, List.getElem?_map, Nat.add_comm 1 k, List.getElem?_eq_getElem h]
    rfl
  · rw [List.getElem?_append_right (by rw [List.length_drop, List.length_map]; omega), List.length_drop, List.length_map, show k - (pcs.length - 1) = 0 by omega, List.getElem?_eq_none (show pcs.length ≤ k + 1 by omega)]
    rfl
theorem starts_get {k : Nat} {q : Int × α} (h : pcs[k]? = some q) : (pcs.map (·.1))[k]? = some q.1 := by
  rw [List.getElem?_map, h]
  rfl
theorem starts_nxt {k : Nat} (h : k + 1 < pcs.length) : (pcs.map (·.1))[k + 1]? = some (nxt pcs m k) := by
  unfold nxt
  rw [List.getElem?_map, List.getElem?_eq_getElem h]
  rfl
/-- the starts as they are looked at -/
theorem CutOk.first' (C : CutOk Ln Rs m pcs rs) (h : 0 < pcs.length) : (pcs.map (·.1))[0]? = some 0 := by
  have h1 : pcs[0]? = some pcs[0] := List.getElem?_eq_getElem h
  rw [List.getElem?_map, h1]
  show some pcs[0].1 = some 0
  rw [C.first _ h1]
theorem CutOk.asc' (C : CutOk Ln Rs m pcs rs) (k : Nat) (s t : Int) (hs : (pcs.map (·.1))[k]? = some s) (ht : (pcs.map (·.1))[k + 1]? = some t) : s < t := by
  rw [List.getElem?_map] at hs ht
  cases h1 : pcs[k]? with
  | none => rw [h1] at hs; cases hs
  | some q =>
    cases h2 : pcs[k + 1]? with
    | none => rw [h2] at ht; cases ht
    | some q2 =>
      rw [h1] at hs
      rw [h2] at ht
      have e1 : q.1 = s := Option.some.inj hs
      have e2 : q2.1 = t := Option.some.inj ht
      have h3 := (C.asc k q h1).2.1
      unfold nxt at h3
      rw [h2] at h3
      dsimp only at h3
      omega
theorem CutOk.in' (C : CutOk Ln Rs m pcs rs) (k : Nat) (s : Int) (hs : (pcs.map (·.1))[k]? = some s) : 0 ≤ s ∧ s < m := by
  rw [List.getElem?_map] at hs
  cases h1 : pcs[k]? with
  | none => rw [h1] at hs; cases hs
  | some q =>
    rw [h1] at hs
    have e1 : q.1 = s := Option.some.inj hs
    obtain ⟨a, b, c⟩ := C.asc k q h1
    omega
end
/-! ### values of a list, rows -/
def vOf (ns : List Int) (i : Nat) : Int := ns.getD i 0
theorem vOf_of {ns : List Int} {i : Nat} {z : Int} (h : ns[i]? = some z) : vOf ns i = z := by
  unfold vOf
  rw [List.getD_eq_getElem?_getD, h]
  rfl
theorem vOf_get {ns : List Int} {i : Nat} (h : i < ns.length) : ns[i]? = some (vOf ns i) := by
  rw [List.getElem?_eq_getElem h, vOf_of (List.getElem?_eq_getElem h)]
/-- (index, value) -/
def rows (ns : List Int) : List (Int × Int) := (List.range ns.length).map fun i : Nat => ((i : Int), vOf ns i)
theorem rows_len (ns : List Int) : (rows ns).length = ns.length := by
  unfold rows
  rw [List.length_map, List.length_range]
theorem rows_get {ns : List Int} {i : Nat} (h : i < ns.length) : (rows ns)[i]? = some ((i : Int), vOf ns i) := by
  unfold rows
  rw [List.getElem?_map, List.getElem?_range h]
  rfl
/-- (key, index) -/
def keyRows (ns : List Int) : List (Int × Int) := (List.range ns.length).map fun i : Nat => (vOf ns i, (i : Int))
theorem keyRows_len (ns : List Int) : (keyRows ns).length = ns.length := by
  unfold keyRows
  rw [List.length_map, List.length_range]
theorem keyRows_get {ns : List Int} {i : Nat} (h : i < ns.length) : (keyRows ns)[i]? = some (vOf ns i, (i : Int)) := by
  unfold keyRows
  rw [List.getElem?_map, List.getElem?_range h]
  rfl
theorem rows_ok {ns : List Int} (h0 : 0 < ns.length) (h1 : ns.length ≤ 10000) : PtsOk (rows ns) := by
  have hx : ∀ i, i < ns.length → px (rows ns) i = (i : Int) := fun i hi => px_of (rows_get hi)
  refine ⟨fun i j hij hj => ?_, fun i hi => ?_, by rw [rows_len]; exact h1, by rw [rows_len]; exact h0⟩
  · rw [rows_len] at hj
    rw [hx i (by omega), hx j hj]
    omega
  · rw [rows_len] at hi
    rw [hx i hi]
    omega
theorem keyRows_ok {ns : List Int} (h0 : 0 < ns.length) (h1 : ns.length ≤ 10000) (asc : AscN (vOf ns) ns.length) (bd : ∀ i, i < ns.length → -1000000 ≤ vOf ns i ∧ vOf ns i ≤ 1000000) : PtsOk (keyRows ns) := by
  have hx : ∀ i, i < ns.length → px (keyRows ns) i = vOf ns i := fun i hi => px_of (keyRows_get hi)
  refine ⟨fun i j hij hj => ?_, fun i hi => ?_, by rw [keyRows_len]; exact h1, by rw [keyRows_len]; exact h0⟩
  · rw [keyRows_len] at hj
    rw [hx i (by omega), hx j hj]
    exact asc i j hij hj
  · rw [keyRows_len] at hi
    rw [hx i hi]
    exact bd i hi
/-! ### flat pieces -/
def SegF (e : Int) (V : Nat → Int) (s t : Nat) : Prop := ∀ i j : Nat, s ≤ i → i < t → s ≤ j → j < t → V i - V j ≤ 2 * e
def LnF (e : Int) (V : Nat → Int) (h : Int) (i : Nat) : Prop := ((V i - h).natAbs : Int) ≤ e
def RsF (e : Int) (V : Nat → Int) (r : Int × Int) (s t : Int) : Prop := s ≤ r.1 ∧ r.1 < r.2 ∧ r.2 ≤ t ∧ 2 * e < ((V r.2.toNat - V r.1.toNat).natAbs : Int)
structure FlatR (e : Int) (V : Nat → Int) (n : Nat) (pcs : List (Int × Int)) (rs : List (Int × Int)) : Prop where
  ok : CutOk (LnF e V) (RsF e V) n pcs rs
  len : rs.length + 1 = pcs.length
  gr : ∃ cs s, Gr (SegF e V) n cs s ∧ pcs.map (·.1) = intsOf (cs ++ [s])
/-! ### coded lists: where an index stands -/
def bsrch (st : List Int) (x : Int) : Nat → Nat → Nat → Nat
  | 0, low, _ => low
  | f + 1, low, high => if low < high then (if vOf st ((low + high + 1) / 2) ≤ x then bsrch st x f ((low + high + 1) / 2) high else bsrch st x f low ((low + high + 1) / 2 - 1)) else low
theorem bsrch_end {st : List Int} {x : Int} {f low high : Nat} (h : high ≤ low) : bsrch st x f low high = low := by
  cases f with
  | zero => rfl
  | succ f =>
    unfold bsrch
    rw [if_neg (by omega)]
theorem bsrch_fuel {st : List Int} {x : Int} : ∀ {f g low high : Nat}, high - low ≤ f → high - low ≤ g → bsrch st x f low high = bsrch st x g low high
  | 0, g, low, high, h1, h2 => by rw [bsrch_end (by omega), bsrch_end (by omega)]
  | f + 1, 0, low, high, h1, h2 => by rw [bsrch_end (by omega), bsrch_end (by omega)]
  | f + 1, g + 1, low, high, h1, h2 => by
    unfold bsrch
    by_cases h : low < high
    · rw [if_pos h, if_pos h]
      by_cases h3 : vOf st ((low + high + 1) / 2) ≤ x
      · rw [if_pos h3, if_pos h3]
        exact bsrch_fuel (by omega) (by omega)
      · rw [if_neg h3, if_neg h3]
        exact bsrch_fuel (by omega) (by omega)
    · rw [if_neg h, if_neg h]
theorem bsrch_le {st : List Int} {x : Int} : ∀ {f low high : Nat}, low ≤ high → bsrch st x f low high ≤ high
  | 0, low, high, h => h
  | f + 1, low, high, h => by
    unfold bsrch
    by_cases h1 : low < high
    · rw [if_pos h1]
      by_cases h3 : vOf st ((low + high + 1) / 2) ≤ x
      · rw [if_pos h3]
        exact bsrch_le (by omega)
      · rw [if_neg h3]
        have := bsrch_le (st := st) (x := x) (f := f) (low := low) (high := (low + high + 1) / 2 - 1) (by omega)
        omega
    · rw [if_neg h1]
      exact h
def lineIx (pcs : List (Int × Int × Int × Int)) (i : Int) : Nat := bsrch (pcs.map (·.1)) i pcs.length 0 (pcs.length - 1)
def lineOf (pcs : List (Int × Int × Int × Int)) (i : Int) : Int × Int × Int := match pcs[lineIx pcs i]? with
  | some q => q.2
  | none => (0, 0, 1)
def floorOf (pcs : List (Int × Int × Int × Int)) (i : Int) : Int := ((lineOf pcs i).1 * i + (lineOf pcs i).2.1) / (lineOf pcs i).2.2
theorem lineIx_lt {pcs : List (Int × Int × Int × Int)} {i : Int} (h : 0 < pcs.length) : lineIx pcs i < pcs.length := by
  have := bsrch_le (st := pcs.map (·.1)) (x := i) (f := pcs.length) (low := 0) (high := pcs.length - 1) (by omega)
  unfold lineIx
  omega
/-! ### spans -/
def sx (sp : List (Int × Int × Int)) (i : Nat) : Int := (sp.getD i (0, 0, 0)).1
def sl (sp : List (Int × Int × Int)) (i : Nat) : Int := (sp.getD i (0, 0, 0)).2.1
def sh (sp : List (Int × Int × Int)) (i : Nat) : Int := (sp.getD i (0, 0, 0)).2.2
theorem sx_of {sp : List (Int × Int × Int)} {i : Nat} {p : Int × Int × Int} (h : sp[i]? = some p) : sx sp i = p.1 ∧ sl sp i = p.2.1 ∧ sh sp i = p.2.2 := by
  unfold sx sl sh
  rw [List.getD_eq_getElem?_getD, h]
  exact ⟨rfl, rfl, rfl⟩
structure SpOk (sp : List (Int × Int × Int)) : Prop where
  asc : AscN (sx sp) sp.length
  bd : ∀ i, i < sp.length → -1000000 ≤ sx sp i ∧ sx sp i ≤ 1000000
  lh : ∀ i, i < sp.length → sl sp i ≤ sh sp i
  len : sp.length ≤ 10000
  pos : 0 < sp.length
/-- a line meets a span -/
def LnS (X lo hi : Nat → Int) (l : Int × Int × Int) (i : Nat) : Prop := lo i * l.2.2 ≤ l.1 * X i + l.2.1 ∧ l.1 * X i + l.2.1 ≤ hi i * l.2.2
def Meet3 (a b c : Int × Int × Int) : Prop := a.2.1 * (c.1 - b.1) + c.2.1 * (b.1 - a.1) ≤ b.2.2 * (c.1 - a.1) ∧ b.2.1 * (c.1 - a.1) ≤ a.2.2 * (c.1 - b.1) + c.2.2 * (b.1 - a.1)
def RsS (X lo hi : Nat → Int) (r : Int × Int × Int) (s t : Int) : Prop := s ≤ r.1 ∧ r.1 < r.2.1 ∧ r.2.1 < r.2.2 ∧ r.2.2 ≤ t ∧
  ¬ Meet3 (X r.1.toNat, lo r.1.toNat, hi r.1.toNat) (X r.2.1.toNat, lo r.2.1.toNat, hi r.2.1.toNat) (X r.2.2.toNat, lo r.2.2.toNat, hi r.2.2.toNat)
structure SpanR (X lo hi : Nat → Int) (n : Nat) (pcs : List (Int × Int × Int × Int)) (rs : List (Int × Int × Int)) : Prop where
  ok : CutOk (LnS X lo hi) (RsS X lo hi) n pcs rs
  len : rs.length + 1 = pcs.length
  gr : ∃ cs s, Gr (FitS X lo hi) n cs s ∧ pcs.map (·.1) = intsOf (cs ++ [s])
  d : ∀ (k : Nat) (q : Int × Int × Int × Int), pcs[k]? = some q → 1 ≤ q.2.2.2 ∧ q.2.2.2 ≤ 2000000
theorem not_meet1 {X lo hi : Nat → Int} {a b n : Nat} (h : (hi n - lo b) * (X b - X a) < (lo b - hi a) * (X n - X b)) : ¬ Meet3 (X a, lo a, hi a) (X b, lo b, hi b) (X n, lo n, hi n) := fun m => by
  have := m.2
  dsimp only at this
  grind
theorem not_meet2 {X lo hi : Nat → Int} {c d n : Nat} (h : (hi d - lo c) * (X n - X d) < (lo n - hi d) * (X d - X c)) : ¬ Meet3 (X c, lo c, hi c) (X d, lo d, hi d) (X n, lo n, hi n) := fun m => by
  have := m.1
  dsimp only at this
  grind
/-- the extreme slopes exist -/
theorem ext_exists {X lo hi : Nat → Int} : ∀ {n : Nat}, 2 ≤ n → AscN X n → (∃ a b, FlatOK X lo hi n a b) ∧ ∃ c d, SteepOK X lo hi n c d := by
  -- the best of finitely many, for pairs in any order
  have key : ∀ (num : Nat → Nat → Int) (n : Nat), 2 ≤ n → AscN X n → ∃ a b, a < b ∧ b < n ∧ ∀ i j, i < j → j < n → num i j * (X b - X a) ≤ num a b * (X j - X i) := by
    intro num n hn A
    have step : ∀ m k : Nat, 1 ≤ m → m < n → k ≤ m → (m = 1 → 1 ≤ k) → ∃ a b, a < b ∧ b < n ∧ ∀ i j, i < j → (j < m ∨ (j = m ∧ i < k)) → num i j * (X b - X a) ≤ num a b * (X j - X i) := by
      intro m
      induction m with
      | zero => intro k h; exact absurd h (by decide)
      | succ m ihm =>
        intro k
        induction k with
        | zero =>
          intro h1 h2 h3 h4
          have hm : 1 ≤ m := by
            rcases Nat.eq_zero_or_pos m with h | h
            · subst h
              exact absurd (h4 rfl) (by decide)
            · exact h
          obtain ⟨a, b, ab, bn, best⟩ := ihm m hm (by omega) (Nat.le_refl _) (fun h => by omega)
          refine ⟨a, b, ab, bn, fun i j hij hj => best i j hij ?_⟩
          rcases hj with hj | ⟨_, hj⟩
          · omega
          · omega
        | succ k ihk =>
          intro h1 h2 h3 h4
          by_cases first : m = 0 ∧ k = 0
          · obtain ⟨e1, e2⟩ := first
            subst e1 e2
            refine ⟨0, 1, by decide, h2, fun i j hij hj => ?_⟩
            have e1 : i = 0 := by omega
            have e2 : j = 1 := by omega
            subst e1 e2
            exact Int.le_refl _
          · obtain ⟨a, b, ab, bn, best⟩ := ihk h1 h2 (by omega) (fun h => by omega)
            have xab := A.pos ab bn
            have xk := A.pos (show k < m + 1 by omega) h2
            by_cases hc : num k (m + 1) * (X b - X a) ≤ num a b * (X (m + 1) - X k)
            · refine ⟨a, b, ab, bn, fun i j hij hj => ?_⟩
              by_cases e : i = k ∧ j = m + 1
              · obtain ⟨e1, e2⟩ := e
                subst e1 e2
                exact hc
              · exact best i j hij (by omega)
            · refine ⟨k, m + 1, by omega, h2, fun i j hij hj => ?_⟩
              by_cases e : i = k ∧ j = m + 1
              · obtain ⟨e1, e2⟩ := e
                subst e1 e2
                exact Int.le_refl _
              · have h5 := best i j hij (by omega)
                have xij := A.pos hij (by omega)
                exact fr_trans xab xij xk h5 (by omega)
    obtain ⟨a, b, ab, bn, best⟩ := step (n - 1) (n - 1) (by omega) (by omega) (Nat.le_refl _) (fun h => by omega)
    exact ⟨a, b, ab, bn, fun i j hij hj => best i j hij (by omega)⟩
  intro n hn A
  obtain ⟨a, b, ab, bn, best⟩ := key (fun i j => lo j - hi i) n hn A
  obtain ⟨c, d, cd, dn, best2⟩ := key (fun i j => -(hi j - lo i)) n hn A
  refine ⟨⟨a, b, ab, bn, best⟩, c, d, cd, dn, fun i j hij hj => ?_⟩
  have := best2 i j hij hj
  grind
/-- what does not fit has three that do not -/
theorem three_of {X lo hi : Nat → Int} {n : Nat} (A : AscN X (n + 1)) (L : ∀ k, k < n + 1 → lo k ≤ hi k) (F : FitN X lo hi n) (hn : 2 ≤ n) (nF : ¬ FitN X lo hi (n + 1)) : ∃ i j, i < j ∧ j < n ∧ ¬ Meet3 (X i, lo i, hi i) (X j, lo j, hi j) (X n, lo n, hi n) := by
  obtain ⟨⟨a, b, P⟩, c, d, S⟩ := ext_exists (lo := lo) (hi := hi) hn (fun i j h1 h2 => A i j h1 (by omega))
  by_cases h1 : (lo b - hi a) * (X n - X b) ≤ (hi n - lo b) * (X b - X a)
  · by_cases h2 : (lo n - hi d) * (X d - X c) ≤ (hi d - lo c) * (X n - X d)
    · exact absurd (fit_ext A F L P S h1 h2) nF
    · exact ⟨c, d, S.lt, S.ltn, not_meet2 (by omega)⟩
  · exact ⟨a, b, P.lt, P.ltn, not_meet1 (by omega)⟩
theorem fit_of {X lo hi : Nat → Int} {n a b c d : Nat} (A : AscN X n) (P : FlatOK X lo hi n a b) (S : SteepOK X lo hi n c d) (h : (lo b - hi a) * (X d - X c) ≤ (hi d - lo c) * (X b - X a)) : FitN X lo hi n := fun i j k m hij hj hkm hm =>
  fr_trans (A.pos P.lt P.ltn) (A.pos hij hj) (A.pos hkm hm) (P.best i j hij hj) (fr_trans (A.pos S.lt S.ltn) (A.pos P.lt P.ltn) (A.pos hkm hm) h (S.best k m hkm hm))
theorem fitN_two {X lo hi : Nat → Int} {n : Nat} (h : n ≤ 2) (A : AscN X n) (L : ∀ k, k < n → lo k ≤ hi k) : FitN X lo hi n := fun i j k m hij hj hkm hm => by
  have e1 : i = 0 := by omega
  have e2 : j = 1 := by omega
  have e3 : k = 0 := by omega
  have e4 : m = 1 := by omega
  subst e1 e2 e3 e4
  have h1 := A.pos hij hj
  have h2 := L 0 (by omega)
  have h3 := L 1 hj
  exact Int.mul_le_mul_of_nonneg_right (by omega) (Int.le_of_lt h1)
/-- a line through spans with a slope between the extreme ones -/
theorem line_meets {X lo hi : Nat → Int} {n : Nat} (A : AscN X n) (L : ∀ k, k < n → lo k ≤ hi k) {a b c d : Nat} (P : FlatOK X lo hi n a b) (S : SteepOK X lo hi n c d) {p q w : Int} (hw : 0 < w)
    (h1 : (lo b - hi a) * w ≤ p * (X b - X a)) (h2 : p * (X d - X c) ≤ (hi d - lo c) * w) {j : Nat} (hj : j < n) (hq : q = lo j * w - p * X j) (hmax : ∀ i, i < n → lo i * w - p * X i ≤ q)
    {i : Nat} (hi' : i < n) : LnS X lo hi (p, q, w) i := by
  have hab := A.pos P.lt P.ltn
  have hcd := A.pos S.lt S.ltn
  have lower := hmax i hi'
  refine ⟨by show lo i * w ≤ p * X i + q; omega, ?_⟩
  show p * X i + q ≤ hi i * w
  rcases Nat.lt_trichotomy i j with h | h | h
  · have xij := A.pos h hj
    have h3 := fr_trans hab xij hw (P.best i j h hj) h1
    grind
  · subst h
    have h3 : (lo i - hi i) * w ≤ 0 * w := Int.mul_le_mul_of_nonneg_right (by have := L i hi'; omega) (Int.le_of_lt hw)
    grind
  · have xji := A.pos h hi'
    have h3 := fr_trans hcd hw xji h2 (S.best j i h hi')
    grind
/-! ### find: the last key that is not above x -/
theorem last_le {V : Nat → Int} {n s t : Nat} {x : Int} (_ : AscN V n) (hst : s < t) (ht : t ≤ n) (hx : V s ≤ x) : ∃ r, s ≤ r ∧ r < t ∧ V r ≤ x ∧ ∀ j, r < j → j < t → x < V j := by
  induction t with
  | zero => omega
  | succ t ih =>
    by_cases h : V t ≤ x
    · exact ⟨t, by omega, Nat.lt_succ_self t, h, fun j h1 h2 => by omega⟩
    · have hs : s ≠ t := fun z => h (by rw [← z]; exact hx)
      obtain ⟨r, h1, h2, h3, h4⟩ := ih (by omega) (by omega)
      refine ⟨r, h1, by omega, h3, fun j h5 h6 => ?_⟩
      by_cases z : j = t
      · rw [z]
        omega
      · exact h4 j h5 (by omega)
theorem floor_ceil {N d : Int} (hd : 0 < d) : N / d ≤ -(-N / d) := by
  have h1 := Int.ediv_mul_le N (Int.ne_of_gt hd)
  have h2 := Int.ediv_mul_le (-N) (Int.ne_of_gt hd)
  have h3 : (N / d + -N / d) * d ≤ 0 * d := by
    rw [Int.add_mul]
    omega
  have h4 := Int.le_of_mul_le_mul_right h3 hd
  omega
theorem find_bounds {ms : List Int} {e : Int} {pcs : List (Int × Int × Int × Int)} {rs : List (Int × Int × Int)} (A : AscN (vOf ms) ms.length) (C : CutR e (px (keyRows ms)) (py (keyRows ms)) ms.length pcs rs) {k : Nat} {q : Int × Int × Int × Int} (hq : pcs[k]? = some q) {x : Int} (hx : vOf ms q.1.toNat ≤ x) :
    ∃ r : Nat, q.1 ≤ (r : Int) ∧ (r : Int) < nxt pcs (ms.length : Int) k ∧ vOf ms r ≤ x ∧ (∀ j : Nat, r < j → (j : Int) < nxt pcs (ms.length : Int) k → x < vOf ms j) ∧
      min (nxt pcs (ms.length : Int) k - 1) (max q.1 (-(-(q.2.1 * x + q.2.2.1) / q.2.2.2) - 1 - e)) ≤ (r : Int) ∧ (r : Int) ≤ min (nxt pcs (ms.length : Int) k - 1) ((q.2.1 * x + q.2.2.1) / q.2.2.2 + e) ∧
      min (nxt pcs (ms.length : Int) k - 1) ((q.2.1 * x + q.2.2.1) / q.2.2.2 + e) - min (nxt pcs (ms.length : Int) k - 1) (max q.1 (-(-(q.2.1 * x + q.2.2.1) / q.2.2.2) - 1 - e)) + 1 ≤ max 1 (2 * e + 2) := by
  obtain ⟨q0, q1, q2⟩ := C.ok.asc k q hq
  obtain ⟨d1, d2, up⟩ := C.d k q hq
  have hd : 0 < q.2.2.2 := by omega
  have hY : ∀ i, i < ms.length → py (keyRows ms) i = (i : Int) := fun i hi => py_of (keyRows_get hi)
  have hX : ∀ i, i < ms.length → px (keyRows ms) i = vOf ms i := fun i hi => px_of (keyRows_get hi)
  have hp : 0 ≤ q.2.1 := up fun i j hij hj => by
    rw [hY i (by omega), hY j hj]
    omega
  obtain ⟨r, r1, r2, r3, r4⟩ := last_le (s := q.1.toNat) (t := (nxt pcs (ms.length : Int) k).toNat) A (by omega) (by omega) hx
  have near : ∀ i : Nat, q.1 ≤ (i : Int) → (i : Int) < nxt pcs (ms.length : Int) k → -(e * q.2.2.2) ≤ q.2.1 * vOf ms i + q.2.2.1 - (i : Int) * q.2.2.2 ∧ q.2.1 * vOf ms i + q.2.2.1 - (i : Int) * q.2.2.2 ≤ e * q.2.2.2 := fun i h1 h2 => by
    have h3 := C.ok.line k q hq i h1 h2
    unfold LnP NearL at h3
    rw [hX i (by omega), hY i (by omega)] at h3
    dsimp only at h3
    omega
  have fc := floor_ceil (N := q.2.1 * x + q.2.2.1) hd
  have hfl : (r : Int) - e ≤ (q.2.1 * x + q.2.2.1) / q.2.2.2 := by
    refine (Int.le_ediv_iff_mul_le hd).mpr ?_
    have h1 := (near r (by omega) (by omega)).1
    have h2 : q.2.1 * vOf ms r ≤ q.2.1 * x := Int.mul_le_mul_of_nonneg_left r3 hp
    have h3 : ((r : Int) - e) * q.2.2.2 = (r : Int) * q.2.2.2 - e * q.2.2.2 := Int.sub_mul _ _ _
    omega
  have hce : (r : Int) + 1 < nxt pcs (ms.length : Int) k → -(-(q.2.1 * x + q.2.2.1) / q.2.2.2) ≤ (r : Int) + 1 + e := fun hr => by
    have h0 : -((r : Int) + 1 + e) ≤ -(q.2.1 * x + q.2.2.1) / q.2.2.2 := by
      refine (Int.le_ediv_iff_mul_le hd).mpr ?_
      have h1 := (near (r + 1) (by omega) (by omega)).2
      have h2 : q.2.1 * x ≤ q.2.1 * vOf ms (r + 1) := Int.mul_le_mul_of_nonneg_left (Int.le_of_lt (r4 (r + 1) (by omega) (by omega))) hp
      have h3 : -((r : Int) + 1 + e) * q.2.2.2 = -(((r + 1 : Nat) : Int) * q.2.2.2 + e * q.2.2.2) := by
        rw [show ((r + 1 : Nat) : Int) = (r : Int) + 1 by omega]
        grind
      omega
    omega
  refine ⟨r, by omega, by omega, r3, fun j h1 h2 => r4 j h1 (by omega), ?_, ?_, ?_⟩
  · by_cases z : (r : Int) + 1 < nxt pcs (ms.length : Int) k
    · have := hce z
      omega
    · omega
  · omega
  · omega
/-- halving -/
theorem half_size {m L c : Nat} (h2 : 2 ≤ m) (hc : c ≤ L) (h : m ≤ 2 ^ (L - c)) : c + 1 ≤ L ∧ (m + 1) / 2 ≤ 2 ^ (L - (c + 1)) := by
  have h1 : c < L := by
    rcases Nat.lt_or_ge c L with z | z
    · exact z
    · have e1 : L - c = 0 := by omega
      rw [e1] at h
      omega
  refine ⟨h1, ?_⟩
  have e1 : L - c = (L - (c + 1)) + 1 := by omega
  rw [e1, Nat.pow_succ] at h
  omega
/-! ### the levels of an index -/
theorem CutOk.start_mono {α β : Type} {Ln : α → Nat → Prop} {Rs : β → Int → Int → Prop} {m : Int} {pcs : List (Int × α)} {rs : List β} (C : CutOk Ln Rs m pcs rs) {i : Nat} {q : Int × α} (hq : pcs[i]? = some q) : ∀ {j : Nat} {q' : Int × α}, i < j → pcs[j]? = some q' → q.1 < q'.1
  | 0, q', h, _ => absurd h (Nat.not_lt_zero i)
  | j + 1, q', h, hq' => by
    have hj := (List.getElem?_eq_some_iff.mp hq').1
    have h1 : pcs[j]? = some pcs[j] := List.getElem?_eq_getElem (by omega)
    have h2 := (C.asc j _ h1).2.1
    unfold nxt at h2
    rw [hq'] at h2
    dsimp only at h2
    rcases Nat.lt_or_ge i j with z | z
    · have := C.start_mono hq z h1
      omega
    · have e : i = j := by omega
      subst e
      rw [hq] at h1
      cases Option.some.inj h1
      exact h2
theorem start_two {e : Int} {X Y : Nat → Int} {n : Nat} {pcs : List (Int × Int × Int × Int)} {rs : List (Int × Int × Int)} (C : CutR e X Y n pcs rs) : ∀ (k : Nat) (q : Int × Int × Int × Int), pcs[k]? = some q → 2 * (k : Int) ≤ q.1
  | 0, q, h => by have := (C.ok.asc 0 q h).1; omega
  | k + 1, q, h => by
    have hk := (List.getElem?_eq_some_iff.mp h).1
    have h1 : pcs[k]? = some pcs[k] := List.getElem?_eq_getElem (by omega)
    have ih := start_two C k _ h1
    have hl := C.len
    have h3 : rs[k]? = some rs[k] := List.getElem?_eq_getElem (by omega)
    obtain ⟨a, b, c, d, _⟩ := C.ok.reason k _ _ h3 h1
    unfold nxt at d
    rw [h] at d
    dsimp only at d
    omega
theorem pieces_half {e : Int} {X Y : Nat → Int} {n : Nat} {pcs : List (Int × Int × Int × Int)} {rs : List (Int × Int × Int)} (C : CutR e X Y n pcs rs) : 2 * pcs.length ≤ n + 1 := by
  have hl := C.len
  have h1 : pcs[pcs.length - 1]? = some pcs[pcs.length - 1] := List.getElem?_eq_getElem (by omega)
  have h2 := start_two C _ _ h1
  have h3 := (C.ok.asc _ _ h1).2
  rw [nxt_none (by omega)] at h3
  omega
theorem start_lt {α β : Type} {Ln : α → Nat → Prop} {Rs : β → Int → Int → Prop} {n : Nat} {pcs : List (Int × α)} {rs : List β} (C : CutOk Ln Rs (n : Int) pcs rs) {k : Nat} {q : Int × α} (h : pcs[k]? = some q) : 0 ≤ q.1 ∧ q.1.toNat < n := by
  have := C.asc k q h
  omega
/-- the last key that is not above x -/
structure LastK (ms : List Int) (x : Int) (r : Nat) : Prop where
  lt : r < ms.length
  le : vOf ms r ≤ x
  gt : r + 1 < ms.length → x < vOf ms (r + 1)
def RankOf (ms : List Int) (x : Int) (t : Nat) : Prop := t ≤ ms.length ∧ ∀ i, i < ms.length → (vOf ms i ≤ x ↔ i < t)
theorem LastK.rank {ms : List Int} {x : Int} {r : Nat} (A : AscN (vOf ms) ms.length) (L : LastK ms x r) : RankOf ms x (r + 1) := by
  have h1 := L.lt
  have h2 := L.le
  refine ⟨h1, fun i hi => ⟨fun h => ?_, fun h => ?_⟩⟩
  · rcases Nat.lt_or_ge i (r + 1) with z | z
    · exact z
    · have h3 := L.gt (by omega)
      rcases Nat.lt_or_ge (r + 1) i with z2 | z2
      · have := A (r + 1) i z2 hi
        omega
      · have e : i = r + 1 := by omega
        subst e
        omega
  · rcases Nat.lt_or_ge i r with z | z
    · have := A i r z h1
      omega
    · have e : i = r := by omega
      rw [e]
      exact h2
theorem rank_zero {ms : List Int} {x : Int} (A : AscN (vOf ms) ms.length) (h : x < vOf ms 0) : RankOf ms x 0 := by
  refine ⟨Nat.zero_le _, fun i hi => ⟨fun h1 => ?_, fun h1 => absurd h1 (Nat.not_lt_zero i)⟩⟩
  rcases Nat.eq_zero_or_pos i with z | z
  · subst z
    omega
  · have := A 0 i z hi
    omega
/-- the count of those that are not above x -/
theorem rank_filter {ms : List Int} {x : Int} : ∀ {t : Nat}, RankOf ms x t → (ms.filter fun z => decide (z ≤ x)).length = t := by
  induction ms with
  | nil =>
    intro t h
    have := h.1
    simp at this ⊢
    omega
  | cons a r ih =>
    intro t h
    obtain ⟨h1, h2⟩ := h
    have h0 := h2 0 (by simp)
    have ea : vOf (a :: r) 0 = a := rfl
    rw [ea] at h0
    have tl : ∀ i, vOf (a :: r) (i + 1) = vOf r i := fun i => rfl
    rcases Nat.eq_zero_or_pos t with z | z
    · subst z
      have hr : RankOf r x 0 := ⟨Nat.zero_le _, fun i hi => by
        have := h2 (i + 1) (by simp; exact hi)
        rw [tl] at this
        constructor
        · intro h; have := this.mp h; omega
        · intro h; omega⟩
      rw [List.filter_cons_of_neg (by simp; omega)]
      exact ih hr
    · have hr : RankOf r x (t - 1) := ⟨by simp at h1; omega, fun i hi => by
        have := h2 (i + 1) (by simp; exact hi)
        rw [tl] at this
        rw [this]
        omega⟩
      rw [List.filter_cons_of_pos (by simp; exact h0.mpr z), List.length_cons, ih hr]
      omega
open PySem PySem.Spec PyProof.Rows L2
open PySem L2
def top (i : Nat) : Stmt := PySem.Challenge.pw_fewestlines_k60_whole_long_curves.main.body.getD i (.Pass ⟨0, 0, 0, 0⟩)
abbrev s_common_divisor : Stmt := top 2
abbrev s_floor_at : Stmt := top 3
abbrev s_ceiling_at : Stmt := top 4
abbrev s_is_near : Stmt := top 5
abbrev s_line_fits : Stmt := top 6
abbrev s_three_fit : Stmt := top 8
abbrev s_fraction : Stmt := top 9
abbrev s_is_less : Stmt := top 10
abbrev s_slope_between : Stmt := top 11
abbrev s_line_with_slope : Stmt := top 12
abbrev s_turn : Stmt := top 14
abbrev s_rise_over : Stmt := top 15
abbrev s_is_below : Stmt := top 16
abbrev s_Fitter_init : Stmt := inClass (top 17) 0
abbrev s_Fitter_conflict : Stmt := inClass (top 17) 1
abbrev s_Fitter_add : Stmt := inClass (top 17) 2
abbrev s_Fitter_add_corners : Stmt := inClass (top 17) 3
abbrev s_Fitter_lower_steep : Stmt := inClass (top 17) 4
abbrev s_Fitter_raise_flat : Stmt := inClass (top 17) 5
abbrev s_Fitter_line : Stmt := inClass (top 17) 7
abbrev s_Cutting_init : Stmt := inClass (top 19) 0
abbrev s_cut : Stmt := top 20
abbrev s_are_starts : Stmt := top 21
abbrev s_is_reason : Stmt := top 22
abbrev s_judge : Stmt := top 23
abbrev s_Coded_init : Stmt := inClass (top 25) 0
abbrev s_Coded_line_at : Stmt := inClass (top 25) 1
abbrev s_Coded_value_at : Stmt := inClass (top 25) 2
abbrev s_Coded_decoded : Stmt := inClass (top 25) 3
abbrev s_FlatCutting_init : Stmt := inClass (top 27) 0
abbrev s_flat_cut : Stmt := top 28
abbrev s_is_flat : Stmt := top 29
abbrev s_is_flat_reason : Stmt := top 30
abbrev s_judge_flat : Stmt := top 31
abbrev s_Level_init : Stmt := inClass (top 33) 0
abbrev s_Level_end_of : Stmt := inClass (top 33) 1
abbrev s_Level_find : Stmt := inClass (top 33) 2
abbrev s_Index_init : Stmt := inClass (top 34) 0
abbrev s_Index_level_keys : Stmt := inClass (top 34) 1
abbrev s_Index_look_up : Stmt := inClass (top 34) 3
abbrev s_SpanCutting_init : Stmt := inClass (top 36) 0
abbrev s_three_meet : Stmt := top 37
abbrev s_meets : Stmt := top 38
abbrev s_bounds_with : Stmt := top 39
abbrev s_line_through : Stmt := top 40
abbrev s_reason_with : Stmt := top 41
abbrev s_span_cut : Stmt := top 42
abbrev s_is_span_piece : Stmt := top 43
abbrev s_is_span_reason : Stmt := top 44
abbrev s_judge_spans : Stmt := top 45
abbrev s_Stream_init : Stmt := inClass (top 47) 0
abbrev s_Stream_push : Stmt := inClass (top 47) 1
abbrev s_Stream_pieces : Stmt := inClass (top 47) 2
abbrev s_law_cell : Stmt := top 49
abbrev s_law_digits : Stmt := top 50
abbrev s_law_three : Stmt := top 51
abbrev s_law_near : Stmt := top 52
abbrev s_law_judged : Stmt := top 53
abbrev s_law_digits_of : Stmt := top 54
abbrev s_law_looks_right : Stmt := top 55
abbrev s_law_curve : Stmt := top 56
abbrev s_law_flat_starts : Stmt := top 57
abbrev s_law : Stmt := top 58
set_option maxHeartbeats 0
def d_common_divisor : He.DefD := ⟨("common_divisor", none), "common_divisor", "common_divisor", defArgs s_common_divisor, defBody s_common_divisor, defScope s_common_divisor, [], []⟩
def d_floor_at : He.DefD := ⟨("floor_at", none), "floor_at", "floor_at", defArgs s_floor_at, defBody s_floor_at, defScope s_floor_at, [], []⟩
def d_ceiling_at : He.DefD := ⟨("ceiling_at", none), "ceiling_at", "ceiling_at", defArgs s_ceiling_at, defBody s_ceiling_at, defScope s_ceiling_at, [], []⟩
def d_is_near : He.DefD := ⟨("is_near", none), "is_near", "is_near", defArgs s_is_near, defBody s_is_near, defScope s_is_near, [], []⟩
def d_line_fits : He.DefD := ⟨("line_fits", none), "line_fits", "line_fits", defArgs s_line_fits, defBody s_line_fits, defScope s_line_fits, [], []⟩
def d_three_fit : He.DefD := ⟨("three_fit", none), "three_fit", "three_fit", defArgs s_three_fit, defBody s_three_fit, defScope s_three_fit, [], []⟩
def d_fraction : He.DefD := ⟨("fraction", none), "fraction", "fraction", defArgs s_fraction, defBody s_fraction, defScope s_fraction, [], []⟩
def d_is_less : He.DefD := ⟨("is_less", none), "is_less", "is_less", defArgs s_is_less, defBody s_is_less, defScope s_is_less, [], []⟩
def d_slope_between : He.DefD := ⟨("slope_between", none), "slope_between", "slope_between", defArgs s_slope_between, defBody s_slope_between, defScope s_slope_between, [], []⟩
def d_line_with_slope : He.DefD := ⟨("line_with_slope", none), "line_with_slope", "line_with_slope", defArgs s_line_with_slope, defBody s_line_with_slope, defScope s_line_with_slope, [], []⟩
def d_turn : He.DefD := ⟨("turn", none), "turn", "turn", defArgs s_turn, defBody s_turn, defScope s_turn, [], []⟩
def d_rise_over : He.DefD := ⟨("rise_over", none), "rise_over", "rise_over", defArgs s_rise_over, defBody s_rise_over, defScope s_rise_over, [], []⟩
def d_is_below : He.DefD := ⟨("is_below", none), "is_below", "is_below", defArgs s_is_below, defBody s_is_below, defScope s_is_below, [], []⟩
def d_Fitter_init : He.DefD := ⟨("Fitter", some "__init__"), "__init__", "Fitter.__init__", defArgs s_Fitter_init, defBody s_Fitter_init, defScope s_Fitter_init, [], []⟩
def d_Fitter_conflict : He.DefD := ⟨("Fitter", some "conflict"), "conflict", "Fitter.conflict", defArgs s_Fitter_conflict, defBody s_Fitter_conflict, defScope s_Fitter_conflict, [], []⟩
def d_Fitter_add : He.DefD := ⟨("Fitter", some "add"), "add", "Fitter.add", defArgs s_Fitter_add, defBody s_Fitter_add, defScope s_Fitter_add, [], []⟩
def d_Fitter_add_corners : He.DefD := ⟨("Fitter", some "add_corners"), "add_corners", "Fitter.add_corners", defArgs s_Fitter_add_corners, defBody s_Fitter_add_corners, defScope s_Fitter_add_corners, [], []⟩
def d_Fitter_lower_steep : He.DefD := ⟨("Fitter", some "lower_steep"), "lower_steep", "Fitter.lower_steep", defArgs s_Fitter_lower_steep, defBody s_Fitter_lower_steep, defScope s_Fitter_lower_steep, [], []⟩
def d_Fitter_raise_flat : He.DefD := ⟨("Fitter", some "raise_flat"), "raise_flat", "Fitter.raise_flat", defArgs s_Fitter_raise_flat, defBody s_Fitter_raise_flat, defScope s_Fitter_raise_flat, [], []⟩
def d_Fitter_line : He.DefD := ⟨("Fitter", some "line"), "line", "Fitter.line", defArgs s_Fitter_line, defBody s_Fitter_line, defScope s_Fitter_line, [], []⟩
def d_Cutting_init : He.DefD := ⟨("Cutting", some "__init__"), "__init__", "Cutting.__init__", defArgs s_Cutting_init, defBody s_Cutting_init, defScope s_Cutting_init, [], []⟩
def d_cut : He.DefD := ⟨("cut", none), "cut", "cut", defArgs s_cut, defBody s_cut, defScope s_cut, [], []⟩
def d_are_starts : He.DefD := ⟨("are_starts", none), "are_starts", "are_starts", defArgs s_are_starts, defBody s_are_starts, defScope s_are_starts, [], []⟩
def d_is_reason : He.DefD := ⟨("is_reason", none), "is_reason", "is_reason", defArgs s_is_reason, defBody s_is_reason, defScope s_is_reason, [], []⟩
def d_judge : He.DefD := ⟨("judge", none), "judge", "judge", defArgs s_judge, defBody s_judge, defScope s_judge, [], []⟩
def d_Coded_init : He.DefD := ⟨("Coded", some "__init__"), "__init__", "Coded.__init__", defArgs s_Coded_init, defBody s_Coded_init, defScope s_Coded_init, [], []⟩
def d_Coded_line_at : He.DefD := ⟨("Coded", some "line_at"), "line_at", "Coded.line_at", defArgs s_Coded_line_at, defBody s_Coded_line_at, defScope s_Coded_line_at, [], []⟩
def d_Coded_value_at : He.DefD := ⟨("Coded", some "value_at"), "value_at", "Coded.value_at", defArgs s_Coded_value_at, defBody s_Coded_value_at, defScope s_Coded_value_at, [], []⟩
def d_Coded_decoded : He.DefD := ⟨("Coded", some "decoded"), "decoded", "Coded.decoded", defArgs s_Coded_decoded, defBody s_Coded_decoded, defScope s_Coded_decoded, [], []⟩
def d_FlatCutting_init : He.DefD := ⟨("FlatCutting", some "__init__"), "__init__", "FlatCutting.__init__", defArgs s_FlatCutting_init, defBody s_FlatCutting_init, defScope s_FlatCutting_init, [], []⟩
def d_flat_cut : He.DefD := ⟨("flat_cut", none), "flat_cut", "flat_cut", defArgs s_flat_cut, defBody s_flat_cut, defScope s_flat_cut, [], []⟩
def d_is_flat : He.DefD := ⟨("is_flat", none), "is_flat", "is_flat", defArgs s_is_flat, defBody s_is_flat, defScope s_is_flat, [], []⟩
def d_is_flat_reason : He.DefD := ⟨("is_flat_reason", none), "is_flat_reason", "is_flat_reason", defArgs s_is_flat_reason, defBody s_is_flat_reason, defScope s_is_flat_reason, [], []⟩
def d_judge_flat : He.DefD := ⟨("judge_flat", none), "judge_flat", "judge_flat", defArgs s_judge_flat, defBody s_judge_flat, defScope s_judge_flat, [], []⟩
def d_Level_init : He.DefD := ⟨("Level", some "__init__"), "__init__", "Level.__init__", defArgs s_Level_init, defBody s_Level_init, defScope s_Level_init, [], []⟩
def d_Level_end_of : He.DefD := ⟨("Level", some "end_of"), "end_of", "Level.end_of", defArgs s_Level_end_of, defBody s_Level_end_of, defScope s_Level_end_of, [], []⟩
def d_Level_find : He.DefD := ⟨("Level", some "find"), "find", "Level.find", defArgs s_Level_find, defBody s_Level_find, defScope s_Level_find, [], []⟩
def d_Index_init : He.DefD := ⟨("Index", some "__init__"), "__init__", "Index.__init__", defArgs s_Index_init, defBody s_Index_init, defScope s_Index_init, [], []⟩
def d_Index_level_keys : He.DefD := ⟨("Index", some "level_keys"), "level_keys", "Index.level_keys", defArgs s_Index_level_keys, defBody s_Index_level_keys, defScope s_Index_level_keys, [], []⟩
def d_Index_look_up : He.DefD := ⟨("Index", some "look_up"), "look_up", "Index.look_up", defArgs s_Index_look_up, defBody s_Index_look_up, defScope s_Index_look_up, [], []⟩
def d_SpanCutting_init : He.DefD := ⟨("SpanCutting", some "__init__"), "__init__", "SpanCutting.__init__", defArgs s_SpanCutting_init, defBody s_SpanCutting_init, defScope s_SpanCutting_init, [], []⟩
def d_three_meet : He.DefD := ⟨("three_meet", none), "three_meet", "three_meet", defArgs s_three_meet, defBody s_three_meet, defScope s_three_meet, [], []⟩
def d_meets : He.DefD := ⟨("meets", none), "meets", "meets", defArgs s_meets, defBody s_meets, defScope s_meets, [], []⟩
def d_bounds_with : He.DefD := ⟨("bounds_with", none), "bounds_with", "bounds_with", defArgs s_bounds_with, defBody s_bounds_with, defScope s_bounds_with, [], []⟩
def d_line_through : He.DefD := ⟨("line_through", none), "line_through", "line_through", defArgs s_line_through, defBody s_line_through, defScope s_line_through, [], []⟩
def d_reason_with : He.DefD := ⟨("reason_with", none), "reason_with", "reason_with", defArgs s_reason_with, defBody s_reason_with, defScope s_reason_with, [], []⟩
def d_span_cut : He.DefD := ⟨("span_cut", none), "span_cut", "span_cut", defArgs s_span_cut, defBody s_span_cut, defScope s_span_cut, [], []⟩
def d_is_span_piece : He.DefD := ⟨("is_span_piece", none), "is_span_piece", "is_span_piece", defArgs s_is_span_piece, defBody s_is_span_piece, defScope s_is_span_piece, [], []⟩
def d_is_span_reason : He.DefD := ⟨("is_span_reason", none), "is_span_reason", "is_span_reason", defArgs s_is_span_reason, defBody s_is_span_reason, defScope s_is_span_reason, [], []⟩
def d_judge_spans : He.DefD := ⟨("judge_spans", none), "judge_spans", "judge_spans", defArgs s_judge_spans, defBody s_judge_spans, defScope s_judge_spans, [], []⟩
def d_Stream_init : He.DefD := ⟨("Stream", some "__init__"), "__init__", "Stream.__init__", defArgs s_Stream_init, defBody s_Stream_init, defScope s_Stream_init, [], []⟩
def d_Stream_push : He.DefD := ⟨("Stream", some "push"), "push", "Stream.push", defArgs s_Stream_push, defBody s_Stream_push, defScope s_Stream_push, [], []⟩
def d_Stream_pieces : He.DefD := ⟨("Stream", some "pieces"), "pieces", "Stream.pieces", defArgs s_Stream_pieces, defBody s_Stream_pieces, defScope s_Stream_pieces, [], []⟩
def d_law_cell : He.DefD := ⟨("_law_cell", none), "_law_cell", "_law_cell", defArgs s_law_cell, defBody s_law_cell, defScope s_law_cell, [], []⟩
def d_law_digits : He.DefD := ⟨("_law_digits", none), "_law_digits", "_law_digits", defArgs s_law_digits, defBody s_law_digits, defScope s_law_digits, [], []⟩
def d_law_three : He.DefD := ⟨("_law_three", none), "_law_three", "_law_three", defArgs s_law_three, defBody s_law_three, defScope s_law_three, [], []⟩
def d_law_near : He.DefD := ⟨("_law_near", none), "_law_near", "_law_near", defArgs s_law_near, defBody s_law_near, defScope s_law_near, [], []⟩
def d_law_judged : He.DefD := ⟨("_law_judged", none), "_law_judged", "_law_judged", defArgs s_law_judged, defBody s_law_judged, defScope s_law_judged, [], []⟩
def d_law_digits_of : He.DefD := ⟨("_law_digits_of", none), "_law_digits_of", "_law_digits_of", defArgs s_law_digits_of, defBody s_law_digits_of, defScope s_law_digits_of, [], []⟩
def d_law_looks_right : He.DefD := ⟨("_law_looks_right", none), "_law_looks_right", "_law_looks_right", defArgs s_law_looks_right, defBody s_law_looks_right, defScope s_law_looks_right, [], []⟩
def d_law_curve : He.DefD := ⟨("_law_curve", none), "_law_curve", "_law_curve", defArgs s_law_curve, defBody s_law_curve, defScope s_law_curve, [], []⟩
def d_law_flat_starts : He.DefD := ⟨("_law_flat_starts", none), "_law_flat_starts", "_law_flat_starts", defArgs s_law_flat_starts, defBody s_law_flat_starts, defScope s_law_flat_starts, [], []⟩
def d_law : He.DefD := ⟨("law", none), "law", "law", defArgs s_law, defBody s_law, defScope s_law, [], []⟩
def fn : List He.DefD := [d_common_divisor, d_floor_at, d_ceiling_at, d_is_near, d_line_fits, d_three_fit, d_fraction, d_is_less, d_slope_between, d_line_with_slope, d_turn, d_rise_over, d_is_below, d_Fitter_init, d_Fitter_conflict, d_Fitter_add, d_Fitter_add_corners, d_Fitter_lower_steep, d_Fitter_raise_flat, d_Fitter_line, d_Cutting_init, d_cut, d_are_starts, d_is_reason, d_judge, d_Coded_init, d_Coded_line_at, d_Coded_value_at, d_Coded_decoded, d_FlatCutting_init, d_flat_cut, d_is_flat, d_is_flat_reason, d_judge_flat, d_Level_init, d_Level_end_of, d_Level_find, d_Index_init, d_Index_level_keys, d_Index_look_up, d_SpanCutting_init, d_three_meet, d_meets, d_bounds_with, d_line_through, d_reason_with, d_span_cut, d_is_span_piece, d_is_span_reason, d_judge_spans, d_Stream_init, d_Stream_push, d_Stream_pieces, d_law_cell, d_law_digits, d_law_three, d_law_near, d_law_judged, d_law_digits_of, d_law_looks_right, d_law_curve, d_law_flat_starts, d_law]
def fa0 : List He.Fa := [.glo "common_divisor", .glo "floor_at", .glo "ceiling_at", .glo "is_near", .glo "line_fits", .glo "three_fit", .glo "fraction", .glo "is_less", .glo "slope_between", .glo "line_with_slope", .glo "turn", .glo "rise_over", .glo "is_below", .glo "cut", .glo "are_starts", .glo "is_reason", .glo "judge", .glo "flat_cut", .glo "is_flat", .glo "is_flat_reason", .glo "judge_flat", .glo "three_meet", .glo "meets", .glo "bounds_with", .glo "line_through", .glo "reason_with", .glo "span_cut", .glo "is_span_piece", .glo "is_span_reason", .glo "judge_spans"]
def fa1 : List He.Fa := [.glo "_law_cell", .glo "_law_digits", .glo "_law_three", .glo "_law_near", .glo "_law_judged", .glo "_law_digits_of", .glo "_law_looks_right", .glo "_law_curve", .glo "_law_flat_starts", .glo "law", .glo "Fitter", .cls "Fitter", .noat "Fitter" "_bottoms", .noat "Fitter" "_flat", .noat "Fitter" "_points", .noat "Fitter" "_steep", .noat "Fitter" "_tops", .noat "Fitter" "count", .noat "Fitter" "error", .meth "Fitter" "conflict", .meth "Fitter" "add", .meth "Fitter" "add_corners", .meth "Fitter" "lower_steep", .meth "Fitter" "raise_flat", .meth "Fitter" "line", .mkr "Fitter", .glo "Cutting", .cls "Cutting", .noat "Cutting" "pieces", .noat "Cutting" "reasons"]
def fa2 : List He.Fa := [.mkr "Cutting", .glo "Coded", .cls "Coded", .noat "Coded" "corrections", .noat "Coded" "pieces", .meth "Coded" "line_at", .meth "Coded" "value_at", .meth "Coded" "decoded", .mkr "Coded", .glo "FlatCutting", .cls "FlatCutting", .noat "FlatCutting" "pieces", .noat "FlatCutting" "reasons", .mkr "FlatCutting", .glo "Level", .cls "Level", .noat "Level" "error", .noat "Level" "marks", .noat "Level" "pieces", .meth "Level" "end_of", .meth "Level" "find", .mkr "Level", .glo "Index", .cls "Index", .noat "Index" "_levels", .noat "Index" "stored", .meth "Index" "level_keys", .meth "Index" "look_up", .mkr "Index", .glo "SpanCutting"]
def fa3 : List He.Fa := [.cls "SpanCutting", .noat "SpanCutting" "pieces", .noat "SpanCutting" "reasons", .mkr "SpanCutting", .glo "Stream", .cls "Stream", .noat "Stream" "_closed", .noat "Stream" "_fitter", .noat "Stream" "_start", .noat "Stream" "error", .noat "Stream" "length", .meth "Stream" "push", .meth "Stream" "pieces", .mkr "Stream", .free "len", .free "abs", .free "max", .free "min", .free "enumerate", .free "range", .free "list", .free "all", .free "int", .free "isinstance", .free "tuple"]
def fa : List He.Fa := fa0 ++ fa1 ++ fa2 ++ fa3
def loose0 : List PySem.Str := ["_wall", "common_divisor", "floor_at", "ceiling_at", "is_near", "line_fits", "three_fit", "fraction", "is_less", "slope_between", "line_with_slope", "turn", "rise_over", "is_below", "Fitter", "Cutting", "cut", "are_starts", "is_reason", "judge", "Coded", "FlatCutting", "flat_cut", "is_flat", "is_flat_reason", "judge_flat", "Level", "Index", "SpanCutting", "three_meet"]
def loose1 : List PySem.Str := ["meets", "bounds_with", "line_through", "reason_with", "span_cut", "is_span_piece", "is_span_reason", "judge_spans", "Stream", "_law_cell", "_law_digits", "_law_three", "_law_near", "_law_judged", "_law_digits_of", "_law_looks_right", "_law_curve", "_law_flat_starts"]
def loose : List PySem.Str := loose0 ++ loose1
-- law at 58; defs 63, facts 115
abbrev R : PySem.W.OpenRow := PySem.W.OpenLaw.row PySem.Challenge.rw_fewestlines_k60_whole_long_curves
abbrev hk : PySem.W.Hook := He.hookD 5 fa fn
def ob (s : PySem.W.SharedT) : He.AlD := He.obsDG 5 fa fn (HandSHeadRun.getT s)
theorem ob_eq (s : PySem.W.SharedT) : ob s = hk.obs s.abs := He.obsDG_eq (HandSHeadRun.getT_eq s)
theorem run (w : World) : HandSHeadRun.RunEq R (PySem.W.view R.prog [58]) hk ob 9000 loose w := by
  intro os
  kernel_rfl
set_option maxHeartbeats 4000000
abbrev St := L2.St

/-! ### what stands behind the top: bundles -/
section
variable (P : Program) (w : World) (K : PySem.W.Frag) (mg : Str → Option Value) (base : Heap)
/-- a def of the module and its promise -/
structure Gd (x : Str) (k : Nat) (ps : List Str) (sp : Sp) : Prop where
  ex : ∃ (f : Addr) (fd : FuncData), FnOk P w K mg base CX0 k f fd ps sp ∧ mg x = some (.ref f) ∧ PySem.W.keepIn K (.ref f) = true ∧ Binds K fd ps []
/-- a method -/
structure Md (C : Addr) (m : Str) (k : Nat) (ps : List Str) (sp : Sp) : Prop where
  ex : ∃ (f : Addr) (fd : FuncData), FnOk P w K mg base CX0 k f fd ps sp ∧ Meth K C m f ∧ Binds K fd ps [] ∧ Cls K C
/-- a class and the promise of its __init__ -/
structure Kd (x : Str) (C : Addr) (k : Nat) (ps : List Str) (sp : Sp) : Prop where
  ex : ∃ (f : Addr) (fd : FuncData), FnOk P w K mg base CX0 k f fd ps sp ∧ Mk K C f ∧ mg x = some (.ref C) ∧ Binds K fd ps []
end
def tG (sp : Sp) (t : TA) : TE := fun σ H Q => t σ H fun vs H1 => sp vs H1 Q E0
def tM (C : Addr) (m : Str) (sp : Sp) (ta : TE) (t : TA) : TE := fun σ H Q => ta σ H fun x H1 => (∃ a dx fs, x = .ref a ∧ H1 a = some (.ins C dx fs) ∧ fs.lookup m = none) ∧ t σ H1 fun vs H2 => sp (x :: vs) H2 Q E0
/-- a new instance of C, its __init__ called -/
def MkK (C : Addr) (sp : Sp) (Q : VK) : List V → Hp → Prop := fun vs H1 => ∀ x dx, H1 x = none → H1 dx = none → dx ≠ x → sp (.ref x :: (vs ++ [])) (upd (upd H1 dx (.own x)) x (.ins C dx [])) (fun v H2 => v = .non ∧ Q (.ref x) H2) E0
def tK (C : Addr) (sp : Sp) (t : TA) : TE := fun σ H Q => t σ H (MkK C sp Q)
section
variable {X : Cx} {k : Nat} {C : Addr} {x m : Str} {ps : List Str} {sp : Sp} {p pos apos : Pos} {e o : Expr} {es : List Expr} {t : TA} {ta : TE}
theorem app_nil' (vs : List V) : vs ++ ([] : List V) = vs := List.append_nil vs
theorem pe_g (G : Gd X.prog X.w X.K X.mg X.base x k ps sp) (hr : Room k X.A) (hg : Gl X x) (ha : PA X (e :: es) t) (hdb : (x == ("__debug__" : Str)) = false := by decide)
    (he : starEach (e :: es) X.env = (false, eval e X.env) :: starEach es X.env := by rfl) (hpl : (backTo pos (starEach es X.env)).any (·.1) = false := by rfl) : PE X (.Call (.Name x p) (e :: es) [] pos) (tG sp t) := by
  obtain ⟨f, fd, F, hm, hk, hb⟩ := G.ex
  have h := pe_call F hr hg hm hk hb .nil pass0 ha hdb he hpl (p := p)
  have e2 : tCall sp [] E0 t = tG sp t := by
    funext σ H Q
    unfold tCall tG
    simp only [app_nil']
  rw [e2] at h
  exact h
theorem pe_m {pl : Sem Bool} (he : PE X o ta) (G : Md X.prog X.w X.K X.mg X.base C m k ps sp) (hr : Room k X.A) (ha : PA X (e :: es) t)
    (hst : starEach (e :: es) X.env = (false, eval e X.env) :: starEach es X.env := by rfl) (hpl : (backTo pos (starEach es X.env)).any (·.1) = false := by rfl)
    (ht : eval (.Call (.Attribute o m apos) (e :: es) [] pos) X.env = (do
      let ov ← eval o X.env
      standAt apos.atName
      let (f, first) ← holding [ov] (getMethod ov m pl)
      callWith pos f first (backTo pos (starEach (e :: es) X.env)) (backToKw pos (keywordEach [] X.env))) := by rfl) :
    PE X (.Call (.Attribute o m apos) (e :: es) [] pos) (tM C m sp ta t) := by
  obtain ⟨f, fd, F, hm, hb, c⟩ := G.ex
  have h := pe_meth (pl := pl) he c hm F hr hb .nil pass0 ha hst hpl ht
  refine ⟨fun pins s σ H Q I q => h.run pins s σ H Q I ?_⟩
  have mono : ∀ {H} {Q Q' : VK}, Q = Q' → ta σ H Q → ta σ H Q' := fun {H Q Q'} e h => e ▸ h
  refine mono ?_ q
  funext x H1
  refine propext ⟨fun ⟨⟨a, dx, fs, ex, ea, l⟩, q⟩ => ⟨a, dx, fs, ex, ea, l, ?_⟩, fun ⟨a, dx, fs, ex, ea, l, q⟩ => ⟨⟨a, dx, fs, ex, ea, l⟩, ?_⟩⟩
  · simp only [app_nil']; exact q
  · simp only [app_nil'] at q; exact q
theorem pe_m0 {pl : Sem Bool} (he : PE X o ta) (G : Md X.prog X.w X.K X.mg X.base C m k ps sp) (hr : Room k X.A)
    (ht : eval (.Call (.Attribute o m apos) [] [] pos) X.env = (do
      let ov ← eval o X.env
      standAt apos.atName
      let (f, first) ← holding [ov] (getMethod ov m pl)
      callWith pos f first (backTo pos (starEach [] X.env)) (backToKw pos (keywordEach [] X.env))) := by rfl) :
    PE X (.Call (.Attribute o m apos) [] [] pos) (tM C m sp ta tNil) := by
  obtain ⟨f, fd, F, hm, hb, c⟩ := G.ex
  have h := pe_meth0 (pl := pl) he c hm F hr hb .nil pass0 ht
  refine ⟨fun pins s σ H Q I q => h.run pins s σ H Q I ?_⟩
  have mono : ∀ {H} {Q Q' : VK}, Q = Q' → ta σ H Q → ta σ H Q' := fun {H Q Q'} e h => e ▸ h
  refine mono ?_ q
  funext x H1
  exact propext ⟨fun ⟨⟨a, dx, fs, ex, ea, l⟩, q⟩ => ⟨a, dx, fs, ex, ea, l, q⟩, fun ⟨a, dx, fs, ex, ea, l, q⟩ => ⟨⟨a, dx, fs, ex, ea, l⟩, q⟩⟩
theorem same_made {H : Hp} {x dx C : Addr} (nx : H x = none) (ndx : H dx = none) : Same H (upd (upd H dx (.own x)) x (.ins C dx [])) := fun b o e => by
  rw [upd_ne (ne_of_none e nx), upd_ne (ne_of_none e ndx)]
  exact e
theorem pe_k (G : Kd X.prog X.w X.K X.mg X.base x C k ps sp) (hr : Room (k + 1) X.A) (hg : Gl X x) (ha : PA X (e :: es) t) (hdb : (x == ("__debug__" : Str)) = false := by decide)
    (he : starEach (e :: es) X.env = (false, eval e X.env) :: starEach es X.env := by rfl) (hpl : (backTo pos (starEach es X.env)).any (·.1) = false := by rfl) : PE X (.Call (.Name x p) (e :: es) [] pos) (tK C sp t) := by
  obtain ⟨f, fd, F, hm, hg2, hb⟩ := G.ex
  exact pe_make hm F hr hg hg2 hb .nil pass0 ha hdb he hpl (p := p)
theorem mkK {H : Hp} {Q : VK} {vs : List V} (q : ∀ x H', H x = none → Same H H' → (∃ dx, H' x = some (.ins C dx [])) → sp (.ref x :: vs) H' (fun v H2 => v = .non ∧ Q (.ref x) H2) E0) : MkK C sp Q vs H := fun x dx nx ndx ne => by
  rw [app_nil']
  exact q x _ nx (same_made nx ndx) ⟨dx, upd_same⟩
end

/-! ### comparisons in a chain of any length -/
structure PCh (X : Cx) (pos : Pos) (ops : List CmpOp) (es : List Expr) (t : V → TT) : Prop where
  run : ∀ (pins : List (Addr × Obj)) (s : Shared) (σ : St) (H : Hp) (x : V) (v : Value) (Q : Bool → Hp → Prop), Inv X pins σ H s → RelV x v → t x σ H Q → wpAny (model X.prog X.w) X.A (testChain pos v ops (evalEach es X.env)) (TP X pins σ Q) X.xe s
def tChL (r : R2) (te : TE) : V → TT := fun x σ H Q => te σ H fun y H1 => r x y H1 fun z H2 => ∃ k, z = .bl k ∧ Q k H2
def tChC (r : R2) (te : TE) (t : V → TT) : V → TT := fun x σ H Q => te σ H fun y H1 => r x y H1 fun z H2 => ∃ k, z = .bl k ∧ if k = true then t y σ H2 Q else Q false H2
def tChT (ta : TE) (t : V → TT) : TT := fun σ H Q => ta σ H fun x H1 => t x σ H1 Q
section
variable {X : Cx} {pos : Pos} {op op' : CmpOp} {ops : List CmpOp} {e e' a : Expr} {es : List Expr} {r : R2} {te ta : TE} {t : V → TT}
theorem pch_one (ho : OpR X (compareOp op) r) (he : PE X e te) : PCh X pos [op] [e] (tChL r te) := by
  refine ⟨fun pins s σ H x v Q I rx h => ?_⟩
  refine test_last (thn (he.run pins s σ H _ I h) fun u s2 ⟨y, H2, I2, r2, q2⟩ => thn (ho pins s2 σ H2 x y v u _ I2 rx r2 q2) fun d s3 ⟨z, H3, I3, r3, k, e, q3⟩ => ?_)
  subst e
  cases r3
  exact wpAny_truthy_bool ⟨H3, I3, q3⟩
theorem pch_cons (ho : OpR X (compareOp op) r) (he : PE X e te) (ht : PCh X pos (op' :: ops) (e' :: es) t) : PCh X pos (op :: op' :: ops) (e :: e' :: es) (tChC r te t) := by
  refine ⟨fun pins s σ H x v Q I rx h => ?_⟩
  refine test_link (thn (he.run pins s σ H _ I h) fun u s2 ⟨y, H2, I2, r2, q2⟩ => thn (ho pins s2 σ H2 x y v u _ I2 rx r2 q2) fun d s3 ⟨z, H3, I3, r3, k, e, q3⟩ => ?_)
  subst e
  cases r3
  refine wpAny_truthy_bool ?_
  cases k with
  | false => exact ite_ff ⟨H3, I3, q3⟩
  | true => exact ite_tt (ht.run pins s3 σ H3 y u Q I3 r2 q3)
theorem pt_ch (ha : PE X a ta) (ht : PCh X pos (op :: op' :: ops) (e :: e' :: es) t) (hm : lastMarks (op :: op' :: ops) (e :: e' :: es) = false := by with_unfolding_all rfl) :
    PT X (.Compare a (op :: op' :: ops) (e :: e' :: es) pos) (tChT ta t) := by
  refine ⟨fun pins s σ H Q I h => ?_⟩
  exact isTrue_chain (thn (ha.run pins s σ H _ I h) fun v s1 ⟨x, H1, I1, r1, q1⟩ => ht.run pins s1 σ H1 x v Q I1 r1 q1) hm
end
/-! ### heaps -/
theorem same_get {H H' : Hp} {a : Addr} {o : HO} (s : Same H H') (h : H a = some o) : H' a = some o := s a o h
theorem same_new {H : Hp} {p : Addr} {o : HO} (h : H p = none) : Same H (upd H p o) := fun a u e => by
  rw [upd_ne (ne_of_none e h)]
  exact e
/-- an object that H0 does not know may change -/
theorem same_mut {H0 H : Hp} {p : Addr} {o : HO} (s : Same H0 H) (h : H0 p = none) : Same H0 (upd H p o) := fun a u e => by
  rw [upd_ne (ne_of_none e h)]
  exact s a u e
/-- tuples stand -/
def Tp (H H' : Hp) : Prop := ∀ a xs, H a = some (.tup xs) → H' a = some (.tup xs)
theorem Tp.refl (H : Hp) : Tp H H := fun _ _ h => h
theorem Tp.trans {H H1 H2 : Hp} (a : Tp H H1) (b : Tp H1 H2) : Tp H H2 := fun x o h => b x o (a x o h)
theorem same_tp {H H' : Hp} (s : Same H H') : Tp H H' := fun a xs h => s a _ h
theorem Tp.mut {H : Hp} {l : Addr} {o u : HO} (h : H l = some u) (hu : ∀ xs, u ≠ .tup xs) : Tp H (upd H l o) := fun a xs e => by
  rw [upd_ne (ne_of e h (fun z => hu xs z.symm))]
  exact e
theorem Tp.mutL {H : Hp} {l : Addr} {o : HO} {ys : List V} (h : H l = some (.lst ys)) : Tp H (upd H l o) := Tp.mut h (fun _ => by intro z; cases z)
theorem Tp.mutI {H : Hp} {l : Addr} {o : HO} {C dx : Addr} {fs : List (Str × V)} (h : H l = some (.ins C dx fs)) : Tp H (upd H l o) := Tp.mut h (fun _ => by intro z; cases z)
/-- all but l stands -/
def But (l : Addr) (H H' : Hp) : Prop := ∀ b o, b ≠ l → H b = some o → H' b = some o
theorem But.upd {l : Addr} {H : Hp} {o : HO} : But l H (upd H l o) := fun b u n e => by
  rw [upd_ne n]
  exact e

/-! ### lists of data -/
structure LR {α : Type} (R : V → α → Prop) (vs : List V) (ds : List α) : Prop where
  len : vs.length = ds.length
  at_ : ∀ (i : Nat) (v : V) (d : α), vs[i]? = some v → ds[i]? = some d → R v d
section
variable {α : Type} {R S : V → α → Prop} {vs : List V} {ds : List α}
theorem LR.nil : LR R [] ([] : List α) := ⟨rfl, fun i v d h => by simp at h⟩
theorem LR.mono (h : LR R vs ds) (k : ∀ v d, R v d → S v d) : LR S vs ds := ⟨h.len, fun i v d a b => k v d (h.at_ i v d a b)⟩
theorem LR.get (h : LR R vs ds) {i : Nat} {d : α} (e : ds[i]? = some d) : ∃ v, vs[i]? = some v ∧ R v d := by
  have hi : i < ds.length := (List.getElem?_eq_some_iff.mp e).1
  have hi2 : i < vs.length := by rw [h.len]; exact hi
  exact ⟨_, List.getElem?_eq_getElem hi2, h.at_ i _ d (List.getElem?_eq_getElem hi2) e⟩
theorem LR.get' (h : LR R vs ds) {i : Nat} {v : V} (e : vs[i]? = some v) : ∃ d, ds[i]? = some d ∧ R v d := by
  have hi : i < vs.length := (List.getElem?_eq_some_iff.mp e).1
  have hi2 : i < ds.length := by rw [← h.len]; exact hi
  exact ⟨_, List.getElem?_eq_getElem hi2, h.at_ i v _ e (List.getElem?_eq_getElem hi2)⟩
theorem LR.app (h : LR R vs ds) {v : V} {d : α} (r : R v d) : LR R (vs ++ [v]) (ds ++ [d]) := by
  refine ⟨by rw [List.length_append, List.length_append, h.len]; rfl, fun i x y hx hy => ?_⟩
  by_cases hi : i < vs.length
  · rw [List.getElem?_append_left hi] at hx
    rw [List.getElem?_append_left (by rw [← h.len]; exact hi)] at hy
    exact h.at_ i x y hx hy
  · have hl : i - vs.length = 0 := by
      have := (List.getElem?_eq_some_iff.mp hx).1
      rw [List.length_append, List.length_singleton] at this
      omega
    rw [List.getElem?_append_right (by omega), hl] at hx
    rw [List.getElem?_append_right (by rw [← h.len]; omega), ← h.len, hl] at hy
    cases Option.some.inj hx
    cases Option.some.inj hy
    exact r
theorem LR.dropLast (h : LR R vs ds) : LR R vs.dropLast ds.dropLast := by
  refine ⟨by rw [List.length_dropLast, List.length_dropLast, h.len], fun i v d a b => ?_⟩
  rw [List.getElem?_dropLast] at a b
  split at a
  · rename_i hi
    rw [if_pos (by rw [← h.len]; exact hi)] at b
    exact h.at_ i v d a b
  · cases a
theorem LR.take (h : LR R vs ds) (n : Nat) : LR R (vs.take n) (ds.take n) := by
  refine ⟨by rw [List.length_take, List.length_take, h.len], fun i v d a b => ?_⟩
  rw [List.getElem?_take] at a b
  split at a
  · rename_i hi
    rw [if_pos hi] at b
    exact h.at_ i v d a b
  · cases a
theorem LR.drop (h : LR R vs ds) (n : Nat) : LR R (vs.drop n) (ds.drop n) := by
  refine ⟨by rw [List.length_drop, List.length_drop, h.len], fun i v d a b => ?_⟩
  rw [List.getElem?_drop] at a b
  exact h.at_ _ v d a b
end
theorem lr_eq {vs : List V} {ds : List V} (h : LR (fun v d => v = d) vs ds) : vs = ds := by
  refine List.ext_getElem? fun i => ?_
  cases e : ds[i]? with
  | none =>
    rw [List.getElem?_eq_none_iff] at e ⊢
    rw [h.len]
    exact e
  | some d =>
    obtain ⟨v, hv, r⟩ := h.get e
    rw [hv, r]
theorem lr_int {vs : List V} {ns : List Int} (h : LR (fun v n => v = .int n) vs ns) : vs = ns.map V.int := by
  refine List.ext_getElem? fun i => ?_
  rw [List.getElem?_map]
  cases e : ns[i]? with
  | none =>
    rw [List.getElem?_eq_none_iff] at e
    show vs[i]? = none
    rw [List.getElem?_eq_none_iff, h.len]
    exact e
  | some d =>
    obtain ⟨v, hv, r⟩ := h.get e
    rw [hv, r]
    rfl
theorem lr_bl {vs : List V} {ns : List Bool} (h : LR (fun v n => v = .bl n) vs ns) : vs = ns.map V.bl := by
  refine List.ext_getElem? fun i => ?_
  rw [List.getElem?_map]
  cases e : ns[i]? with
  | none =>
    rw [List.getElem?_eq_none_iff] at e
    show vs[i]? = none
    rw [List.getElem?_eq_none_iff, h.len]
    exact e
  | some d =>
    obtain ⟨v, hv, r⟩ := h.get e
    rw [hv, r]
    rfl
/-- a tuple of ints -/
def IT (H : Hp) (v : V) (ns : List Int) : Prop := ∃ a, v = .ref a ∧ H a = some (.tup (ns.map V.int))
theorem IT.mono {H H' : Hp} (t : Tp H H') {v : V} {ns : List Int} (h : IT H v ns) : IT H' v ns := by
  obtain ⟨a, e, h⟩ := h
  exact ⟨a, e, t _ _ h⟩
/-- a point -/
abbrev Pt := Int × Int
def PtR (H : Hp) (v : V) (p : Pt) : Prop := ∃ a, v = .ref a ∧ H a = some (.tup [.int p.1, .int p.2])
theorem PtR.mono {H H' : Hp} (t : Tp H H') {v : V} {p : Pt} (h : PtR H v p) : PtR H' v p := by
  obtain ⟨a, e, h⟩ := h
  exact ⟨a, e, t _ _ h⟩
/-- a triple of ints -/
abbrev Tr := Int × Int × Int
def TrR (H : Hp) (v : V) (p : Tr) : Prop := ∃ a, v = .ref a ∧ H a = some (.tup [.int p.1, .int p.2.1, .int p.2.2])
theorem TrR.mono {H H' : Hp} (t : Tp H H') {v : V} {p : Tr} (h : TrR H v p) : TrR H' v p := by
  obtain ⟨a, e, h⟩ := h
  exact ⟨a, e, t _ _ h⟩
/-- a piece: its start, its line -/
abbrev Pc := Int × Tr
def PcR (H : Hp) (v : V) (p : Pc) : Prop := ∃ a b, v = .ref a ∧ H a = some (.tup [.int p.1, .ref b]) ∧ H b = some (.tup [.int p.2.1, .int p.2.2.1, .int p.2.2.2])
theorem PcR.mono {H H' : Hp} (t : Tp H H') {v : V} {p : Pc} (h : PcR H v p) : PcR H' v p := by
  obtain ⟨a, b, e, h1, h2⟩ := h
  exact ⟨a, b, e, t _ _ h1, t _ _ h2⟩
/-- a list of such -/
def LsR {α : Type} (R : Hp → V → α → Prop) (H : Hp) (l : Addr) (ds : List α) : Prop := ∃ vs, H l = some (.lst vs) ∧ LR (R H) vs ds
theorem LsR.mono {α : Type} {R : Hp → V → α → Prop} {H H' : Hp} {l : Addr} {ds : List α} (h : LsR R H l ds) (s : Same H H') (m : ∀ v d, R H v d → R H' v d) : LsR R H' l ds := by
  obtain ⟨vs, h1, h2⟩ := h
  exact ⟨vs, s _ _ h1, h2.mono m⟩

/-! ### the readings, one step at a time -/
section
variable {σ : St} {H : Hp} {Q : VK} {ta tb te : TE} {r : R2}
theorem x_var {i : Nat} {v : V} (h : σ[i]? = some (some v)) (q : Q v H) : tVar i σ H Q := ⟨v, h, q⟩
theorem x_c {v : V} (q : Q v H) : tC v σ H Q := q
theorem x_op (q : ta σ H fun x H1 => tb σ H1 fun y H2 => r x y H2 Q) : tOp r ta tb σ H Q := q
theorem x_un {u : V → Hp → VK → Prop} (q : ta σ H fun x H1 => u x H1 Q) : tUn u ta σ H Q := q
theorem r_I0 {g : Int → Int → V} {i j : Int} (q : Q (g i j) H) : rI0 g (.int i) (.int j) H Q := ⟨i, j, rfl, rfl, q⟩
theorem r_I {C : Int → Int → Prop} {g : Int → Int → V} {i j : Int} (c : C i j) (q : Q (g i j) H) : rI C g (.int i) (.int j) H Q := ⟨i, j, rfl, rfl, c, q⟩
theorem r_U {g : Int → V} {i : Int} (q : Q (g i) H) : rU g (.int i) H Q := ⟨i, rfl, q⟩
theorem r_eqI {i j : Int} (q : Q (.bl (decide (i = j))) H) : rEq (.int i) (.int j) H Q := by
  refine ⟨rfl, ?_⟩
  rw [show decide (V.int i = V.int j) = decide (i = j) from by simp]
  exact q
theorem r_neI {i j : Int} (q : Q (.bl (!decide (i = j))) H) : rNe (.int i) (.int j) H Q := by
  refine ⟨rfl, ?_⟩
  rw [show decide (V.int i = V.int j) = decide (i = j) from by simp]
  exact q
theorem r_isN_non (q : Q (.bl true) H) : rIsN .non .non H Q := ⟨rfl, by rw [decide_eq_true rfl]; exact q⟩
theorem r_isN_ref {a : Addr} (q : Q (.bl false) H) : rIsN (.ref a) .non H Q := ⟨rfl, by rw [decide_eq_false (by intro z; cases z)]; exact q⟩
theorem r_isN_int {a : Int} (q : Q (.bl false) H) : rIsN (.int a) .non H Q := ⟨rfl, by rw [decide_eq_false (by intro z; cases z)]; exact q⟩
theorem r_notN_non (q : Q (.bl false) H) : rNotN .non .non H Q := ⟨rfl, by rw [decide_eq_true rfl]; exact q⟩
theorem r_notN_ref {a : Addr} (q : Q (.bl true) H) : rNotN (.ref a) .non H Q := ⟨rfl, by rw [decide_eq_false (by intro z; cases z)]; exact q⟩
theorem r_notN_int {a : Int} (q : Q (.bl true) H) : rNotN (.int a) .non H Q := ⟨rfl, by rw [decide_eq_false (by intro z; cases z)]; exact q⟩
theorem r_notB {a b : Bool} (q : Q (.bl (!decide (a = b))) H) : rNotB (.bl a) (.bl b) H Q := ⟨a, b, rfl, rfl, q⟩
theorem r_ixL {K : PySem.W.Frag} {p : Addr} {xs : List V} {i : Int} {v : V} (h : H p = some (.lst xs)) (a : atI xs i = some v) (q : Q v H) : rIxL K (.ref p) (.int i) H Q := ⟨p, xs, i, v, rfl, rfl, SqL.of h, a, q⟩
theorem r_ixT {K : PySem.W.Frag} {p : Addr} {xs : List V} {i : Int} {v : V} (h : H p = some (.tup xs)) (a : atI xs i = some v) (q : Q v H) : rIxT K (.ref p) (.int i) H Q := ⟨p, xs, i, v, rfl, rfl, SqT.of h, a, q⟩
/-- arguments -/
theorem x_nil {Qa : List V → Hp → Prop} (q : Qa [] H) : tNil σ H Qa := q
theorem x_cons {tr : TA} {Qa : List V → Hp → Prop} (q : ta σ H fun x H1 => tr σ H1 fun xs H2 => Qa (x :: xs) H2) : tCons ta tr σ H Qa := q
theorem x_cb {c : List V → Hp → VK → Prop} {t : TA} (q : t σ H fun vs H1 => c vs H1 Q) : tCB c t σ H Q := q
theorem x_g {sp : Sp} {t : TA} (q : t σ H fun vs H1 => sp vs H1 Q E0) : tG sp t σ H Q := q
/-- an instance of C that has no attribute m of its own -/
def IsI (C : Addr) (m : Str) (x : V) (H : Hp) : Prop := ∃ a dx fs, x = .ref a ∧ H a = some (.ins C dx fs) ∧ fs.lookup m = none
theorem x_m {C : Addr} {m : Str} {sp : Sp} {t : TA} (q : ta σ H fun x H1 => IsI C m x H1 ∧ t σ H1 fun vs H2 => sp (x :: vs) H2 Q E0) : tM C m sp ta t σ H Q := q
theorem x_k {C : Addr} {sp : Sp} {t : TA} (q : t σ H (MkK C sp Q)) : tK C sp t σ H Q := q
/-- tests -/
def BlK (Q : Bool → Hp → Prop) : VK := fun x H => ∃ k, x = .bl k ∧ Q k H
section
variable {Qb : Bool → Hp → Prop} {t u : TT}
theorem x_test (q : te σ H (BlK Qb)) : tTest te σ H Qb := q
theorem x_tB (q : te σ H (BlK Qb)) : tB te σ H Qb := q
theorem x_blk {b : Bool} (q : Qb b H) : BlK Qb (.bl b) H := ⟨b, rfl, q⟩
theorem x_and (q : t σ H fun c H1 => if c = true then u σ H1 Qb else Qb false H1) : tAnd t u σ H Qb := q
theorem x_or (q : t σ H fun c H1 => if c = true then Qb true H1 else u σ H1 Qb) : tOr t u σ H Qb := q
theorem x_not (q : t σ H fun c H1 => Qb (!c) H1) : tNot t σ H Qb := q
theorem x_tif (q : t σ H fun c H1 => if c = true then ta σ H1 Q else tb σ H1 Q) : tIf t ta tb σ H Q := q
theorem x_andV (q : ta σ H (BlK fun c H1 => if c = true then tb σ H1 Q else Q (.bl false) H1)) : tAndV ta tb σ H Q := q
theorem x_orV (q : ta σ H (BlK fun c H1 => if c = true then Q (.bl true) H1 else tb σ H1 Q)) : tOrV ta tb σ H Q := q
theorem x_notV (q : ta σ H (BlK fun c H1 => Q (.bl (!c)) H1)) : tNotV ta σ H Q := q
def TruK (K : PySem.W.Frag) (Q : Bool → Hp → Prop) : VK := fun x H => ∃ k, TruV K x H k ∧ Q k H
/-- a value's truth as a test -/
def tTruth (K : PySem.W.Frag) (ta : TE) : TT := fun σ H Q => ta σ H (TruK K Q)
theorem x_tru {K : PySem.W.Frag} (q : ta σ H (TruK K Qb)) : tTruth K ta σ H Qb := q
theorem x_truI {K : PySem.W.Frag} {i : Int} (q : Qb (i != 0) H) : TruK K Qb (.int i) H := ⟨_, rfl, q⟩
theorem x_truL {K : PySem.W.Frag} {a : Addr} {xs : List V} (h : H a = some (.lst xs)) (q : Qb (!xs.isEmpty) H) : TruK K Qb (.ref a) H := ⟨_, .inl ⟨xs, SqL.of h, rfl⟩, q⟩
theorem x_chT {tc : V → TT} (q : ta σ H fun x H1 => tc x σ H1 Qb) : tChT ta tc σ H Qb := q
def ChK (tc : V → TT) (y : V) (σ : St) (Q : Bool → Hp → Prop) : VK := fun z H2 => ∃ k, z = .bl k ∧ if k = true then tc y σ H2 Q else Q false H2
theorem x_chC {tc : V → TT} {x : V} (q : te σ H fun y H1 => r x y H1 (ChK tc y σ Qb)) : tChC r te tc x σ H Qb := q
theorem x_chK {tc : V → TT} {y : V} {b : Bool} (hb : b = true) (q : tc y σ H Qb) : ChK tc y σ Qb (.bl b) H := ⟨b, rfl, by rw [if_pos hb]; exact q⟩
theorem x_chF {tc : V → TT} {y : V} {b : Bool} (hb : b = false) (q : Qb false H) : ChK tc y σ Qb (.bl b) H := ⟨b, rfl, by rw [if_neg (by rw [hb]; decide)]; exact q⟩
theorem x_chL {x : V} (q : te σ H fun y H1 => r x y H1 (BlK Qb)) : tChL r te x σ H Qb := q
def Ch2K (r' : R2) (y : V) (tc : TE) (σ : St) (Q : VK) : VK := fun z H3 => ∃ k, z = .bl k ∧ (if k = true then tc σ H3 fun w' H4 => r' y w' H4 Q else Q (.bl false) H3)
theorem x_chain {r' : R2} {tc : TE} (q : ta σ H fun x H1 => tb σ H1 fun y H2 => r x y H2 (Ch2K r' y tc σ Q)) : tChain r r' ta tb tc σ H Q := q
theorem x_ch2 {r' : R2} {y : V} {tc : TE} {b : Bool} (q1 : b = true → tc σ H fun w' H4 => r' y w' H4 Q) (q2 : b = false → Q (.bl false) H) : Ch2K r' y tc σ Q (.bl b) H := ⟨b, rfl, by
  cases b with
  | true => exact q1 rfl
  | false => exact q2 rfl⟩
theorem ite_t {A B : Prop} {b : Bool} (h : b = true) (q : A) : if b = true then A else B := by rw [if_pos h]; exact q
theorem ite_f {A B : Prop} {b : Bool} (h : b = false) (q : B) : if b = true then A else B := by rw [if_neg (by rw [h]; decide)]; exact q
theorem ite_d {A B p : Prop} [Decidable p] (h1 : p → A) (h2 : ¬ p → B) : if decide p = true then A else B := by
  by_cases h : p
  · rw [if_pos (decide_eq_true h)]; exact h1 h
  · rw [if_neg (by rw [decide_eq_false h]; decide)]; exact h2 h
theorem ite_nd {A B p : Prop} [Decidable p] (h1 : ¬ p → A) (h2 : p → B) : if (!decide p) = true then A else B := by
  by_cases h : p
  · rw [if_neg (by rw [decide_eq_true h]; decide)]; exact h2 h
  · rw [if_pos (by rw [decide_eq_false h]; decide)]; exact h1 h
end
/-- new tuples, new lists -/
def NewT (Q : VK) : List V → Hp → Prop := fun xs H1 => xs.length ≤ sizeLine ∧ ∀ p, H1 p = none → Q (.ref p) (upd H1 p (.tup xs))
def NewL (Q : VK) : List V → Hp → Prop := fun xs H1 => xs.length ≤ sizeLine ∧ ∀ p, H1 p = none → Q (.ref p) (upd H1 p (.lst xs))
theorem x_tup {t : TA} (q : t σ H (NewT Q)) : tTup t σ H Q := q
theorem x_lst {t : TA} (q : t σ H (NewL Q)) : tLst t σ H Q := q
theorem newT {xs : List V} (q : ∀ p H', H p = none → Same H H' → H' p = some (.tup xs) → Q (.ref p) H') (hl : xs.length ≤ 100000 := by exact Nat.le_of_ble_eq_true rfl) : NewT Q xs H :=
  ⟨Nat.le_trans hl (by decide), fun p hp => q p _ hp (same_new hp) upd_same⟩
theorem newL {xs : List V} (q : ∀ p H', H p = none → Same H H' → H' p = some (.lst xs) → Q (.ref p) H') (hl : xs.length ≤ 100000 := by exact Nat.le_of_ble_eq_true rfl) : NewL Q xs H :=
  ⟨Nat.le_trans hl (by decide), fun p hp => q p _ hp (same_new hp) upd_same⟩
/-- fields -/
def FldK (K : PySem.W.Frag) (f : Str) (Q : VK) : VK := fun x H1 => ∃ a C dx fs v, x = .ref a ∧ H1 a = some (.ins C dx fs) ∧ Cls K C ∧ NoAttr K C f ∧ fs.lookup f = some v ∧ Q v H1
theorem x_fld {K : PySem.W.Frag} {f : Str} (q : ta σ H (FldK K f Q)) : tFld K ta f σ H Q := q
theorem fldK {K : PySem.W.Frag} {f : Str} {a C dx : Addr} {fs : List (Str × V)} {v : V} (h : H a = some (.ins C dx fs)) (c : Cls K C) (n : NoAttr K C f) (l : fs.lookup f = some v) (q : Q v H) : FldK K f Q (.ref a) H :=
  ⟨a, C, dx, fs, v, rfl, h, c, n, l, q⟩
theorem fld_guard {K : PySem.W.Frag} {f : Str} {x : V} (q : FldK K f Q x H) : FldK K f Q x H := q
/-- methods of lists -/
theorem x_bm {K : PySem.W.Frag} {T : String} {c : V → List V → Hp → VK → Prop} {t : TA} (q : ta σ H fun x H1 => tyV K T x H1 ∧ t σ H1 fun xs H2 => c x xs H2 Q) : tBM K T c ta t σ H Q := q
theorem x_bm0 {K : PySem.W.Frag} {T : String} {c : V → List V → Hp → VK → Prop} (q : ta σ H fun x H1 => tyV K T x H1 ∧ c x [] H1 Q) : tBM0 K T c ta σ H Q := q
theorem tyL {K : PySem.W.Frag} {l : Addr} {xs : List V} (h : H l = some (.lst xs)) : tyV K "list" (.ref l) H := .inl ⟨rfl, xs, SqL.of h⟩
theorem r_app {l : Addr} {xs : List V} {y : V} (h : H l = some (.lst xs)) (hl : xs.length ≤ 100000) (q : Q .non (upd H l (.lst (xs ++ [y])))) : rAppend (.ref l) [y] H Q :=
  ⟨l, xs, y, rfl, rfl, h, Nat.lt_of_le_of_lt hl (by decide), q⟩
theorem r_pop {l : Addr} {xs : List V} {y : V} (h : H l = some (.lst xs)) (hl : xs[xs.length - 1]? = some y) (q : Q y (upd H l (.lst xs.dropLast))) : rPop (.ref l) [] H Q := ⟨l, xs, y, rfl, rfl, h, hl, q⟩
/-- slices -/
theorem x_sl {c : V → Option Int → Option Int → Hp → VK → Prop} {tl th : TO} (q : ta σ H fun x H1 => tl σ H1 fun l H2 => th σ H2 fun u H3 => c x l u H3 Q) : tSl c ta tl th σ H Q := q
theorem x_noPart {Qo : Option Int → Hp → Prop} (q : Qo none H) : tNoPart σ H Qo := q
def PartK (Q : Option Int → Hp → Prop) : VK := fun x H1 => ∃ i, x = .int i ∧ Q (some i) H1
theorem x_part {Qo : Option Int → Hp → Prop} (q : ta σ H (PartK Qo)) : tPart ta σ H Qo := q
theorem x_partK {Qo : Option Int → Hp → Prop} {i : Int} (q : Qo (some i) H) : PartK Qo (.int i) H := ⟨i, rfl, q⟩
theorem r_slL {K : PySem.W.Frag} {a : Addr} {xs : List V} {lo hi : Option Int} (h : H a = some (.lst xs)) (q : ∀ p H', H p = none → Same H H' → H' p = some (.lst (cutV xs lo hi)) → Q (.ref p) H') : rSlL K (.ref a) lo hi H Q :=
  ⟨a, xs, rfl, SqL.of h, fun p hp => q p _ hp (same_new hp) upd_same⟩
theorem r_cat {a b : Addr} {xs ys : List V} (ha : H a = some (.lst xs)) (hb : H b = some (.lst ys)) (hl : xs.length + ys.length ≤ 100000) (q : ∀ p H', H p = none → Same H H' → H' p = some (.lst (xs ++ ys)) → Q (.ref p) H') : rCat (.ref a) (.ref b) H Q :=
  ⟨a, b, xs, ys, rfl, rfl, ha, hb, Nat.le_trans hl (by decide), fun p hp => q p _ hp (same_new hp) upd_same⟩
end

/-! ### built-ins -/
section
variable {X : Cx} {H : Hp} {Q : VK}
def cAbs : List V → Hp → VK → Prop := fun xs H Q => ∃ i, xs = [.int i] ∧ Q (.int (if i < 0 then -i else i)) H
theorem call_abs' : CallR X (.builtin "abs") cAbs := call_abs
theorem r_abs {i : Int} (q : Q (.int (i.natAbs : Int)) H) : cAbs [.int i] H Q := ⟨i, rfl, by
  rw [show (if i < 0 then -i else i) = (i.natAbs : Int) by split <;> omega]
  exact q⟩
def cMax2 : List V → Hp → VK → Prop := fun xs H Q => ∃ i j, xs = [.int i, .int j] ∧ Q (.int (if j > i then j else i)) H
theorem call_max2' (hc : X.calm = true) : CallR X (.builtin "max") cMax2 := call_max2 hc
theorem r_max2 {i j : Int} (q : Q (.int (max i j)) H) : cMax2 [.int i, .int j] H Q := ⟨i, j, rfl, by
  rw [show (if j > i then j else i) = max i j by split <;> omega]
  exact q⟩
def cMin2 : List V → Hp → VK → Prop := fun xs H Q => ∃ i j, xs = [.int i, .int j] ∧ Q (.int (if j < i then j else i)) H
theorem call_min2' (hc : X.calm = true) : CallR X (.builtin "min") cMin2 := call_min2 hc
theorem r_min2 {i j : Int} (q : Q (.int (min i j)) H) : cMin2 [.int i, .int j] H Q := ⟨i, j, rfl, by
  rw [show (if j < i then j else i) = min i j by split <;> omega]
  exact q⟩
def cInt : List V → Hp → VK → Prop := fun xs H Q => (∃ i, xs = [.int i] ∧ Q (.int i) H) ∨ ∃ k, xs = [.bl k] ∧ Q (.int (if k then 1 else 0)) H
theorem call_int' : CallR X (.type "int") cInt := call_int1
theorem r_int {i : Int} (q : Q (.int i) H) : cInt [.int i] H Q := .inl ⟨i, rfl, q⟩
theorem r_intB {k : Bool} (q : Q (.int (if k then 1 else 0)) H) : cInt [.bl k] H Q := .inr ⟨k, rfl, q⟩
def cLen (K : PySem.W.Frag) : List V → Hp → VK → Prop := fun xs H Q => ∃ p ys, xs = [.ref p] ∧ (SqL K H p ys ∨ SqT K H p ys) ∧ Q (.int ys.length) H
theorem call_len' : CallR X (.builtin "len") (cLen X.K) := call_len_seq
theorem r_len {K : PySem.W.Frag} {p : Addr} {xs : List V} (h : H p = some (.lst xs)) (q : Q (.int (xs.length : Int)) H) : cLen K [.ref p] H Q := ⟨p, xs, rfl, .inl (SqL.of h), q⟩
theorem r_lenT {K : PySem.W.Frag} {p : Addr} {xs : List V} (h : H p = some (.tup xs)) (q : Q (.int (xs.length : Int)) H) : cLen K [.ref p] H Q := ⟨p, xs, rfl, .inr (SqT.of h), q⟩
def cList (K : PySem.W.Frag) : List V → Hp → VK → Prop := fun xs H Q => ∃ p ys, xs = [.ref p] ∧ (SqL K H p ys ∨ SqT K H p ys) ∧ ∀ l, H l = none → Q (.ref l) (upd H l (.lst ys))
theorem call_list' : CallR X (.type "list") (cList X.K) := call_list_of
theorem r_list {K : PySem.W.Frag} {p : Addr} {xs : List V} (h : H p = some (.lst xs)) (q : ∀ l H', H l = none → Same H H' → H' l = some (.lst xs) → Q (.ref l) H') : cList K [.ref p] H Q :=
  ⟨p, xs, rfl, .inl (SqL.of h), fun l hl => q l _ hl (same_new hl) upd_same⟩
theorem r_all {K : PySem.W.Frag} {a : Addr} {bs : List Bool} (h : H a = some (.lst (bs.map V.bl))) (q : Q (.bl (bs.all id)) H) : rAll K [.ref a] H Q := ⟨a, bs, rfl, SqL.of h, q⟩
theorem r_max {K : PySem.W.Frag} {a : Addr} {ns : List Int} (h : H a = some (.lst (ns.map V.int))) (hn : 0 < ns.length) (q : ∀ m, m ∈ ns → (∀ y, y ∈ ns → y ≤ m) → Q (.int m) H) : rMax K [.ref a] H Q := ⟨a, ns, rfl, SqL.of h, hn, q⟩
end

/-! ### statements -/
section
variable {σ : St} {H : Hp} {n b c : St → Hp → Prop} {r : VK} {ta te tv : TE} {t u : TS} {tt : TT} {g : TG}
theorem s_seq (q : t ⟨u ⟨n, r, b, c⟩, r, b, c⟩ σ H) : tSeq t u ⟨n, r, b, c⟩ σ H := q
theorem s_next (q : n σ H) : tNext ⟨n, r, b, c⟩ σ H := q
theorem s_drop (q : te σ H fun _ H1 => n σ H1) : tDrop te ⟨n, r, b, c⟩ σ H := q
theorem s_ret (q : te σ H r) : tRet te ⟨n, r, b, c⟩ σ H := q
theorem s_retN (q : r .non H) : tRetN ⟨n, r, b, c⟩ σ H := q
theorem s_if (q : tt σ H fun k H1 => if k = true then t ⟨n, r, b, c⟩ σ H1 else u ⟨n, r, b, c⟩ σ H1) : tIfS tt t u ⟨n, r, b, c⟩ σ H := q
theorem s_asg (q : te σ H fun x H1 => g x σ H1 n) : tAsg te g ⟨n, r, b, c⟩ σ H := q
theorem g_name {i : Nat} {v : V} {Q : St → Hp → Prop} (q : Q (σ.set i (some v)) H) : gName i v σ H Q := q
theorem g_tup {K : PySem.W.Frag} {k : Nat} {tg : TGs} {a : Addr} {xs : List V} {Q : St → Hp → Prop} (h : H a = some (.tup xs)) (hl : xs.length = k) (q : tg xs σ H Q) : gTup K k tg (.ref a) σ H Q := ⟨a, xs, rfl, SqT.of h, hl, q⟩
theorem g_cons {tg : TGs} {v : V} {rs : List V} {Q : St → Hp → Prop} (q : g v σ H fun σ' H' => tg rs σ' H' Q) : gCons g tg (v :: rs) σ H Q := ⟨v, rs, rfl, q⟩
theorem g_nil {Q : St → Hp → Prop} (q : Q σ H) : gNil [] σ H Q := ⟨rfl, q⟩
def ParK (i j : Nat) (σ : St) (n : St → Hp → Prop) : List V → Hp → Prop := fun vs H1 => ∃ v w, vs = [v, w] ∧ n ((σ.set i (some v)).set j (some w)) H1
theorem s_par {i j : Nat} {t : TA} (q : t σ H (ParK i j σ n)) : tPar i j t ⟨n, r, b, c⟩ σ H := q
theorem s_parK {i j : Nat} {v w : V} (q : n ((σ.set i (some v)).set j (some w)) H) : ParK i j σ n [v, w] H := ⟨v, w, rfl, q⟩
def SFldK (K : PySem.W.Frag) (f : Str) (y : V) (Q : Hp → Prop) : VK := fun x H2 => ∃ a C dx fs, x = .ref a ∧ H2 a = some (.ins C dx fs) ∧ Cls K C ∧ NoAttr K C f ∧ fs.length < 1000 ∧ Q (upd H2 a (.ins C dx (putF f y fs)))
theorem s_fld {K : PySem.W.Frag} {f : Str} (q : tv σ H fun y H1 => ta σ H1 (SFldK K f y fun H3 => n σ H3)) : sFld K ta tv f ⟨n, r, b, c⟩ σ H := q
theorem s_fldK {K : PySem.W.Frag} {f : Str} {y : V} {Q : Hp → Prop} {a C dx : Addr} {fs : List (Str × V)} (h : H a = some (.ins C dx fs)) (hc : Cls K C) (hn : NoAttr K C f) (hl : fs.length < 1000) (q : Q (upd H a (.ins C dx (putF f y fs)))) : SFldK K f y Q (.ref a) H :=
  ⟨a, C, dx, fs, rfl, h, hc, hn, hl, q⟩
theorem sfld_guard {K : PySem.W.Frag} {f : Str} {y x : V} {Q : Hp → Prop} (q : SFldK K f y Q x H) : SFldK K f y Q x H := q
/-- while: W, a word that falls -/
def WhK (W : Nat → St → Hp → Prop) (m : Nat) (t : TS) (n : St → Hp → Prop) (r : VK) (σ' : St) : Bool → Hp → Prop := fun k H1 =>
  if k = true then ∃ N : St → Hp → Prop, (∀ σ2 H2, N σ2 H2 → ∃ m', m' < m ∧ W m' σ2 H2) ∧ t ⟨N, r, n, N⟩ σ' H1 else n σ' H1
theorem s_while (W : Nat → St → Hp → Prop) (m0 : Nat) (h0 : W m0 σ H) (hs : ∀ m σ' H', W m σ' H' → tt σ' H' (WhK W m t n r σ')) : tWhile tt t ⟨n, r, b, c⟩ σ H :=
  ⟨W, ⟨m0, h0⟩, hs⟩
theorem whT {W : Nat → St → Hp → Prop} {m : Nat} {k : Bool} (hk : k = true) (q : t ⟨fun σ2 H2 => ∃ m', m' < m ∧ W m' σ2 H2, r, n, fun σ2 H2 => ∃ m', m' < m ∧ W m' σ2 H2⟩ σ H) : WhK W m t n r σ k H := by
  unfold WhK
  rw [if_pos hk]
  exact ⟨_, fun _ _ z => z, q⟩
theorem whF {W : Nat → St → Hp → Prop} {m : Nat} {k : Bool} (hk : k = false) (q : n σ H) : WhK W m t n r σ k H := by
  unfold WhK
  rw [if_neg (by rw [hk]; decide)]
  exact q
theorem whD {W : Nat → St → Hp → Prop} {m : Nat} {p : Prop} [Decidable p] (q1 : p → t ⟨fun σ2 H2 => ∃ m', m' < m ∧ W m' σ2 H2, r, n, fun σ2 H2 => ∃ m', m' < m ∧ W m' σ2 H2⟩ σ H) (q2 : ¬ p → n σ H) : WhK W m t n r σ (decide p) H := by
  by_cases h : p
  · exact whT (decide_eq_true h) (q1 h)
  · exact whF (decide_eq_false h) (q2 h)
end
section
variable {σ : St} {H : Hp} {Q : VK} {n b c : St → Hp → Prop} {r : VK} {tl te : TE} {ta : TA} {t : TS} {g : TG} {tt : TT} {K : PySem.W.Frag}
/-! ### for -/
def ForK (g : TG) (t : TS) (n : St → Hp → Prop) (r : VK) (σ : St) (J : It) (H1 : Hp) : Prop := ∃ W : Nat → Nat → St → Hp → Prop, (∃ m, W 0 m σ H1) ∧ ∀ i m σ H, W i m σ H →
  (J.stop i H ∧ n σ H) ∨ (J.go i H ∧ ∃ N : St → Hp → Prop, (∀ σ' H', N σ' H' → ∃ m', m' < m ∧ W (i + 1) m' σ' H') ∧ ∀ x H', J.yld i H x H' → g x σ H' fun σ2 H2 => t ⟨N, r, n, N⟩ σ2 H2)
theorem s_for {wi : TI} (q : wi σ H (ForK g t n r σ)) : tFor wi g t ⟨n, r, b, c⟩ σ H := q
def IlK (K : PySem.W.Frag) (R : It → Hp → Prop) : VK := fun x H1 => ∃ a, x = .ref a ∧ (∃ xs, SqL K H1 a xs) ∧ R (Itl K a) H1
theorem i_list {R : It → Hp → Prop} (q : tl σ H (IlK K R)) : iList K tl σ H R := q
theorem i_listK {R : It → Hp → Prop} {a : Addr} {xs : List V} (h : H a = some (.lst xs)) (q : R (Itl K a) H) : IlK K R (.ref a) H := ⟨a, rfl, ⟨xs, SqL.of h⟩, q⟩
theorem forL {a : Addr} {xs : List V} (Pv : Nat → St → Hp → Prop) (h0 : Pv 0 σ H) (hl : ∀ i σ H, i ≤ xs.length → Pv i σ H → H a = some (.lst xs))
    (hs : ∀ i x σ' H', xs[i]? = some x → Pv i σ' H' → g x σ' H' fun σ2 H2 => t ⟨Pv (i + 1), r, n, Pv (i + 1)⟩ σ2 H2) (hd : ∀ σ' H', Pv xs.length σ' H' → n σ' H') : ForK g t n r σ (Itl K a) H :=
  for_list (D := ⟨n, r, fun _ _ => False, fun _ _ => False⟩) Pv h0 (fun i σ H hi p => SqL.of (hl i σ H hi p)) hs hd
def IrK (R : It → Hp → Prop) : List V → Hp → Prop := fun vs H1 => ∃ j : Int, vs = [.int j] ∧ -(2 ^ 62) ≤ j ∧ j < 2 ^ 62 ∧ R (Itr 0 j.toNat) H1
theorem i_rng1 {R : It → Hp → Prop} (q : ta σ H (IrK R)) : iRng1 ta σ H R := q
theorem i_rng1K {R : It → Hp → Prop} {m : Nat} (hm : m ≤ 1000000) (q : R (Itr 0 m) H) : IrK R [.int (m : Int)] H := ⟨m, rfl, by omega, by omega, q⟩
def Ir2K (R : It → Hp → Prop) : List V → Hp → Prop := fun vs H1 => ∃ i j : Int, vs = [.int i, .int j] ∧ (-(2 ^ 62) ≤ i ∧ i < 2 ^ 62 ∧ -(2 ^ 62) ≤ j ∧ j < 2 ^ 62) ∧ R (Itr i (j - i).toNat) H1
theorem i_rng2 {R : It → Hp → Prop} (q : ta σ H (Ir2K R)) : iRng2 ta σ H R := q
theorem i_rng2K {R : It → Hp → Prop} {i j : Int} (hi : -1000000 ≤ i ∧ i ≤ 1000000) (hj : -1000000 ≤ j ∧ j ≤ 1000000) (q : R (Itr i (j - i).toNat) H) : Ir2K R [.int i, .int j] H := ⟨i, j, rfl, ⟨by omega, by omega, by omega, by omega⟩, q⟩
theorem forR {lo : Int} {k : Nat} (Pv : Nat → St → Hp → Prop) (h0 : Pv 0 σ H) (hs : ∀ i σ' H', i < k → Pv i σ' H' → g (.int (lo + (i : Int))) σ' H' fun σ2 H2 => t ⟨Pv (i + 1), r, n, Pv (i + 1)⟩ σ2 H2) (hd : ∀ σ' H', Pv k σ' H' → n σ' H') : ForK g t n r σ (Itr lo k) H :=
  for_range (D := ⟨n, r, fun _ _ => False, fun _ _ => False⟩) Pv h0 hs hd
def Ir3K (R : It → Hp → Prop) : List V → Hp → Prop := fun vs H1 => ∃ (i j c : Int) (n : Nat), vs = [.int i, .int j, .int c] ∧ RgC i j c n ∧ R (Itc i c n) H1
theorem i_rng3 {R : It → Hp → Prop} (q : ta σ H (Ir3K R)) : iRng3 ta σ H R := q
theorem i_rngDown {R : It → Hp → Prop} {i : Int} {k : Nat} (hi : i + 1 = k) (hk : k ≤ 1000000) (q : R (Itc i (-1) k) H) : Ir3K R [.int i, .int (-1), .int (-1)] H := by
  refine ⟨i, -1, -1, k, rfl, ?_, q⟩
  have h := RgC.neg (i := i) (j := -1) (by omega) (by omega) (by omega) (by omega)
  have e : (i - -1).toNat = k := by omega
  rw [e] at h
  exact h
theorem forC {lo cc : Int} {k : Nat} (Pv : Nat → St → Hp → Prop) (h0 : Pv 0 σ H) (hs : ∀ i σ' H', i < k → Pv i σ' H' → g (.int (lo + (i : Nat) * cc)) σ' H' fun σ2 H2 => t ⟨Pv (i + 1), r, n, Pv (i + 1)⟩ σ2 H2) (hd : ∀ σ' H', Pv k σ' H' → n σ' H') : ForK g t n r σ (Itc lo cc k) H :=
  for_rangeC (D := ⟨n, r, fun _ _ => False, fun _ _ => False⟩) Pv h0 hs hd
def IeK (K : PySem.W.Frag) (R : It → Hp → Prop) : List V → Hp → Prop := fun vs H1 => ∃ a xs, vs = [.ref a] ∧ SqL K H1 a xs ∧ R (Ite K a) H1
theorem i_enum {R : It → Hp → Prop} (q : ta σ H (IeK K R)) : iEnum K ta σ H R := q
theorem i_enumK {R : It → Hp → Prop} {a : Addr} {xs : List V} (h : H a = some (.lst xs)) (q : R (Ite K a) H) : IeK K R [.ref a] H := ⟨a, xs, rfl, SqL.of h, q⟩
/-- for i, x in enumerate(xs): each turn a new pair T -/
theorem forE {a : Addr} {xs : List V} (Pv : Nat → St → Hp → Prop) (h0 : Pv 0 σ H) (hl : ∀ i σ H, i ≤ xs.length → Pv i σ H → H a = some (.lst xs))
    (hs : ∀ (i : Nat) x σ' H' T H2, xs[i]? = some x → Pv i σ' H' → H' T = none → Same H' H2 → H2 T = some (.tup [.int (i : Int), x]) → g (.ref T) σ' H2 fun σ2 H3 => t ⟨Pv (i + 1), r, n, Pv (i + 1)⟩ σ2 H3) (hd : ∀ σ' H', Pv xs.length σ' H' → n σ' H') : ForK g t n r σ (Ite K a) H := by
  refine ⟨fun i m σ H => m = xs.length - i ∧ i ≤ xs.length ∧ Pv i σ H, ⟨xs.length, by simp, Nat.zero_le _, h0⟩, ?_⟩
  rintro i m σ H ⟨rfl, hi, p⟩
  have q := hl i σ H hi p
  by_cases hlt : i < xs.length
  · refine .inr ⟨⟨xs, xs[i], SqL.of q, by simp [hlt]⟩, Pv (i + 1), fun σ' H' p' => ⟨xs.length - (i + 1), by omega, rfl, hlt, p'⟩, fun x H' y => ?_⟩
    obtain ⟨T, x', rfl, nT, rfl, fx⟩ := y
    have ex := fx xs (SqL.of q)
    exact hs i x' σ H T _ ex p nT (same_new nT) upd_same
  · have e : i = xs.length := by omega
    subst e
    exact .inl ⟨⟨xs, SqL.of q, Nat.le_refl _⟩, hd σ H p⟩

/-! ### comprehensions -/
def LcK (Q : VK) (g : TG) (tt : TT) (te : TE) (vs : List Nat) (σ : St) (J : It) (H1 : Hp) : Prop := ∀ D, H1 D = none → ∃ W : Nat → Nat → Hp → Prop, (∃ m, W 0 m (upd H1 D (.lst []))) ∧ ∀ i m H, W i m H →
  (J.stop i H ∧ Q (.ref D) H) ∨ (J.go i H ∧ ∃ Nx : Hp → Prop, (∀ H', Nx H' → ∃ m', m' < m ∧ W (i + 1) m' H') ∧ ∀ x H', J.yld i H x H' → g x (wipe σ vs) H' fun σ2 H2 => wipe σ2 vs = wipe σ vs ∧ tt σ2 H2 fun b H3 =>
    if b = true then te σ2 H3 fun y H4 => ∃ acc, H4 D = some (.lst acc) ∧ acc.length < sizeLine ∧ Nx (upd H4 D (.lst (acc ++ [y]))) else Nx H3)
theorem x_lc {wi : TI} {vs : List Nat} (q : wi σ H (LcK Q g tt te vs σ)) : tLc wi g tt te vs σ H Q := q
/-- what a comprehension has made so far -/
structure LcI {α : Type} (Rel : Hp → V → α → Prop) (H : Hp) (D : Addr) (ds : List α) (i : Nat) (H' : Hp) : Prop where
  fr : H D = none
  sm : Same H H'
  ls : ∃ ys, H' D = some (.lst ys) ∧ LR (Rel H') ys (ds.take i)
theorem LcI.start {α : Type} {Rel : Hp → V → α → Prop} {D : Addr} {ds : List α} (h : H D = none) : LcI Rel H D ds 0 (upd H D (.lst [])) :=
  ⟨h, same_new h, [], upd_same, by rw [List.take_zero]; exact LR.nil⟩
theorem LcI.step {α : Type} {Rel : Hp → V → α → Prop} (mono : ∀ H H' y d, Tp H H' → Rel H y d → Rel H' y d) {D : Addr} {ds : List α} {i : Nat} {H' H'' : Hp} {y : V} {d : α} (I : LcI Rel H D ds i H') (s : Same H' H'') (e : ds[i]? = some d) (ry : Rel H'' y d) (hs : ds.length ≤ 100000) :
    ∃ acc, H'' D = some (.lst acc) ∧ acc.length < sizeLine ∧ LcI Rel H D ds (i + 1) (upd H'' D (.lst (acc ++ [y]))) := by
  obtain ⟨fr, sm, ys, h1, h2⟩ := I
  have hi : i < ds.length := (List.getElem?_eq_some_iff.mp e).1
  have h1' := s _ _ h1
  have hl : ys.length = i := by rw [h2.len, List.length_take]; omega
  refine ⟨ys, h1', Nat.lt_of_le_of_lt (m := 100000) (by omega) (by decide), fr, same_mut (sm.trans s) fr, _, upd_same, ?_⟩
  rw [List.take_add_one, e]
  have t1 : Tp H'' (upd H'' D (.lst (ys ++ [y]))) := Tp.mutL h1'
  exact (h2.mono fun v x q => mono _ _ _ _ ((same_tp s).trans t1) q).app (mono _ _ _ _ t1 ry)
theorem LcI.done {α : Type} {Rel : Hp → V → α → Prop} {D : Addr} {ds : List α} {k : Nat} {H' : Hp} (I : LcI Rel H D ds k H') (hk : ds.length ≤ k) : ∃ ys, H' D = some (.lst ys) ∧ LR (Rel H') ys ds := by
  obtain ⟨_, _, ys, h1, h2⟩ := I
  rw [List.take_of_length_le hk] at h2
  exact ⟨ys, h1, h2⟩
/-- [e for x in xs] -/
theorem lcL {α : Type} {a : Addr} {xs : List V} {ds : List α} {vs : List Nat} (Rel : Hp → V → α → Prop) (mono : ∀ H H' y d, Tp H H' → Rel H y d → Rel H' y d) (hx : H a = some (.lst xs)) (hlen : ds.length = xs.length) (small : ds.length ≤ 100000)
    (hs : ∀ (i : Nat) x d H' (Q' : VK), Same H H' → xs[i]? = some x → ds[i]? = some d → (∀ y H'', Same H' H'' → Rel H'' y d → Q' y H'') → g x (wipe σ vs) H' fun σ2 H2 => wipe σ2 vs = wipe σ vs ∧ te σ2 H2 Q')
    (gm : ∀ x σ' H' Q1 Q2, (∀ σ2 H2, Q1 σ2 H2 → Q2 σ2 H2) → g x σ' H' Q1 → g x σ' H' Q2)
    (q : ∀ D H' ys, H D = none → Same H H' → H' D = some (.lst ys) → LR (Rel H') ys ds → Q (.ref D) H') : LcK Q g tYes te vs σ (Itl K a) H := by
  intro D hD
  refine lc_list (K := K) (a := a) (xs := xs) (fun i H' => LcI Rel H D ds i H') (LcI.start hD) (fun i H' _ I => SqL.of (I.sm _ _ hx)) (fun i x H' hx' I => ?_) (fun H' I => ?_)
  · obtain ⟨d, hd⟩ : ∃ d, ds[i]? = some d := ⟨ds[i]'(by rw [hlen]; exact (List.getElem?_eq_some_iff.mp hx').1), List.getElem?_eq_getElem _⟩
    refine gm _ _ _ _ _ (fun σ2 H2 p => ?_) (hs i x d H' (fun y H'' => ∃ acc, H'' D = some (.lst acc) ∧ acc.length < sizeLine ∧ LcI Rel H D ds (i + 1) (upd H'' D (.lst (acc ++ [y])))) I.sm hx' hd fun y H'' s ry => I.step mono s hd ry small)
    exact p
  · obtain ⟨ys, h1, h2⟩ := I.done (by omega)
    exact q D H' ys hD I.sm h1 h2
/-- [e for i in range(..)] -/
theorem lcR {α : Type} {lo : Int} {k : Nat} {ds : List α} {vs : List Nat} (Rel : Hp → V → α → Prop) (mono : ∀ H H' y d, Tp H H' → Rel H y d → Rel H' y d) (hlen : ds.length = k) (small : ds.length ≤ 100000)
    (hs : ∀ (i : Nat) d H' (Q' : VK), Same H H' → i < k → ds[i]? = some d → (∀ y H'', Same H' H'' → Rel H'' y d → Q' y H'') → g (.int (lo + (i : Int))) (wipe σ vs) H' fun σ2 H2 => wipe σ2 vs = wipe σ vs ∧ te σ2 H2 Q')
    (gm : ∀ x σ' H' Q1 Q2, (∀ σ2 H2, Q1 σ2 H2 → Q2 σ2 H2) → g x σ' H' Q1 → g x σ' H' Q2)
    (q : ∀ D H' ys, H D = none → Same H H' → H' D = some (.lst ys) → LR (Rel H') ys ds → Q (.ref D) H') : LcK Q g tYes te vs σ (Itr lo k) H := by
  intro D hD
  refine lc_range (lo := lo) (n := k) (fun i H' => LcI Rel H D ds i H') (LcI.start hD) (fun i H' hi I => ?_) (fun H' I => ?_)
  · obtain ⟨d, hd⟩ : ∃ d, ds[i]? = some d := ⟨ds[i]'(by omega), List.getElem?_eq_getElem _⟩
    refine gm _ _ _ _ _ (fun σ2 H2 p => ?_) (hs i d H' (fun y H'' => ∃ acc, H'' D = some (.lst acc) ∧ acc.length < sizeLine ∧ LcI Rel H D ds (i + 1) (upd H'' D (.lst (acc ++ [y])))) I.sm hi hd fun y H'' s ry => I.step mono s hd ry small)
    exact p
  · obtain ⟨ys, h1, h2⟩ := I.done (by omega)
    exact q D H' ys hD I.sm h1 h2
/-- [e for i, x in enumerate(xs)] -/
theorem lcE {α : Type} {a : Addr} {xs : List V} {ds : List α} {vs : List Nat} (Rel : Hp → V → α → Prop) (mono : ∀ H H' y d, Tp H H' → Rel H y d → Rel H' y d) (hx : H a = some (.lst xs)) (hlen : ds.length = xs.length) (small : ds.length ≤ 100000)
    (hs : ∀ (i : Nat) x d T H' (Q' : VK), Same H H' → xs[i]? = some x → ds[i]? = some d → H' T = some (.tup [.int (i : Int), x]) → (∀ y H'', Same H' H'' → Rel H'' y d → Q' y H'') → g (.ref T) (wipe σ vs) H' fun σ2 H2 => wipe σ2 vs = wipe σ vs ∧ te σ2 H2 Q')
    (gm : ∀ x σ' H' Q1 Q2, (∀ σ2 H2, Q1 σ2 H2 → Q2 σ2 H2) → g x σ' H' Q1 → g x σ' H' Q2)
    (q : ∀ D H' ys, H D = none → Same H H' → H' D = some (.lst ys) → LR (Rel H') ys ds → Q (.ref D) H') : LcK Q g tYes te vs σ (Ite K a) H := by
  intro D hD
  refine ⟨fun i m H' => m = xs.length - i ∧ i ≤ xs.length ∧ LcI Rel H D ds i H', ⟨xs.length, by simp, Nat.zero_le _, LcI.start hD⟩, ?_⟩
  rintro i m H' ⟨rfl, hi, I⟩
  have hq := I.sm _ _ hx
  by_cases hlt : i < xs.length
  · refine .inr ⟨⟨xs, xs[i], SqL.of hq, by simp [hlt]⟩, LcI Rel H D ds (i + 1), fun H' p' => ⟨xs.length - (i + 1), by omega, rfl, hlt, p'⟩, fun x H2 y => ?_⟩
    obtain ⟨T, x', rfl, nT, rfl, fx⟩ := y
    have ex := fx xs (SqL.of hq)
    obtain ⟨d, hd⟩ : ∃ d, ds[i]? = some d := ⟨ds[i]'(by omega), List.getElem?_eq_getElem _⟩
    have s1 : Same H' (upd H' T (.tup [.int (i : Int), x'])) := same_new nT
    have I2 : LcI Rel H D ds i (upd H' T (.tup [.int (i : Int), x'])) := by
      obtain ⟨ys, h1, h2⟩ := I.ls
      exact ⟨I.fr, I.sm.trans s1, ys, s1 _ _ h1, h2.mono fun v x q => mono _ _ _ _ (same_tp s1) q⟩
    refine gm _ _ _ _ _ (fun σ2 H2 p => ?_) (hs i x' d T _ (fun y H'' => ∃ acc, H'' D = some (.lst acc) ∧ acc.length < sizeLine ∧ LcI Rel H D ds (i + 1) (upd H'' D (.lst (acc ++ [y])))) I2.sm ex hd upd_same fun y H'' s ry => I2.step mono s hd ry small)
    exact p
  · have e : i = xs.length := by omega
    subst e
    obtain ⟨ys, h1, h2⟩ := I.done (by omega)
    exact .inl ⟨⟨xs, SqL.of hq, Nat.le_refl _⟩, q D H' ys hD I.sm h1 h2⟩
/-! targets say what is wanted of them -/
theorem gm_name {i : Nat} : ∀ (x : V) (σ' : St) (H' : Hp) (Q1 Q2 : St → Hp → Prop), (∀ σ2 H2, Q1 σ2 H2 → Q2 σ2 H2) → gName i x σ' H' Q1 → gName i x σ' H' Q2 := fun _ _ _ _ _ h q => h _ _ q
theorem gm_tup2 {i j k : Nat} : ∀ (x : V) (σ' : St) (H' : Hp) (Q1 Q2 : St → Hp → Prop), (∀ σ2 H2, Q1 σ2 H2 → Q2 σ2 H2) → gTup K k (gCons (gName i) (gCons (gName j) gNil)) x σ' H' Q1 → gTup K k (gCons (gName i) (gCons (gName j) gNil)) x σ' H' Q2 := fun _ _ _ _ _ h q => by
  obtain ⟨a, xs, e1, e2, e3, v, rs, e4, w, rs2, e5, e6, q⟩ := q
  exact ⟨a, xs, e1, e2, e3, v, rs, e4, w, rs2, e5, e6, h _ _ q⟩
theorem gm_tup3 {i j l k : Nat} : ∀ (x : V) (σ' : St) (H' : Hp) (Q1 Q2 : St → Hp → Prop), (∀ σ2 H2, Q1 σ2 H2 → Q2 σ2 H2) → gTup K k (gCons (gName i) (gCons (gName j) (gCons (gName l) gNil))) x σ' H' Q1 → gTup K k (gCons (gName i) (gCons (gName j) (gCons (gName l) gNil))) x σ' H' Q2 := fun _ _ _ _ _ h q => by
  obtain ⟨a, xs, e1, e2, e3, v, rs, e4, w, rs2, e5, u, rs3, e6, e7, q⟩ := q
  exact ⟨a, xs, e1, e2, e3, v, rs, e4, w, rs2, e5, u, rs3, e6, e7, h _ _ q⟩
end
/-! operators by names -/
def oAdd : R2 := rI0 fun i j => .int (i + j)
def oSub : R2 := rI0 fun i j => .int (i - j)
def oMul : R2 := rI CMul fun i j => .int (i * j)
def oFdiv : R2 := rI CDiv fun i j => .int (i / j)
def oMod : R2 := rI (fun _ j => 0 < j) fun i j => .int (i % j)
def oPow : R2 := rI CPow fun i j => .int (i ^ j.toNat)
def oLt : R2 := rI0 fun i j => .bl (decide (i < j))
def oLe : R2 := rI0 fun i j => .bl (decide (i ≤ j))
def oGt : R2 := rI0 fun i j => .bl (decide (j < i))
def oGe : R2 := rI0 fun i j => .bl (decide (j ≤ i))
def oNeg : V → Hp → VK → Prop := rU fun i => .int (-i)
def oCat : R2 := rCat
section
variable {X : Cx}
theorem opAdd : OpR X (binaryOp .Add) oAdd := op_add
theorem opSub : OpR X (binaryOp .Sub) oSub := op_sub
theorem opMul : OpR X (binaryOp .Mult) oMul := op_mul
theorem opFdiv : OpR X (binaryOp .FloorDiv) oFdiv := op_fdiv
theorem opMod : OpR X (binaryOp .Mod) oMod := op_mod
theorem opPow : OpR X (binaryOp .Pow) oPow := op_pow
theorem opLt : OpR X (compareOp .Lt) oLt := op_lt
theorem opLe : OpR X (compareOp .LtE) oLe := op_le
theorem opGt : OpR X (compareOp .Gt) oGt := op_gt
theorem opGe : OpR X (compareOp .GtE) oGe := op_ge
theorem opNeg : UnR X (unaryOp .USub) oNeg := un_neg
theorem opCat : OpR X (binaryOp .Add) oCat := op_cat
theorem pt_tru {a : Expr} {ta : TE} (ha : PE X a ta) (he : ∀ whole, isTrue a X.env whole = (do let v ← whole; standAt a.pos; holding [v] (truthy v))) : PT X a (tTruth X.K ta) := pt_truth ha he
end
section
variable {H : Hp} {Q : VK} {i j : Int}
theorem r_add (q : Q (.int (i + j)) H) : oAdd (.int i) (.int j) H Q := r_I0 q
theorem r_sub (q : Q (.int (i - j)) H) : oSub (.int i) (.int j) H Q := r_I0 q
theorem r_mul (c : CMul i j) (q : Q (.int (i * j)) H) : oMul (.int i) (.int j) H Q := r_I c q
theorem r_fdiv (c : 0 < j ∧ j < 1073741824) (q : Q (.int (i / j)) H) : oFdiv (.int i) (.int j) H Q := r_I c q
theorem r_mod (c : 0 < j) (q : Q (.int (i % j)) H) : oMod (.int i) (.int j) H Q := r_I c q
theorem r_pow (c : CPow i j) (q : Q (.int (i ^ j.toNat)) H) : oPow (.int i) (.int j) H Q := r_I c q
theorem r_lt (q : Q (.bl (decide (i < j))) H) : oLt (.int i) (.int j) H Q := r_I0 q
theorem r_le (q : Q (.bl (decide (i ≤ j))) H) : oLe (.int i) (.int j) H Q := r_I0 q
theorem r_gt (q : Q (.bl (decide (j < i))) H) : oGt (.int i) (.int j) H Q := r_I0 q
theorem r_ge (q : Q (.bl (decide (j ≤ i))) H) : oGe (.int i) (.int j) H Q := r_I0 q
theorem r_neg (q : Q (.int (-i)) H) : oNeg (.int i) H Q := r_U q
theorem r_catL {a b : Addr} {xs ys : List V} (ha : H a = some (.lst xs)) (hb : H b = some (.lst ys)) (hl : xs.length + ys.length ≤ 100000) (q : ∀ p H', H p = none → Same H H' → H' p = some (.lst (xs ++ ys)) → Q (.ref p) H') : oCat (.ref a) (.ref b) H Q := r_cat ha hb hl q
end
theorem at_c0 {α : Type} {a : α} {r : List α} : atI (a :: r) 0 = some a := atI_nat (j := 0) rfl
theorem at_c1 {α : Type} {a b : α} {r : List α} : atI (a :: b :: r) 1 = some b := atI_nat (j := 1) rfl
/-- tCut and its rule are the library's -/
abbrev tCut (t u : TS) : TS := Evl.tCut t u
theorem pss_cut {X : Cx} {st : Stmt} {rest : List Stmt} {t u : TS} (a : PS X st t) (b : PSs X rest u) : PSs X (st :: rest) (tCut t u) := Evl.pss_cut a b
theorem st_cut {t u : TS} {n b c : St → Hp → Prop} {r : VK} {σ : St} {H : Hp} (Mid : St → Hp → Prop) (h : t ⟨Mid, r, b, c⟩ σ H) (k : ∀ σ' H', Mid σ' H' → u ⟨n, r, b, c⟩ σ' H') : tCut t u ⟨n, r, b, c⟩ σ H := ⟨Mid, h, k⟩
/-- list(enumerate(xs)): a new list of new pairs -/
def tListEnum (K : PySem.W.Frag) (ta : TE) : TE := fun σ H Q => ta σ H fun x H1 => ∃ a xs, x = .ref a ∧ SqL K H1 a xs ∧ xs.length ≤ 100000 ∧ ∀ l H', H1 l = none → Same H1 H' → (∃ ys, H' l = some (.lst ys) ∧ ys.length = xs.length ∧ ∀ (i : Nat) x, xs[i]? = some x → ∃ T, ys[i]? = some (.ref T) ∧ H' T = some (.tup [.int (i : Int), x])) → Q (.ref l) H'
/-! ### what stands where -/
/-- all but the addresses of fp stands -/
def Frm (fp : List Addr) (H H' : Hp) : Prop := ∀ b o, H b = some o → b ∉ fp → H' b = some o
theorem Frm.refl (fp : List Addr) (H : Hp) : Frm fp H H := fun _ _ h _ => h
theorem Frm.trans {fp : List Addr} {H H1 H2 : Hp} (a : Frm fp H H1) (b : Frm fp H1 H2) : Frm fp H H2 := fun c o h n => b c o (a c o h n) n
theorem frm_same {fp : List Addr} {H H' : Hp} (s : Same H H') : Frm fp H H' := fun b o h _ => s b o h
theorem Frm.mono {fp fp' : List Addr} {H H' : Hp} (a : Frm fp H H') (h : ∀ b, b ∈ fp → b ∈ fp') : Frm fp' H H' := fun c o e n => a c o e (fun z => n (h c z))
theorem Frm.out {fp : List Addr} {H0 H H' : Hp} (s : Same H0 H) (a : Frm fp H H') (h : ∀ b, b ∈ fp → H0 b = none) : Same H0 H' := fun c o e => a c o (s c o e) (fun z => by
  rw [h c z] at e
  cases e)
theorem frm_upd {fp : List Addr} {H : Hp} {a : Addr} {o : HO} (h : a ∈ fp) : Frm fp H (upd H a o) := fun b u e n => by
  rw [upd_ne (fun z => n (by rw [z]; exact h))]
  exact e
def Bd (z : Int) : Prop := -1000000 ≤ z ∧ z ≤ 1000000
/-- a result with two lists -/
def flds2 (f g : Str) (a b : Addr) : List (Str × V) := [(f, .ref a), (g, .ref b)]
def CutAt {α β : Type} (C : Addr) (R : Hp → V → α → Prop) (S : Hp → V → β → Prop) (H : Hp) (c : Addr) (pcs : List α) (rs : List β) : Prop :=
  ∃ dx a b, H c = some (.ins C dx (flds2 "pieces" "reasons" a b)) ∧ LsR R H a pcs ∧ LsR S H b rs
/-! ### lines.py, fits.py -/
def sp_common_divisor (K : PySem.W.Frag) : Sp := fun vs H Q _ => ∃ a b : Int, vs = [.int a, .int b] ∧ 0 < b ∧ ∀ g : Int, 0 < g → g ∣ a → g ∣ b → Q (.int g) H
def sp_floor_at (K : PySem.W.Frag) : Sp := fun vs H Q _ => ∃ (l : Addr) (p q d x : Int), vs = [.ref l, .int x] ∧ H l = some (.tup [.int p, .int q, .int d]) ∧ 0 < d ∧ d ≤ 2000000 ∧ Bd x ∧ Q (.int ((p * x + q) / d)) H
def sp_ceiling_at (K : PySem.W.Frag) : Sp := fun vs H Q _ => ∃ (l : Addr) (p q d x : Int), vs = [.ref l, .int x] ∧ H l = some (.tup [.int p, .int q, .int d]) ∧ 0 < d ∧ d ≤ 2000000 ∧ Bd x ∧ Q (.int (-(-(p * x + q) / d))) H
def sp_is_near (K : PySem.W.Frag) : Sp := fun vs H Q _ => ∃ (l a : Addr) (t : Tr) (p : Pt) (e : Int), vs = [.ref l, .ref a, .int e] ∧ H l = some (.tup [.int t.1, .int t.2.1, .int t.2.2]) ∧ H a = some (.tup [.int p.1, .int p.2]) ∧
  0 < t.2.2 ∧ t.2.2 ≤ 2000000 ∧ Bd p.1 ∧ (NearL e t p → Q (.bl true) H) ∧ (¬ NearL e t p → Q (.bl false) H)
def sp_line_fits (K : PySem.W.Frag) : Sp := fun vs H Q _ => ∃ (l a : Addr) (t : Tr) (pts : List Pt) (e : Int), vs = [.ref l, .ref a, .int e] ∧ H l = some (.tup [.int t.1, .int t.2.1, .int t.2.2]) ∧ LsR PtR H a pts ∧
  0 < t.2.2 ∧ t.2.2 ≤ 2000000 ∧ (∀ (i : Nat) (p : Pt), pts[i]? = some p → Bd p.1 ∧ NearL e t p) ∧ Q (.bl true) H
def sp_three_fit (K : PySem.W.Frag) : Sp := fun vs H Q _ => ∃ (a b c : Addr) (p1 p2 p3 : Pt) (e : Int), vs = [.ref a, .ref b, .ref c, .int e] ∧ H a = some (.tup [.int p1.1, .int p1.2]) ∧ H b = some (.tup [.int p2.1, .int p2.2]) ∧ H c = some (.tup [.int p3.1, .int p3.2]) ∧
  Bd p1.1 ∧ Bd p2.1 ∧ Bd p3.1 ∧ (T3 e p1 p2 p3 → Q (.bl true) H) ∧ (¬ T3 e p1 p2 p3 → Q (.bl false) H)
def sp_fraction (K : PySem.W.Frag) : Sp := fun vs H Q _ => ∃ a b : Int, vs = [.int a, .int b] ∧ 0 < b ∧ b ≤ 2000000 ∧ ∀ (g p d : Int) (r : Addr) (H' : Hp), 0 < g → p * g = a → d * g = b → Same H H' → H' r = some (.tup [.int p, .int d]) → Q (.ref r) H'
/-- two fractions, the first's less than the second's -/
def spLess : Sp := fun vs H Q _ => ∃ (a b : Addr) (n1 d1 n2 d2 : Int), vs = [.ref a, .ref b] ∧ H a = some (.tup [.int n1, .int d1]) ∧ H b = some (.tup [.int n2, .int d2]) ∧ (-4000000 ≤ d1 ∧ d1 ≤ 4000000) ∧ (-4000000 ≤ d2 ∧ d2 ≤ 4000000) ∧ Q (.bl (decide (n1 * d2 < n2 * d1))) H
def sp_is_less (K : PySem.W.Frag) : Sp := spLess
def sp_is_below (K : PySem.W.Frag) : Sp := spLess
def sp_slope_between (K : PySem.W.Frag) : Sp := fun vs H Q _ => ∃ (a b : Addr) (l1 l2 u1 u2 : Int), vs = [.ref a, .ref b] ∧ H a = some (.tup [.int l1, .int l2]) ∧ H b = some (.tup [.int u1, .int u2]) ∧
  (0 < l1 → Q (.ref a) H) ∧ (l1 ≤ 0 → u1 < 0 → Q (.ref b) H) ∧ (l1 ≤ 0 → 0 ≤ u1 → ∀ (r : Addr) (H' : Hp), Same H H' → H' r = some (.tup [.int 0, .int 1]) → Q (.ref r) H')
def sp_line_with_slope (K : PySem.W.Frag) : Sp := fun vs H Q _ => ∃ (a s : Addr) (e p d : Int) (pts : List Pt), vs = [.ref a, .int e, .ref s] ∧ LsR PtR H a pts ∧ H s = some (.tup [.int p, .int d]) ∧ 0 < d ∧ d ≤ 2000000 ∧ 0 < pts.length ∧ pts.length ≤ 100000 ∧
  (∀ (i : Nat) (t : Pt), pts[i]? = some t → Bd t.1) ∧
  ∀ (q : Int) (r : Addr) (H' : Hp), (∃ (i : Nat) (t : Pt), pts[i]? = some t ∧ q = t.2 * d - e * d - p * t.1) → (∀ (i : Nat) (t : Pt), pts[i]? = some t → t.2 * d - e * d - p * t.1 ≤ q) → Same H H' → H' r = some (.tup [.int p, .int q, .int d]) → Q (.ref r) H'
/-! ### hulls.py -/
def sp_turn (K : PySem.W.Frag) : Sp := fun vs H Q _ => ∃ (a b c : Addr) (x1 y1 x2 y2 x3 y3 : Int) (r1 r2 r3 : List V), vs = [.ref a, .ref b, .ref c] ∧ H a = some (.tup (.int x1 :: .int y1 :: r1)) ∧ H b = some (.tup (.int x2 :: .int y2 :: r2)) ∧ H c = some (.tup (.int x3 :: .int y3 :: r3)) ∧
  Bd x1 ∧ Bd x2 ∧ Bd x3 ∧ Q (.int ((x2 - x1) * (y3 - y1) - (y2 - y1) * (x3 - x1))) H
def sp_rise_over (K : PySem.W.Frag) : Sp := fun vs H Q _ => ∃ (a b : Addr) (x1 y1 x2 y2 : Int) (r1 r2 : List V), vs = [.ref a, .ref b] ∧ H a = some (.tup (.int x1 :: .int y1 :: r1)) ∧ H b = some (.tup (.int x2 :: .int y2 :: r2)) ∧
  ∀ (r : Addr) (H' : Hp), Same H H' → H' r = some (.tup [.int (y2 - y1), .int (x2 - x1)]) → Q (.ref r) H'
/-- a corner: the place, the height by Z, the index of the c-th -/
def CoR (X Z : Nat → Int) (H : Hp) (v : V) (c : Nat) : Prop := ∃ a, v = .ref a ∧ H a = some (.tup [.int (X c), .int (Z c), .int (c : Int)])
theorem CoR.mono {X Z : Nat → Int} {H H' : Hp} (t : Tp H H') {v : V} {c : Nat} (h : CoR X Z H v c) : CoR X Z H' v c := by
  obtain ⟨a, e, h⟩ := h
  exact ⟨a, e, t _ _ h⟩
/-- a pair of corners, the first by Z, the second by W -/
def PrR (X Z W : Nat → Int) (H : Hp) (v : V) (p : Nat × Nat) : Prop := ∃ t a b, v = .ref t ∧ H t = some (.tup [.ref a, .ref b]) ∧ H a = some (.tup [.int (X p.1), .int (Z p.1), .int (p.1 : Int)]) ∧ H b = some (.tup [.int (X p.2), .int (W p.2), .int (p.2 : Int)])
theorem PrR.mono {X Z W : Nat → Int} {H H' : Hp} (t : Tp H H') {v : V} {p : Nat × Nat} (h : PrR X Z W H v p) : PrR X Z W H' v p := by
  obtain ⟨c, a, b, e, h1, h2, h3⟩ := h
  exact ⟨c, a, b, e, t _ _ h1, t _ _ h2, t _ _ h3⟩
def fitF (e : Int) (n : Nat) (lp lt lb : Addr) (fv sv : V) : List (Str × V) := [("error", .int e), ("count", .int (n : Int)), ("_points", .ref lp), ("_tops", .ref lt), ("_bottoms", .ref lb), ("_flat", fv), ("_steep", sv)]
def ptsOf (X Y : Nat → Int) (n : Nat) : List Pt := (List.range n).map fun i => (X i, Y i)
/-- a Fitter's parts: np points taken, the count n, tops S, bottoms B -/
structure FitH (K : PySem.W.Frag) (H : Hp) (p : Addr) (fp : List Addr) (e : Int) (X Y : Nat → Int) (n np : Nat) (S B : List Nat) (fv sv : V) : Prop where
  ex : ∃ dx lp lt lb ps ts bs, fp = [p, lp, lt, lb] ∧ H p = some (.ins (He.ga K "Fitter") dx (fitF e n lp lt lb fv sv)) ∧ lp ≠ lt ∧ lp ≠ lb ∧ lt ≠ lb ∧
    H lp = some (.lst ps) ∧ LR (PtR H) ps (ptsOf X Y np) ∧ H lt = some (.lst ts) ∧ LR (CoR X (hiF Y e) H) ts S ∧ H lb = some (.lst bs) ∧ LR (CoR X (loF Y e) H) bs B
/-- .. and what is true of them -/
structure FitAt (K : PySem.W.Frag) (H : Hp) (p : Addr) (fp : List Addr) (e : Int) (X Y : Nat → Int) (n : Nat) : Prop where
  e0 : 0 ≤ e
  asc : AscN X n
  bd : ∀ i, i < n → Bd (X i)
  len : n ≤ 20000
  fit : FitN X (loF Y e) (hiF Y e) n
  ex : ∃ S B fv sv, FitH K H p fp e X Y n n S B fv sv ∧ S.Pairwise (· < ·) ∧ B.Pairwise (· < ·) ∧ (∀ c, c ∈ S → c < n) ∧ (∀ c, c ∈ B → c < n) ∧
    (0 < n → DomT X (hiF Y e) S n (X (n - 1)) ∧ DomB X (loF Y e) B n (X (n - 1)) ∧ S ≠ [] ∧ B ≠ []) ∧ (n = 1 → S = [0] ∧ B = [0]) ∧ (n = 0 → S = [] ∧ B = []) ∧
    (2 ≤ n → (∃ a b, PrR X (hiF Y e) (loF Y e) H fv (a, b) ∧ FlatOK X (loF Y e) (hiF Y e) n a b) ∧ ∃ c d, PrR X (loF Y e) (hiF Y e) H sv (c, d) ∧ SteepOK X (loF Y e) (hiF Y e) n c d)
def sp_Fitter_init (K : PySem.W.Frag) : Sp := fun vs H Q _ => ∃ (p : Addr) (e : Int), vs = [.ref p, .int e] ∧ (∃ dx, H p = some (.ins (He.ga K "Fitter") dx [])) ∧ 0 ≤ e ∧
  ∀ (H' : Hp) (fp : List Addr), (∀ X Y, FitAt K H' p fp e X Y 0) → Frm [p] H H' → (∀ b, b ∈ fp → b = p ∨ H b = none) → p ∈ fp → Tp H H' → Q .non H'
def sp_Fitter_conflict (K : PySem.W.Frag) : Sp := fun vs H Q _ => ∃ (p pt : Addr) (fp : List Addr) (e : Int) (X Y : Nat → Int) (n : Nat), vs = [.ref p, .ref pt] ∧ FitAt K H p fp e X Y n ∧ H pt = some (.tup [.int (X n), .int (Y n)]) ∧ AscN X (n + 1) ∧ Bd (X n) ∧
  (FitN X (loF Y e) (hiF Y e) (n + 1) → ∀ H', Same H H' → Q .non H') ∧
  ∀ (i j : Nat) (r : Addr) (H' : Hp), ¬ FitN X (loF Y e) (hiF Y e) (n + 1) → i < j → j < n → ¬ T3 e (X i, Y i) (X j, Y j) (X n, Y n) → Same H H' → H' r = some (.tup [.int (i : Int), .int (j : Int)]) → Q (.ref r) H'
def sp_Fitter_add (K : PySem.W.Frag) : Sp := fun vs H Q _ => ∃ (p pt : Addr) (fp : List Addr) (e : Int) (X Y : Nat → Int) (n : Nat), vs = [.ref p, .ref pt] ∧ FitAt K H p fp e X Y n ∧ H pt = some (.tup [.int (X n), .int (Y n)]) ∧ AscN X (n + 1) ∧ Bd (X n) ∧ n < 20000 ∧
  FitN X (loF Y e) (hiF Y e) (n + 1) ∧ ∀ H', FitAt K H' p fp e X Y (n + 1) → Frm fp H H' → Tp H H' → Q (.bl true) H'
def sp_Fitter_add_corners (K : PySem.W.Frag) : Sp := fun vs H Q _ => ∃ (p t b : Addr) (fp : List Addr) (e : Int) (X Y : Nat → Int) (n : Nat) (S B : List Nat) (fv sv : V), vs = [.ref p, .ref t, .ref b] ∧ FitH K H p fp e X Y n n S B fv sv ∧
  H t = some (.tup [.int (X n), .int (hiF Y e n), .int (n : Int)]) ∧ H b = some (.tup [.int (X n), .int (loF Y e n), .int (n : Int)]) ∧ AscN X (n + 1) ∧ (∀ i, i ≤ n → Bd (X i)) ∧ n ≤ 20000 ∧ S.Pairwise (· < ·) ∧ B.Pairwise (· < ·) ∧ (∀ c, c ∈ S → c < n) ∧ (∀ c, c ∈ B → c < n) ∧
  (0 < n → DomT X (hiF Y e) S n (X (n - 1)) ∧ DomB X (loF Y e) B n (X (n - 1))) ∧
  ∀ (S' B' : List Nat) (H' : Hp), FitH K H' p fp e X Y n n S' B' fv sv → S'.Pairwise (· < ·) → B'.Pairwise (· < ·) → (∀ c, c ∈ S' → c < n + 1) → (∀ c, c ∈ B' → c < n + 1) → DomT X (hiF Y e) S' (n + 1) (X n) → DomB X (loF Y e) B' (n + 1) (X n) → S' ≠ [] → B' ≠ [] → (n = 0 → S' = [0] ∧ B' = [0]) → Frm fp H H' → Tp H H' → Q .non H'
def sp_Fitter_lower_steep (K : PySem.W.Frag) : Sp := fun vs H Q _ => ∃ (p t : Addr) (fp : List Addr) (e : Int) (X Y : Nat → Int) (n : Nat) (S B : List Nat) (fv sv : V) (c d : Nat), vs = [.ref p, .ref t] ∧ FitH K H p fp e X Y n n S B fv sv ∧ PrR X (loF Y e) (hiF Y e) H sv (c, d) ∧
  H t = some (.tup [.int (X n), .int (hiF Y e n), .int (n : Int)]) ∧ AscN X (n + 1) ∧ (∀ i, i ≤ n → Bd (X i)) ∧ 0 ≤ e ∧ FitN X (loF Y e) (hiF Y e) n ∧ SteepOK X (loF Y e) (hiF Y e) n c d ∧ (∀ c, c ∈ B → c < n) ∧ DomB X (loF Y e) B n (X (n - 1)) ∧ B ≠ [] ∧ n ≤ 20000 ∧
  ∀ (sv' : V) (c' d' : Nat) (H' : Hp), FitH K H' p fp e X Y n n S B fv sv' → PrR X (loF Y e) (hiF Y e) H' sv' (c', d') → SteepOK X (loF Y e) (hiF Y e) (n + 1) c' d' → Frm [p] H H' → Tp H H' → Q .non H'
def sp_Fitter_raise_flat (K : PySem.W.Frag) : Sp := fun vs H Q _ => ∃ (p t : Addr) (fp : List Addr) (e : Int) (X Y : Nat → Int) (n : Nat) (S B : List Nat) (fv sv : V) (a b : Nat), vs = [.ref p, .ref t] ∧ FitH K H p fp e X Y n n S B fv sv ∧ PrR X (hiF Y e) (loF Y e) H fv (a, b) ∧
  H t = some (.tup [.int (X n), .int (loF Y e n), .int (n : Int)]) ∧ AscN X (n + 1) ∧ (∀ i, i ≤ n → Bd (X i)) ∧ 0 ≤ e ∧ FitN X (loF Y e) (hiF Y e) n ∧ FlatOK X (loF Y e) (hiF Y e) n a b ∧ (∀ c, c ∈ S → c < n) ∧ DomT X (hiF Y e) S n (X (n - 1)) ∧ S ≠ [] ∧ n ≤ 20000 ∧
  ∀ (fv' : V) (a' b' : Nat) (H' : Hp), FitH K H' p fp e X Y n n S B fv' sv → PrR X (hiF Y e) (loF Y e) H' fv' (a', b') → FlatOK X (loF Y e) (hiF Y e) (n + 1) a' b' → Frm [p] H H' → Tp H H' → Q .non H'
def sp_Fitter_line (K : PySem.W.Frag) : Sp := fun vs H Q _ => ∃ (p : Addr) (fp : List Addr) (e : Int) (X Y : Nat → Int) (n : Nat), vs = [.ref p] ∧ FitAt K H p fp e X Y n ∧ 0 < n ∧
  ∀ (l : Tr) (r : Addr) (H' : Hp), LineOk e X Y n l → Same H H' → H' r = some (.tup [.int l.1, .int l.2.1, .int l.2.2]) → Q (.ref r) H'
/-! ### cuttings.py -/
def spTwo (C : Addr) : Sp := fun vs H Q _ => ∃ (p a b : Addr) (xs ys : List V), vs = [.ref p, .ref a, .ref b] ∧ (∃ dx, H p = some (.ins C dx [])) ∧ H a = some (.lst xs) ∧ H b = some (.lst ys) ∧
  ∀ (H' : Hp) (a' b' dx : Addr), H' p = some (.ins C dx (flds2 "pieces" "reasons" a' b')) → H' a' = some (.lst xs) → H' b' = some (.lst ys) → Frm [p] H H' → Tp H H' → Q .non H'
def sp_Cutting_init (K : PySem.W.Frag) : Sp := spTwo (He.ga K "Cutting")
def sp_FlatCutting_init (K : PySem.W.Frag) : Sp := spTwo (He.ga K "FlatCutting")
def sp_SpanCutting_init (K : PySem.W.Frag) : Sp := spTwo (He.ga K "SpanCutting")
def sp_cut (K : PySem.W.Frag) : Sp := fun vs H Q _ => ∃ (a : Addr) (e : Int) (pts : List Pt), vs = [.ref a, .int e] ∧ LsR PtR H a pts ∧ PtsOk pts ∧ 0 ≤ e ∧
  ∀ (c : Addr) (H' : Hp) (pcs : List Pc) (rs : List Tr), Same H H' → CutAt (He.ga K "Cutting") PcR TrR H' c pcs rs → CutR e (px pts) (py pts) pts.length pcs rs → Q (.ref c) H'
/-- starts that ascend from 0 -/
def Starts (ss : List Int) (m : Int) : Prop := ss[0]? = some 0 ∧ (∀ (k : Nat) (s t : Int), ss[k]? = some s → ss[k + 1]? = some t → s < t) ∧ ∀ (k : Nat) (s : Int), ss[k]? = some s → 0 ≤ s ∧ s < m
def sp_are_starts (K : PySem.W.Frag) : Sp := fun vs H Q _ => ∃ (a : Addr) (ss : List Int) (m : Int), vs = [.ref a, .int m] ∧ H a = some (.lst (ss.map V.int)) ∧ Starts ss m ∧ ss.length ≤ 100000 ∧ ∀ H', Same H H' → Q (.bl true) H'
def sp_is_reason (K : PySem.W.Frag) : Sp := fun vs H Q _ => ∃ (a r : Addr) (e s t : Int) (pts : List Pt) (w : Tr), vs = [.ref a, .int e, .ref r, .int s, .int t] ∧ LsR PtR H a pts ∧ PtsOk pts ∧ H r = some (.tup [.int w.1, .int w.2.1, .int w.2.2]) ∧
  RsP e (px pts) (py pts) w s t ∧ 0 ≤ s ∧ t < (pts.length : Int) ∧ Q (.bl true) H
def sp_judge (K : PySem.W.Frag) : Sp := fun vs H Q _ => ∃ (a c : Addr) (e : Int) (pts : List Pt) (pcs : List Pc) (rs : List Tr), vs = [.ref a, .int e, .ref c] ∧ LsR PtR H a pts ∧ PtsOk pts ∧ CutAt (He.ga K "Cutting") PcR TrR H c pcs rs ∧ CutR e (px pts) (py pts) pts.length pcs rs ∧
  ∀ H', Same H H' → Q (.bl true) H'
/-- what the top has made: classes -/
structure TK (K : PySem.W.Frag) : Prop where
  c_Fitter : Cls K (He.ga K "Fitter")
  n_Fitter__bottoms : NoAttr K (He.ga K "Fitter") "_bottoms"
  n_Fitter__flat : NoAttr K (He.ga K "Fitter") "_flat"
  n_Fitter__points : NoAttr K (He.ga K "Fitter") "_points"
  n_Fitter__steep : NoAttr K (He.ga K "Fitter") "_steep"
  n_Fitter__tops : NoAttr K (He.ga K "Fitter") "_tops"
  n_Fitter_count : NoAttr K (He.ga K "Fitter") "count"
  n_Fitter_error : NoAttr K (He.ga K "Fitter") "error"
  c_Cutting : Cls K (He.ga K "Cutting")
  n_Cutting_pieces : NoAttr K (He.ga K "Cutting") "pieces"
  n_Cutting_reasons : NoAttr K (He.ga K "Cutting") "reasons"
  c_Coded : Cls K (He.ga K "Coded")
  n_Coded_corrections : NoAttr K (He.ga K "Coded") "corrections"
  n_Coded_pieces : NoAttr K (He.ga K "Coded") "pieces"
  c_FlatCutting : Cls K (He.ga K "FlatCutting")
  n_FlatCutting_pieces : NoAttr K (He.ga K "FlatCutting") "pieces"
  n_FlatCutting_reasons : NoAttr K (He.ga K "FlatCutting") "reasons"
  c_Level : Cls K (He.ga K "Level")
  n_Level_error : NoAttr K (He.ga K "Level") "error"
  n_Level_marks : NoAttr K (He.ga K "Level") "marks"
  n_Level_pieces : NoAttr K (He.ga K "Level") "pieces"
  c_Index : Cls K (He.ga K "Index")
  n_Index__levels : NoAttr K (He.ga K "Index") "_levels"
  n_Index_stored : NoAttr K (He.ga K "Index") "stored"
  c_SpanCutting : Cls K (He.ga K "SpanCutting")
  n_SpanCutting_pieces : NoAttr K (He.ga K "SpanCutting") "pieces"
  n_SpanCutting_reasons : NoAttr K (He.ga K "SpanCutting") "reasons"
  c_Stream : Cls K (He.ga K "Stream")
  n_Stream__closed : NoAttr K (He.ga K "Stream") "_closed"
  n_Stream__fitter : NoAttr K (He.ga K "Stream") "_fitter"
  n_Stream__start : NoAttr K (He.ga K "Stream") "_start"
  n_Stream_error : NoAttr K (He.ga K "Stream") "error"
  n_Stream_length : NoAttr K (He.ga K "Stream") "length"
/-- .. names, defs -/
structure Tx (K : PySem.W.Frag) (mg : Str → Option Value) : Prop extends TK K where
  b_len : mg "len" = none
  b_abs : mg "abs" = none
  b_max : mg "max" = none
  b_min : mg "min" = none
  b_enumerate : mg "enumerate" = none
  b_range : mg "range" = none
  b_list : mg "list" = none
  b_all : mg "all" = none
  b_int : mg "int" = none
  b_isinstance : mg "isinstance" = none
  b_tuple : mg "tuple" = none
  g_Fitter : mg "Fitter" = some (.ref (He.ga K "Fitter"))
  k_Fitter : Mk K (He.ga K "Fitter") (He.ma K (He.ga K "Fitter") "__init__")
  m_Fitter_conflict : Meth K (He.ga K "Fitter") "conflict" (He.ma K (He.ga K "Fitter") "conflict")
  m_Fitter_add : Meth K (He.ga K "Fitter") "add" (He.ma K (He.ga K "Fitter") "add")
  m_Fitter_add_corners : Meth K (He.ga K "Fitter") "add_corners" (He.ma K (He.ga K "Fitter") "add_corners")
  m_Fitter_lower_steep : Meth K (He.ga K "Fitter") "lower_steep" (He.ma K (He.ga K "Fitter") "lower_steep")
  m_Fitter_raise_flat : Meth K (He.ga K "Fitter") "raise_flat" (He.ma K (He.ga K "Fitter") "raise_flat")
  m_Fitter_line : Meth K (He.ga K "Fitter") "line" (He.ma K (He.ga K "Fitter") "line")
  g_Cutting : mg "Cutting" = some (.ref (He.ga K "Cutting"))
  k_Cutting : Mk K (He.ga K "Cutting") (He.ma K (He.ga K "Cutting") "__init__")
  g_Coded : mg "Coded" = some (.ref (He.ga K "Coded"))
  k_Coded : Mk K (He.ga K "Coded") (He.ma K (He.ga K "Coded") "__init__")
  m_Coded_line_at : Meth K (He.ga K "Coded") "line_at" (He.ma K (He.ga K "Coded") "line_at")
  m_Coded_value_at : Meth K (He.ga K "Coded") "value_at" (He.ma K (He.ga K "Coded") "value_at")
  m_Coded_decoded : Meth K (He.ga K "Coded") "decoded" (He.ma K (He.ga K "Coded") "decoded")
  g_FlatCutting : mg "FlatCutting" = some (.ref (He.ga K "FlatCutting"))
  k_FlatCutting : Mk K (He.ga K "FlatCutting") (He.ma K (He.ga K "FlatCutting") "__init__")
  g_Level : mg "Level" = some (.ref (He.ga K "Level"))
  k_Level : Mk K (He.ga K "Level") (He.ma K (He.ga K "Level") "__init__")
  m_Level_end_of : Meth K (He.ga K "Level") "end_of" (He.ma K (He.ga K "Level") "end_of")
  m_Level_find : Meth K (He.ga K "Level") "find" (He.ma K (He.ga K "Level") "find")
  g_Index : mg "Index" = some (.ref (He.ga K "Index"))
  k_Index : Mk K (He.ga K "Index") (He.ma K (He.ga K "Index") "__init__")
  m_Index_level_keys : Meth K (He.ga K "Index") "level_keys" (He.ma K (He.ga K "Index") "level_keys")
  m_Index_look_up : Meth K (He.ga K "Index") "look_up" (He.ma K (He.ga K "Index") "look_up")
  g_SpanCutting : mg "SpanCutting" = some (.ref (He.ga K "SpanCutting"))
  k_SpanCutting : Mk K (He.ga K "SpanCutting") (He.ma K (He.ga K "SpanCutting") "__init__")
  g_Stream : mg "Stream" = some (.ref (He.ga K "Stream"))
  k_Stream : Mk K (He.ga K "Stream") (He.ma K (He.ga K "Stream") "__init__")
  m_Stream_push : Meth K (He.ga K "Stream") "push" (He.ma K (He.ga K "Stream") "push")
  m_Stream_pieces : Meth K (He.ga K "Stream") "pieces" (He.ma K (He.ga K "Stream") "pieces")
  g_common_divisor : mg "common_divisor" = some (.ref (He.ga K "common_divisor"))
  f_common_divisor : ∃ fd, FunD K "common_divisor" "common_divisor" (defArgs s_common_divisor) (defBody s_common_divisor) (defScope s_common_divisor) [] [] (He.ga K "common_divisor") fd
  g_floor_at : mg "floor_at" = some (.ref (He.ga K "floor_at"))
  f_floor_at : ∃ fd, FunD K "floor_at" "floor_at" (defArgs s_floor_at) (defBody s_floor_at) (defScope s_floor_at) [] [] (He.ga K "floor_at") fd
  g_ceiling_at : mg "ceiling_at" = some (.ref (He.ga K "ceiling_at"))
  f_ceiling_at : ∃ fd, FunD K "ceiling_at" "ceiling_at" (defArgs s_ceiling_at) (defBody s_ceiling_at) (defScope s_ceiling_at) [] [] (He.ga K "ceiling_at") fd
  g_is_near : mg "is_near" = some (.ref (He.ga K "is_near"))
  f_is_near : ∃ fd, FunD K "is_near" "is_near" (defArgs s_is_near) (defBody s_is_near) (defScope s_is_near) [] [] (He.ga K "is_near") fd
  g_line_fits : mg "line_fits" = some (.ref (He.ga K "line_fits"))
  f_line_fits : ∃ fd, FunD K "line_fits" "line_fits" (defArgs s_line_fits) (defBody s_line_fits) (defScope s_line_fits) [] [] (He.ga K "line_fits") fd
  g_three_fit : mg "three_fit" = some (.ref (He.ga K "three_fit"))
  f_three_fit : ∃ fd, FunD K "three_fit" "three_fit" (defArgs s_three_fit) (defBody s_three_fit) (defScope s_three_fit) [] [] (He.ga K "three_fit") fd
  g_fraction : mg "fraction" = some (.ref (He.ga K "fraction"))
  f_fraction : ∃ fd, FunD K "fraction" "fraction" (defArgs s_fraction) (defBody s_fraction) (defScope s_fraction) [] [] (He.ga K "fraction") fd
  g_is_less : mg "is_less" = some (.ref (He.ga K "is_less"))
  f_is_less : ∃ fd, FunD K "is_less" "is_less" (defArgs s_is_less) (defBody s_is_less) (defScope s_is_less) [] [] (He.ga K "is_less") fd
  g_slope_between : mg "slope_between" = some (.ref (He.ga K "slope_between"))
  f_slope_between : ∃ fd, FunD K "slope_between" "slope_between" (defArgs s_slope_between) (defBody s_slope_between) (defScope s_slope_between) [] [] (He.ga K "slope_between") fd
  g_line_with_slope : mg "line_with_slope" = some (.ref (He.ga K "line_with_slope"))
  f_line_with_slope : ∃ fd, FunD K "line_with_slope" "line_with_slope" (defArgs s_line_with_slope) (defBody s_line_with_slope) (defScope s_line_with_slope) [] [] (He.ga K "line_with_slope") fd
  g_turn : mg "turn" = some (.ref (He.ga K "turn"))
  f_turn : ∃ fd, FunD K "turn" "turn" (defArgs s_turn) (defBody s_turn) (defScope s_turn) [] [] (He.ga K "turn") fd
  g_rise_over : mg "rise_over" = some (.ref (He.ga K "rise_over"))
  f_rise_over : ∃ fd, FunD K "rise_over" "rise_over" (defArgs s_rise_over) (defBody s_rise_over) (defScope s_rise_over) [] [] (He.ga K "rise_over") fd
  g_is_below : mg "is_below" = some (.ref (He.ga K "is_below"))
  f_is_below : ∃ fd, FunD K "is_below" "is_below" (defArgs s_is_below) (defBody s_is_below) (defScope s_is_below) [] [] (He.ga K "is_below") fd
  f_Fitter_init : ∃ fd, FunD K "__init__" "Fitter.__init__" (defArgs s_Fitter_init) (defBody s_Fitter_init) (defScope s_Fitter_init) [] [] (He.ma K (He.ga K "Fitter") "__init__") fd
  f_Fitter_conflict : ∃ fd, FunD K "conflict" "Fitter.conflict" (defArgs s_Fitter_conflict) (defBody s_Fitter_conflict) (defScope s_Fitter_conflict) [] [] (He.ma K (He.ga K "Fitter") "conflict") fd
  f_Fitter_add : ∃ fd, FunD K "add" "Fitter.add" (defArgs s_Fitter_add) (defBody s_Fitter_add) (defScope s_Fitter_add) [] [] (He.ma K (He.ga K "Fitter") "add") fd
  f_Fitter_add_corners : ∃ fd, FunD K "add_corners" "Fitter.add_corners" (defArgs s_Fitter_add_corners) (defBody s_Fitter_add_corners) (defScope s_Fitter_add_corners) [] [] (He.ma K (He.ga K "Fitter") "add_corners") fd
  f_Fitter_lower_steep : ∃ fd, FunD K "lower_steep" "Fitter.lower_steep" (defArgs s_Fitter_lower_steep) (defBody s_Fitter_lower_steep) (defScope s_Fitter_lower_steep) [] [] (He.ma K (He.ga K "Fitter") "lower_steep") fd
  f_Fitter_raise_flat : ∃ fd, FunD K "raise_flat" "Fitter.raise_flat" (defArgs s_Fitter_raise_flat) (defBody s_Fitter_raise_flat) (defScope s_Fitter_raise_flat) [] [] (He.ma K (He.ga K "Fitter") "raise_flat") fd
  f_Fitter_line : ∃ fd, FunD K "line" "Fitter.line" (defArgs s_Fitter_line) (defBody s_Fitter_line) (defScope s_Fitter_line) [] [] (He.ma K (He.ga K "Fitter") "line") fd
  f_Cutting_init : ∃ fd, FunD K "__init__" "Cutting.__init__" (defArgs s_Cutting_init) (defBody s_Cutting_init) (defScope s_Cutting_init) [] [] (He.ma K (He.ga K "Cutting") "__init__") fd
  g_cut : mg "cut" = some (.ref (He.ga K "cut"))
  f_cut : ∃ fd, FunD K "cut" "cut" (defArgs s_cut) (defBody s_cut) (defScope s_cut) [] [] (He.ga K "cut") fd
  g_are_starts : mg "are_starts" = some (.ref (He.ga K "are_starts"))
  f_are_starts : ∃ fd, FunD K "are_starts" "are_starts" (defArgs s_are_starts) (defBody s_are_starts) (defScope s_are_starts) [] [] (He.ga K "are_starts") fd
  g_is_reason : mg "is_reason" = some (.ref (He.ga K "is_reason"))
  f_is_reason : ∃ fd, FunD K "is_reason" "is_reason" (defArgs s_is_reason) (defBody s_is_reason) (defScope s_is_reason) [] [] (He.ga K "is_reason") fd
  g_judge : mg "judge" = some (.ref (He.ga K "judge"))
  f_judge : ∃ fd, FunD K "judge" "judge" (defArgs s_judge) (defBody s_judge) (defScope s_judge) [] [] (He.ga K "judge") fd
  f_Coded_init : ∃ fd, FunD K "__init__" "Coded.__init__" (defArgs s_Coded_init) (defBody s_Coded_init) (defScope s_Coded_init) [] [] (He.ma K (He.ga K "Coded") "__init__") fd
  f_Coded_line_at : ∃ fd, FunD K "line_at" "Coded.line_at" (defArgs s_Coded_line_at) (defBody s_Coded_line_at) (defScope s_Coded_line_at) [] [] (He.ma K (He.ga K "Coded") "line_at") fd
  f_Coded_value_at : ∃ fd, FunD K "value_at" "Coded.value_at" (defArgs s_Coded_value_at) (defBody s_Coded_value_at) (defScope s_Coded_value_at) [] [] (He.ma K (He.ga K "Coded") "value_at") fd
  f_Coded_decoded : ∃ fd, FunD K "decoded" "Coded.decoded" (defArgs s_Coded_decoded) (defBody s_Coded_decoded) (defScope s_Coded_decoded) [] [] (He.ma K (He.ga K "Coded") "decoded") fd
  f_FlatCutting_init : ∃ fd, FunD K "__init__" "FlatCutting.__init__" (defArgs s_FlatCutting_init) (defBody s_FlatCutting_init) (defScope s_FlatCutting_init) [] [] (He.ma K (He.ga K "FlatCutting") "__init__") fd
  g_flat_cut : mg "flat_cut" = some (.ref (He.ga K "flat_cut"))
  f_flat_cut : ∃ fd, FunD K "flat_cut" "flat_cut" (defArgs s_flat_cut) (defBody s_flat_cut) (defScope s_flat_cut) [] [] (He.ga K "flat_cut") fd
  g_is_flat : mg "is_flat" = some (.ref (He.ga K "is_flat"))
  f_is_flat : ∃ fd, FunD K "is_flat" "is_flat" (defArgs s_is_flat) (defBody s_is_flat) (defScope s_is_flat) [] [] (He.ga K "is_flat") fd
  g_is_flat_reason : mg "is_flat_reason" = some (.ref (He.ga K "is_flat_reason"))
  f_is_flat_reason : ∃ fd, FunD K "is_flat_reason" "is_flat_reason" (defArgs s_is_flat_reason) (defBody s_is_flat_reason) (defScope s_is_flat_reason) [] [] (He.ga K "is_flat_reason") fd
  g_judge_flat : mg "judge_flat" = some (.ref (He.ga K "judge_flat"))
  f_judge_flat : ∃ fd, FunD K "judge_flat" "judge_flat" (defArgs s_judge_flat) (defBody s_judge_flat) (defScope s_judge_flat) [] [] (He.ga K "judge_flat") fd
  f_Level_init : ∃ fd, FunD K "__init__" "Level.__init__" (defArgs s_Level_init) (defBody s_Level_init) (defScope s_Level_init) [] [] (He.ma K (He.ga K "Level") "__init__") fd
  f_Level_end_of : ∃ fd, FunD K "end_of" "Level.end_of" (defArgs s_Level_end_of) (defBody s_Level_end_of) (defScope s_Level_end_of) [] [] (He.ma K (He.ga K "Level") "end_of") fd
  f_Level_find : ∃ fd, FunD K "find" "Level.find" (defArgs s_Level_find) (defBody s_Level_find) (defScope s_Level_find) [] [] (He.ma K (He.ga K "Level") "find") fd
  f_Index_init : ∃ fd, FunD K "__init__" "Index.__init__" (defArgs s_Index_init) (defBody s_Index_init) (defScope s_Index_init) [] [] (He.ma K (He.ga K "Index") "__init__") fd
  f_Index_level_keys : ∃ fd, FunD K "level_keys" "Index.level_keys" (defArgs s_Index_level_keys) (defBody s_Index_level_keys) (defScope s_Index_level_keys) [] [] (He.ma K (He.ga K "Index") "level_keys") fd
  f_Index_look_up : ∃ fd, FunD K "look_up" "Index.look_up" (defArgs s_Index_look_up) (defBody s_Index_look_up) (defScope s_Index_look_up) [] [] (He.ma K (He.ga K "Index") "look_up") fd
  f_SpanCutting_init : ∃ fd, FunD K "__init__" "SpanCutting.__init__" (defArgs s_SpanCutting_init) (defBody s_SpanCutting_init) (defScope s_SpanCutting_init) [] [] (He.ma K (He.ga K "SpanCutting") "__init__") fd
  g_three_meet : mg "three_meet" = some (.ref (He.ga K "three_meet"))
  f_three_meet : ∃ fd, FunD K "three_meet" "three_meet" (defArgs s_three_meet) (defBody s_three_meet) (defScope s_three_meet) [] [] (He.ga K "three_meet") fd
  g_meets : mg "meets" = some (.ref (He.ga K "meets"))
  f_meets : ∃ fd, FunD K "meets" "meets" (defArgs s_meets) (defBody s_meets) (defScope s_meets) [] [] (He.ga K "meets") fd
  g_bounds_with : mg "bounds_with" = some (.ref (He.ga K "bounds_with"))
  f_bounds_with : ∃ fd, FunD K "bounds_with" "bounds_with" (defArgs s_bounds_with) (defBody s_bounds_with) (defScope s_bounds_with) [] [] (He.ga K "bounds_with") fd
  g_line_through : mg "line_through" = some (.ref (He.ga K "line_through"))
  f_line_through : ∃ fd, FunD K "line_through" "line_through" (defArgs s_line_through) (defBody s_line_through) (defScope s_line_through) [] [] (He.ga K "line_through") fd
  g_reason_with : mg "reason_with" = some (.ref (He.ga K "reason_with"))
  f_reason_with : ∃ fd, FunD K "reason_with" "reason_with" (defArgs s_reason_with) (defBody s_reason_with) (defScope s_reason_with) [] [] (He.ga K "reason_with") fd
  g_span_cut : mg "span_cut" = some (.ref (He.ga K "span_cut"))
  f_span_cut : ∃ fd, FunD K "span_cut" "span_cut" (defArgs s_span_cut) (defBody s_span_cut) (defScope s_span_cut) [] [] (He.ga K "span_cut") fd
  g_is_span_piece : mg "is_span_piece" = some (.ref (He.ga K "is_span_piece"))
  f_is_span_piece : ∃ fd, FunD K "is_span_piece" "is_span_piece" (defArgs s_is_span_piece) (defBody s_is_span_piece) (defScope s_is_span_piece) [] [] (He.ga K "is_span_piece") fd
  g_is_span_reason : mg "is_span_reason" = some (.ref (He.ga K "is_span_reason"))
  f_is_span_reason : ∃ fd, FunD K "is_span_reason" "is_span_reason" (defArgs s_is_span_reason) (defBody s_is_span_reason) (defScope s_is_span_reason) [] [] (He.ga K "is_span_reason") fd
  g_judge_spans : mg "judge_spans" = some (.ref (He.ga K "judge_spans"))
  f_judge_spans : ∃ fd, FunD K "judge_spans" "judge_spans" (defArgs s_judge_spans) (defBody s_judge_spans) (defScope s_judge_spans) [] [] (He.ga K "judge_spans") fd
  f_Stream_init : ∃ fd, FunD K "__init__" "Stream.__init__" (defArgs s_Stream_init) (defBody s_Stream_init) (defScope s_Stream_init) [] [] (He.ma K (He.ga K "Stream") "__init__") fd
  f_Stream_push : ∃ fd, FunD K "push" "Stream.push" (defArgs s_Stream_push) (defBody s_Stream_push) (defScope s_Stream_push) [] [] (He.ma K (He.ga K "Stream") "push") fd
  f_Stream_pieces : ∃ fd, FunD K "pieces" "Stream.pieces" (defArgs s_Stream_pieces) (defBody s_Stream_pieces) (defScope s_Stream_pieces) [] [] (He.ma K (He.ga K "Stream") "pieces") fd
  g_law_cell : mg "_law_cell" = some (.ref (He.ga K "_law_cell"))
  f_law_cell : ∃ fd, FunD K "_law_cell" "_law_cell" (defArgs s_law_cell) (defBody s_law_cell) (defScope s_law_cell) [] [] (He.ga K "_law_cell") fd
  g_law_digits : mg "_law_digits" = some (.ref (He.ga K "_law_digits"))
  f_law_digits : ∃ fd, FunD K "_law_digits" "_law_digits" (defArgs s_law_digits) (defBody s_law_digits) (defScope s_law_digits) [] [] (He.ga K "_law_digits") fd
  g_law_three : mg "_law_three" = some (.ref (He.ga K "_law_three"))
  f_law_three : ∃ fd, FunD K "_law_three" "_law_three" (defArgs s_law_three) (defBody s_law_three) (defScope s_law_three) [] [] (He.ga K "_law_three") fd
  g_law_near : mg "_law_near" = some (.ref (He.ga K "_law_near"))
  f_law_near : ∃ fd, FunD K "_law_near" "_law_near" (defArgs s_law_near) (defBody s_law_near) (defScope s_law_near) [] [] (He.ga K "_law_near") fd
  g_law_judged : mg "_law_judged" = some (.ref (He.ga K "_law_judged"))
  f_law_judged : ∃ fd, FunD K "_law_judged" "_law_judged" (defArgs s_law_judged) (defBody s_law_judged) (defScope s_law_judged) [] [] (He.ga K "_law_judged") fd
  g_law_digits_of : mg "_law_digits_of" = some (.ref (He.ga K "_law_digits_of"))
  f_law_digits_of : ∃ fd, FunD K "_law_digits_of" "_law_digits_of" (defArgs s_law_digits_of) (defBody s_law_digits_of) (defScope s_law_digits_of) [] [] (He.ga K "_law_digits_of") fd
  g_law_looks_right : mg "_law_looks_right" = some (.ref (He.ga K "_law_looks_right"))
  f_law_looks_right : ∃ fd, FunD K "_law_looks_right" "_law_looks_right" (defArgs s_law_looks_right) (defBody s_law_looks_right) (defScope s_law_looks_right) [] [] (He.ga K "_law_looks_right") fd
  g_law_curve : mg "_law_curve" = some (.ref (He.ga K "_law_curve"))
  f_law_curve : ∃ fd, FunD K "_law_curve" "_law_curve" (defArgs s_law_curve) (defBody s_law_curve) (defScope s_law_curve) [] [] (He.ga K "_law_curve") fd
  g_law_flat_starts : mg "_law_flat_starts" = some (.ref (He.ga K "_law_flat_starts"))
  f_law_flat_starts : ∃ fd, FunD K "_law_flat_starts" "_law_flat_starts" (defArgs s_law_flat_starts) (defBody s_law_flat_starts) (defScope s_law_flat_starts) [] [] (He.ga K "_law_flat_starts") fd
  g_law : mg "law" = some (.ref (He.ga K "law"))
  f_law : ∃ fd, FunD K "law" "law" (defArgs s_law) (defBody s_law) (defScope s_law) [] [] (He.ga K "law") fd
section
variable {K : PySem.W.Frag} {H : Hp} {Q : VK} {p dx : Addr} {fs : List (Str × V)} {v : V}
theorem fx_Fitter__bottoms (T : TK K) (h : H p = some (.ins (He.ga K "Fitter") dx fs)) (l : fs.lookup ("_bottoms" : Str) = some v) (q : Q v H) : FldK K "_bottoms" Q (.ref p) H := fldK h T.c_Fitter T.n_Fitter__bottoms l q
theorem sx_Fitter__bottoms {y : V} {R : Hp → Prop} (T : TK K) (h : H p = some (.ins (He.ga K "Fitter") dx fs)) (hl : fs.length < 1000) (q : R (upd H p (.ins (He.ga K "Fitter") dx (putF "_bottoms" y fs)))) : SFldK K "_bottoms" y R (.ref p) H := s_fldK h T.c_Fitter T.n_Fitter__bottoms hl q
theorem fx_Fitter__flat (T : TK K) (h : H p = some (.ins (He.ga K "Fitter") dx fs)) (l : fs.lookup ("_flat" : Str) = some v) (q : Q v H) : FldK K "_flat" Q (.ref p) H := fldK h T.c_Fitter T.n_Fitter__flat l q
theorem sx_Fitter__flat {y : V} {R : Hp → Prop} (T : TK K) (h : H p = some (.ins (He.ga K "Fitter") dx fs)) (hl : fs.length < 1000) (q : R (upd H p (.ins (He.ga K "Fitter") dx (putF "_flat" y fs)))) : SFldK K "_flat" y R (.ref p) H := s_fldK h T.c_Fitter T.n_Fitter__flat hl q
theorem fx_Fitter__points (T : TK K) (h : H p = some (.ins (He.ga K "Fitter") dx fs)) (l : fs.lookup ("_points" : Str) = some v) (q : Q v H) : FldK K "_points" Q (.ref p) H := fldK h T.c_Fitter T.n_Fitter__points l q
theorem sx_Fitter__points {y : V} {R : Hp → Prop} (T : TK K) (h : H p = some (.ins (He.ga K "Fitter") dx fs)) (hl : fs.length < 1000) (q : R (upd H p (.ins (He.ga K "Fitter") dx (putF "_points" y fs)))) : SFldK K "_points" y R (.ref p) H := s_fldK h T.c_Fitter T.n_Fitter__points hl q
theorem fx_Fitter__steep (T : TK K) (h : H p = some (.ins (He.ga K "Fitter") dx fs)) (l : fs.lookup ("_steep" : Str) = some v) (q : Q v H) : FldK K "_steep" Q (.ref p) H := fldK h T.c_Fitter T.n_Fitter__steep l q
theorem sx_Fitter__steep {y : V} {R : Hp → Prop} (T : TK K) (h : H p = some (.ins (He.ga K "Fitter") dx fs)) (hl : fs.length < 1000) (q : R (upd H p (.ins (He.ga K "Fitter") dx (putF "_steep" y fs)))) : SFldK K "_steep" y R (.ref p) H := s_fldK h T.c_Fitter T.n_Fitter__steep hl q
theorem fx_Fitter__tops (T : TK K) (h : H p = some (.ins (He.ga K "Fitter") dx fs)) (l : fs.lookup ("_tops" : Str) = some v) (q : Q v H) : FldK K "_tops" Q (.ref p) H := fldK h T.c_Fitter T.n_Fitter__tops l q
theorem sx_Fitter__tops {y : V} {R : Hp → Prop} (T : TK K) (h : H p = some (.ins (He.ga K "Fitter") dx fs)) (hl : fs.length < 1000) (q : R (upd H p (.ins (He.ga K "Fitter") dx (putF "_tops" y fs)))) : SFldK K "_tops" y R (.ref p) H := s_fldK h T.c_Fitter T.n_Fitter__tops hl q
theorem fx_Fitter_count (T : TK K) (h : H p = some (.ins (He.ga K "Fitter") dx fs)) (l : fs.lookup ("count" : Str) = some v) (q : Q v H) : FldK K "count" Q (.ref p) H := fldK h T.c_Fitter T.n_Fitter_count l q
theorem sx_Fitter_count {y : V} {R : Hp → Prop} (T : TK K) (h : H p = some (.ins (He.ga K "Fitter") dx fs)) (hl : fs.length < 1000) (q : R (upd H p (.ins (He.ga K "Fitter") dx (putF "count" y fs)))) : SFldK K "count" y R (.ref p) H := s_fldK h T.c_Fitter T.n_Fitter_count hl q
theorem fx_Fitter_error (T : TK K) (h : H p = some (.ins (He.ga K "Fitter") dx fs)) (l : fs.lookup ("error" : Str) = some v) (q : Q v H) : FldK K "error" Q (.ref p) H := fldK h T.c_Fitter T.n_Fitter_error l q
theorem sx_Fitter_error {y : V} {R : Hp → Prop} (T : TK K) (h : H p = some (.ins (He.ga K "Fitter") dx fs)) (hl : fs.length < 1000) (q : R (upd H p (.ins (He.ga K "Fitter") dx (putF "error" y fs)))) : SFldK K "error" y R (.ref p) H := s_fldK h T.c_Fitter T.n_Fitter_error hl q
theorem fx_Cutting_pieces (T : TK K) (h : H p = some (.ins (He.ga K "Cutting") dx fs)) (l : fs.lookup ("pieces" : Str) = some v) (q : Q v H) : FldK K "pieces" Q (.ref p) H := fldK h T.c_Cutting T.n_Cutting_pieces l q
theorem sx_Cutting_pieces {y : V} {R : Hp → Prop} (T : TK K) (h : H p = some (.ins (He.ga K "Cutting") dx fs)) (hl : fs.length < 1000) (q : R (upd H p (.ins (He.ga K "Cutting") dx (putF "pieces" y fs)))) : SFldK K "pieces" y R (.ref p) H := s_fldK h T.c_Cutting T.n_Cutting_pieces hl q
theorem fx_Cutting_reasons (T : TK K) (h : H p = some (.ins (He.ga K "Cutting") dx fs)) (l : fs.lookup ("reasons" : Str) = some v) (q : Q v H) : FldK K "reasons" Q (.ref p) H := fldK h T.c_Cutting T.n_Cutting_reasons l q
theorem sx_Cutting_reasons {y : V} {R : Hp → Prop} (T : TK K) (h : H p = some (.ins (He.ga K "Cutting") dx fs)) (hl : fs.length < 1000) (q : R (upd H p (.ins (He.ga K "Cutting") dx (putF "reasons" y fs)))) : SFldK K "reasons" y R (.ref p) H := s_fldK h T.c_Cutting T.n_Cutting_reasons hl q
theorem fx_Coded_corrections (T : TK K) (h : H p = some (.ins (He.ga K "Coded") dx fs)) (l : fs.lookup ("corrections" : Str) = some v) (q : Q v H) : FldK K "corrections" Q (.ref p) H := fldK h T.c_Coded T.n_Coded_corrections l q
theorem sx_Coded_corrections {y : V} {R : Hp → Prop} (T : TK K) (h : H p = some (.ins (He.ga K "Coded") dx fs)) (hl : fs.length < 1000) (q : R (upd H p (.ins (He.ga K "Coded") dx (putF "corrections" y fs)))) : SFldK K "corrections" y R (.ref p) H := s_fldK h T.c_Coded T.n_Coded_corrections hl q
theorem fx_Coded_pieces (T : TK K) (h : H p = some (.ins (He.ga K "Coded") dx fs)) (l : fs.lookup ("pieces" : Str) = some v) (q : Q v H) : FldK K "pieces" Q (.ref p) H := fldK h T.c_Coded T.n_Coded_pieces l q
theorem sx_Coded_pieces {y : V} {R : Hp → Prop} (T : TK K) (h : H p = some (.ins (He.ga K "Coded") dx fs)) (hl : fs.length < 1000) (q : R (upd H p (.ins (He.ga K "Coded") dx (putF "pieces" y fs)))) : SFldK K "pieces" y R (.ref p) H := s_fldK h T.c_Coded T.n_Coded_pieces hl q
theorem fx_FlatCutting_pieces (T : TK K) (h : H p = some (.ins (He.ga K "FlatCutting") dx fs)) (l : fs.lookup ("pieces" : Str) = some v) (q : Q v H) : FldK K "pieces" Q (.ref p) H := fldK h T.c_FlatCutting T.n_FlatCutting_pieces l q
theorem sx_FlatCutting_pieces {y : V} {R : Hp → Prop} (T : TK K) (h : H p = some (.ins (He.ga K "FlatCutting") dx fs)) (hl : fs.length < 1000) (q : R (upd H p (.ins (He.ga K "FlatCutting") dx (putF "pieces" y fs)))) : SFldK K "pieces" y R (.ref p) H := s_fldK h T.c_FlatCutting T.n_FlatCutting_pieces hl q
theorem fx_FlatCutting_reasons (T : TK K) (h : H p = some (.ins (He.ga K "FlatCutting") dx fs)) (l : fs.lookup ("reasons" : Str) = some v) (q : Q v H) : FldK K "reasons" Q (.ref p) H := fldK h T.c_FlatCutting T.n_FlatCutting_reasons l q
theorem sx_FlatCutting_reasons {y : V} {R : Hp → Prop} (T : TK K) (h : H p = some (.ins (He.ga K "FlatCutting") dx fs)) (hl : fs.length < 1000) (q : R (upd H p (.ins (He.ga K "FlatCutting") dx (putF "reasons" y fs)))) : SFldK K "reasons" y R (.ref p) H := s_fldK h T.c_FlatCutting T.n_FlatCutting_reasons hl q
theorem fx_Level_error (T : TK K) (h : H p = some (.ins (He.ga K "Level") dx fs)) (l : fs.lookup ("error" : Str) = some v) (q : Q v H) : FldK K "error" Q (.ref p) H := fldK h T.c_Level T.n_Level_error l q
theorem sx_Level_error {y : V} {R : Hp → Prop} (T : TK K) (h : H p = some (.ins (He.ga K "Level") dx fs)) (hl : fs.length < 1000) (q : R (upd H p (.ins (He.ga K "Level") dx (putF "error" y fs)))) : SFldK K "error" y R (.ref p) H := s_fldK h T.c_Level T.n_Level_error hl q
theorem fx_Level_marks (T : TK K) (h : H p = some (.ins (He.ga K "Level") dx fs)) (l : fs.lookup ("marks" : Str) = some v) (q : Q v H) : FldK K "marks" Q (.ref p) H := fldK h T.c_Level T.n_Level_marks l q
theorem sx_Level_marks {y : V} {R : Hp → Prop} (T : TK K) (h : H p = some (.ins (He.ga K "Level") dx fs)) (hl : fs.length < 1000) (q : R (upd H p (.ins (He.ga K "Level") dx (putF "marks" y fs)))) : SFldK K "marks" y R (.ref p) H := s_fldK h T.c_Level T.n_Level_marks hl q
theorem fx_Level_pieces (T : TK K) (h : H p = some (.ins (He.ga K "Level") dx fs)) (l : fs.lookup ("pieces" : Str) = some v) (q : Q v H) : FldK K "pieces" Q (.ref p) H := fldK h T.c_Level T.n_Level_pieces l q
theorem sx_Level_pieces {y : V} {R : Hp → Prop} (T : TK K) (h : H p = some (.ins (He.ga K "Level") dx fs)) (hl : fs.length < 1000) (q : R (upd H p (.ins (He.ga K "Level") dx (putF "pieces" y fs)))) : SFldK K "pieces" y R (.ref p) H := s_fldK h T.c_Level T.n_Level_pieces hl q
theorem fx_Index__levels (T : TK K) (h : H p = some (.ins (He.ga K "Index") dx fs)) (l : fs.lookup ("_levels" : Str) = some v) (q : Q v H) : FldK K "_levels" Q (.ref p) H := fldK h T.c_Index T.n_Index__levels l q
theorem sx_Index__levels {y : V} {R : Hp → Prop} (T : TK K) (h : H p = some (.ins (He.ga K "Index") dx fs)) (hl : fs.length < 1000) (q : R (upd H p (.ins (He.ga K "Index") dx (putF "_levels" y fs)))) : SFldK K "_levels" y R (.ref p) H := s_fldK h T.c_Index T.n_Index__levels hl q
theorem fx_Index_stored (T : TK K) (h : H p = some (.ins (He.ga K "Index") dx fs)) (l : fs.lookup ("stored" : Str) = some v) (q : Q v H) : FldK K "stored" Q (.ref p) H := fldK h T.c_Index T.n_Index_stored l q
theorem sx_Index_stored {y : V} {R : Hp → Prop} (T : TK K) (h : H p = some (.ins (He.ga K "Index") dx fs)) (hl : fs.length < 1000) (q : R (upd H p (.ins (He.ga K "Index") dx (putF "stored" y fs)))) : SFldK K "stored" y R (.ref p) H := s_fldK h T.c_Index T.n_Index_stored hl q
theorem fx_SpanCutting_pieces (T : TK K) (h : H p = some (.ins (He.ga K "SpanCutting") dx fs)) (l : fs.lookup ("pieces" : Str) = some v) (q : Q v H) : FldK K "pieces" Q (.ref p) H := fldK h T.c_SpanCutting T.n_SpanCutting_pieces l q
theorem sx_SpanCutting_pieces {y : V} {R : Hp → Prop} (T : TK K) (h : H p = some (.ins (He.ga K "SpanCutting") dx fs)) (hl : fs.length < 1000) (q : R (upd H p (.ins (He.ga K "SpanCutting") dx (putF "pieces" y fs)))) : SFldK K "pieces" y R (.ref p) H := s_fldK h T.c_SpanCutting T.n_SpanCutting_pieces hl q
theorem fx_SpanCutting_reasons (T : TK K) (h : H p = some (.ins (He.ga K "SpanCutting") dx fs)) (l : fs.lookup ("reasons" : Str) = some v) (q : Q v H) : FldK K "reasons" Q (.ref p) H := fldK h T.c_SpanCutting T.n_SpanCutting_reasons l q
theorem sx_SpanCutting_reasons {y : V} {R : Hp → Prop} (T : TK K) (h : H p = some (.ins (He.ga K "SpanCutting") dx fs)) (hl : fs.length < 1000) (q : R (upd H p (.ins (He.ga K "SpanCutting") dx (putF "reasons" y fs)))) : SFldK K "reasons" y R (.ref p) H := s_fldK h T.c_SpanCutting T.n_SpanCutting_reasons hl q
theorem fx_Stream__closed (T : TK K) (h : H p = some (.ins (He.ga K "Stream") dx fs)) (l : fs.lookup ("_closed" : Str) = some v) (q : Q v H) : FldK K "_closed" Q (.ref p) H := fldK h T.c_Stream T.n_Stream__closed l q
theorem sx_Stream__closed {y : V} {R : Hp → Prop} (T : TK K) (h : H p = some (.ins (He.ga K "Stream") dx fs)) (hl : fs.length < 1000) (q : R (upd H p (.ins (He.ga K "Stream") dx (putF "_closed" y fs)))) : SFldK K "_closed" y R (.ref p) H := s_fldK h T.c_Stream T.n_Stream__closed hl q
theorem fx_Stream__fitter (T : TK K) (h : H p = some (.ins (He.ga K "Stream") dx fs)) (l : fs.lookup ("_fitter" : Str) = some v) (q : Q v H) : FldK K "_fitter" Q (.ref p) H := fldK h T.c_Stream T.n_Stream__fitter l q
theorem sx_Stream__fitter {y : V} {R : Hp → Prop} (T : TK K) (h : H p = some (.ins (He.ga K "Stream") dx fs)) (hl : fs.length < 1000) (q : R (upd H p (.ins (He.ga K "Stream") dx (putF "_fitter" y fs)))) : SFldK K "_fitter" y R (.ref p) H := s_fldK h T.c_Stream T.n_Stream__fitter hl q
theorem fx_Stream__start (T : TK K) (h : H p = some (.ins (He.ga K "Stream") dx fs)) (l : fs.lookup ("_start" : Str) = some v) (q : Q v H) : FldK K "_start" Q (.ref p) H := fldK h T.c_Stream T.n_Stream__start l q
theorem sx_Stream__start {y : V} {R : Hp → Prop} (T : TK K) (h : H p = some (.ins (He.ga K "Stream") dx fs)) (hl : fs.length < 1000) (q : R (upd H p (.ins (He.ga K "Stream") dx (putF "_start" y fs)))) : SFldK K "_start" y R (.ref p) H := s_fldK h T.c_Stream T.n_Stream__start hl q
theorem fx_Stream_error (T : TK K) (h : H p = some (.ins (He.ga K "Stream") dx fs)) (l : fs.lookup ("error" : Str) = some v) (q : Q v H) : FldK K "error" Q (.ref p) H := fldK h T.c_Stream T.n_Stream_error l q
theorem sx_Stream_error {y : V} {R : Hp → Prop} (T : TK K) (h : H p = some (.ins (He.ga K "Stream") dx fs)) (hl : fs.length < 1000) (q : R (upd H p (.ins (He.ga K "Stream") dx (putF "error" y fs)))) : SFldK K "error" y R (.ref p) H := s_fldK h T.c_Stream T.n_Stream_error hl q
theorem fx_Stream_length (T : TK K) (h : H p = some (.ins (He.ga K "Stream") dx fs)) (l : fs.lookup ("length" : Str) = some v) (q : Q v H) : FldK K "length" Q (.ref p) H := fldK h T.c_Stream T.n_Stream_length l q
theorem sx_Stream_length {y : V} {R : Hp → Prop} (T : TK K) (h : H p = some (.ins (He.ga K "Stream") dx fs)) (hl : fs.length < 1000) (q : R (upd H p (.ins (He.ga K "Stream") dx (putF "length" y fs)))) : SFldK K "length" y R (.ref p) H := s_fldK h T.c_Stream T.n_Stream_length hl q
end
section
variable {P : Program} {w : World} {K : PySem.W.Frag} {mg : Str → Option Value} {base : Heap}
/-! common_divisor -/
def N_common_divisor : List Str := ["one", "other", "first", "second"]
theorem sc_common_divisor : FnScope N_common_divisor ["one", "other"] (defScope s_common_divisor) := ⟨rfl, rfl, rfl, by decide +kernel, rfl, by decide +kernel, by decide +kernel⟩
def t_common_divisor (K : PySem.W.Frag) : TS :=
    (tSeq (tAsg (tCB cAbs (tCons (tVar 0) tNil)) (gName 2))
    (tSeq (tAsg (tCB cAbs (tCons (tVar 1) tNil)) (gName 3))
    (tSeq (tWhile (tTruth K (tVar 3)) (tPar 2 3 (tCons (tVar 3) (tCons (tOp oMod (tVar 2) (tVar 3)) tNil))))
    (tRet (tVar 2)))))
theorem der_common_divisor (T : Tx K mg)  {f : Addr} {cdv : Value} {A : Around} {outer : List Env} {s : Shared} {H : Hp} {E : XK} (hr : Room 0 (A.deeper (envOfC "common_divisor" (defScope s_common_divisor) s.heap.objs.size f cdv))) : PSs (cxOf CX0 P w K mg base N_common_divisor "common_divisor" (defScope s_common_divisor) f cdv A outer s H E).nox (defBody s_common_divisor) (t_common_divisor K) := by
  have sc := sc_common_divisor
  exact (pss_cons (ps_set (i := 2) sc.nd rfl (by first | exact Or.inl rfl | exact Or.inr rfl) (pe_callB call_abs' (by rfl) T.b_abs (by decide +kernel) (pa_cons (pv 0) pa_nil)))
    (pss_cons (ps_set (i := 3) sc.nd rfl (by first | exact Or.inl rfl | exact Or.inr rfl) (pe_callB call_abs' (by rfl) T.b_abs (by decide +kernel) (pa_cons (pv 1) pa_nil)))
    (pss_cons (ps_while PassesOwn.never (pt_tru (pv 3) (by intro _; rfl)) (pss_one (ps_par rfl sc.nd rfl rfl (by decide) rfl rfl (pa_cons (pv 3) (pa_cons (pe_op opMod (pv 2) (pv 3)) pa_nil)) (by rfl))))
    (pss_one (ps_ret (pv 2))))))
theorem gd_common_divisor (T : Tx K mg)  (len : ∀ vs H Q E, sp_common_divisor K vs H Q E → vs.length = 2) (rd : ∀ vs H Q E, sp_common_divisor K vs H Q E → t_common_divisor K ⟨fun _ H' => Q .non H', Q, fun _ _ => False, fun _ _ => False⟩ (start N_common_divisor vs) H) : Gd P w K mg base "common_divisor" 1 ["one", "other"] (sp_common_divisor K) := by
  obtain ⟨fd, F⟩ := T.f_common_divisor
  exact ⟨_, fd, F.ok sc_common_divisor len (fun cdv A outer s H vs Q E hr h => ⟨t_common_divisor K, PSs.nox (der_common_divisor T  hr), rd vs H Q E h⟩), T.g_common_divisor, F.kp, F.bindsN (fun _ _ _ _ _ _ us hl => match us, hl with | [_, _], _ => rfl)⟩
/-! floor_at -/
def N_floor_at : List Str := ["line", "place", "p", "q", "d"]
theorem sc_floor_at : FnScope N_floor_at ["line", "place"] (defScope s_floor_at) := ⟨rfl, rfl, rfl, by decide +kernel, rfl, by decide +kernel, by decide +kernel⟩
def t_floor_at (K : PySem.W.Frag) : TS :=
    (tSeq (tAsg (tVar 0) (gTup K 3 (gCons (gName 2) (gCons (gName 3) (gCons (gName 4) gNil)))))
    (tRet (tOp oFdiv (tOp oAdd (tOp oMul (tVar 2) (tVar 1)) (tVar 3)) (tVar 4))))
theorem der_floor_at (T : Tx K mg)  {f : Addr} {cdv : Value} {A : Around} {outer : List Env} {s : Shared} {H : Hp} {E : XK} (hr : Room 0 (A.deeper (envOfC "floor_at" (defScope s_floor_at) s.heap.objs.size f cdv))) : PSs (cxOf CX0 P w K mg base N_floor_at "floor_at" (defScope s_floor_at) f cdv A outer s H E).nox (defBody s_floor_at) (t_floor_at K) := by
  have sc := sc_floor_at
  exact (pss_cons (ps_asg (pv 0) (pg_tup rfl (pgs_cons (pg_name (i := 2) sc.nd rfl (by first | exact Or.inl rfl | exact Or.inr rfl)) (pgs_cons (pg_name (i := 3) sc.nd rfl (by first | exact Or.inl rfl | exact Or.inr rfl)) (pgs_cons (pg_name (i := 4) sc.nd rfl (by first | exact Or.inl rfl | exact Or.inr rfl)) pgs_nil)))))
    (pss_one (ps_ret (pe_op opFdiv (pe_op opAdd (pe_op opMul (pv 2) (pv 1)) (pv 3)) (pv 4)))))
theorem gd_floor_at (T : Tx K mg)  (len : ∀ vs H Q E, sp_floor_at K vs H Q E → vs.length = 2) (rd : ∀ vs H Q E, sp_floor_at K vs H Q E → t_floor_at K ⟨fun _ H' => Q .non H', Q, fun _ _ => False, fun _ _ => False⟩ (start N_floor_at vs) H) : Gd P w K mg base "floor_at" 1 ["line", "place"] (sp_floor_at K) := by
  obtain ⟨fd, F⟩ := T.f_floor_at
  exact ⟨_, fd, F.ok sc_floor_at len (fun cdv A outer s H vs Q E hr h => ⟨t_floor_at K, PSs.nox (der_floor_at T  hr), rd vs H Q E h⟩), T.g_floor_at, F.kp, F.bindsN (fun _ _ _ _ _ _ us hl => match us, hl with | [_, _], _ => rfl)⟩
/-! ceiling_at -/
def N_ceiling_at : List Str := ["line", "place", "p", "q", "d"]
theorem sc_ceiling_at : FnScope N_ceiling_at ["line", "place"] (defScope s_ceiling_at) := ⟨rfl, rfl, rfl, by decide +kernel, rfl, by decide +kernel, by decide +kernel⟩
def t_ceiling_at (K : PySem.W.Frag) : TS :=
    (tSeq (tAsg (tVar 0) (gTup K 3 (gCons (gName 2) (gCons (gName 3) (gCons (gName 4) gNil)))))
    (tRet (tUn oNeg (tOp oFdiv (tUn oNeg (tOp oAdd (tOp oMul (tVar 2) (tVar 1)) (tVar 3))) (tVar 4)))))
theorem der_ceiling_at (T : Tx K mg)  {f : Addr} {cdv : Value} {A : Around} {outer : List Env} {s : Shared} {H : Hp} {E : XK} (hr : Room 0 (A.deeper (envOfC "ceiling_at" (defScope s_ceiling_at) s.heap.objs.size f cdv))) : PSs (cxOf CX0 P w K mg base N_ceiling_at "ceiling_at" (defScope s_ceiling_at) f cdv A outer s H E).nox (defBody s_ceiling_at) (t_ceiling_at K) := by
  have sc := sc_ceiling_at
  exact (pss_cons (ps_asg (pv 0) (pg_tup rfl (pgs_cons (pg_name (i := 2) sc.nd rfl (by first | exact Or.inl rfl | exact Or.inr rfl)) (pgs_cons (pg_name (i := 3) sc.nd rfl (by first | exact Or.inl rfl | exact Or.inr rfl)) (pgs_cons (pg_name (i := 4) sc.nd rfl (by first | exact Or.inl rfl | exact Or.inr rfl)) pgs_nil)))))
    (pss_one (ps_ret (pe_un opNeg (pe_op opFdiv (pe_un opNeg (pe_op opAdd (pe_op opMul (pv 2) (pv 1)) (pv 3))) (pv 4))))))
theorem gd_ceiling_at (T : Tx K mg)  (len : ∀ vs H Q E, sp_ceiling_at K vs H Q E → vs.length = 2) (rd : ∀ vs H Q E, sp_ceiling_at K vs H Q E → t_ceiling_at K ⟨fun _ H' => Q .non H', Q, fun _ _ => False, fun _ _ => False⟩ (start N_ceiling_at vs) H) : Gd P w K mg base "ceiling_at" 1 ["line", "place"] (sp_ceiling_at K) := by
  obtain ⟨fd, F⟩ := T.f_ceiling_at
  exact ⟨_, fd, F.ok sc_ceiling_at len (fun cdv A outer s H vs Q E hr h => ⟨t_ceiling_at K, PSs.nox (der_ceiling_at T  hr), rd vs H Q E h⟩), T.g_ceiling_at, F.kp, F.bindsN (fun _ _ _ _ _ _ us hl => match us, hl with | [_, _], _ => rfl)⟩
/-! is_near -/
def N_is_near : List Str := ["line", "point", "error", "p", "q", "d"]
theorem sc_is_near : FnScope N_is_near ["line", "point", "error"] (defScope s_is_near) := ⟨rfl, rfl, rfl, by decide +kernel, rfl, by decide +kernel, by decide +kernel⟩
def t_is_near (K : PySem.W.Frag) : TS :=
    (tSeq (tAsg (tVar 0) (gTup K 3 (gCons (gName 3) (gCons (gName 4) (gCons (gName 5) gNil)))))
    (tRet (tOp oLe (tCB cAbs (tCons (tOp oSub (tOp oAdd (tOp oMul (tVar 3) (tOp (rIxT K) (tVar 1) (tC (.int 0)))) (tVar 4)) (tOp oMul (tOp (rIxT K) (tVar 1) (tC (.int 1))) (tVar 5))) tNil)) (tOp oMul (tVar 2) (tVar 5)))))
theorem der_is_near (T : Tx K mg)  {f : Addr} {cdv : Value} {A : Around} {outer : List Env} {s : Shared} {H : Hp} {E : XK} (hr : Room 0 (A.deeper (envOfC "is_near" (defScope s_is_near) s.heap.objs.size f cdv))) : PSs (cxOf CX0 P w K mg base N_is_near "is_near" (defScope s_is_near) f cdv A outer s H E).nox (defBody s_is_near) (t_is_near K) := by
  have sc := sc_is_near
  exact (pss_cons (ps_asg (pv 0) (pg_tup rfl (pgs_cons (pg_name (i := 3) sc.nd rfl (by first | exact Or.inl rfl | exact Or.inr rfl)) (pgs_cons (pg_name (i := 4) sc.nd rfl (by first | exact Or.inl rfl | exact Or.inr rfl)) (pgs_cons (pg_name (i := 5) sc.nd rfl (by first | exact Or.inl rfl | exact Or.inr rfl)) pgs_nil)))))
    (pss_one (ps_ret (pe_cmpR opLe (pe_callB call_abs' (by rfl) T.b_abs (by decide +kernel) (pa_cons (pe_op opSub (pe_op opAdd (pe_op opMul (pv 3) (pe_ix ix_tup (pv 1) pe_int (fun _ _ => rfl))) (pv 4)) (pe_op opMul (pe_ix ix_tup (pv 1) pe_int (fun _ _ => rfl)) (pv 5))) pa_nil)) (pe_op opMul (pv 2) (pv 5)) (nomark _)))))
theorem gd_is_near (T : Tx K mg)  (len : ∀ vs H Q E, sp_is_near K vs H Q E → vs.length = 3) (rd : ∀ vs H Q E, sp_is_near K vs H Q E → t_is_near K ⟨fun _ H' => Q .non H', Q, fun _ _ => False, fun _ _ => False⟩ (start N_is_near vs) H) : Gd P w K mg base "is_near" 1 ["line", "point", "error"] (sp_is_near K) := by
  obtain ⟨fd, F⟩ := T.f_is_near
  exact ⟨_, fd, F.ok sc_is_near len (fun cdv A outer s H vs Q E hr h => ⟨t_is_near K, PSs.nox (der_is_near T  hr), rd vs H Q E h⟩), T.g_is_near, F.kp, F.bindsN (fun _ _ _ _ _ _ us hl => match us, hl with | [_, _, _], _ => rfl)⟩
/-! line_fits -/
def N_line_fits : List Str := ["line", "points", "error", "point"]
theorem sc_line_fits : FnScope N_line_fits ["line", "points", "error"] (defScope s_line_fits) := ⟨rfl, rfl, rfl, by decide +kernel, rfl, by decide +kernel, by decide +kernel⟩
def t_line_fits (K : PySem.W.Frag) : TS :=
    (tSeq (tFor (iList K (tVar 1)) (gName 3) (tIfS (tNot (tB (tG (sp_is_near K) (tCons (tVar 0) (tCons (tVar 3) (tCons (tVar 2) tNil)))))) tNever tNext))
    (tRet (tC (.bl true))))
theorem der_line_fits (T : Tx K mg) (G_is_near : Gd P w K mg base "is_near" 1 ["line", "point", "error"] (sp_is_near K)) {f : Addr} {cdv : Value} {A : Around} {outer : List Env} {s : Shared} {H : Hp} {E : XK} (hr : Room 1 (A.deeper (envOfC "line_fits" (defScope s_line_fits) s.heap.objs.size f cdv))) : PSs (cxOf CX0 P w K mg base N_line_fits "line_fits" (defScope s_line_fits) f cdv A outer s H E).nox (defBody s_line_fits) (t_line_fits K) := by
  have sc := sc_line_fits
  exact (pss_cons (ps_for PassesOwn.never rfl (pi_list (pv 1)) (pg_name (i := 3) sc.nd rfl (by first | exact Or.inl rfl | exact Or.inr rfl)) (pss_one (ps_if (pt_not (pt_val (pe_g G_is_near (hr.mono (by decide)) (by rfl) (pa_cons (pv 0) (pa_cons (pv 3) (pa_cons (pv 2) pa_nil)))))) (pss_one ps_never) pss_nil)))
    (pss_one (ps_ret pe_bl)))
theorem gd_line_fits (T : Tx K mg) (G_is_near : Gd P w K mg base "is_near" 1 ["line", "point", "error"] (sp_is_near K)) (len : ∀ vs H Q E, sp_line_fits K vs H Q E → vs.length = 3) (rd : ∀ vs H Q E, sp_line_fits K vs H Q E → t_line_fits K ⟨fun _ H' => Q .non H', Q, fun _ _ => False, fun _ _ => False⟩ (start N_line_fits vs) H) : Gd P w K mg base "line_fits" 2 ["line", "points", "error"] (sp_line_fits K) := by
  obtain ⟨fd, F⟩ := T.f_line_fits
  exact ⟨_, fd, F.ok sc_line_fits len (fun cdv A outer s H vs Q E hr h => ⟨t_line_fits K, PSs.nox (der_line_fits T G_is_near hr), rd vs H Q E h⟩), T.g_line_fits, F.kp, F.bindsN (fun _ _ _ _ _ _ us hl => match us, hl with | [_, _, _], _ => rfl)⟩
/-! three_fit -/
def N_three_fit : List Str := ["one", "two", "three", "error", "width", "middle"]
theorem sc_three_fit : FnScope N_three_fit ["one", "two", "three", "error"] (defScope s_three_fit) := ⟨rfl, rfl, rfl, by decide +kernel, rfl, by decide +kernel, by decide +kernel⟩
def t_three_fit (K : PySem.W.Frag) : TS :=
    (tSeq (tAsg (tOp oSub (tOp (rIxT K) (tVar 2) (tC (.int 0))) (tOp (rIxT K) (tVar 0) (tC (.int 0)))) (gName 4))
    (tSeq (tAsg (tOp oSub (tOp oSub (tOp oMul (tOp (rIxT K) (tVar 1) (tC (.int 1))) (tVar 4)) (tOp oMul (tOp (rIxT K) (tVar 0) (tC (.int 1))) (tOp oSub (tOp (rIxT K) (tVar 2) (tC (.int 0))) (tOp (rIxT K) (tVar 1) (tC (.int 0)))))) (tOp oMul (tOp (rIxT K) (tVar 2) (tC (.int 1))) (tOp oSub (tOp (rIxT K) (tVar 1) (tC (.int 0))) (tOp (rIxT K) (tVar 0) (tC (.int 0)))))) (gName 5))
    (tRet (tOp oLe (tCB cAbs (tCons (tVar 5) tNil)) (tOp oMul (tOp oMul (tC (.int 2)) (tVar 3)) (tVar 4))))))
theorem der_three_fit (T : Tx K mg)  {f : Addr} {cdv : Value} {A : Around} {outer : List Env} {s : Shared} {H : Hp} {E : XK} (hr : Room 0 (A.deeper (envOfC "three_fit" (defScope s_three_fit) s.heap.objs.size f cdv))) : PSs (cxOf CX0 P w K mg base N_three_fit "three_fit" (defScope s_three_fit) f cdv A outer s H E).nox (defBody s_three_fit) (t_three_fit K) := by
  have sc := sc_three_fit
  exact (pss_cons (ps_set (i := 4) sc.nd rfl (by first | exact Or.inl rfl | exact Or.inr rfl) (pe_op opSub (pe_ix ix_tup (pv 2) pe_int (fun _ _ => rfl)) (pe_ix ix_tup (pv 0) pe_int (fun _ _ => rfl))))
    (pss_cons (ps_set (i := 5) sc.nd rfl (by first | exact Or.inl rfl | exact Or.inr rfl) (pe_op opSub (pe_op opSub (pe_op opMul (pe_ix ix_tup (pv 1) pe_int (fun _ _ => rfl)) (pv 4)) (pe_op opMul (pe_ix ix_tup (pv 0) pe_int (fun _ _ => rfl)) (pe_op opSub (pe_ix ix_tup (pv 2) pe_int (fun _ _ => rfl)) (pe_ix ix_tup (pv 1) pe_int (fun _ _ => rfl))))) (pe_op opMul (pe_ix ix_tup (pv 2) pe_int (fun _ _ => rfl)) (pe_op opSub (pe_ix ix_tup (pv 1) pe_int (fun _ _ => rfl)) (pe_ix ix_tup (pv 0) pe_int (fun _ _ => rfl))))))
    (pss_one (ps_ret (pe_cmpR opLe (pe_callB call_abs' (by rfl) T.b_abs (by decide +kernel) (pa_cons (pv 5) pa_nil)) (pe_op opMul (pe_op opMul pe_int (pv 3)) (pv 4)) (nomark _))))))
theorem gd_three_fit (T : Tx K mg)  (len : ∀ vs H Q E, sp_three_fit K vs H Q E → vs.length = 4) (rd : ∀ vs H Q E, sp_three_fit K vs H Q E → t_three_fit K ⟨fun _ H' => Q .non H', Q, fun _ _ => False, fun _ _ => False⟩ (start N_three_fit vs) H) : Gd P w K mg base "three_fit" 1 ["one", "two", "three", "error"] (sp_three_fit K) := by
  obtain ⟨fd, F⟩ := T.f_three_fit
  exact ⟨_, fd, F.ok sc_three_fit len (fun cdv A outer s H vs Q E hr h => ⟨t_three_fit K, PSs.nox (der_three_fit T  hr), rd vs H Q E h⟩), T.g_three_fit, F.kp, F.bindsN (fun _ _ _ _ _ _ us hl => match us, hl with | [_, _, _, _], _ => rfl)⟩
/-! fraction -/
def N_fraction : List Str := ["numerator", "denominator", "divisor"]
theorem sc_fraction : FnScope N_fraction ["numerator", "denominator"] (defScope s_fraction) := ⟨rfl, rfl, rfl, by decide +kernel, rfl, by decide +kernel, by decide +kernel⟩
def t_fraction (K : PySem.W.Frag) : TS :=
    (tSeq (tAsg (tG (sp_common_divisor K) (tCons (tVar 0) (tCons (tVar 1) tNil))) (gName 2))
    (tRet (tTup (tCons (tOp oFdiv (tVar 0) (tVar 2)) (tCons (tOp oFdiv (tVar 1) (tVar 2)) tNil)))))
theorem der_fraction (T : Tx K mg) (G_common_divisor : Gd P w K mg base "common_divisor" 1 ["one", "other"] (sp_common_divisor K)) {f : Addr} {cdv : Value} {A : Around} {outer : List Env} {s : Shared} {H : Hp} {E : XK} (hr : Room 1 (A.deeper (envOfC "fraction" (defScope s_fraction) s.heap.objs.size f cdv))) : PSs (cxOf CX0 P w K mg base N_fraction "fraction" (defScope s_fraction) f cdv A outer s H E).nox (defBody s_fraction) (t_fraction K) := by
  have sc := sc_fraction
  exact (pss_cons (ps_set (i := 2) sc.nd rfl (by first | exact Or.inl rfl | exact Or.inr rfl) (pe_g G_common_divisor (hr.mono (by decide)) (by rfl) (pa_cons (pv 0) (pa_cons (pv 1) pa_nil))))
    (pss_one (ps_ret (pe_tup (pa_cons (pe_op opFdiv (pv 0) (pv 2)) (pa_cons (pe_op opFdiv (pv 1) (pv 2)) pa_nil))))))
theorem gd_fraction (T : Tx K mg) (G_common_divisor : Gd P w K mg base "common_divisor" 1 ["one", "other"] (sp_common_divisor K)) (len : ∀ vs H Q E, sp_fraction K vs H Q E → vs.length = 2) (rd : ∀ vs H Q E, sp_fraction K vs H Q E → t_fraction K ⟨fun _ H' => Q .non H', Q, fun _ _ => False, fun _ _ => False⟩ (start N_fraction vs) H) : Gd P w K mg base "fraction" 2 ["numerator", "denominator"] (sp_fraction K) := by
  obtain ⟨fd, F⟩ := T.f_fraction
  exact ⟨_, fd, F.ok sc_fraction len (fun cdv A outer s H vs Q E hr h => ⟨t_fraction K, PSs.nox (der_fraction T G_common_divisor hr), rd vs H Q E h⟩), T.g_fraction, F.kp, F.bindsN (fun _ _ _ _ _ _ us hl => match us, hl with | [_, _], _ => rfl)⟩
/-! is_less -/
def N_is_less : List Str := ["one", "other"]
theorem sc_is_less : FnScope N_is_less ["one", "other"] (defScope s_is_less) := ⟨rfl, rfl, rfl, by decide +kernel, rfl, by decide +kernel, by decide +kernel⟩
def t_is_less (K : PySem.W.Frag) : TS :=
    (tRet (tOp oLt (tOp oMul (tOp (rIxT K) (tVar 0) (tC (.int 0))) (tOp (rIxT K) (tVar 1) (tC (.int 1)))) (tOp oMul (tOp (rIxT K) (tVar 1) (tC (.int 0))) (tOp (rIxT K) (tVar 0) (tC (.int 1))))))
theorem der_is_less (T : Tx K mg)  {f : Addr} {cdv : Value} {A : Around} {outer : List Env} {s : Shared} {H : Hp} {E : XK} (hr : Room 0 (A.deeper (envOfC "is_less" (defScope s_is_less) s.heap.objs.size f cdv))) : PSs (cxOf CX0 P w K mg base N_is_less "is_less" (defScope s_is_less) f cdv A outer s H E).nox (defBody s_is_less) (t_is_less K) := by
  have sc := sc_is_less
  exact (pss_one (ps_ret (pe_cmpR opLt (pe_op opMul (pe_ix ix_tup (pv 0) pe_int (fun _ _ => rfl)) (pe_ix ix_tup (pv 1) pe_int (fun _ _ => rfl))) (pe_op opMul (pe_ix ix_tup (pv 1) pe_int (fun _ _ => rfl)) (pe_ix ix_tup (pv 0) pe_int (fun _ _ => rfl))) (nomark _))))
theorem gd_is_less (T : Tx K mg)  (len : ∀ vs H Q E, sp_is_less K vs H Q E → vs.length = 2) (rd : ∀ vs H Q E, sp_is_less K vs H Q E → t_is_less K ⟨fun _ H' => Q .non H', Q, fun _ _ => False, fun _ _ => False⟩ (start N_is_less vs) H) : Gd P w K mg base "is_less" 1 ["one", "other"] (sp_is_less K) := by
  obtain ⟨fd, F⟩ := T.f_is_less
  exact ⟨_, fd, F.ok sc_is_less len (fun cdv A outer s H vs Q E hr h => ⟨t_is_less K, PSs.nox (der_is_less T  hr), rd vs H Q E h⟩), T.g_is_less, F.kp, F.bindsN (fun _ _ _ _ _ _ us hl => match us, hl with | [_, _], _ => rfl)⟩
/-! slope_between -/
def N_slope_between : List Str := ["lower", "upper"]
theorem sc_slope_between : FnScope N_slope_between ["lower", "upper"] (defScope s_slope_between) := ⟨rfl, rfl, rfl, by decide +kernel, rfl, by decide +kernel, by decide +kernel⟩
def t_slope_between (K : PySem.W.Frag) : TS :=
    (tSeq (tIfS (tTest (tOp oGt (tOp (rIxT K) (tVar 0) (tC (.int 0))) (tC (.int 0)))) (tRet (tVar 0)) tNext)
    (tSeq (tIfS (tTest (tOp oLt (tOp (rIxT K) (tVar 1) (tC (.int 0))) (tC (.int 0)))) (tRet (tVar 1)) tNext)
    (tRet (tTup (tCons (tC (.int 0)) (tCons (tC (.int 1)) tNil))))))
theorem der_slope_between (T : Tx K mg)  {f : Addr} {cdv : Value} {A : Around} {outer : List Env} {s : Shared} {H : Hp} {E : XK} (hr : Room 0 (A.deeper (envOfC "slope_between" (defScope s_slope_between) s.heap.objs.size f cdv))) : PSs (cxOf CX0 P w K mg base N_slope_between "slope_between" (defScope s_slope_between) f cdv A outer s H E).nox (defBody s_slope_between) (t_slope_between K) := by
  have sc := sc_slope_between
  exact (pss_cons (ps_if (pt_cmpR opGt (pe_ix ix_tup (pv 0) pe_int (fun _ _ => rfl)) pe_int (nomark _)) (pss_one (ps_ret (pv 0))) pss_nil)
    (pss_cons (ps_if (pt_cmpR opLt (pe_ix ix_tup (pv 1) pe_int (fun _ _ => rfl)) pe_int (nomark _)) (pss_one (ps_ret (pv 1))) pss_nil)
    (pss_one (ps_ret (pe_tup (pa_cons pe_int (pa_cons pe_int pa_nil)))))))
theorem gd_slope_between (T : Tx K mg)  (len : ∀ vs H Q E, sp_slope_between K vs H Q E → vs.length = 2) (rd : ∀ vs H Q E, sp_slope_between K vs H Q E → t_slope_between K ⟨fun _ H' => Q .non H', Q, fun _ _ => False, fun _ _ => False⟩ (start N_slope_between vs) H) : Gd P w K mg base "slope_between" 1 ["lower", "upper"] (sp_slope_between K) := by
  obtain ⟨fd, F⟩ := T.f_slope_between
  exact ⟨_, fd, F.ok sc_slope_between len (fun cdv A outer s H vs Q E hr h => ⟨t_slope_between K, PSs.nox (der_slope_between T  hr), rd vs H Q E h⟩), T.g_slope_between, F.kp, F.bindsN (fun _ _ _ _ _ _ us hl => match us, hl with | [_, _], _ => rfl)⟩
/-! line_with_slope -/
def N_line_with_slope : List Str := ["points", "error", "slope", "p", "d", "place", "height"]
theorem sc_line_with_slope : FnScope N_line_with_slope ["points", "error", "slope"] (defScope s_line_with_slope) := ⟨rfl, rfl, rfl, by decide +kernel, rfl, by decide +kernel, by decide +kernel⟩
def t_line_with_slope (K : PySem.W.Frag) : TS :=
    (tSeq (tAsg (tVar 2) (gTup K 2 (gCons (gName 3) (gCons (gName 4) gNil))))
    (tRet (tTup (tCons (tVar 3) (tCons (tCB (rMax K) (tCons (tLc (iList K (tVar 0)) (gTup K 2 (gCons (gName 5) (gCons (gName 6) gNil))) tYes (tOp oSub (tOp oSub (tOp oMul (tVar 6) (tVar 4)) (tOp oMul (tVar 1) (tVar 4))) (tOp oMul (tVar 3) (tVar 5))) [5, 6]) tNil)) (tCons (tVar 4) tNil))))))
theorem der_line_with_slope (T : Tx K mg)  {f : Addr} {cdv : Value} {A : Around} {outer : List Env} {s : Shared} {H : Hp} {E : XK} (hr : Room 0 (A.deeper (envOfC "line_with_slope" (defScope s_line_with_slope) s.heap.objs.size f cdv))) : PSs (cxOf CX0 P w K mg base N_line_with_slope "line_with_slope" (defScope s_line_with_slope) f cdv A outer s H E).nox (defBody s_line_with_slope) (t_line_with_slope K) := by
  have sc := sc_line_with_slope
  exact (pss_cons (ps_asg (pv 2) (pg_tup rfl (pgs_cons (pg_name (i := 3) sc.nd rfl (by first | exact Or.inl rfl | exact Or.inr rfl)) (pgs_cons (pg_name (i := 4) sc.nd rfl (by first | exact Or.inl rfl | exact Or.inr rfl)) pgs_nil))))
    (pss_one (ps_ret (pe_tup (pa_cons (pv 3) (pa_cons (pe_callB (cr_max rfl) (by rfl) T.b_max (by decide +kernel) (pa_cons (pe_lc (own := [("place", 5), ("height", 6)]) rfl sc.nd (pi_list (pv 0)) (blkOk_by (own := [("place", 5), ("height", 6)]) (N := N_line_with_slope) (sc := defScope s_line_with_slope) (by decide +kernel)) (fun _ _ _ _ _ => (pg_tup rfl (pgs_cons (pg_name (i := 5) sc.nd rfl (by first | exact Or.inl rfl | exact Or.inr rfl)) (pgs_cons (pg_name (i := 6) sc.nd rfl (by first | exact Or.inl rfl | exact Or.inr rfl)) pgs_nil)))) (fun _ _ _ _ _ => pts_nil) (fun _ _ _ _ _ => (pe_op opSub (pe_op opSub (pe_op opMul (pv 6) (pv 4)) (pe_op opMul (pv 1) (pv 4))) (pe_op opMul (pv 3) (pv 5))))) pa_nil)) (pa_cons (pv 4) pa_nil)))))))
theorem gd_line_with_slope (T : Tx K mg)  (len : ∀ vs H Q E, sp_line_with_slope K vs H Q E → vs.length = 3) (rd : ∀ vs H Q E, sp_line_with_slope K vs H Q E → t_line_with_slope K ⟨fun _ H' => Q .non H', Q, fun _ _ => False, fun _ _ => False⟩ (start N_line_with_slope vs) H) : Gd P w K mg base "line_with_slope" 1 ["points", "error", "slope"] (sp_line_with_slope K) := by
  obtain ⟨fd, F⟩ := T.f_line_with_slope
  exact ⟨_, fd, F.ok sc_line_with_slope len (fun cdv A outer s H vs Q E hr h => ⟨t_line_with_slope K, PSs.nox (der_line_with_slope T  hr), rd vs H Q E h⟩), T.g_line_with_slope, F.kp, F.bindsN (fun _ _ _ _ _ _ us hl => match us, hl with | [_, _, _], _ => rfl)⟩
/-! turn -/
def N_turn : List Str := ["one", "two", "three"]
theorem sc_turn : FnScope N_turn ["one", "two", "three"] (defScope s_turn) := ⟨rfl, rfl, rfl, by decide +kernel, rfl, by decide +kernel, by decide +kernel⟩
def t_turn (K : PySem.W.Frag) : TS :=
    (tRet (tOp oSub (tOp oMul (tOp oSub (tOp (rIxT K) (tVar 1) (tC (.int 0))) (tOp (rIxT K) (tVar 0) (tC (.int 0)))) (tOp oSub (tOp (rIxT K) (tVar 2) (tC (.int 1))) (tOp (rIxT K) (tVar 0) (tC (.int 1))))) (tOp oMul (tOp oSub (tOp (rIxT K) (tVar 1) (tC (.int 1))) (tOp (rIxT K) (tVar 0) (tC (.int 1)))) (tOp oSub (tOp (rIxT K) (tVar 2) (tC (.int 0))) (tOp (rIxT K) (tVar 0) (tC (.int 0)))))))
theorem der_turn (T : Tx K mg)  {f : Addr} {cdv : Value} {A : Around} {outer : List Env} {s : Shared} {H : Hp} {E : XK} (hr : Room 0 (A.deeper (envOfC "turn" (defScope s_turn) s.heap.objs.size f cdv))) : PSs (cxOf CX0 P w K mg base N_turn "turn" (defScope s_turn) f cdv A outer s H E).nox (defBody s_turn) (t_turn K) := by
  have sc := sc_turn
  exact (pss_one (ps_ret (pe_op opSub (pe_op opMul (pe_op opSub (pe_ix ix_tup (pv 1) pe_int (fun _ _ => rfl)) (pe_ix ix_tup (pv 0) pe_int (fun _ _ => rfl))) (pe_op opSub (pe_ix ix_tup (pv 2) pe_int (fun _ _ => rfl)) (pe_ix ix_tup (pv 0) pe_int (fun _ _ => rfl)))) (pe_op opMul (pe_op opSub (pe_ix ix_tup (pv 1) pe_int (fun _ _ => rfl)) (pe_ix ix_tup (pv 0) pe_int (fun _ _ => rfl))) (pe_op opSub (pe_ix ix_tup (pv 2) pe_int (fun _ _ => rfl)) (pe_ix ix_tup (pv 0) pe_int (fun _ _ => rfl)))))))
theorem gd_turn (T : Tx K mg)  (len : ∀ vs H Q E, sp_turn K vs H Q E → vs.length = 3) (rd : ∀ vs H Q E, sp_turn K vs H Q E → t_turn K ⟨fun _ H' => Q .non H', Q, fun _ _ => False, fun _ _ => False⟩ (start N_turn vs) H) : Gd P w K mg base "turn" 1 ["one", "two", "three"] (sp_turn K) := by
  obtain ⟨fd, F⟩ := T.f_turn
  exact ⟨_, fd, F.ok sc_turn len (fun cdv A outer s H vs Q E hr h => ⟨t_turn K, PSs.nox (der_turn T  hr), rd vs H Q E h⟩), T.g_turn, F.kp, F.bindsN (fun _ _ _ _ _ _ us hl => match us, hl with | [_, _, _], _ => rfl)⟩
/-! rise_over -/
def N_rise_over : List Str := ["one", "other"]
theorem sc_rise_over : FnScope N_rise_over ["one", "other"] (defScope s_rise_over) := ⟨rfl, rfl, rfl, by decide +kernel, rfl, by decide +kernel, by decide +kernel⟩
def t_rise_over (K : PySem.W.Frag) : TS :=
    (tRet (tTup (tCons (tOp oSub (tOp (rIxT K) (tVar 1) (tC (.int 1))) (tOp (rIxT K) (tVar 0) (tC (.int 1)))) (tCons (tOp oSub (tOp (rIxT K) (tVar 1) (tC (.int 0))) (tOp (rIxT K) (tVar 0) (tC (.int 0)))) tNil))))
theorem der_rise_over (T : Tx K mg)  {f : Addr} {cdv : Value} {A : Around} {outer : List Env} {s : Shared} {H : Hp} {E : XK} (hr : Room 0 (A.deeper (envOfC "rise_over" (defScope s_rise_over) s.heap.objs.size f cdv))) : PSs (cxOf CX0 P w K mg base N_rise_over "rise_over" (defScope s_rise_over) f cdv A outer s H E).nox (defBody s_rise_over) (t_rise_over K) := by
  have sc := sc_rise_over
  exact (pss_one (ps_ret (pe_tup (pa_cons (pe_op opSub (pe_ix ix_tup (pv 1) pe_int (fun _ _ => rfl)) (pe_ix ix_tup (pv 0) pe_int (fun _ _ => rfl))) (pa_cons (pe_op opSub (pe_ix ix_tup (pv 1) pe_int (fun _ _ => rfl)) (pe_ix ix_tup (pv 0) pe_int (fun _ _ => rfl))) pa_nil)))))
theorem gd_rise_over (T : Tx K mg)  (len : ∀ vs H Q E, sp_rise_over K vs H Q E → vs.length = 2) (rd : ∀ vs H Q E, sp_rise_over K vs H Q E → t_rise_over K ⟨fun _ H' => Q .non H', Q, fun _ _ => False, fun _ _ => False⟩ (start N_rise_over vs) H) : Gd P w K mg base "rise_over" 1 ["one", "other"] (sp_rise_over K) := by
  obtain ⟨fd, F⟩ := T.f_rise_over
  exact ⟨_, fd, F.ok sc_rise_over len (fun cdv A outer s H vs Q E hr h => ⟨t_rise_over K, PSs.nox (der_rise_over T  hr), rd vs H Q E h⟩), T.g_rise_over, F.kp, F.bindsN (fun _ _ _ _ _ _ us hl => match us, hl with | [_, _], _ => rfl)⟩
/-! is_below -/
def N_is_below : List Str := ["one", "other"]
theorem sc_is_below : FnScope N_is_below ["one", "other"] (defScope s_is_below) := ⟨rfl, rfl, rfl, by decide +kernel, rfl, by decide +kernel, by decide +kernel⟩
def t_is_below (K : PySem.W.Frag) : TS :=
    (tRet (tOp oLt (tOp oMul (tOp (rIxT K) (tVar 0) (tC (.int 0))) (tOp (rIxT K) (tVar 1) (tC (.int 1)))) (tOp oMul (tOp (rIxT K) (tVar 1) (tC (.int 0))) (tOp (rIxT K) (tVar 0) (tC (.int 1))))))
theorem der_is_below (T : Tx K mg)  {f : Addr} {cdv : Value} {A : Around} {outer : List Env} {s : Shared} {H : Hp} {E : XK} (hr : Room 0 (A.deeper (envOfC "is_below" (defScope s_is_below) s.heap.objs.size f cdv))) : PSs (cxOf CX0 P w K mg base N_is_below "is_below" (defScope s_is_below) f cdv A outer s H E).nox (defBody s_is_below) (t_is_below K) := by
  have sc := sc_is_below
  exact (pss_one (ps_ret (pe_cmpR opLt (pe_op opMul (pe_ix ix_tup (pv 0) pe_int (fun _ _ => rfl)) (pe_ix ix_tup (pv 1) pe_int (fun _ _ => rfl))) (pe_op opMul (pe_ix ix_tup (pv 1) pe_int (fun _ _ => rfl)) (pe_ix ix_tup (pv 0) pe_int (fun _ _ => rfl))) (nomark _))))
theorem gd_is_below (T : Tx K mg)  (len : ∀ vs H Q E, sp_is_below K vs H Q E → vs.length = 2) (rd : ∀ vs H Q E, sp_is_below K vs H Q E → t_is_below K ⟨fun _ H' => Q .non H', Q, fun _ _ => False, fun _ _ => False⟩ (start N_is_below vs) H) : Gd P w K mg base "is_below" 1 ["one", "other"] (sp_is_below K) := by
  obtain ⟨fd, F⟩ := T.f_is_below
  exact ⟨_, fd, F.ok sc_is_below len (fun cdv A outer s H vs Q E hr h => ⟨t_is_below K, PSs.nox (der_is_below T  hr), rd vs H Q E h⟩), T.g_is_below, F.kp, F.bindsN (fun _ _ _ _ _ _ us hl => match us, hl with | [_, _], _ => rfl)⟩
/-! Fitter.__init__ -/
def N_Fitter_init : List Str := ["self", "error"]
theorem sc_Fitter_init : FnScope N_Fitter_init ["self", "error"] (defScope s_Fitter_init) := ⟨rfl, rfl, rfl, by decide +kernel, rfl, by decide +kernel, by decide +kernel⟩
def t_Fitter_init (K : PySem.W.Frag) : TS :=
    (tSeq (sFld K (tVar 0) (tVar 1) "error")
    (tSeq (sFld K (tVar 0) (tC (.int 0)) "count")
    (tSeq (sFld K (tVar 0) (tLst tNil) "_points")
    (tSeq (sFld K (tVar 0) (tLst tNil) "_tops")
    (tSeq (sFld K (tVar 0) (tLst tNil) "_bottoms")
    (tSeq (sFld K (tVar 0) (tTup tNil) "_flat")
    (sFld K (tVar 0) (tTup tNil) "_steep")))))))
theorem der_Fitter_init (T : Tx K mg)  {f : Addr} {cdv : Value} {A : Around} {outer : List Env} {s : Shared} {H : Hp} {E : XK} (hr : Room 0 (A.deeper (envOfC "Fitter.__init__" (defScope s_Fitter_init) s.heap.objs.size f cdv))) : PSs (cxOf CX0 P w K mg base N_Fitter_init "Fitter.__init__" (defScope s_Fitter_init) f cdv A outer s H E).nox (defBody s_Fitter_init) (t_Fitter_init K) := by
  have sc := sc_Fitter_init
  exact (pss_cons (ps_fld (pv 0) (pv 1) rfl)
    (pss_cons (ps_fld (pv 0) pe_int rfl)
    (pss_cons (ps_fld (pv 0) (pe_lst pa_nil) rfl)
    (pss_cons (ps_fld (pv 0) (pe_lst pa_nil) rfl)
    (pss_cons (ps_fld (pv 0) (pe_lst pa_nil) rfl)
    (pss_cons (ps_fld (pv 0) (pe_tup pa_nil) rfl)
    (pss_one (ps_fld (pv 0) (pe_tup pa_nil) rfl))))))))
theorem gd_Fitter_init (T : Tx K mg)  (len : ∀ vs H Q E, sp_Fitter_init K vs H Q E → vs.length = 2) (rd : ∀ vs H Q E, sp_Fitter_init K vs H Q E → t_Fitter_init K ⟨fun _ H' => Q .non H', Q, fun _ _ => False, fun _ _ => False⟩ (start N_Fitter_init vs) H) : Kd P w K mg base "Fitter" (He.ga K "Fitter") 1 ["self", "error"] (sp_Fitter_init K) := by
  obtain ⟨fd, F⟩ := T.f_Fitter_init
  exact ⟨_, fd, F.ok sc_Fitter_init len (fun cdv A outer s H vs Q E hr h => ⟨t_Fitter_init K, PSs.nox (der_Fitter_init T  hr), rd vs H Q E h⟩), T.k_Fitter, T.g_Fitter, F.bindsN (fun _ _ _ _ _ _ us hl => match us, hl with | [_, _], _ => rfl)⟩
/-! Fitter.conflict -/
def N_Fitter_conflict : List Str := ["self", "point", "place", "height"]
theorem sc_Fitter_conflict : FnScope N_Fitter_conflict ["self", "point"] (defScope s_Fitter_conflict) := ⟨rfl, rfl, rfl, by decide +kernel, rfl, by decide +kernel, by decide +kernel⟩
def t_Fitter_conflict (K : PySem.W.Frag) : TS :=
    (tSeq (tIfS (tTest (tOp oLt (tFld K (tVar 0) "count") (tC (.int 2)))) (tRet (tC .non)) tNext)
    (tSeq (tAsg (tVar 1) (gTup K 2 (gCons (gName 2) (gCons (gName 3) gNil))))
    (tSeq (tIfS (tB (tG (sp_is_below K) (tCons (tG (sp_rise_over K) (tCons (tOp (rIxT K) (tFld K (tVar 0) "_flat") (tC (.int 1))) (tCons (tTup (tCons (tVar 2) (tCons (tOp oAdd (tVar 3) (tFld K (tVar 0) "error")) tNil))) tNil))) (tCons (tG (sp_rise_over K) (tCons (tOp (rIxT K) (tFld K (tVar 0) "_flat") (tC (.int 0))) (tCons (tOp (rIxT K) (tFld K (tVar 0) "_flat") (tC (.int 1))) tNil))) tNil)))) (tRet (tTup (tCons (tOp (rIxT K) (tOp (rIxT K) (tFld K (tVar 0) "_flat") (tC (.int 0))) (tC (.int 2))) (tCons (tOp (rIxT K) (tOp (rIxT K) (tFld K (tVar 0) "_flat") (tC (.int 1))) (tC (.int 2))) tNil)))) tNext)
    (tSeq (tIfS (tB (tG (sp_is_below K) (tCons (tG (sp_rise_over K) (tCons (tOp (rIxT K) (tFld K (tVar 0) "_steep") (tC (.int 0))) (tCons (tOp (rIxT K) (tFld K (tVar 0) "_steep") (tC (.int 1))) tNil))) (tCons (tG (sp_rise_over K) (tCons (tOp (rIxT K) (tFld K (tVar 0) "_steep") (tC (.int 1))) (tCons (tTup (tCons (tVar 2) (tCons (tOp oSub (tVar 3) (tFld K (tVar 0) "error")) tNil))) tNil))) tNil)))) (tRet (tTup (tCons (tOp (rIxT K) (tOp (rIxT K) (tFld K (tVar 0) "_steep") (tC (.int 0))) (tC (.int 2))) (tCons (tOp (rIxT K) (tOp (rIxT K) (tFld K (tVar 0) "_steep") (tC (.int 1))) (tC (.int 2))) tNil)))) tNext)
    (tRet (tC .non))))))
theorem der_Fitter_conflict (T : Tx K mg) (G_is_below : Gd P w K mg base "is_below" 1 ["one", "other"] (sp_is_below K)) (G_rise_over : Gd P w K mg base "rise_over" 1 ["one", "other"] (sp_rise_over K)) {f : Addr} {cdv : Value} {A : Around} {outer : List Env} {s : Shared} {H : Hp} {E : XK} (hr : Room 1 (A.deeper (envOfC "Fitter.conflict" (defScope s_Fitter_conflict) s.heap.objs.size f cdv))) : PSs (cxOf CX0 P w K mg base N_Fitter_conflict "Fitter.conflict" (defScope s_Fitter_conflict) f cdv A outer s H E).nox (defBody s_Fitter_conflict) (t_Fitter_conflict K) := by
  have sc := sc_Fitter_conflict
  exact (pss_cons (ps_if (pt_cmpR opLt (pe_fld (pv 0) rfl) pe_int (nomark _)) (pss_one (ps_ret pe_non)) pss_nil)
    (pss_cons (ps_asg (pv 1) (pg_tup rfl (pgs_cons (pg_name (i := 2) sc.nd rfl (by first | exact Or.inl rfl | exact Or.inr rfl)) (pgs_cons (pg_name (i := 3) sc.nd rfl (by first | exact Or.inl rfl | exact Or.inr rfl)) pgs_nil))))
    (pss_cons (ps_if (pt_val (pe_g G_is_below (hr.mono (by decide)) (by rfl) (pa_cons (pe_g G_rise_over (hr.mono (by decide)) (by rfl) (pa_cons (pe_ix ix_tup (pe_fld (pv 0) rfl) pe_int (fun _ _ => rfl)) (pa_cons (pe_tup (pa_cons (pv 2) (pa_cons (pe_op opAdd (pv 3) (pe_fld (pv 0) rfl)) pa_nil))) pa_nil))) (pa_cons (pe_g G_rise_over (hr.mono (by decide)) (by rfl) (pa_cons (pe_ix ix_tup (pe_fld (pv 0) rfl) pe_int (fun _ _ => rfl)) (pa_cons (pe_ix ix_tup (pe_fld (pv 0) rfl) pe_int (fun _ _ => rfl)) pa_nil))) pa_nil)))) (pss_one (ps_ret (pe_tup (pa_cons (pe_ix ix_tup (pe_ix ix_tup (pe_fld (pv 0) rfl) pe_int (fun _ _ => rfl)) pe_int (fun _ _ => rfl)) (pa_cons (pe_ix ix_tup (pe_ix ix_tup (pe_fld (pv 0) rfl) pe_int (fun _ _ => rfl)) pe_int (fun _ _ => rfl)) pa_nil))))) pss_nil)
    (pss_cons (ps_if (pt_val (pe_g G_is_below (hr.mono (by decide)) (by rfl) (pa_cons (pe_g G_rise_over (hr.mono (by decide)) (by rfl) (pa_cons (pe_ix ix_tup (pe_fld (pv 0) rfl) pe_int (fun _ _ => rfl)) (pa_cons (pe_ix ix_tup (pe_fld (pv 0) rfl) pe_int (fun _ _ => rfl)) pa_nil))) (pa_cons (pe_g G_rise_over (hr.mono (by decide)) (by rfl) (pa_cons (pe_ix ix_tup (pe_fld (pv 0) rfl) pe_int (fun _ _ => rfl)) (pa_cons (pe_tup (pa_cons (pv 2) (pa_cons (pe_op opSub (pv 3) (pe_fld (pv 0) rfl)) pa_nil))) pa_nil))) pa_nil)))) (pss_one (ps_ret (pe_tup (pa_cons (pe_ix ix_tup (pe_ix ix_tup (pe_fld (pv 0) rfl) pe_int (fun _ _ => rfl)) pe_int (fun _ _ => rfl)) (pa_cons (pe_ix ix_tup (pe_ix ix_tup (pe_fld (pv 0) rfl) pe_int (fun _ _ => rfl)) pe_int (fun _ _ => rfl)) pa_nil))))) pss_nil)
    (pss_one (ps_ret pe_non))))))
theorem gd_Fitter_conflict (T : Tx K mg) (G_is_below : Gd P w K mg base "is_below" 1 ["one", "other"] (sp_is_below K)) (G_rise_over : Gd P w K mg base "rise_over" 1 ["one", "other"] (sp_rise_over K)) (len : ∀ vs H Q E, sp_Fitter_conflict K vs H Q E → vs.length = 2) (rd : ∀ vs H Q E, sp_Fitter_conflict K vs H Q E → t_Fitter_conflict K ⟨fun _ H' => Q .non H', Q, fun _ _ => False, fun _ _ => False⟩ (start N_Fitter_conflict vs) H) : Md P w K mg base (He.ga K "Fitter") "conflict" 2 ["self", "point"] (sp_Fitter_conflict K) := by
  obtain ⟨fd, F⟩ := T.f_Fitter_conflict
  exact ⟨_, fd, F.ok sc_Fitter_conflict len (fun cdv A outer s H vs Q E hr h => ⟨t_Fitter_conflict K, PSs.nox (der_Fitter_conflict T G_is_below G_rise_over hr), rd vs H Q E h⟩), T.m_Fitter_conflict, F.bindsN (fun _ _ _ _ _ _ us hl => match us, hl with | [_, _], _ => rfl), T.c_Fitter⟩
/-! Fitter.add -/
def N_Fitter_add : List Str := ["self", "point", "top", "bottom"]
theorem sc_Fitter_add : FnScope N_Fitter_add ["self", "point"] (defScope s_Fitter_add) := ⟨rfl, rfl, rfl, by decide +kernel, rfl, by decide +kernel, by decide +kernel⟩
def t_Fitter_add (K : PySem.W.Frag) : TS :=
    (tSeq (tIfS (tTest (tOp rNotN (tM (He.ga K "Fitter") "conflict" (sp_Fitter_conflict K) (tVar 0) (tCons (tVar 1) tNil)) (tC .non))) (tRet (tC (.bl false))) tNext)
    (tSeq (tAsg (tTup (tCons (tOp (rIxT K) (tVar 1) (tC (.int 0))) (tCons (tOp oAdd (tOp (rIxT K) (tVar 1) (tC (.int 1))) (tFld K (tVar 0) "error")) (tCons (tFld K (tVar 0) "count") tNil)))) (gName 2))
    (tSeq (tAsg (tTup (tCons (tOp (rIxT K) (tVar 1) (tC (.int 0))) (tCons (tOp oSub (tOp (rIxT K) (tVar 1) (tC (.int 1))) (tFld K (tVar 0) "error")) (tCons (tFld K (tVar 0) "count") tNil)))) (gName 3))
    (tCut (tIfS (tTest (tOp rEq (tFld K (tVar 0) "count") (tC (.int 1)))) (tSeq (sFld K (tVar 0) (tTup (tCons (tOp (rIxL K) (tFld K (tVar 0) "_tops") (tC (.int 0))) (tCons (tVar 3) tNil))) "_flat")
    (sFld K (tVar 0) (tTup (tCons (tOp (rIxL K) (tFld K (tVar 0) "_bottoms") (tC (.int 0))) (tCons (tVar 2) tNil))) "_steep")) (tIfS (tTest (tOp oGt (tFld K (tVar 0) "count") (tC (.int 1)))) (tSeq (tDrop (tM (He.ga K "Fitter") "lower_steep" (sp_Fitter_lower_steep K) (tVar 0) (tCons (tVar 2) tNil)))
    (tDrop (tM (He.ga K "Fitter") "raise_flat" (sp_Fitter_raise_flat K) (tVar 0) (tCons (tVar 3) tNil)))) tNext))
    (tSeq (tDrop (tM (He.ga K "Fitter") "add_corners" (sp_Fitter_add_corners K) (tVar 0) (tCons (tVar 2) (tCons (tVar 3) tNil))))
    (tSeq (tDrop (tBM K "list" rAppend (tFld K (tVar 0) "_points") (tCons (tVar 1) tNil)))
    (tSeq (sFldAug K (tVar 0) (tC (.int 1)) rAdd "count")
    (tRet (tC (.bl true))))))))))
theorem der_Fitter_add (T : Tx K mg) (G_Fitter_add_corners : Md P w K mg base (He.ga K "Fitter") "add_corners" 2 ["self", "top", "bottom"] (sp_Fitter_add_corners K)) (G_Fitter_conflict : Md P w K mg base (He.ga K "Fitter") "conflict" 2 ["self", "point"] (sp_Fitter_conflict K)) (G_Fitter_lower_steep : Md P w K mg base (He.ga K "Fitter") "lower_steep" 2 ["self", "top"] (sp_Fitter_lower_steep K)) (G_Fitter_raise_flat : Md P w K mg base (He.ga K "Fitter") "raise_flat" 2 ["self", "bottom"] (sp_Fitter_raise_flat K)) {f : Addr} {cdv : Value} {A : Around} {outer : List Env} {s : Shared} {H : Hp} {E : XK} (hr : Room 2 (A.deeper (envOfC "Fitter.add" (defScope s_Fitter_add) s.heap.objs.size f cdv))) : PSs (cxOf CX0 P w K mg base N_Fitter_add "Fitter.add" (defScope s_Fitter_add) f cdv A outer s H E).nox (defBody s_Fitter_add) (t_Fitter_add K) := by
  have sc := sc_Fitter_add
  exact (pss_cons (ps_if (pt_cmpR op_notN1 (pe_m (pv 0) G_Fitter_conflict (hr.mono (by decide)) (pa_cons (pv 1) pa_nil)) pe_non (nomark _)) (pss_one (ps_ret pe_bl)) pss_nil)
    (pss_cons (ps_set (i := 2) sc.nd rfl (by first | exact Or.inl rfl | exact Or.inr rfl) (pe_tup (pa_cons (pe_ix ix_tup (pv 1) pe_int (fun _ _ => rfl)) (pa_cons (pe_op opAdd (pe_ix ix_tup (pv 1) pe_int (fun _ _ => rfl)) (pe_fld (pv 0) rfl)) (pa_cons (pe_fld (pv 0) rfl) pa_nil)))))
    (pss_cons (ps_set (i := 3) sc.nd rfl (by first | exact Or.inl rfl | exact Or.inr rfl) (pe_tup (pa_cons (pe_ix ix_tup (pv 1) pe_int (fun _ _ => rfl)) (pa_cons (pe_op opSub (pe_ix ix_tup (pv 1) pe_int (fun _ _ => rfl)) (pe_fld (pv 0) rfl)) (pa_cons (pe_fld (pv 0) rfl) pa_nil)))))
    (pss_cut (ps_if (pt_cmpR op_eq (pe_fld (pv 0) rfl) pe_int (nomark _)) (pss_cons (ps_fld (pv 0) (pe_tup (pa_cons (pe_ix ix_list (pe_fld (pv 0) rfl) pe_int (fun _ _ => rfl)) (pa_cons (pv 3) pa_nil))) rfl)
    (pss_one (ps_fld (pv 0) (pe_tup (pa_cons (pe_ix ix_list (pe_fld (pv 0) rfl) pe_int (fun _ _ => rfl)) (pa_cons (pv 2) pa_nil))) rfl))) (pss_one (ps_if (pt_cmpR opGt (pe_fld (pv 0) rfl) pe_int (nomark _)) (pss_cons (ps_expr (pe_m (pv 0) G_Fitter_lower_steep (hr.mono (by decide)) (pa_cons (pv 2) pa_nil)))
    (pss_one (ps_expr (pe_m (pv 0) G_Fitter_raise_flat (hr.mono (by decide)) (pa_cons (pv 3) pa_nil))))) pss_nil)))
    (pss_cons (ps_expr (pe_m (pv 0) G_Fitter_add_corners (hr.mono (by decide)) (pa_cons (pv 2) (pa_cons (pv 3) pa_nil))))
    (pss_cons (ps_expr (pe_bm PySem.F.plainAttrs_list PySem.F.slot_list_append PySem.F.type_list_append mt_append (pe_fld (pv 0) rfl) (pa_cons (pv 1) pa_nil)))
    (pss_cons (ps_fldaug (pv 0) pe_int in_add)
    (pss_one (ps_ret pe_bl)))))))))
theorem gd_Fitter_add (T : Tx K mg) (G_Fitter_add_corners : Md P w K mg base (He.ga K "Fitter") "add_corners" 2 ["self", "top", "bottom"] (sp_Fitter_add_corners K)) (G_Fitter_conflict : Md P w K mg base (He.ga K "Fitter") "conflict" 2 ["self", "point"] (sp_Fitter_conflict K)) (G_Fitter_lower_steep : Md P w K mg base (He.ga K "Fitter") "lower_steep" 2 ["self", "top"] (sp_Fitter_lower_steep K)) (G_Fitter_raise_flat : Md P w K mg base (He.ga K "Fitter") "raise_flat" 2 ["self", "bottom"] (sp_Fitter_raise_flat K)) (len : ∀ vs H Q E, sp_Fitter_add K vs H Q E → vs.length = 2) (rd : ∀ vs H Q E, sp_Fitter_add K vs H Q E → t_Fitter_add K ⟨fun _ H' => Q .non H', Q, fun _ _ => False, fun _ _ => False⟩ (start N_Fitter_add vs) H) : Md P w K mg base (He.ga K "Fitter") "add" 3 ["self", "point"] (sp_Fitter_add K) := by
  obtain ⟨fd, F⟩ := T.f_Fitter_add
  exact ⟨_, fd, F.ok sc_Fitter_add len (fun cdv A outer s H vs Q E hr h => ⟨t_Fitter_add K, PSs.nox (der_Fitter_add T G_Fitter_add_corners G_Fitter_conflict G_Fitter_lower_steep G_Fitter_raise_flat hr), rd vs H Q E h⟩), T.m_Fitter_add, F.bindsN (fun _ _ _ _ _ _ us hl => match us, hl with | [_, _], _ => rfl), T.c_Fitter⟩
/-! Fitter.add_corners -/
def N_Fitter_add_corners : List Str := ["self", "top", "bottom"]
theorem sc_Fitter_add_corners : FnScope N_Fitter_add_corners ["self", "top", "bottom"] (defScope s_Fitter_add_corners) := ⟨rfl, rfl, rfl, by decide +kernel, rfl, by decide +kernel, by decide +kernel⟩
def t_Fitter_add_corners (K : PySem.W.Frag) : TS :=
    (tCut (tWhile (tAnd (tTest (tOp oGt (tCB (cLen K) (tCons (tFld K (tVar 0) "_tops") tNil)) (tC (.int 1)))) (tTest (tOp oLe (tG (sp_turn K) (tCons (tOp (rIxL K) (tFld K (tVar 0) "_tops") (tUn oNeg (tC (.int 2)))) (tCons (tOp (rIxL K) (tFld K (tVar 0) "_tops") (tUn oNeg (tC (.int 1)))) (tCons (tVar 1) tNil)))) (tC (.int 0))))) (tDrop (tBM0 K "list" rPop (tFld K (tVar 0) "_tops"))))
    (tSeq (tDrop (tBM K "list" rAppend (tFld K (tVar 0) "_tops") (tCons (tVar 1) tNil)))
    (tCut (tWhile (tAnd (tTest (tOp oGt (tCB (cLen K) (tCons (tFld K (tVar 0) "_bottoms") tNil)) (tC (.int 1)))) (tTest (tOp oGe (tG (sp_turn K) (tCons (tOp (rIxL K) (tFld K (tVar 0) "_bottoms") (tUn oNeg (tC (.int 2)))) (tCons (tOp (rIxL K) (tFld K (tVar 0) "_bottoms") (tUn oNeg (tC (.int 1)))) (tCons (tVar 2) tNil)))) (tC (.int 0))))) (tDrop (tBM0 K "list" rPop (tFld K (tVar 0) "_bottoms"))))
    (tDrop (tBM K "list" rAppend (tFld K (tVar 0) "_bottoms") (tCons (tVar 2) tNil))))))
theorem der_Fitter_add_corners (T : Tx K mg) (G_turn : Gd P w K mg base "turn" 1 ["one", "two", "three"] (sp_turn K)) {f : Addr} {cdv : Value} {A : Around} {outer : List Env} {s : Shared} {H : Hp} {E : XK} (hr : Room 1 (A.deeper (envOfC "Fitter.add_corners" (defScope s_Fitter_add_corners) s.heap.objs.size f cdv))) : PSs (cxOf CX0 P w K mg base N_Fitter_add_corners "Fitter.add_corners" (defScope s_Fitter_add_corners) f cdv A outer s H E).nox (defBody s_Fitter_add_corners) (t_Fitter_add_corners K) := by
  have sc := sc_Fitter_add_corners
  exact (pss_cut (ps_while PassesOwn.never (PW.pt (pw_and (pt_cmpR opGt (pe_callB call_len' (by rfl) T.b_len (by decide +kernel) (pa_cons (pe_fld (pv 0) rfl) pa_nil)) pe_int (nomark _)) (pw_and1 (pt_cmpR opLe (pe_g G_turn (hr.mono (by decide)) (by rfl) (pa_cons (pe_ix ix_list (pe_fld (pv 0) rfl) (pe_un opNeg pe_int) (fun _ _ => rfl)) (pa_cons (pe_ix ix_list (pe_fld (pv 0) rfl) (pe_un opNeg pe_int) (fun _ _ => rfl)) (pa_cons (pv 1) pa_nil)))) pe_int (nomark _))))) (pss_one (ps_expr (pe_bm0 PySem.F.plainAttrs_list PySem.F.slot_list_pop PySem.F.type_list_pop mt_pop (pe_fld (pv 0) rfl)))))
    (pss_cons (ps_expr (pe_bm PySem.F.plainAttrs_list PySem.F.slot_list_append PySem.F.type_list_append mt_append (pe_fld (pv 0) rfl) (pa_cons (pv 1) pa_nil)))
    (pss_cut (ps_while PassesOwn.never (PW.pt (pw_and (pt_cmpR opGt (pe_callB call_len' (by rfl) T.b_len (by decide +kernel) (pa_cons (pe_fld (pv 0) rfl) pa_nil)) pe_int (nomark _)) (pw_and1 (pt_cmpR opGe (pe_g G_turn (hr.mono (by decide)) (by rfl) (pa_cons (pe_ix ix_list (pe_fld (pv 0) rfl) (pe_un opNeg pe_int) (fun _ _ => rfl)) (pa_cons (pe_ix ix_list (pe_fld (pv 0) rfl) (pe_un opNeg pe_int) (fun _ _ => rfl)) (pa_cons (pv 2) pa_nil)))) pe_int (nomark _))))) (pss_one (ps_expr (pe_bm0 PySem.F.plainAttrs_list PySem.F.slot_list_pop PySem.F.type_list_pop mt_pop (pe_fld (pv 0) rfl)))))
    (pss_one (ps_expr (pe_bm PySem.F.plainAttrs_list PySem.F.slot_list_append PySem.F.type_list_append mt_append (pe_fld (pv 0) rfl) (pa_cons (pv 2) pa_nil)))))))
theorem gd_Fitter_add_corners (T : Tx K mg) (G_turn : Gd P w K mg base "turn" 1 ["one", "two", "three"] (sp_turn K)) (len : ∀ vs H Q E, sp_Fitter_add_corners K vs H Q E → vs.length = 3) (rd : ∀ vs H Q E, sp_Fitter_add_corners K vs H Q E → t_Fitter_add_corners K ⟨fun _ H' => Q .non H', Q, fun _ _ => False, fun _ _ => False⟩ (start N_Fitter_add_corners vs) H) : Md P w K mg base (He.ga K "Fitter") "add_corners" 2 ["self", "top", "bottom"] (sp_Fitter_add_corners K) := by
  obtain ⟨fd, F⟩ := T.f_Fitter_add_corners
  exact ⟨_, fd, F.ok sc_Fitter_add_corners len (fun cdv A outer s H vs Q E hr h => ⟨t_Fitter_add_corners K, PSs.nox (der_Fitter_add_corners T G_turn hr), rd vs H Q E h⟩), T.m_Fitter_add_corners, F.bindsN (fun _ _ _ _ _ _ us hl => match us, hl with | [_, _, _], _ => rfl), T.c_Fitter⟩
/-! Fitter.lower_steep -/
def N_Fitter_lower_steep : List Str := ["self", "top", "best", "corner"]
theorem sc_Fitter_lower_steep : FnScope N_Fitter_lower_steep ["self", "top"] (defScope s_Fitter_lower_steep) := ⟨rfl, rfl, rfl, by decide +kernel, rfl, by decide +kernel, by decide +kernel⟩
def t_Fitter_lower_steep (K : PySem.W.Frag) : TS :=
    (tSeq (tIfS (tNot (tB (tG (sp_is_below K) (tCons (tG (sp_rise_over K) (tCons (tOp (rIxT K) (tFld K (tVar 0) "_steep") (tC (.int 0))) (tCons (tVar 1) tNil))) (tCons (tG (sp_rise_over K) (tCons (tOp (rIxT K) (tFld K (tVar 0) "_steep") (tC (.int 0))) (tCons (tOp (rIxT K) (tFld K (tVar 0) "_steep") (tC (.int 1))) tNil))) tNil))))) tRetN tNext)
    (tSeq (tAsg (tOp (rIxL K) (tFld K (tVar 0) "_bottoms") (tC (.int 0))) (gName 2))
    (tSeq (tFor (iList K (tFld K (tVar 0) "_bottoms")) (gName 3) (tIfS (tB (tG (sp_is_below K) (tCons (tG (sp_rise_over K) (tCons (tVar 3) (tCons (tVar 1) tNil))) (tCons (tG (sp_rise_over K) (tCons (tVar 2) (tCons (tVar 1) tNil))) tNil)))) (tAsg (tVar 3) (gName 2)) tNext))
    (sFld K (tVar 0) (tTup (tCons (tVar 2) (tCons (tVar 1) tNil))) "_steep"))))
theorem der_Fitter_lower_steep (T : Tx K mg) (G_is_below : Gd P w K mg base "is_below" 1 ["one", "other"] (sp_is_below K)) (G_rise_over : Gd P w K mg base "rise_over" 1 ["one", "other"] (sp_rise_over K)) {f : Addr} {cdv : Value} {A : Around} {outer : List Env} {s : Shared} {H : Hp} {E : XK} (hr : Room 1 (A.deeper (envOfC "Fitter.lower_steep" (defScope s_Fitter_lower_steep) s.heap.objs.size f cdv))) : PSs (cxOf CX0 P w K mg base N_Fitter_lower_steep "Fitter.lower_steep" (defScope s_Fitter_lower_steep) f cdv A outer s H E).nox (defBody s_Fitter_lower_steep) (t_Fitter_lower_steep K) := by
  have sc := sc_Fitter_lower_steep
  exact (pss_cons (ps_if (pt_not (pt_val (pe_g G_is_below (hr.mono (by decide)) (by rfl) (pa_cons (pe_g G_rise_over (hr.mono (by decide)) (by rfl) (pa_cons (pe_ix ix_tup (pe_fld (pv 0) rfl) pe_int (fun _ _ => rfl)) (pa_cons (pv 1) pa_nil))) (pa_cons (pe_g G_rise_over (hr.mono (by decide)) (by rfl) (pa_cons (pe_ix ix_tup (pe_fld (pv 0) rfl) pe_int (fun _ _ => rfl)) (pa_cons (pe_ix ix_tup (pe_fld (pv 0) rfl) pe_int (fun _ _ => rfl)) pa_nil))) pa_nil))))) (pss_one ps_retN) pss_nil)
    (pss_cons (ps_set (i := 2) sc.nd rfl (by first | exact Or.inl rfl | exact Or.inr rfl) (pe_ix ix_list (pe_fld (pv 0) rfl) pe_int (fun _ _ => rfl)))
    (pss_cons (ps_for PassesOwn.never rfl (pi_list (pe_fld (pv 0) rfl)) (pg_name (i := 3) sc.nd rfl (by first | exact Or.inl rfl | exact Or.inr rfl)) (pss_one (ps_if (pt_val (pe_g G_is_below (hr.mono (by decide)) (by rfl) (pa_cons (pe_g G_rise_over (hr.mono (by decide)) (by rfl) (pa_cons (pv 3) (pa_cons (pv 1) pa_nil))) (pa_cons (pe_g G_rise_over (hr.mono (by decide)) (by rfl) (pa_cons (pv 2) (pa_cons (pv 1) pa_nil))) pa_nil)))) (pss_one (ps_set (i := 2) sc.nd rfl (by first | exact Or.inl rfl | exact Or.inr rfl) (pv 3))) pss_nil)))
    (pss_one (ps_fld (pv 0) (pe_tup (pa_cons (pv 2) (pa_cons (pv 1) pa_nil))) rfl)))))
theorem gd_Fitter_lower_steep (T : Tx K mg) (G_is_below : Gd P w K mg base "is_below" 1 ["one", "other"] (sp_is_below K)) (G_rise_over : Gd P w K mg base "rise_over" 1 ["one", "other"] (sp_rise_over K)) (len : ∀ vs H Q E, sp_Fitter_lower_steep K vs H Q E → vs.length = 2) (rd : ∀ vs H Q E, sp_Fitter_lower_steep K vs H Q E → t_Fitter_lower_steep K ⟨fun _ H' => Q .non H', Q, fun _ _ => False, fun _ _ => False⟩ (start N_Fitter_lower_steep vs) H) : Md P w K mg base (He.ga K "Fitter") "lower_steep" 2 ["self", "top"] (sp_Fitter_lower_steep K) := by
  obtain ⟨fd, F⟩ := T.f_Fitter_lower_steep
  exact ⟨_, fd, F.ok sc_Fitter_lower_steep len (fun cdv A outer s H vs Q E hr h => ⟨t_Fitter_lower_steep K, PSs.nox (der_Fitter_lower_steep T G_is_below G_rise_over hr), rd vs H Q E h⟩), T.m_Fitter_lower_steep, F.bindsN (fun _ _ _ _ _ _ us hl => match us, hl with | [_, _], _ => rfl), T.c_Fitter⟩
/-! Fitter.raise_flat -/
def N_Fitter_raise_flat : List Str := ["self", "bottom", "best", "corner"]
theorem sc_Fitter_raise_flat : FnScope N_Fitter_raise_flat ["self", "bottom"] (defScope s_Fitter_raise_flat) := ⟨rfl, rfl, rfl, by decide +kernel, rfl, by decide +kernel, by decide +kernel⟩
def t_Fitter_raise_flat (K : PySem.W.Frag) : TS :=
    (tSeq (tIfS (tNot (tB (tG (sp_is_below K) (tCons (tG (sp_rise_over K) (tCons (tOp (rIxT K) (tFld K (tVar 0) "_flat") (tC (.int 0))) (tCons (tOp (rIxT K) (tFld K (tVar 0) "_flat") (tC (.int 1))) tNil))) (tCons (tG (sp_rise_over K) (tCons (tOp (rIxT K) (tFld K (tVar 0) "_flat") (tC (.int 0))) (tCons (tVar 1) tNil))) tNil))))) tRetN tNext)
    (tSeq (tAsg (tOp (rIxL K) (tFld K (tVar 0) "_tops") (tC (.int 0))) (gName 2))
    (tSeq (tFor (iList K (tFld K (tVar 0) "_tops")) (gName 3) (tIfS (tB (tG (sp_is_below K) (tCons (tG (sp_rise_over K) (tCons (tVar 2) (tCons (tVar 1) tNil))) (tCons (tG (sp_rise_over K) (tCons (tVar 3) (tCons (tVar 1) tNil))) tNil)))) (tAsg (tVar 3) (gName 2)) tNext))
    (sFld K (tVar 0) (tTup (tCons (tVar 2) (tCons (tVar 1) tNil))) "_flat"))))
theorem der_Fitter_raise_flat (T : Tx K mg) (G_is_below : Gd P w K mg base "is_below" 1 ["one", "other"] (sp_is_below K)) (G_rise_over : Gd P w K mg base "rise_over" 1 ["one", "other"] (sp_rise_over K)) {f : Addr} {cdv : Value} {A : Around} {outer : List Env} {s : Shared} {H : Hp} {E : XK} (hr : Room 1 (A.deeper (envOfC "Fitter.raise_flat" (defScope s_Fitter_raise_flat) s.heap.objs.size f cdv))) : PSs (cxOf CX0 P w K mg base N_Fitter_raise_flat "Fitter.raise_flat" (defScope s_Fitter_raise_flat) f cdv A outer s H E).nox (defBody s_Fitter_raise_flat) (t_Fitter_raise_flat K) := by
  have sc := sc_Fitter_raise_flat
  exact (pss_cons (ps_if (pt_not (pt_val (pe_g G_is_below (hr.mono (by decide)) (by rfl) (pa_cons (pe_g G_rise_over (hr.mono (by decide)) (by rfl) (pa_cons (pe_ix ix_tup (pe_fld (pv 0) rfl) pe_int (fun _ _ => rfl)) (pa_cons (pe_ix ix_tup (pe_fld (pv 0) rfl) pe_int (fun _ _ => rfl)) pa_nil))) (pa_cons (pe_g G_rise_over (hr.mono (by decide)) (by rfl) (pa_cons (pe_ix ix_tup (pe_fld (pv 0) rfl) pe_int (fun _ _ => rfl)) (pa_cons (pv 1) pa_nil))) pa_nil))))) (pss_one ps_retN) pss_nil)
    (pss_cons (ps_set (i := 2) sc.nd rfl (by first | exact Or.inl rfl | exact Or.inr rfl) (pe_ix ix_list (pe_fld (pv 0) rfl) pe_int (fun _ _ => rfl)))
    (pss_cons (ps_for PassesOwn.never rfl (pi_list (pe_fld (pv 0) rfl)) (pg_name (i := 3) sc.nd rfl (by first | exact Or.inl rfl | exact Or.inr rfl)) (pss_one (ps_if (pt_val (pe_g G_is_below (hr.mono (by decide)) (by rfl) (pa_cons (pe_g G_rise_over (hr.mono (by decide)) (by rfl) (pa_cons (pv 2) (pa_cons (pv 1) pa_nil))) (pa_cons (pe_g G_rise_over (hr.mono (by decide)) (by rfl) (pa_cons (pv 3) (pa_cons (pv 1) pa_nil))) pa_nil)))) (pss_one (ps_set (i := 2) sc.nd rfl (by first | exact Or.inl rfl | exact Or.inr rfl) (pv 3))) pss_nil)))
    (pss_one (ps_fld (pv 0) (pe_tup (pa_cons (pv 2) (pa_cons (pv 1) pa_nil))) rfl)))))
theorem gd_Fitter_raise_flat (T : Tx K mg) (G_is_below : Gd P w K mg base "is_below" 1 ["one", "other"] (sp_is_below K)) (G_rise_over : Gd P w K mg base "rise_over" 1 ["one", "other"] (sp_rise_over K)) (len : ∀ vs H Q E, sp_Fitter_raise_flat K vs H Q E → vs.length = 2) (rd : ∀ vs H Q E, sp_Fitter_raise_flat K vs H Q E → t_Fitter_raise_flat K ⟨fun _ H' => Q .non H', Q, fun _ _ => False, fun _ _ => False⟩ (start N_Fitter_raise_flat vs) H) : Md P w K mg base (He.ga K "Fitter") "raise_flat" 2 ["self", "bottom"] (sp_Fitter_raise_flat K) := by
  obtain ⟨fd, F⟩ := T.f_Fitter_raise_flat
  exact ⟨_, fd, F.ok sc_Fitter_raise_flat len (fun cdv A outer s H vs Q E hr h => ⟨t_Fitter_raise_flat K, PSs.nox (der_Fitter_raise_flat T G_is_below G_rise_over hr), rd vs H Q E h⟩), T.m_Fitter_raise_flat, F.bindsN (fun _ _ _ _ _ _ us hl => match us, hl with | [_, _], _ => rfl), T.c_Fitter⟩
/-! Fitter.line -/
def N_Fitter_line : List Str := ["self", "lower", "upper", "slope"]
theorem sc_Fitter_line : FnScope N_Fitter_line ["self"] (defScope s_Fitter_line) := ⟨rfl, rfl, rfl, by decide +kernel, rfl, by decide +kernel, by decide +kernel⟩
def t_Fitter_line (K : PySem.W.Frag) : TS :=
    (tSeq (tIfS (tTest (tOp rEq (tFld K (tVar 0) "count") (tC (.int 0)))) tNever tNext)
    (tSeq (tIfS (tTest (tOp rEq (tFld K (tVar 0) "count") (tC (.int 1)))) (tRet (tTup (tCons (tC (.int 0)) (tCons (tOp (rIxT K) (tOp (rIxL K) (tFld K (tVar 0) "_points") (tC (.int 0))) (tC (.int 1))) (tCons (tC (.int 1)) tNil))))) tNext)
    (tSeq (tAsg (tG (sp_rise_over K) (tCons (tOp (rIxT K) (tFld K (tVar 0) "_flat") (tC (.int 0))) (tCons (tOp (rIxT K) (tFld K (tVar 0) "_flat") (tC (.int 1))) tNil))) (gName 1))
    (tSeq (tAsg (tG (sp_rise_over K) (tCons (tOp (rIxT K) (tFld K (tVar 0) "_steep") (tC (.int 0))) (tCons (tOp (rIxT K) (tFld K (tVar 0) "_steep") (tC (.int 1))) tNil))) (gName 2))
    (tSeq (tAsg (tG (sp_slope_between K) (tCons (tG (sp_fraction K) (tCons (tOp (rIxT K) (tVar 1) (tC (.int 0))) (tCons (tOp (rIxT K) (tVar 1) (tC (.int 1))) tNil))) (tCons (tG (sp_fraction K) (tCons (tOp (rIxT K) (tVar 2) (tC (.int 0))) (tCons (tOp (rIxT K) (tVar 2) (tC (.int 1))) tNil))) tNil))) (gName 3))
    (tRet (tG (sp_line_with_slope K) (tCons (tFld K (tVar 0) "_points") (tCons (tFld K (tVar 0) "error") (tCons (tVar 3) tNil))))))))))
theorem der_Fitter_line (T : Tx K mg) (G_fraction : Gd P w K mg base "fraction" 2 ["numerator", "denominator"] (sp_fraction K)) (G_line_with_slope : Gd P w K mg base "line_with_slope" 1 ["points", "error", "slope"] (sp_line_with_slope K)) (G_rise_over : Gd P w K mg base "rise_over" 1 ["one", "other"] (sp_rise_over K)) (G_slope_between : Gd P w K mg base "slope_between" 1 ["lower", "upper"] (sp_slope_between K)) {f : Addr} {cdv : Value} {A : Around} {outer : List Env} {s : Shared} {H : Hp} {E : XK} (hr : Room 2 (A.deeper (envOfC "Fitter.line" (defScope s_Fitter_line) s.heap.objs.size f cdv))) : PSs (cxOf CX0 P w K mg base N_Fitter_line "Fitter.line" (defScope s_Fitter_line) f cdv A outer s H E).nox (defBody s_Fitter_line) (t_Fitter_line K) := by
  have sc := sc_Fitter_line
  exact (pss_cons (ps_if (pt_cmpR op_eq (pe_fld (pv 0) rfl) pe_int (nomark _)) (pss_one ps_never) pss_nil)
    (pss_cons (ps_if (pt_cmpR op_eq (pe_fld (pv 0) rfl) pe_int (nomark _)) (pss_one (ps_ret (pe_tup (pa_cons pe_int (pa_cons (pe_ix ix_tup (pe_ix ix_list (pe_fld (pv 0) rfl) pe_int (fun _ _ => rfl)) pe_int (fun _ _ => rfl)) (pa_cons pe_int pa_nil)))))) pss_nil)
    (pss_cons (ps_set (i := 1) sc.nd rfl (by first | exact Or.inl rfl | exact Or.inr rfl) (pe_g G_rise_over (hr.mono (by decide)) (by rfl) (pa_cons (pe_ix ix_tup (pe_fld (pv 0) rfl) pe_int (fun _ _ => rfl)) (pa_cons (pe_ix ix_tup (pe_fld (pv 0) rfl) pe_int (fun _ _ => rfl)) pa_nil))))
    (pss_cons (ps_set (i := 2) sc.nd rfl (by first | exact Or.inl rfl | exact Or.inr rfl) (pe_g G_rise_over (hr.mono (by decide)) (by rfl) (pa_cons (pe_ix ix_tup (pe_fld (pv 0) rfl) pe_int (fun _ _ => rfl)) (pa_cons (pe_ix ix_tup (pe_fld (pv 0) rfl) pe_int (fun _ _ => rfl)) pa_nil))))
    (pss_cons (ps_set (i := 3) sc.nd rfl (by first | exact Or.inl rfl | exact Or.inr rfl) (pe_g G_slope_between (hr.mono (by decide)) (by rfl) (pa_cons (pe_g G_fraction (hr.mono (by decide)) (by rfl) (pa_cons (pe_ix ix_tup (pv 1) pe_int (fun _ _ => rfl)) (pa_cons (pe_ix ix_tup (pv 1) pe_int (fun _ _ => rfl)) pa_nil))) (pa_cons (pe_g G_fraction (hr.mono (by decide)) (by rfl) (pa_cons (pe_ix ix_tup (pv 2) pe_int (fun _ _ => rfl)) (pa_cons (pe_ix ix_tup (pv 2) pe_int (fun _ _ => rfl)) pa_nil))) pa_nil))))
    (pss_one (ps_ret (pe_g G_line_with_slope (hr.mono (by decide)) (by rfl) (pa_cons (pe_fld (pv 0) rfl) (pa_cons (pe_fld (pv 0) rfl) (pa_cons (pv 3) pa_nil)))))))))))
theorem gd_Fitter_line (T : Tx K mg) (G_fraction : Gd P w K mg base "fraction" 2 ["numerator", "denominator"] (sp_fraction K)) (G_line_with_slope : Gd P w K mg base "line_with_slope" 1 ["points", "error", "slope"] (sp_line_with_slope K)) (G_rise_over : Gd P w K mg base "rise_over" 1 ["one", "other"] (sp_rise_over K)) (G_slope_between : Gd P w K mg base "slope_between" 1 ["lower", "upper"] (sp_slope_between K)) (len : ∀ vs H Q E, sp_Fitter_line K vs H Q E → vs.length = 1) (rd : ∀ vs H Q E, sp_Fitter_line K vs H Q E → t_Fitter_line K ⟨fun _ H' => Q .non H', Q, fun _ _ => False, fun _ _ => False⟩ (start N_Fitter_line vs) H) : Md P w K mg base (He.ga K "Fitter") "line" 3 ["self"] (sp_Fitter_line K) := by
  obtain ⟨fd, F⟩ := T.f_Fitter_line
  exact ⟨_, fd, F.ok sc_Fitter_line len (fun cdv A outer s H vs Q E hr h => ⟨t_Fitter_line K, PSs.nox (der_Fitter_line T G_fraction G_line_with_slope G_rise_over G_slope_between hr), rd vs H Q E h⟩), T.m_Fitter_line, F.bindsN (fun _ _ _ _ _ _ us hl => match us, hl with | [_], _ => rfl), T.c_Fitter⟩
/-! Cutting.__init__ -/
def N_Cutting_init : List Str := ["self", "pieces", "reasons"]
theorem sc_Cutting_init : FnScope N_Cutting_init ["self", "pieces", "reasons"] (defScope s_Cutting_init) := ⟨rfl, rfl, rfl, by decide +kernel, rfl, by decide +kernel, by decide +kernel⟩
def t_Cutting_init (K : PySem.W.Frag) : TS :=
    (tSeq (sFld K (tVar 0) (tCB (cList K) (tCons (tVar 1) tNil)) "pieces")
    (sFld K (tVar 0) (tCB (cList K) (tCons (tVar 2) tNil)) "reasons"))
theorem der_Cutting_init (T : Tx K mg)  {f : Addr} {cdv : Value} {A : Around} {outer : List Env} {s : Shared} {H : Hp} {E : XK} (hr : Room 0 (A.deeper (envOfC "Cutting.__init__" (defScope s_Cutting_init) s.heap.objs.size f cdv))) : PSs (cxOf CX0 P w K mg base N_Cutting_init "Cutting.__init__" (defScope s_Cutting_init) f cdv A outer s H E).nox (defBody s_Cutting_init) (t_Cutting_init K) := by
  have sc := sc_Cutting_init
  exact (pss_cons (ps_fld (pv 0) (pe_callTy call_list' (by rfl) T.b_list (by decide +kernel) (pa_cons (pv 1) pa_nil)) rfl)
    (pss_one (ps_fld (pv 0) (pe_callTy call_list' (by rfl) T.b_list (by decide +kernel) (pa_cons (pv 2) pa_nil)) rfl)))
theorem gd_Cutting_init (T : Tx K mg)  (len : ∀ vs H Q E, sp_Cutting_init K vs H Q E → vs.length = 3) (rd : ∀ vs H Q E, sp_Cutting_init K vs H Q E → t_Cutting_init K ⟨fun _ H' => Q .non H', Q, fun _ _ => False, fun _ _ => False⟩ (start N_Cutting_init vs) H) : Kd P w K mg base "Cutting" (He.ga K "Cutting") 1 ["self", "pieces", "reasons"] (sp_Cutting_init K) := by
  obtain ⟨fd, F⟩ := T.f_Cutting_init
  exact ⟨_, fd, F.ok sc_Cutting_init len (fun cdv A outer s H vs Q E hr h => ⟨t_Cutting_init K, PSs.nox (der_Cutting_init T  hr), rd vs H Q E h⟩), T.k_Cutting, T.g_Cutting, F.bindsN (fun _ _ _ _ _ _ us hl => match us, hl with | [_, _, _], _ => rfl)⟩
/-! cut -/
def N_cut : List Str := ["points", "error", "pieces", "reasons", "start", "fitter", "position", "point", "found"]
theorem sc_cut : FnScope N_cut ["points", "error"] (defScope s_cut) := ⟨rfl, rfl, rfl, by decide +kernel, rfl, by decide +kernel, by decide +kernel⟩
def t_cut (K : PySem.W.Frag) : TS :=
    (tSeq (tAsg (tLst tNil) (gName 2))
    (tSeq (tAsg (tLst tNil) (gName 3))
    (tSeq (tAsg (tC (.int 0)) (gName 4))
    (tSeq (tAsg (tK (He.ga K "Fitter") (sp_Fitter_init K) (tCons (tVar 1) tNil)) (gName 5))
    (tSeq (tFor (iEnum K (tCons (tVar 0) tNil)) (gTup K 2 (gCons (gName 6) (gCons (gName 7) gNil))) (tSeq (tAsg (tM (He.ga K "Fitter") "conflict" (sp_Fitter_conflict K) (tVar 5) (tCons (tVar 7) tNil)) (gName 8))
    (tCut (tIfS (tTest (tOp rNotN (tVar 8) (tC .non))) (tSeq (tDrop (tBM K "list" rAppend (tVar 2) (tCons (tTup (tCons (tVar 4) (tCons (tM (He.ga K "Fitter") "line" (sp_Fitter_line K) (tVar 5) tNil) tNil))) tNil)))
    (tSeq (tDrop (tBM K "list" rAppend (tVar 3) (tCons (tTup (tCons (tOp oAdd (tVar 4) (tOp (rIxT K) (tVar 8) (tC (.int 0)))) (tCons (tOp oAdd (tVar 4) (tOp (rIxT K) (tVar 8) (tC (.int 1)))) (tCons (tVar 6) tNil)))) tNil)))
    (tSeq (tAsg (tVar 6) (gName 4))
    (tAsg (tK (He.ga K "Fitter") (sp_Fitter_init K) (tCons (tVar 1) tNil)) (gName 5))))) tNext)
    (tDrop (tM (He.ga K "Fitter") "add" (sp_Fitter_add K) (tVar 5) (tCons (tVar 7) tNil))))))
    (tCut (tIfS (tTruth K (tVar 0)) (tDrop (tBM K "list" rAppend (tVar 2) (tCons (tTup (tCons (tVar 4) (tCons (tM (He.ga K "Fitter") "line" (sp_Fitter_line K) (tVar 5) tNil) tNil))) tNil))) tNext)
    (tRet (tK (He.ga K "Cutting") (sp_Cutting_init K) (tCons (tVar 2) (tCons (tVar 3) tNil))))))))))
theorem der_cut (T : Tx K mg) (G_Cutting_init : Kd P w K mg base "Cutting" (He.ga K "Cutting") 1 ["self", "pieces", "reasons"] (sp_Cutting_init K)) (G_Fitter_init : Kd P w K mg base "Fitter" (He.ga K "Fitter") 1 ["self", "error"] (sp_Fitter_init K)) (G_Fitter_add : Md P w K mg base (He.ga K "Fitter") "add" 3 ["self", "point"] (sp_Fitter_add K)) (G_Fitter_conflict : Md P w K mg base (He.ga K "Fitter") "conflict" 2 ["self", "point"] (sp_Fitter_conflict K)) (G_Fitter_line : Md P w K mg base (He.ga K "Fitter") "line" 3 ["self"] (sp_Fitter_line K)) {f : Addr} {cdv : Value} {A : Around} {outer : List Env} {s : Shared} {H : Hp} {E : XK} (hr : Room 3 (A.deeper (envOfC "cut" (defScope s_cut) s.heap.objs.size f cdv))) : PSs (cxOf CX0 P w K mg base N_cut "cut" (defScope s_cut) f cdv A outer s H E).nox (defBody s_cut) (t_cut K) := by
  have sc := sc_cut
  exact (pss_cons (ps_set (i := 2) sc.nd rfl (by first | exact Or.inl rfl | exact Or.inr rfl) (pe_lst pa_nil))
    (pss_cons (ps_set (i := 3) sc.nd rfl (by first | exact Or.inl rfl | exact Or.inr rfl) (pe_lst pa_nil))
    (pss_cons (ps_set (i := 4) sc.nd rfl (by first | exact Or.inl rfl | exact Or.inr rfl) pe_int)
    (pss_cons (ps_set (i := 5) sc.nd rfl (by first | exact Or.inl rfl | exact Or.inr rfl) (pe_k G_Fitter_init (hr.mono (by decide)) (by rfl) (pa_cons (pv 1) pa_nil)))
    (pss_cons (ps_for PassesOwn.never rfl (pi_enum (by rfl) T.b_enumerate (pa_cons (pv 0) pa_nil)) (pg_tup rfl (pgs_cons (pg_name (i := 6) sc.nd rfl (by first | exact Or.inl rfl | exact Or.inr rfl)) (pgs_cons (pg_name (i := 7) sc.nd rfl (by first | exact Or.inl rfl | exact Or.inr rfl)) pgs_nil))) (pss_cons (ps_set (i := 8) sc.nd rfl (by first | exact Or.inl rfl | exact Or.inr rfl) (pe_m (pv 5) G_Fitter_conflict (hr.mono (by decide)) (pa_cons (pv 7) pa_nil)))
    (pss_cut (ps_if (pt_cmpR op_notN1 (pv 8) pe_non (nomark _)) (pss_cons (ps_expr (pe_bm PySem.F.plainAttrs_list PySem.F.slot_list_append PySem.F.type_list_append mt_append (pv 2) (pa_cons (pe_tup (pa_cons (pv 4) (pa_cons (pe_m0 (pv 5) G_Fitter_line (hr.mono (by decide))) pa_nil))) pa_nil)))
    (pss_cons (ps_expr (pe_bm PySem.F.plainAttrs_list PySem.F.slot_list_append PySem.F.type_list_append mt_append (pv 3) (pa_cons (pe_tup (pa_cons (pe_op opAdd (pv 4) (pe_ix ix_tup (pv 8) pe_int (fun _ _ => rfl))) (pa_cons (pe_op opAdd (pv 4) (pe_ix ix_tup (pv 8) pe_int (fun _ _ => rfl))) (pa_cons (pv 6) pa_nil)))) pa_nil)))
    (pss_cons (ps_set (i := 4) sc.nd rfl (by first | exact Or.inl rfl | exact Or.inr rfl) (pv 6))
    (pss_one (ps_set (i := 5) sc.nd rfl (by first | exact Or.inl rfl | exact Or.inr rfl) (pe_k G_Fitter_init (hr.mono (by decide)) (by rfl) (pa_cons (pv 1) pa_nil))))))) pss_nil)
    (pss_one (ps_expr (pe_m (pv 5) G_Fitter_add (hr.mono (by decide)) (pa_cons (pv 7) pa_nil)))))))
    (pss_cut (ps_if (pt_tru (pv 0) (by intro _; rfl)) (pss_one (ps_expr (pe_bm PySem.F.plainAttrs_list PySem.F.slot_list_append PySem.F.type_list_append mt_append (pv 2) (pa_cons (pe_tup (pa_cons (pv 4) (pa_cons (pe_m0 (pv 5) G_Fitter_line (hr.mono (by decide))) pa_nil))) pa_nil)))) pss_nil)
    (pss_one (ps_ret (pe_k G_Cutting_init (hr.mono (by decide)) (by rfl) (pa_cons (pv 2) (pa_cons (pv 3) pa_nil)))))))))))
theorem gd_cut (T : Tx K mg) (G_Cutting_init : Kd P w K mg base "Cutting" (He.ga K "Cutting") 1 ["self", "pieces", "reasons"] (sp_Cutting_init K)) (G_Fitter_init : Kd P w K mg base "Fitter" (He.ga K "Fitter") 1 ["self", "error"] (sp_Fitter_init K)) (G_Fitter_add : Md P w K mg base (He.ga K "Fitter") "add" 3 ["self", "point"] (sp_Fitter_add K)) (G_Fitter_conflict : Md P w K mg base (He.ga K "Fitter") "conflict" 2 ["self", "point"] (sp_Fitter_conflict K)) (G_Fitter_line : Md P w K mg base (He.ga K "Fitter") "line" 3 ["self"] (sp_Fitter_line K)) (len : ∀ vs H Q E, sp_cut K vs H Q E → vs.length = 2) (rd : ∀ vs H Q E, sp_cut K vs H Q E → t_cut K ⟨fun _ H' => Q .non H', Q, fun _ _ => False, fun _ _ => False⟩ (start N_cut vs) H) : Gd P w K mg base "cut" 4 ["points", "error"] (sp_cut K) := by
  obtain ⟨fd, F⟩ := T.f_cut
  exact ⟨_, fd, F.ok sc_cut len (fun cdv A outer s H vs Q E hr h => ⟨t_cut K, PSs.nox (der_cut T G_Cutting_init G_Fitter_init G_Fitter_add G_Fitter_conflict G_Fitter_line hr), rd vs H Q E h⟩), T.g_cut, F.kp, F.bindsN (fun _ _ _ _ _ _ us hl => match us, hl with | [_, _], _ => rfl)⟩
/-! are_starts -/
def N_are_starts : List Str := ["starts", "count", "k"]
theorem sc_are_starts : FnScope N_are_starts ["starts", "count"] (defScope s_are_starts) := ⟨rfl, rfl, rfl, by decide +kernel, rfl, by decide +kernel, by decide +kernel⟩
def t_are_starts (K : PySem.W.Frag) : TS :=
    (tSeq (tIfS (tOr (tNot (tTruth K (tVar 0))) (tOr (tTest (tOp rNe (tOp (rIxL K) (tVar 0) (tC (.int 0))) (tC (.int 0)))) (tTest (tOp oGe (tOp (rIxL K) (tVar 0) (tUn oNeg (tC (.int 1)))) (tVar 1))))) tNever tNext)
    (tRet (tCB (rAll K) (tCons (tLc (iRng2 (tCons (tC (.int 1)) (tCons (tCB (cLen K) (tCons (tVar 0) tNil)) tNil))) (gName 2) tYes (tOp oLt (tOp (rIxL K) (tVar 0) (tOp oSub (tVar 2) (tC (.int 1)))) (tOp (rIxL K) (tVar 0) (tVar 2))) [2]) tNil))))
theorem der_are_starts (T : Tx K mg)  {f : Addr} {cdv : Value} {A : Around} {outer : List Env} {s : Shared} {H : Hp} {E : XK} (hr : Room 0 (A.deeper (envOfC "are_starts" (defScope s_are_starts) s.heap.objs.size f cdv))) : PSs (cxOf CX0 P w K mg base N_are_starts "are_starts" (defScope s_are_starts) f cdv A outer s H E).nox (defBody s_are_starts) (t_are_starts K) := by
  have sc := sc_are_starts
  exact (pss_cons (ps_if (PW.pt (pw_or (pt_not (pt_tru (pv 0) (by intro _; rfl))) (pw_or (pt_cmpR op_ne (pe_ix ix_list (pv 0) pe_int (fun _ _ => rfl)) pe_int (nomark _)) (pw_or1 (pt_cmpR opGe (pe_ix ix_list (pv 0) (pe_un opNeg pe_int) (fun _ _ => rfl)) (pv 1) (nomark _)))))) (pss_one ps_never) pss_nil)
    (pss_one (ps_ret (pe_callB (cr_all rfl) (by rfl) T.b_all (by decide +kernel) (pa_cons (pe_lc (own := [("k", 2)]) rfl sc.nd (pi_range2 (by rfl) T.b_range (pa_cons pe_int (pa_cons (pe_callB call_len' (by rfl) T.b_len (by decide +kernel) (pa_cons (pv 0) pa_nil)) pa_nil))) (blkOk_by (own := [("k", 2)]) (N := N_are_starts) (sc := defScope s_are_starts) (by decide +kernel)) (fun _ _ _ _ _ => (pg_name (i := 2) sc.nd rfl (by first | exact Or.inl rfl | exact Or.inr rfl))) (fun _ _ _ _ _ => pts_nil) (fun _ _ _ _ _ => (pe_cmpR opLt (pe_ix ix_list (pv 0) (pe_op opSub (pv 2) pe_int) (fun _ _ => rfl)) (pe_ix ix_list (pv 0) (pv 2) (fun _ _ => rfl)) (nomark _)))) pa_nil)))))
theorem gd_are_starts (T : Tx K mg)  (len : ∀ vs H Q E, sp_are_starts K vs H Q E → vs.length = 2) (rd : ∀ vs H Q E, sp_are_starts K vs H Q E → t_are_starts K ⟨fun _ H' => Q .non H', Q, fun _ _ => False, fun _ _ => False⟩ (start N_are_starts vs) H) : Gd P w K mg base "are_starts" 1 ["starts", "count"] (sp_are_starts K) := by
  obtain ⟨fd, F⟩ := T.f_are_starts
  exact ⟨_, fd, F.ok sc_are_starts len (fun cdv A outer s H vs Q E hr h => ⟨t_are_starts K, PSs.nox (der_are_starts T  hr), rd vs H Q E h⟩), T.g_are_starts, F.kp, F.bindsN (fun _ _ _ _ _ _ us hl => match us, hl with | [_, _], _ => rfl)⟩
/-! is_reason -/
def N_is_reason : List Str := ["points", "error", "indexes", "least", "most", "first", "second", "third"]
theorem sc_is_reason : FnScope N_is_reason ["points", "error", "indexes", "least", "most"] (defScope s_is_reason) := ⟨rfl, rfl, rfl, by decide +kernel, rfl, by decide +kernel, by decide +kernel⟩
def t_is_reason (K : PySem.W.Frag) : TS :=
    (tSeq (tAsg (tVar 2) (gTup K 3 (gCons (gName 5) (gCons (gName 6) (gCons (gName 7) gNil)))))
    (tSeq (tIfS (tNot (tChT (tVar 3) (tChC oLe (tVar 5) (tChC oLt (tVar 6) (tChC oLt (tVar 7) (tChL oLe (tVar 4))))))) tNever tNext)
    (tRet (tNotV (tG (sp_three_fit K) (tCons (tOp (rIxL K) (tVar 0) (tVar 5)) (tCons (tOp (rIxL K) (tVar 0) (tVar 6)) (tCons (tOp (rIxL K) (tVar 0) (tVar 7)) (tCons (tVar 1) tNil)))))))))
theorem der_is_reason (T : Tx K mg) (G_three_fit : Gd P w K mg base "three_fit" 1 ["one", "two", "three", "error"] (sp_three_fit K)) {f : Addr} {cdv : Value} {A : Around} {outer : List Env} {s : Shared} {H : Hp} {E : XK} (hr : Room 1 (A.deeper (envOfC "is_reason" (defScope s_is_reason) s.heap.objs.size f cdv))) : PSs (cxOf CX0 P w K mg base N_is_reason "is_reason" (defScope s_is_reason) f cdv A outer s H E).nox (defBody s_is_reason) (t_is_reason K) := by
  have sc := sc_is_reason
  exact (pss_cons (ps_asg (pv 2) (pg_tup rfl (pgs_cons (pg_name (i := 5) sc.nd rfl (by first | exact Or.inl rfl | exact Or.inr rfl)) (pgs_cons (pg_name (i := 6) sc.nd rfl (by first | exact Or.inl rfl | exact Or.inr rfl)) (pgs_cons (pg_name (i := 7) sc.nd rfl (by first | exact Or.inl rfl | exact Or.inr rfl)) pgs_nil)))))
    (pss_cons (ps_if (pt_not (pt_ch (pv 3) (pch_cons opLe (pv 5) (pch_cons opLt (pv 6) (pch_cons opLt (pv 7) (pch_one opLe (pv 4))))))) (pss_one ps_never) pss_nil)
    (pss_one (ps_ret (pe_not (pe_g G_three_fit (hr.mono (by decide)) (by rfl) (pa_cons (pe_ix ix_list (pv 0) (pv 5) (fun _ _ => rfl)) (pa_cons (pe_ix ix_list (pv 0) (pv 6) (fun _ _ => rfl)) (pa_cons (pe_ix ix_list (pv 0) (pv 7) (fun _ _ => rfl)) (pa_cons (pv 1) pa_nil))))))))))
theorem gd_is_reason (T : Tx K mg) (G_three_fit : Gd P w K mg base "three_fit" 1 ["one", "two", "three", "error"] (sp_three_fit K)) (len : ∀ vs H Q E, sp_is_reason K vs H Q E → vs.length = 5) (rd : ∀ vs H Q E, sp_is_reason K vs H Q E → t_is_reason K ⟨fun _ H' => Q .non H', Q, fun _ _ => False, fun _ _ => False⟩ (start N_is_reason vs) H) : Gd P w K mg base "is_reason" 2 ["points", "error", "indexes", "least", "most"] (sp_is_reason K) := by
  obtain ⟨fd, F⟩ := T.f_is_reason
  exact ⟨_, fd, F.ok sc_is_reason len (fun cdv A outer s H vs Q E hr h => ⟨t_is_reason K, PSs.nox (der_is_reason T G_three_fit hr), rd vs H Q E h⟩), T.g_is_reason, F.kp, F.bindsN (fun _ _ _ _ _ _ us hl => match us, hl with | [_, _, _, _, _], _ => rfl)⟩
/-! judge -/
def N_judge : List Str := ["points", "error", "cutting", "starts", "ends", "position", "piece", "line", "indexes", "start"]
theorem sc_judge : FnScope N_judge ["points", "error", "cutting"] (defScope s_judge) := ⟨rfl, rfl, rfl, by decide +kernel, rfl, by decide +kernel, by decide +kernel⟩
def t_judge (K : PySem.W.Frag) : TS :=
    (tSeq (tAsg (tLc (iList K (tFld K (tVar 2) "pieces")) (gTup K 2 (gCons (gName 9) (gCons (gName 7) gNil))) tYes (tVar 9) [9, 7]) (gName 3))
    (tSeq (tIfS (tNot (tTruth K (tVar 0))) tNever tNext)
    (tSeq (tIfS (tOr (tNot (tB (tG (sp_are_starts K) (tCons (tVar 3) (tCons (tCB (cLen K) (tCons (tVar 0) tNil)) tNil))))) (tTest (tOp rNe (tCB (cLen K) (tCons (tFld K (tVar 2) "reasons") tNil)) (tOp oSub (tCB (cLen K) (tCons (tVar 3) tNil)) (tC (.int 1)))))) tNever tNext)
    (tSeq (tAsg (tOp oCat (tSl (rSlL K) (tVar 3) (tPart (tC (.int 1))) tNoPart) (tLst (tCons (tCB (cLen K) (tCons (tVar 0) tNil)) tNil))) (gName 4))
    (tSeq (tFor (iEnum K (tCons (tFld K (tVar 2) "pieces") tNil)) (gTup K 2 (gCons (gName 5) (gCons (gName 6) gNil))) (tSeq (tAsg (tOp (rIxT K) (tVar 6) (tC (.int 1))) (gName 7))
    (tIfS (tOr (tTest (tOp oLt (tOp (rIxT K) (tVar 7) (tC (.int 2))) (tC (.int 1)))) (tNot (tB (tG (sp_line_fits K) (tCons (tVar 7) (tCons (tSl (rSlL K) (tVar 0) (tPart (tOp (rIxT K) (tVar 6) (tC (.int 0)))) (tPart (tOp (rIxL K) (tVar 4) (tVar 5)))) (tCons (tVar 1) tNil))))))) tNever tNext)))
    (tSeq (tFor (iEnum K (tCons (tFld K (tVar 2) "reasons") tNil)) (gTup K 2 (gCons (gName 5) (gCons (gName 8) gNil))) (tIfS (tNot (tB (tG (sp_is_reason K) (tCons (tVar 0) (tCons (tVar 1) (tCons (tVar 8) (tCons (tOp (rIxL K) (tVar 3) (tVar 5)) (tCons (tOp (rIxL K) (tVar 3) (tOp oAdd (tVar 5) (tC (.int 1)))) tNil)))))))) tNever tNext))
    (tRet (tC (.bl true)))))))))
theorem der_judge (T : Tx K mg) (G_are_starts : Gd P w K mg base "are_starts" 1 ["starts", "count"] (sp_are_starts K)) (G_is_reason : Gd P w K mg base "is_reason" 2 ["points", "error", "indexes", "least", "most"] (sp_is_reason K)) (G_line_fits : Gd P w K mg base "line_fits" 2 ["line", "points", "error"] (sp_line_fits K)) {f : Addr} {cdv : Value} {A : Around} {outer : List Env} {s : Shared} {H : Hp} {E : XK} (hr : Room 2 (A.deeper (envOfC "judge" (defScope s_judge) s.heap.objs.size f cdv))) : PSs (cxOf CX0 P w K mg base N_judge "judge" (defScope s_judge) f cdv A outer s H E).nox (defBody s_judge) (t_judge K) := by
  have sc := sc_judge
  exact (pss_cons (ps_setLc (i := 3) (own := [("start", 9), ("line", 7)]) rfl sc.nd rfl rfl (sw_true rfl rfl rfl (by decide +kernel)) (pi_list (pe_fld (pv 2) rfl)) (blkOk_by (own := [("start", 9), ("line", 7)]) (N := N_judge) (sc := defScope s_judge) (by decide +kernel)) (fun _ _ _ _ _ => (pg_tup rfl (pgs_cons (pg_name (i := 9) sc.nd rfl (by first | exact Or.inl rfl | exact Or.inr rfl)) (pgs_cons (pg_name (i := 7) sc.nd rfl (by first | exact Or.inl rfl | exact Or.inr rfl)) pgs_nil)))) (fun _ _ _ _ _ => pts_nil) (fun _ _ _ _ _ => (pv 9)))
    (pss_cons (ps_if (pt_not (pt_tru (pv 0) (by intro _; rfl))) (pss_one ps_never) pss_nil)
    (pss_cons (ps_if (PW.pt (pw_or (pt_not (pt_val (pe_g G_are_starts (hr.mono (by decide)) (by rfl) (pa_cons (pv 3) (pa_cons (pe_callB call_len' (by rfl) T.b_len (by decide +kernel) (pa_cons (pv 0) pa_nil)) pa_nil))))) (pw_or1 (pt_cmpR op_ne (pe_callB call_len' (by rfl) T.b_len (by decide +kernel) (pa_cons (pe_fld (pv 2) rfl) pa_nil)) (pe_op opSub (pe_callB call_len' (by rfl) T.b_len (by decide +kernel) (pa_cons (pv 3) pa_nil)) pe_int) (nomark _))))) (pss_one ps_never) pss_nil)
    (pss_cons (ps_set (i := 4) sc.nd rfl (by first | exact Or.inl rfl | exact Or.inr rfl) (pe_op opCat (pe_slice sl_list (pv 3) (po_some pe_int) po_none) (pe_lst (pa_cons (pe_callB call_len' (by rfl) T.b_len (by decide +kernel) (pa_cons (pv 0) pa_nil)) pa_nil))))
    (pss_cons (ps_for PassesOwn.never rfl (pi_enum (by rfl) T.b_enumerate (pa_cons (pe_fld (pv 2) rfl) pa_nil)) (pg_tup rfl (pgs_cons (pg_name (i := 5) sc.nd rfl (by first | exact Or.inl rfl | exact Or.inr rfl)) (pgs_cons (pg_name (i := 6) sc.nd rfl (by first | exact Or.inl rfl | exact Or.inr rfl)) pgs_nil))) (pss_cons (ps_set (i := 7) sc.nd rfl (by first | exact Or.inl rfl | exact Or.inr rfl) (pe_ix ix_tup (pv 6) pe_int (fun _ _ => rfl)))
    (pss_one (ps_if (PW.pt (pw_or (pt_cmpR opLt (pe_ix ix_tup (pv 7) pe_int (fun _ _ => rfl)) pe_int (nomark _)) (pw_or1 (pt_not (pt_val (pe_g G_line_fits (hr.mono (by decide)) (by rfl) (pa_cons (pv 7) (pa_cons (pe_slice sl_list (pv 0) (po_some (pe_ix ix_tup (pv 6) pe_int (fun _ _ => rfl))) (po_some (pe_ix ix_list (pv 4) (pv 5) (fun _ _ => rfl)))) (pa_cons (pv 1) pa_nil))))))))) (pss_one ps_never) pss_nil))))
    (pss_cons (ps_for PassesOwn.never rfl (pi_enum (by rfl) T.b_enumerate (pa_cons (pe_fld (pv 2) rfl) pa_nil)) (pg_tup rfl (pgs_cons (pg_name (i := 5) sc.nd rfl (by first | exact Or.inl rfl | exact Or.inr rfl)) (pgs_cons (pg_name (i := 8) sc.nd rfl (by first | exact Or.inl rfl | exact Or.inr rfl)) pgs_nil))) (pss_one (ps_if (pt_not (pt_val (pe_g G_is_reason (hr.mono (by decide)) (by rfl) (pa_cons (pv 0) (pa_cons (pv 1) (pa_cons (pv 8) (pa_cons (pe_ix ix_list (pv 3) (pv 5) (fun _ _ => rfl)) (pa_cons (pe_ix ix_list (pv 3) (pe_op opAdd (pv 5) pe_int) (fun _ _ => rfl)) pa_nil)))))))) (pss_one ps_never) pss_nil)))
    (pss_one (ps_ret pe_bl))))))))
theorem gd_judge (T : Tx K mg) (G_are_starts : Gd P w K mg base "are_starts" 1 ["starts", "count"] (sp_are_starts K)) (G_is_reason : Gd P w K mg base "is_reason" 2 ["points", "error", "indexes", "least", "most"] (sp_is_reason K)) (G_line_fits : Gd P w K mg base "line_fits" 2 ["line", "points", "error"] (sp_line_fits K)) (len : ∀ vs H Q E, sp_judge K vs H Q E → vs.length = 3) (rd : ∀ vs H Q E, sp_judge K vs H Q E → t_judge K ⟨fun _ H' => Q .non H', Q, fun _ _ => False, fun _ _ => False⟩ (start N_judge vs) H) : Gd P w K mg base "judge" 3 ["points", "error", "cutting"] (sp_judge K) := by
  obtain ⟨fd, F⟩ := T.f_judge
  exact ⟨_, fd, F.ok sc_judge len (fun cdv A outer s H vs Q E hr h => ⟨t_judge K, PSs.nox (der_judge T G_are_starts G_is_reason G_line_fits hr), rd vs H Q E h⟩), T.g_judge, F.kp, F.bindsN (fun _ _ _ _ _ _ us hl => match us, hl with | [_, _, _], _ => rfl)⟩
end
def IntsAt (H : Hp) (a : Addr) (ns : List Int) : Prop := H a = some (.lst (ns.map V.int))
/-! ### coded.py -/
def CodedAt (K : PySem.W.Frag) (H : Hp) (p : Addr) (pcs : List Pc) (cors : List Int) : Prop := ∃ dx lp lc, H p = some (.ins (He.ga K "Coded") dx (flds2 "pieces" "corrections" lp lc)) ∧ LsR PcR H lp pcs ∧ IntsAt H lc cors
def DOk (pcs : List Pc) : Prop := 0 < pcs.length ∧ pcs.length ≤ 10000 ∧ ∀ (k : Nat) (q : Pc), pcs[k]? = some q → 1 ≤ q.2.2.2 ∧ q.2.2.2 ≤ 2000000
def sp_Coded_line_at (K : PySem.W.Frag) : Sp := fun vs H Q _ => ∃ (p : Addr) (pcs : List Pc) (cors : List Int) (i : Int), vs = [.ref p, .int i] ∧ CodedAt K H p pcs cors ∧ DOk pcs ∧
  ∀ b : Addr, H b = some (.tup [.int (lineOf pcs i).1, .int (lineOf pcs i).2.1, .int (lineOf pcs i).2.2]) → Q (.ref b) H
def sp_Coded_value_at (K : PySem.W.Frag) : Sp := fun vs H Q _ => ∃ (p : Addr) (pcs : List Pc) (cors : List Int) (i : Nat) (c : Int), vs = [.ref p, .int (i : Int)] ∧ CodedAt K H p pcs cors ∧ DOk pcs ∧ cors[i]? = some c ∧ i ≤ 10000 ∧ Q (.int (floorOf pcs (i : Int) + c)) H
/-- the corrections of the values ns -/
def CorOk (pcs : List Pc) (cors ns : List Int) : Prop := cors.length = ns.length ∧ ∀ (i : Nat) (c z : Int), cors[i]? = some c → ns[i]? = some z → c = z - floorOf pcs (i : Int)
def sp_Coded_decoded (K : PySem.W.Frag) : Sp := fun vs H Q _ => ∃ (p : Addr) (pcs : List Pc) (cors ns : List Int), vs = [.ref p] ∧ CodedAt K H p pcs cors ∧ DOk pcs ∧ CorOk pcs cors ns ∧ ns.length ≤ 10000 ∧ ∀ (r : Addr) (H' : Hp), Same H H' → IntsAt H' r ns → Q (.ref r) H'
def sp_Coded_init (K : PySem.W.Frag) : Sp := fun vs H Q _ => ∃ (p a : Addr) (e : Int) (ns : List Int), vs = [.ref p, .ref a, .int e] ∧ (∃ dx, H p = some (.ins (He.ga K "Coded") dx [])) ∧ IntsAt H a ns ∧ 0 < ns.length ∧ ns.length ≤ 10000 ∧ 0 ≤ e ∧
  ∀ (H' : Hp) (pcs : List Pc) (cors : List Int), CodedAt K H' p pcs cors → DOk pcs → CorOk pcs cors ns → Frm [p] H H' → Q .non H'
/-! ### flat.py -/
def sp_flat_cut (K : PySem.W.Frag) : Sp := fun vs H Q _ => ∃ (a : Addr) (e : Int) (ns : List Int), vs = [.ref a, .int e] ∧ IntsAt H a ns ∧ 0 < ns.length ∧ ns.length ≤ 10000 ∧ 0 ≤ e ∧
  ∀ (c : Addr) (H' : Hp) (pcs rs : List Pt), Same H H' → CutAt (He.ga K "FlatCutting") PtR PtR H' c pcs rs → FlatR e (vOf ns) ns.length pcs rs → Q (.ref c) H'
def sp_is_flat (K : PySem.W.Frag) : Sp := fun vs H Q _ => ∃ (a : Addr) (h e : Int) (ns : List Int), vs = [.ref a, .int h, .int e] ∧ IntsAt H a ns ∧ ns.length ≤ 10000 ∧ (∀ z, z ∈ ns → ((z - h).natAbs : Int) ≤ e) ∧ ∀ H', Same H H' → Q (.bl true) H'
def sp_is_flat_reason (K : PySem.W.Frag) : Sp := fun vs H Q _ => ∃ (a r : Addr) (e s t : Int) (ns : List Int) (w : Pt), vs = [.ref a, .int e, .ref r, .int s, .int t] ∧ IntsAt H a ns ∧ H r = some (.tup [.int w.1, .int w.2]) ∧ RsF e (vOf ns) w s t ∧ 0 ≤ s ∧ t < (ns.length : Int) ∧ Q (.bl true) H
def sp_judge_flat (K : PySem.W.Frag) : Sp := fun vs H Q _ => ∃ (a c : Addr) (e : Int) (ns : List Int) (pcs rs : List Pt), vs = [.ref a, .int e, .ref c] ∧ IntsAt H a ns ∧ 0 < ns.length ∧ ns.length ≤ 10000 ∧ CutAt (He.ga K "FlatCutting") PtR PtR H c pcs rs ∧ FlatR e (vOf ns) ns.length pcs rs ∧
  ∀ H', Same H H' → Q (.bl true) H'
/-! ### spans.py -/
def sp_three_meet (K : PySem.W.Frag) : Sp := fun vs H Q _ => ∃ (a b c : Addr) (p1 p2 p3 : Tr), vs = [.ref a, .ref b, .ref c] ∧ H a = some (.tup [.int p1.1, .int p1.2.1, .int p1.2.2]) ∧ H b = some (.tup [.int p2.1, .int p2.2.1, .int p2.2.2]) ∧ H c = some (.tup [.int p3.1, .int p3.2.1, .int p3.2.2]) ∧
  Bd p1.1 ∧ Bd p2.1 ∧ Bd p3.1 ∧ (Meet3 p1 p2 p3 → Q (.bl true) H) ∧ (¬ Meet3 p1 p2 p3 → Q (.bl false) H)
def sp_meets (K : PySem.W.Frag) : Sp := fun vs H Q _ => ∃ (a b : Addr) (l s : Tr), vs = [.ref a, .ref b] ∧ H a = some (.tup [.int l.1, .int l.2.1, .int l.2.2]) ∧ H b = some (.tup [.int s.1, .int s.2.1, .int s.2.2]) ∧ Bd s.1 ∧ 1 ≤ l.2.2 ∧ l.2.2 ≤ 2000000 ∧
  s.2.1 * l.2.2 ≤ l.1 * s.1 + l.2.1 ∧ l.1 * s.1 + l.2.1 ≤ s.2.2 * l.2.2 ∧ Q (.bl true) H
/-- the bounds of n spans: none, or the two extreme slopes -/
def BndR (X lo hi : Nat → Int) (n : Nat) (H : Hp) (v : V) : Prop := ∃ t, v = .ref t ∧ ((n < 2 ∧ H t = some (.tup [.non, .non])) ∨
  (2 ≤ n ∧ ∃ (r1 r2 : Addr) (a b c d : Nat), H t = some (.tup [.ref r1, .ref r2]) ∧ H r1 = some (.tup [.int (lo b - hi a), .int (X b - X a)]) ∧ H r2 = some (.tup [.int (hi d - lo c), .int (X d - X c)]) ∧ FlatOK X lo hi n a b ∧ SteepOK X lo hi n c d))
theorem BndR.mono {X lo hi : Nat → Int} {n : Nat} {H H' : Hp} (t : Tp H H') {v : V} (h : BndR X lo hi n H v) : BndR X lo hi n H' v := by
  obtain ⟨a, e, h⟩ := h
  refine ⟨a, e, ?_⟩
  rcases h with ⟨h1, h2⟩ | ⟨h1, r1, r2, x, y, z, w, h2, h3, h4, h5⟩
  · exact .inl ⟨h1, t _ _ h2⟩
  · exact .inr ⟨h1, r1, r2, x, y, z, w, t _ _ h2, t _ _ h3, t _ _ h4, h5⟩
/-- the spans from s on, n of them -/
def spansOf (X lo hi : Nat → Int) (n : Nat) : List Tr := (List.range n).map fun i => (X i, lo i, hi i)
def sp_bounds_with (K : PySem.W.Frag) : Sp := fun vs H Q _ => ∃ (a s : Addr) (vb : V) (X lo hi : Nat → Int) (n : Nat), vs = [.ref a, vb, .ref s] ∧ LsR TrR H a (spansOf X lo hi n) ∧ BndR X lo hi n H vb ∧ H s = some (.tup [.int (X n), .int (lo n), .int (hi n)]) ∧ AscN X (n + 1) ∧ (∀ i, i ≤ n → Bd (X i)) ∧ n ≤ 10000 ∧
  ∀ (v : V) (H' : Hp), Same H H' → BndR X lo hi (n + 1) H' v → Q v H'
def sp_line_through (K : PySem.W.Frag) : Sp := fun vs H Q _ => ∃ (a : Addr) (vb : V) (X lo hi : Nat → Int) (n : Nat), vs = [.ref a, vb] ∧ LsR TrR H a (spansOf X lo hi n) ∧ BndR X lo hi n H vb ∧ AscN X n ∧ (∀ i, i < n → Bd (X i)) ∧ (∀ i, i < n → lo i ≤ hi i) ∧ 0 < n ∧ n ≤ 10000 ∧ FitN X lo hi n ∧
  ∀ (l : Tr) (r : Addr) (H' : Hp), Same H H' → H' r = some (.tup [.int l.1, .int l.2.1, .int l.2.2]) → 1 ≤ l.2.2 → l.2.2 ≤ 2000000 → (∀ i, i < n → LnS X lo hi l i) → Q (.ref r) H'
def sp_reason_with (K : PySem.W.Frag) : Sp := fun vs H Q _ => ∃ (a : Addr) (sp : List Tr) (s p : Nat), vs = [.ref a, .int (s : Int), .int (p : Int)] ∧ LsR TrR H a sp ∧ SpOk sp ∧ s ≤ p ∧ p < sp.length ∧
  (∃ i j, s ≤ i ∧ i < j ∧ j < p ∧ ¬ Meet3 (sx sp i, sl sp i, sh sp i) (sx sp j, sl sp j, sh sp j) (sx sp p, sl sp p, sh sp p)) ∧
  ∀ (i j : Nat) (r : Addr) (H' : Hp), s ≤ i → i < j → j < p → ¬ Meet3 (sx sp i, sl sp i, sh sp i) (sx sp j, sl sp j, sh sp j) (sx sp p, sl sp p, sh sp p) → Same H H' → H' r = some (.tup [.int (i : Int), .int (j : Int), .int (p : Int)]) → Q (.ref r) H'
def sp_span_cut (K : PySem.W.Frag) : Sp := fun vs H Q _ => ∃ (a : Addr) (sp : List Tr), vs = [.ref a] ∧ LsR TrR H a sp ∧ SpOk sp ∧
  ∀ (c : Addr) (H' : Hp) (pcs : List Pc) (rs : List Tr), Same H H' → CutAt (He.ga K "SpanCutting") PcR TrR H' c pcs rs → SpanR (sx sp) (sl sp) (sh sp) sp.length pcs rs → Q (.ref c) H'
def sp_is_span_piece (K : PySem.W.Frag) : Sp := fun vs H Q _ => ∃ (l a : Addr) (t : Tr) (sp : List Tr), vs = [.ref l, .ref a] ∧ H l = some (.tup [.int t.1, .int t.2.1, .int t.2.2]) ∧ LsR TrR H a sp ∧ sp.length ≤ 10000 ∧ 1 ≤ t.2.2 ∧ t.2.2 ≤ 2000000 ∧
  (∀ (i : Nat) (s : Tr), sp[i]? = some s → Bd s.1 ∧ s.2.1 * t.2.2 ≤ t.1 * s.1 + t.2.1 ∧ t.1 * s.1 + t.2.1 ≤ s.2.2 * t.2.2) ∧ ∀ H', Same H H' → Q (.bl true) H'
def sp_is_span_reason (K : PySem.W.Frag) : Sp := fun vs H Q _ => ∃ (a r : Addr) (s t : Int) (sp : List Tr) (w : Tr), vs = [.ref a, .ref r, .int s, .int t] ∧ LsR TrR H a sp ∧ SpOk sp ∧ H r = some (.tup [.int w.1, .int w.2.1, .int w.2.2]) ∧ RsS (sx sp) (sl sp) (sh sp) w s t ∧ 0 ≤ s ∧ t < (sp.length : Int) ∧ Q (.bl true) H
def sp_judge_spans (K : PySem.W.Frag) : Sp := fun vs H Q _ => ∃ (a c : Addr) (sp : List Tr) (pcs : List Pc) (rs : List Tr), vs = [.ref a, .ref c] ∧ LsR TrR H a sp ∧ SpOk sp ∧ CutAt (He.ga K "SpanCutting") PcR TrR H c pcs rs ∧ SpanR (sx sp) (sl sp) (sh sp) sp.length pcs rs ∧
  ∀ H', Same H H' → Q (.bl true) H'
/-! ### index.py -/
structure LvD where
  marks : List Int
  err : Int
  pcs : List Pc
def lvF (la : Addr) (e : Int) (lp : Addr) : List (Str × V) := [("marks", .ref la), ("error", .int e), ("pieces", .ref lp)]
def LvAt (K : PySem.W.Frag) (H : Hp) (v : V) (d : LvD) : Prop := ∃ p dx la lp, v = .ref p ∧ H p = some (.ins (He.ga K "Level") dx (lvF la d.err lp)) ∧ IntsAt H la d.marks ∧ LsR PcR H lp d.pcs
structure MarksOk (ms : List Int) : Prop where
  asc : AscN (vOf ms) ms.length
  bd : ∀ i, i < ms.length → Bd (vOf ms i)
  len : ms.length ≤ 10000
  pos : 0 < ms.length
structure LvOk (d : LvD) : Prop where
  mo : MarksOk d.marks
  e0 : 0 ≤ d.err
  e1 : d.err ≤ 30
  cut : ∃ rs, CutR d.err (px (keyRows d.marks)) (py (keyRows d.marks)) d.marks.length d.pcs rs
def sp_Level_init (K : PySem.W.Frag) : Sp := fun vs H Q _ => ∃ (p a : Addr) (e : Int) (ms : List Int), vs = [.ref p, .ref a, .int e] ∧ (∃ dx, H p = some (.ins (He.ga K "Level") dx [])) ∧ IntsAt H a ms ∧ MarksOk ms ∧ 0 ≤ e ∧ e ≤ 30 ∧
  ∀ (H' : Hp) (pcs : List Pc), LvAt K H' (.ref p) ⟨ms, e, pcs⟩ → LvOk ⟨ms, e, pcs⟩ → Frm [p] H H' → Tp H H' → Q .non H'
def sp_Level_end_of (K : PySem.W.Frag) : Sp := fun vs H Q _ => ∃ (p : Addr) (d : LvD) (k : Nat), vs = [.ref p, .int (k : Int)] ∧ LvAt K H (.ref p) d ∧ k < d.pcs.length ∧ Q (.int (nxt d.pcs (d.marks.length : Int) k)) H
/-- a look -/
def sp_Level_find (K : PySem.W.Frag) : Sp := fun vs H Q _ => ∃ (H0 : Hp) (p lk : Addr) (d : LvD) (k : Nat) (x dep : Int) (ws : List V), vs = [.ref p, .int (k : Int), .int x, .int dep, .ref lk] ∧ LvAt K H0 (.ref p) d ∧ Same H0 H ∧ H0 lk = none ∧ LvOk d ∧ k < d.pcs.length ∧ Bd x ∧
  (∀ q, d.pcs[k]? = some q → vOf d.marks q.1.toNat ≤ x) ∧ H lk = some (.lst ws) ∧ ws.length ≤ 70000 ∧
  ∀ (t : Nat) (H' : Hp) (us : List V) (ps : List Int), (∀ q, d.pcs[k]? = some q → q.1 ≤ (t : Int)) → (t : Int) < nxt d.pcs (d.marks.length : Int) k → vOf d.marks t ≤ x → ((t : Int) + 1 < nxt d.pcs (d.marks.length : Int) k → x < vOf d.marks (t + 1)) →
    H' lk = some (.lst (ws ++ us)) → LR (PtR H') us (ps.map fun z => (dep, z)) → (∀ z, z ∈ ps → 0 ≤ z ∧ z < (d.marks.length : Int)) → (∀ L : Nat, 2 * d.err + 2 < 2 ^ L → ps.length ≤ L) → Same H0 H' → Tp H H' → Q (.int (t : Int)) H'
def IxAt (K : PySem.W.Frag) (H : Hp) (p : Addr) (stored : List Int) (lvs : List LvD) : Prop := ∃ dx ls ll, H p = some (.ins (He.ga K "Index") dx [("stored", .ref ls), ("_levels", .ref ll)]) ∧ IntsAt H ls stored ∧ LsR (LvAt K) H ll lvs
structure IxOk (stored : List Int) (e u : Int) (lvs : List LvD) : Prop where
  first : ∀ d, lvs[0]? = some d → d.marks = stored ∧ d.err = e
  more : ∀ (k : Nat) (d d' : LvD), lvs[k]? = some d → lvs[k + 1]? = some d' → d'.err = u ∧ d'.marks.length = d.pcs.length ∧ ∀ (j : Nat) (q : Pc), d.pcs[j]? = some q → vOf d'.marks j = vOf d.marks q.1.toNat
  ok : ∀ (k : Nat) (d : LvD), lvs[k]? = some d → LvOk d
  top : ∀ d, lvs[lvs.length - 1]? = some d → d.pcs.length = 1
  pos : 0 < lvs.length
  len : lvs.length ≤ 10000
def sp_Index_init (K : PySem.W.Frag) : Sp := fun vs H Q _ => ∃ (p a : Addr) (e u : Int) (ms : List Int), vs = [.ref p, .ref a, .int e, .int u] ∧ (∃ dx, H p = some (.ins (He.ga K "Index") dx [])) ∧ IntsAt H a ms ∧ MarksOk ms ∧ 0 ≤ e ∧ e ≤ 30 ∧ 0 ≤ u ∧ u ≤ 30 ∧
  ∀ (H' : Hp) (lvs : List LvD), IxAt K H' p ms lvs → IxOk ms e u lvs → Frm [p] H H' → Q .non H'
/-- the keys of a level, as a list -/
def KeysR (H : Hp) (v : V) (ms : List Int) : Prop := ∃ a, v = .ref a ∧ IntsAt H a ms
def sp_Index_level_keys (K : PySem.W.Frag) : Sp := fun vs H Q _ => ∃ (p : Addr) (stored : List Int) (lvs : List LvD), vs = [.ref p] ∧ IxAt K H p stored lvs ∧ lvs.length ≤ 10000 ∧ ∀ (r : Addr) (H' : Hp), Same H H' → LsR KeysR H' r (lvs.map (·.marks)) → Q (.ref r) H'
/-- looks as they may be: sz the levels' sizes, e u the errors -/
structure LooksOk (sz : List Nat) (e u : Int) (ls : List Pt) : Prop where
  inn : ∀ q, q ∈ ls → 0 ≤ q.1 ∧ q.1 < (sz.length : Int) ∧ 0 ≤ q.2 ∧ ∀ s : Nat, sz[q.1.toNat]? = some s → q.2 < (s : Int)
  desc : ls.Pairwise fun a b => b.1 ≤ a.1
  few : ∀ (k : Nat), k < sz.length → ∀ L : Nat, 2 * (if k = 0 then e else u) + 2 < 2 ^ L → (ls.filter fun q => q.1 == (k : Int)).length ≤ L + (if k + 1 = sz.length then 1 else 0)
def sp_Index_look_up (K : PySem.W.Frag) : Sp := fun vs H Q _ => ∃ (p : Addr) (stored : List Int) (lvs : List LvD) (e u x : Int), vs = [.ref p, .int x] ∧ IxAt K H p stored lvs ∧ IxOk stored e u lvs ∧ Bd x ∧
  ∀ (r lk : Addr) (H' : Hp) (t : Nat) (ls : List Pt), Same H H' → H' r = some (.tup [.int (t : Int), .ref lk]) → LsR PtR H' lk ls → RankOf stored x t → LooksOk (lvs.map (·.marks.length)) e u ls → ls.length ≤ 70000 → (t = 0 → ls.length ≤ 1) → Q (.ref r) H'
/-! ### stream.py -/
def strF (e : Int) (n : Nat) (lc : Addr) (s : Nat) (pf : Addr) : List (Str × V) := [("error", .int e), ("length", .int (n : Int)), ("_closed", .ref lc), ("_start", .int (s : Int)), ("_fitter", .ref pf)]
def idX (i : Nat) : Int := (i : Int)
/-- a right list of pieces of the first n values, without reasons -/
structure PcsOk (e : Int) (Y : Nat → Int) (n : Nat) (pcs : List Pc) : Prop where
  ok : CutOk (LnP e idX Y) (RsP e idX Y) (n : Int) pcs []
  gr : ∃ cs s, Gr (SegP e idX Y) n cs s ∧ pcs.map (·.1) = intsOf (cs ++ [s])
  d : ∀ (k : Nat) (q : Pc), pcs[k]? = some q → 1 ≤ q.2.2.2 ∧ q.2.2.2 ≤ 2000000
structure StrAt (K : PySem.W.Frag) (H : Hp) (p : Addr) (fps : List Addr) (e : Int) (Y : Nat → Int) (n : Nat) : Prop where
  ex : ∃ (dx lc pf : Addr) (fp : List Addr) (s : Nat) (cs : List Nat) (pcs : List Pc), H p = some (.ins (He.ga K "Stream") dx (strF e n lc s pf)) ∧ LsR PcR H lc pcs ∧ FitAt K H pf fp e (fun k => idX (s + k)) (fun k => Y (s + k)) (n - s) ∧
    fps = p :: lc :: fp ∧ p ∉ fp ∧ lc ∉ fp ∧ Gr (SegP e idX Y) n cs s ∧ s ≤ n ∧ (0 < n → s < n) ∧ CutOk (LnP e idX Y) (RsP e idX Y) (s : Int) pcs [] ∧ pcs.map (·.1) = intsOf cs ∧ (pcs = [] → s = 0) ∧ pcs.length ≤ n ∧
    ∀ (k : Nat) (q : Pc), pcs[k]? = some q → 1 ≤ q.2.2.2 ∧ q.2.2.2 ≤ 2000000
def sp_Stream_init (K : PySem.W.Frag) : Sp := fun vs H Q _ => ∃ (p : Addr) (e : Int), vs = [.ref p, .int e] ∧ (∃ dx, H p = some (.ins (He.ga K "Stream") dx [])) ∧ 0 ≤ e ∧ ∀ (H' : Hp) (fps : List Addr), (∀ Y, StrAt K H' p fps e Y 0) → Frm [p] H H' → (∀ b, b ∈ fps → b = p ∨ H b = none) → Q .non H'
def sp_Stream_push (K : PySem.W.Frag) : Sp := fun vs H Q _ => ∃ (p : Addr) (fps : List Addr) (e : Int) (Y : Nat → Int) (n : Nat), vs = [.ref p, .int (Y n)] ∧ StrAt K H p fps e Y n ∧ 0 ≤ e ∧ n < 10000 ∧
  ∀ (v : V) (H' : Hp) (fps' : List Addr), StrAt K H' p fps' e Y (n + 1) → Frm fps H H' → (∀ b, b ∈ fps' → b ∈ fps ∨ H b = none) → Q v H'
def sp_Stream_pieces (K : PySem.W.Frag) : Sp := fun vs H Q _ => ∃ (p : Addr) (fps : List Addr) (e : Int) (Y : Nat → Int) (n : Nat), vs = [.ref p] ∧ StrAt K H p fps e Y n ∧ 0 < n ∧ n ≤ 10000 ∧ ∀ (r : Addr) (H' : Hp) (pcs : List Pc), Same H H' → LsR PcR H' r pcs → PcsOk e Y n pcs → Q (.ref r) H'
/-! ### the law's own -/
def sp_law_cell (K : PySem.W.Frag) : Sp := fun vs H Q _ => ∃ (a : Addr) (ns : List Int) (k : Nat), vs = [.ref a, .int (k : Int)] ∧ SqL K H a (ns.map V.int) ∧ ∀ z : Int, Q (.int z) H
def sp_law_digits (K : PySem.W.Frag) : Sp := fun vs H Q _ => ∃ (c m : Int) (n : Nat), vs = [.int c, .int m, .int (n : Int)] ∧ 0 < m ∧ m < 1000000 ∧ n ≤ 10000 ∧ ∀ (r : Addr) (H' : Hp) (ds : List Int), Same H H' → IntsAt H' r ds → ds.length = n → (∀ d, d ∈ ds → 0 ≤ d ∧ d < m) → Q (.ref r) H'
def sp_law_three (K : PySem.W.Frag) : Sp := sp_three_fit K
def sp_law_near (K : PySem.W.Frag) : Sp := sp_line_fits K
def sp_law_judged (K : PySem.W.Frag) : Sp := fun vs H Q _ => ∃ (a b c : Addr) (e : Int) (pts : List Pt) (pcs : List Pc) (rs : List Tr), vs = [.ref a, .int e, .ref b, .ref c] ∧ LsR PtR H a pts ∧ PtsOk pts ∧ LsR PcR H b pcs ∧ LsR TrR H c rs ∧
  CutOk (LnP e (px pts) (py pts)) (RsP e (px pts) (py pts)) (pts.length : Int) pcs rs ∧ rs.length + 1 = pcs.length ∧ (∀ (k : Nat) (q : Pc), pcs[k]? = some q → 1 ≤ q.2.2.2 ∧ q.2.2.2 ≤ 2000000) ∧ ∀ H', Same H H' → Q (.bl true) H'
def sp_law_digits_of (K : PySem.W.Frag) : Sp := fun vs H Q _ => ∃ z : Int, vs = [.int z] ∧ 0 ≤ z ∧ z < 2 ^ 50 ∧ ∀ L : Nat, z < 2 ^ L → Q (.int (L : Int)) H
def sp_law_looks_right (K : PySem.W.Frag) : Sp := fun vs H Q _ => ∃ (a b : Addr) (e u : Int) (bl : Bool) (ls : List Pt) (mss : List (List Int)), vs = [.ref a, .ref b, .int e, .int u, .bl bl] ∧ LsR PtR H a ls ∧ LsR KeysR H b mss ∧ LooksOk (mss.map (·.length)) e u ls ∧ ls.length ≤ 70000 ∧ (bl = true → ls.length ≤ 1) ∧ 0 < mss.length ∧ mss.length ≤ 10000 ∧
  0 ≤ e ∧ e ≤ 30 ∧ 0 ≤ u ∧ u ≤ 30 ∧ ∀ H', Same H H' → Q (.bl true) H'
def sp_law_curve (K : PySem.W.Frag) : Sp := fun vs H Q _ => ∃ (c : Int) (n : Nat), vs = [.int c, .int (n : Int)] ∧ 0 < n ∧ n ≤ 2000 ∧ ∀ (r : Addr) (H' : Hp) (pts : List Pt), Same H H' → LsR PtR H' r pts → PtsOk pts → pts.length = n → (∀ i, i < n → -20000 ≤ px pts i ∧ px pts i ≤ 20000) → Q (.ref r) H'
def sp_law_flat_starts (K : PySem.W.Frag) : Sp := fun vs H Q _ => ∃ (a : Addr) (e : Int) (ns : List Int), vs = [.ref a, .int e] ∧ IntsAt H a ns ∧ 0 < ns.length ∧ ns.length ≤ 10000 ∧ 0 ≤ e ∧ ∀ (r : Addr) (H' : Hp) (ss : List Int), Same H H' → IntsAt H' r ss → (∃ cs s, Gr (SegF e (vOf ns)) ns.length cs s ∧ ss = intsOf (cs ++ [s])) → Q (.ref r) H'
def sp_law (K : PySem.W.Frag) : Sp := fun vs H Q _ => ∃ (a : Addr) (ns : List Int), vs = [.ref a] ∧ SqL K H a (ns.map V.int) ∧ ns.length ≤ 63 ∧ ∀ H', Q (.bl true) H'
/-! ### list(enumerate(xs)) -/
theorem enum_no_len : typeLookup (.type "enumerate") "__len__" = pure none := by rw [typeLookup_type, builtinLookup_eq_fast]; kernel_rfl
theorem enum_no_hint : typeLookup (.type "enumerate") "__length_hint__" = pure none := by rw [typeLookup_type, builtinLookup_eq_fast]; kernel_rfl
/-- the enumerate object after i turns, T its first tuple -/
def EnSt (h : Heap) (H : Hp) (e it : Addr) (i : Nat) : Prop := (∃ old, i = 0 ∧ IsEnum h e it (i : Int) old) ∨
  ∃ old T f us, IsEnumHeld h e it (i : Int) old T f ∧ H T = some (.tup us)
theorem sqL_ext {K : PySem.W.Frag} {H H' : Hp} {a : Addr} {xs : List V} (h : SqL K H a xs) (e : Same H H') : SqL K H' a xs :=
  Or.elim h (fun h => .inl (Or.elim h (fun h => .inl (e _ _ h)) fun ⟨o, h⟩ => .inr ⟨o, e _ _ h⟩)) fun h => .inr h
section
variable {X : Cx} {pins : List (Addr × Obj)} {σ : L2.St} {H0 : Hp} {a e it q : Addr} {xs : List V} {A1 : Around} {Rs : Result → Shared → Prop}
/-- what is made so far -/
structure EnI (H0 : Hp) (q : Addr) (xs : List V) (i : Nat) (H : Hp) : Prop where
  sm : Same H0 H
  ls : ∃ ys, H q = some (.lst ys) ∧ ys.length = i ∧ ∀ (j : Nat) x, j < i → xs[j]? = some x → ∃ T, ys[j]? = some (.ref T) ∧ H T = some (.tup [.int (j : Int), x])
theorem enum_loop (hA : A1.in1.handled = none) (hne : e ≠ it) (hqa : SqL X.K H0 a xs) (hq0 : H0 q = none) (hxl : xs.length ≤ 100000)
    (hst : ∀ H, H e = none → H it = none → ∀ b ∈ [e, it], FpOk X pins H b) (hdone : ∀ H s, Inv X pins σ H s → EnI H0 q xs xs.length H → Rs (.ok (.ret .none)) s) :
    ∀ (k i : Nat) (H : Hp) (s : Shared), xs.length - i = k → i ≤ xs.length → Inv X pins σ H s → H e = none → H it = none → EnSt s.heap H e it i → s.heap.IsListIter it a i → EnI H0 q xs i H →
      codeAny (model X.prog X.w) A1 (.builtin "list.extend.loop" ⟨[.ref q, .ref e, .none], []⟩) Rs s := by
  intro k
  induction k with
  | zero =>
    intro i H s hk hi I hne0 hni0 he hit E
    have ei : i = xs.length := by omega
    subst ei
    refine codeAny_builtin PySem.F.entry_extend_loop ?_
    rw [Around.under_plainId PySem.F.plain_extend_loop _]
    show wpAny _ A1.in1 (pyNext (.ref e) >>= _) _ _ s
    obtain ⟨its, rv, p, hz⟩ := I.list (sqL_ext hqa E.sm)
    have hl := rv.length
    obtain ⟨f0, f1, f2, f3, f4, f5⟩ := hst H hne0 hni0 it (by simp)
    have fin : ∀ h', Heap.ExtBut it s.heap h' → wpAny (model X.prog X.w) A1.in1 (pure (Fin.done (Flow.ret .none))) (fun fin s' => match fin with | .done f => Rs (.ok f) s' | .again c' => c'.quiet = true ∧ codeAny (model X.prog X.w) A1 c' Rs s') (fun e s' => Rs (.error e) s') { s with heap := h' } := fun h' eb =>
      wpAny_pure (hdone H _ (I.turned (t' := s.toks) (fun b o hb z => eb b o hb z) f0 f1 f3 f4 f5) E)
    rcases he with ⟨old, _, he⟩ | ⟨old, T, f, u, he, hT⟩
    · exact wpAny_bind (wpAny_pyNext_enum_end hA he hit p.isList (by simp; omega) fun h' eb => fin h' eb)
    · exact wpAny_bind (wpAny_pyNext_enum_end_held hA he hit p.isList (by simp; omega) fun h' eb => fin h' eb)
  | succ k ih =>
    intro i H s hk hi I hne0 hni0 he hit E
    have hlt : i < xs.length := by omega
    refine codeAny_builtin PySem.F.entry_extend_loop ?_
    rw [Around.under_plainId PySem.F.plain_extend_loop _]
    show wpAny _ A1.in1 (pyNext (.ref e) >>= _) _ _ s
    obtain ⟨its, rv, p, hz⟩ := I.list (sqL_ext hqa E.sm)
    have hx : xs[i]? = some xs[i] := List.getElem?_eq_getElem hlt
    obtain ⟨u, hu, ru⟩ := rv.get hx
    have hil : it < s.heap.objs.size := by obtain ⟨_, q, _⟩ := hit; exact Heap.lt_size q
    obtain ⟨ys, hys, hyl, hyp⟩ := E.ls
    -- behind the turn
    have fin : ∀ (h' : Heap), e < s.heap.objs.size → (∃ old T f, IsEnumHeld h' e it ((i : Int) + 1) old T f ∧ ∃ us, upd H s.heap.objs.size (.tup [.int (i : Nat), xs[i]]) T = some (.tup us)) → h'.IsListIter it a (i + 1) →
        h'.get? s.heap.objs.size = some { cls := .type "tuple", data := .seq #[.int i s.toks, u] } → (∀ b o, b ≠ e → b ≠ it → s.heap.get? b = some o → h'.get? b = some o) →
        wpAny (model X.prog X.w) A1.in1 (updateSeq q (·.push (.ref s.heap.objs.size)) >>= fun _ => again (.builtin "list.extend.loop" ⟨[.ref q, .ref e, .none], []⟩)) (fun fin s' => match fin with | .done f => Rs (.ok f) s' | .again c' => c'.quiet = true ∧ codeAny (model X.prog X.w) A1 c' Rs s') (fun e s' => Rs (.error e) s') { s with heap := h', toks := s.toks + 1 } := by
      intro h' hel ho hit' hT hk2
      have new : ObjOk X.prog X.w (upd H s.heap.objs.size (.tup [.int (i : Nat), xs[i]])) h' s.heap.objs.size (.tup [.int (i : Nat), xs[i]]) :=
        ⟨by show 2 ≤ sizeLine; decide, [.int i s.toks, u], .cons ⟨_, rfl⟩ (.cons ru .nil), ⟨_, hT, rfl, _, rfl⟩⟩
      have I1 : Inv X pins σ (upd H s.heap.objs.size (.tup [.int (i : Nat), xs[i]])) { s with heap := h', toks := s.toks + 1 } :=
        I.turnedNew (ch := [e, it]) (fun b ob hb q => hk2 b ob (fun z => hb (by simp [z])) (fun z => hb (by simp [z])) q) (hst H hne0 hni0) (Nat.le_refl _) new
      have nT : H s.heap.objs.size = none := I.hok.fresh (Nat.le_refl _)
      have s1 : Same H (upd H s.heap.objs.size (.tup [.int (i : Nat), xs[i]])) := same_new nT
      generalize hH1 : upd H s.heap.objs.size (.tup [.int (i : Nat), xs[i]]) = H1 at I1 s1 ho
      have hT1 : H1 s.heap.objs.size = some (.tup [.int (i : Nat), xs[i]]) := by rw [← hH1]; exact upd_same
      have ne1 : H1 e = none := by rw [← hH1, upd_ne (Nat.ne_of_lt hel)]; exact hne0
      have ni1 : H1 it = none := by rw [← hH1, upd_ne (Nat.ne_of_lt hil)]; exact hni0
      have hq1 := s1 _ _ hys
      obtain ⟨z, its2, m, r2, hl2, e2⟩ := I1.lstM hq1
      have hqe : q ≠ e := fun z => by rw [z, hne0] at hys; cases hys
      have hqi : q ≠ it := fun z => by rw [z, hni0] at hys; cases hys
      have I2 := I1.lset (its' := its2 ++ [.ref s.heap.objs.size]) (f := (·.push (Value.ref s.heap.objs.size))) (ys := ys ++ [.ref s.heap.objs.size]) (t' := s.toks + 1) hq1 e2 (by simp) (r2.append (.cons (show RelV (.ref s.heap.objs.size) (.ref s.heap.objs.size) from rfl) .nil)) (by rw [List.length_append, List.length_singleton, sizeLine_eq]; omega)
      have t2 : Tp H1 (upd H1 q (.lst (ys ++ [.ref s.heap.objs.size]))) := Tp.mutL hq1
      refine wpAny_bind (wpAny_updateSeq e2 rfl (wpAny_pure ⟨plainId_quiet PySem.F.plain_extend_loop _, ?_⟩) (by rw [List.size_toArray, sizeLine_eq]; omega) (by show (its2.toArray.push _).size ≤ sizeLine + 1; rw [Array.size_push, List.size_toArray, sizeLine_eq]; omega))
      refine ih (i + 1) _ _ (by omega) hlt I2 (by rw [upd_ne (Ne.symm hqe)]; exact ne1) (by rw [upd_ne (Ne.symm hqi)]; exact ni1) (.inr ?_) (hit'.at fun o z => (Heap.get?_update_other _ _ hqi).trans z) ⟨same_mut (E.sm.trans s1) hq0, _, upd_same, by rw [List.length_append, List.length_singleton, hyl], fun j x hj hx2 => ?_⟩
      · obtain ⟨old, T, f, ho, w, hw⟩ := ho
        have e1 : ((i + 1 : Nat) : Int) = (i : Int) + 1 := by omega
        refine ⟨old, T, f, w, ?_, t2 _ _ hw⟩
        show Heap.get? _ _ = _
        rw [Heap.get?_update_other _ _ hqe, e1]
        exact ho
      · by_cases hji : j < i
        · obtain ⟨T, hT1, hT2⟩ := hyp j x hji hx2
          exact ⟨T, by rw [List.getElem?_append_left (by omega)]; exact hT1, t2 _ _ (s1 _ _ hT2)⟩
        · have ej : j = i := by omega
          subst ej
          rw [hx] at hx2
          cases hx2
          refine ⟨s.heap.objs.size, ?_, t2 _ _ hT1⟩
          rw [List.getElem?_append_right (by omega), hyl, Nat.sub_self]
          rfl
    rcases he with ⟨old, hi0, he⟩ | ⟨old, T, f, u0, he, hT⟩
    · have hel : e < s.heap.objs.size := Heap.lt_size he
      refine wpAny_bind (wpAny_pyNext_enum_item he hit p.isList (x := u) (by simpa using hu) hne fun h' ho hit' hT hsz hk2 => ?_)
      exact fin h' hel ⟨u, s.heap.objs.size, false, ho, _, upd_same⟩ hit' hT hk2
    · have hel : e < s.heap.objs.size := Heap.lt_size he
      have hTl : T ≠ s.heap.objs.size := fun z => by
        have := I.hok.fresh (Nat.le_refl s.heap.objs.size)
        rw [← z, hT] at this
        cases this
      have hTe : T ≠ e := fun z => by rw [z, hne0] at hT; cases hT
      have hTi : T ≠ it := fun z => by rw [z, hni0] at hT; cases hT
      obtain ⟨_, _, _, oT, hoT, _⟩ := I.hok T _ hT
      refine wpAny_bind (wpAny_pyNext_enum_item_held he hoT hTe hTi hit p.isList (x := u) (by simpa using hu) hne fun h' ho hit' hT2 hsz hk2 => ?_)
      exact fin h' hel ⟨old, T, true, ho, u0, by rw [upd_ne hTl]; exact hT⟩ hit' hT2 hk2

theorem enum_extend (hA : A1.in1.handled = none) (hne : e ≠ it) (hqa : SqL X.K H0 a xs) (hq0 : H0 q = none) (hxl : xs.length ≤ 100000)
    (hst : ∀ H, H e = none → H it = none → ∀ b ∈ [e, it], FpOk X pins H b) (hdone : ∀ H s, Inv X pins σ H s → EnI H0 q xs xs.length H → Rs (.ok (.ret .none)) s)
    {H : Hp} {s : Shared} {old : Value} (I : Inv X pins σ H s) (hne0 : H e = none) (hni0 : H it = none) (he : IsEnum s.heap e it 0 old) (hit : s.heap.IsListIter it a 0) (E : EnI H0 q xs 0 H) :
    wpAny (model X.prog X.w) A1.in1 (Builtin.List.listExtendWith (.ref q) (.ref e) .none)
      (fun fin s' => match fin with | .done f => Rs (.ok f) s' | .again c' => c'.quiet = true ∧ codeAny (model X.prog X.w) A1 c' Rs s') (fun e s' => Rs (.error e) s') s := by
  obtain ⟨ys, hys, hyl, _⟩ := E.ls
  obtain rfl : ys = [] := List.length_eq_zero_iff.mp hyl
  have hqe : q ≠ e := fun z => by rw [z, hne0] at hys; cases hys
  have hqi : q ≠ it := fun z => by rw [z, hni0] at hys; cases hys
  have hT : s.TypeIs (.ref e) "enumerate" := ⟨_, he, rfl⟩
  unfold Builtin.List.listExtendWith
  refine wpAny_bind (wpAny_typeOf hT ?_)
  have h1 : Builtin.List.listSameRef (.ref q) (.ref e) = false := by simp [Builtin.List.listSameRef, hqe]
  have h2 : (Value.type "enumerate" == Value.type "list") = false := by decide
  have h3 : (Value.type "enumerate" == Value.type "tuple") = false := by decide
  simp only [h1, h2, h3, Bool.or_false, Bool.false_eq_true, if_false]
  refine wpAny_bind (wpAny_pyIter_enum he ?_)
  refine wpAny_bind (wpAny_holding ?_)
  unfold Builtin.List.listLengthHint
  refine wpAny_bind (wpAny_specialOf hT enum_no_len ?_)
  show wpAny _ A1.in1 (specialOf (Value.ref e) (Str.ofString "__length_hint__") >>= _) _ _ _
  refine wpAny_bind (wpAny_specialOf hT enum_no_hint ?_)
  refine wpAny_pure ?_
  show wpAny _ A1.in1 (rule "list.extend.makes-room" >>= fun _ => Builtin.List.listTouch (.ref q) >>= fun _ =>
    again (.builtin "list.extend.loop" ⟨[.ref q, .ref e, .none], []⟩)) _ _ _
  refine wpAny_bind (wpAny_rule ?_)
  refine wpAny_bind ?_
  show wpAny _ A1.in1 (updateSeq q (·.push .none) >>= fun _ => updateSeq q (·.pop)) _ _ _
  obtain ⟨z, its, k, r3, hl3, e3⟩ := I.lstM hys
  cases r3
  refine wpAny_bind (wpAny_updateSeq e3 rfl ?_)
  have I2 := I.lset (f := (·.push Value.none)) (its' := [Value.none]) (ys := [.non]) (t' := s.toks) hys e3 (by simp) (.cons rfl .nil) (by rw [List.length_singleton, sizeLine_eq]; decide)
  obtain ⟨z4, its4, k4, r4, hl4, e4⟩ := I2.lstM upd_same
  obtain ⟨u4, rfl, ru4⟩ := r4.one
  refine wpAny_updateSeq e4 rfl ?_ (by show 1 ≤ sizeLine; rw [sizeLine_eq]; decide) (by show 0 ≤ sizeLine + 1; exact Nat.zero_le _)
  have I3 := I2.lset (f := (·.pop)) (its := [u4]) (its' := []) (ys := []) (t' := s.toks) upd_same e4 (by rfl) .nil (Nat.zero_le _)
  rw [upd_upd] at I3
  have hH : upd H q (.lst []) = H := by
    funext b
    by_cases hb : b = q
    · rw [hb, upd_same, hys]
    · rw [upd_ne hb]
  rw [hH] at I3
  have up : ∀ (f g : Obj → Obj) b o, b ≠ q → s.heap.get? b = some o → ((s.heap.update q f).update q g).get? b = some o := fun f g b o hb e =>
    (Heap.get?_update_other _ _ (Ne.symm hb)).trans ((Heap.get?_update_other _ _ (Ne.symm hb)).trans e)
  exact wpAny_pure ⟨plainId_quiet PySem.F.plain_extend_loop _, enum_loop hA hne hqa hq0 hxl hst hdone xs.length 0 H _ rfl (Nat.zero_le _) I3 hne0 hni0 (.inl ⟨old, rfl, up _ _ e _ (Ne.symm hqe) he⟩) (hit.at fun o z => up _ _ it _ (Ne.symm hqi) z) E⟩
end
theorem pe_listEnum {X : Cx} {e : Expr} {ta : TE} {p1 p2 pos1 pos2 : Pos} (hg1 : Gl X "list") (hm1 : X.mg "list" = none) (hg2 : Gl X "enumerate") (hm2 : X.mg "enumerate" = none) (ha : PE X e ta) (hc : X.calm = true := by rfl)
    (na : starEach [e] X.env = (false, eval e X.env) :: starEach [] X.env := by rfl) (na2 : starEach [(.Call (.Name "enumerate" p2) [e] [] pos2)] X.env = (false, eval (.Call (.Name "enumerate" p2) [e] [] pos2) X.env) :: starEach [] X.env := by rfl) :
    PE X (.Call (.Name "list" p1) [.Call (.Name "enumerate" p2) [e] [] pos2] [] pos1) (tListEnum X.K ta) := by
  refine ⟨fun pins s σ H Q I h => ?_⟩
  refine Call_ (ld_blt I hg1 hm1 boot_list (PyProof.Rows.callWith_type1 (args_cons ?_ na2) na2))
  refine Call_ (ld_blt I hg2 hm2 boot_enumerate (PyProof.Rows.callWith_type1 (args_cons (thn (ha.run pins s σ H _ I h) fun v s1 ⟨x, H1, I1, r1, a, xs, ex, hq, hxl, q⟩ => args_nil ?_) na) na))
  subst ex
  cases r1
  obtain ⟨its, rv, p', hz⟩ := I1.list hq
  refine call_enumerate_list p'.isList fun h' he hit hsz hk => args_nil ?_
  have I2 : Inv X pins σ H1 { s1 with heap := h' } := I1.kept (t' := s1.toks) hk
  have hst : ∀ H', H' (s1.heap.objs.size + 1) = none → H' s1.heap.objs.size = none → ∀ b ∈ [s1.heap.objs.size + 1, s1.heap.objs.size], FpOk X pins H' b := fun H' n1 n2 b hb => by
    have e' : b = s1.heap.objs.size + 1 ∨ b = s1.heap.objs.size := by simpa using hb
    rcases e' with z | z
    · rw [z]; exact I1.fpOk (Nat.le_add_right _ _) n1
    · rw [z]; exact I1.fpOk (Nat.le_refl _) n2
  have ne1 : H1 (s1.heap.objs.size + 1) = none := I1.hok.fresh (Nat.le_add_right _ _)
  have ni1 : H1 s1.heap.objs.size = none := I1.hok.fresh (Nat.le_refl _)
  clear I1 p' rv
  generalize hes : s1.heap.objs.size + 1 = e0 at he hst ne1 hsz
  generalize his : s1.heap.objs.size = it0 at he hit hst ni1 hes
  have hne : e0 ≠ it0 := by omega
  refine callType_codes (Q₁ := fun obj s₁ => obj = .ref h'.objs.size ∧ s₁ = { s1 with heap := h'.push { cls := .type "list", data := .seq #[] } }) PySem.F.called_list (PySem.F.typeCall_list_1 _) PySem.F.entry_list_init
    (code_list_new (s := { s1 with heap := h' }) _ ⟨rfl, rfl⟩) fun obj s₁ h₁ => ?_
  obtain ⟨rfl, rfl⟩ := h₁
  have hS : (h'.push { cls := .type "list", data := .seq #[] }).get? h'.objs.size = some { cls := .type "list", data := .seq #[] } := Heap.get?_push_size _ rfl
  refine ⟨⟨_, hS, rfl⟩, PySem.F.args_list_init_2 _ _, ?_⟩
  have fr : H1 h'.objs.size = none := I2.hok.fresh (Nat.le_refl _)
  have I3 : Inv X pins σ (upd H1 h'.objs.size (.lst [])) { s1 with heap := h'.push { cls := .type "list", data := .seq #[] } } := I2.lnew (its := []) (t' := s1.toks) .nil (Nat.zero_le _)
  show wpAny _ _ (do let old ← Builtin.List.listItems (.ref h'.objs.size); Builtin.List.listUpdate (.ref h'.objs.size) (fun _ => #[]); letGo old.toList.reverse; Builtin.List.listExtendWith (.ref h'.objs.size) (.ref e0) .none) _ _ _
  refine wpAny_bind ?_
  unfold Builtin.List.listItems
  refine wpAny_bind (wpAny_seqItems hS rfl (wpAny_pure ?_))
  show wpAny _ _ (updateSeq h'.objs.size (fun _ => #[]) >>= fun _ => letGo (#[] : Array Value).toList.reverse >>= fun _ => Builtin.List.listExtendWith (.ref h'.objs.size) (.ref e0) .none) _ _ _
  refine wpAny_bind (wpAny_updateSeq hS rfl ?_)
  have I4 := I3.lset (f := fun _ => #[]) (its := []) (its' := []) (ys := []) (t' := s1.toks) upd_same hS rfl .nil (Nat.zero_le _)
  rw [upd_upd] at I4
  refine wpAny_bind (wpAny_letGo ?_)
  have hel : e0 ≠ h'.objs.size := Nat.ne_of_lt (Heap.lt_size he)
  have hil : it0 ≠ h'.objs.size := by obtain ⟨_, z, _⟩ := hit; exact Nat.ne_of_lt (Heap.lt_size z)
  have kp : ∀ b o, b ≠ h'.objs.size → h'.get? b = some o → ((h'.push { cls := .type "list", data := .seq #[] }).update h'.objs.size (Obj.mapSeq (fun _ => (#[] : Array Value)))).get? b = some o := fun b o hb z =>
    (Heap.get?_update_other _ _ (Ne.symm hb)).trans (Heap.get?_push_of_some _ z)
  refine enum_extend (A1 := X.A.in1) (H0 := H1) (xs := xs) (Rs := wants (fun r s₂ => r = .none ∧ EP X pins σ Q (.ref h'.objs.size) s₂) X.xe) (I4.ok.hd hc) hne hq fr hxl hst (fun H' s' I' E => ⟨rfl, .ref h'.objs.size, H', I', rfl, q _ H' fr E.sm ?_⟩) I4
    (by rw [upd_ne hel]; exact ne1) (by rw [upd_ne hil]; exact ni1) (kp e0 _ hel he) (hit.at fun o z => kp it0 _ hil z) ⟨same_new fr, [], upd_same, rfl, fun j x hj => absurd hj (Nat.not_lt_zero j)⟩
  obtain ⟨ys, h1, h2, h3⟩ := E.ls
  exact ⟨ys, h1, h2, fun i x hx => h3 i x (List.getElem?_eq_some_iff.mp hx).1 hx⟩
/-- list(enumerate(..)) -/
def LEnK (K : PySem.W.Frag) (Q : VK) : VK := fun x H1 => ∃ a xs, x = .ref a ∧ SqL K H1 a xs ∧ xs.length ≤ 100000 ∧ ∀ l H', H1 l = none → Same H1 H' → (∃ ys, H' l = some (.lst ys) ∧ ys.length = xs.length ∧ ∀ (i : Nat) x, xs[i]? = some x → ∃ T, ys[i]? = some (.ref T) ∧ H' T = some (.tup [.int (i : Int), x])) → Q (.ref l) H'
theorem x_lenum {ta : TE} {σ : St} {H : Hp} {Q : VK} {K : PySem.W.Frag} (q : ta σ H (LEnK K Q)) : tListEnum K ta σ H Q := q
section
variable {P : Program} {w : World} {K : PySem.W.Frag} {mg : Str → Option Value} {base : Heap}
/-! Coded.__init__ -/
def N_Coded_init : List Str := ["self", "values", "error", "position", "number"]
theorem sc_Coded_init : FnScope N_Coded_init ["self", "values", "error"] (defScope s_Coded_init) := ⟨rfl, rfl, rfl, by decide +kernel, rfl, by decide +kernel, by decide +kernel⟩
def t_Coded_init (K : PySem.W.Frag) : TS :=
    (tSeq (sFld K (tVar 0) (tFld K (tG (sp_cut K) (tCons (tListEnum K (tVar 1)) (tCons (tVar 2) tNil))) "pieces") "pieces")
    (tSeq (sFld K (tVar 0) (tLst tNil) "corrections")
    (tFor (iEnum K (tCons (tVar 1) tNil)) (gTup K 2 (gCons (gName 3) (gCons (gName 4) gNil))) (tDrop (tBM K "list" rAppend (tFld K (tVar 0) "corrections") (tCons (tOp oSub (tVar 4) (tG (sp_floor_at K) (tCons (tM (He.ga K "Coded") "line_at" (sp_Coded_line_at K) (tVar 0) (tCons (tVar 3) tNil)) (tCons (tVar 3) tNil)))) tNil))))))
theorem der_Coded_init (T : Tx K mg) (G_cut : Gd P w K mg base "cut" 4 ["points", "error"] (sp_cut K)) (G_floor_at : Gd P w K mg base "floor_at" 1 ["line", "place"] (sp_floor_at K)) (G_Coded_line_at : Md P w K mg base (He.ga K "Coded") "line_at" 1 ["self", "position"] (sp_Coded_line_at K)) {f : Addr} {cdv : Value} {A : Around} {outer : List Env} {s : Shared} {H : Hp} {E : XK} (hr : Room 4 (A.deeper (envOfC "Coded.__init__" (defScope s_Coded_init) s.heap.objs.size f cdv))) : PSs (cxOf CX0 P w K mg base N_Coded_init "Coded.__init__" (defScope s_Coded_init) f cdv A outer s H E).nox (defBody s_Coded_init) (t_Coded_init K) := by
  have sc := sc_Coded_init
  exact (pss_cons (ps_fld (pv 0) (pe_fld (pe_g G_cut (hr.mono (by decide)) (by rfl) (pa_cons (pe_listEnum (by rfl) T.b_list (by rfl) T.b_enumerate (pv 1)) (pa_cons (pv 2) pa_nil))) rfl) rfl)
    (pss_cons (ps_fld (pv 0) (pe_lst pa_nil) rfl)
    (pss_one (ps_for PassesOwn.never rfl (pi_enum (by rfl) T.b_enumerate (pa_cons (pv 1) pa_nil)) (pg_tup rfl (pgs_cons (pg_name (i := 3) sc.nd rfl (by first | exact Or.inl rfl | exact Or.inr rfl)) (pgs_cons (pg_name (i := 4) sc.nd rfl (by first | exact Or.inl rfl | exact Or.inr rfl)) pgs_nil))) (pss_one (ps_expr (pe_bm PySem.F.plainAttrs_list PySem.F.slot_list_append PySem.F.type_list_append mt_append (pe_fld (pv 0) rfl) (pa_cons (pe_op opSub (pv 4) (pe_g G_floor_at (hr.mono (by decide)) (by rfl) (pa_cons (pe_m (pv 0) G_Coded_line_at (hr.mono (by decide)) (pa_cons (pv 3) pa_nil)) (pa_cons (pv 3) pa_nil)))) pa_nil))))))))
theorem gd_Coded_init (T : Tx K mg) (G_cut : Gd P w K mg base "cut" 4 ["points", "error"] (sp_cut K)) (G_floor_at : Gd P w K mg base "floor_at" 1 ["line", "place"] (sp_floor_at K)) (G_Coded_line_at : Md P w K mg base (He.ga K "Coded") "line_at" 1 ["self", "position"] (sp_Coded_line_at K)) (len : ∀ vs H Q E, sp_Coded_init K vs H Q E → vs.length = 3) (rd : ∀ vs H Q E, sp_Coded_init K vs H Q E → t_Coded_init K ⟨fun _ H' => Q .non H', Q, fun _ _ => False, fun _ _ => False⟩ (start N_Coded_init vs) H) : Kd P w K mg base "Coded" (He.ga K "Coded") 5 ["self", "values", "error"] (sp_Coded_init K) := by
  obtain ⟨fd, F⟩ := T.f_Coded_init
  exact ⟨_, fd, F.ok sc_Coded_init len (fun cdv A outer s H vs Q E hr h => ⟨t_Coded_init K, PSs.nox (der_Coded_init T G_cut G_floor_at G_Coded_line_at hr), rd vs H Q E h⟩), T.k_Coded, T.g_Coded, F.bindsN (fun _ _ _ _ _ _ us hl => match us, hl with | [_, _, _], _ => rfl)⟩
/-! Coded.line_at -/
def N_Coded_line_at : List Str := ["self", "position", "low", "high", "middle"]
theorem sc_Coded_line_at : FnScope N_Coded_line_at ["self", "position"] (defScope s_Coded_line_at) := ⟨rfl, rfl, rfl, by decide +kernel, rfl, by decide +kernel, by decide +kernel⟩
def t_Coded_line_at (K : PySem.W.Frag) : TS :=
    (tSeq (tAsg (tC (.int 0)) (gName 2))
    (tSeq (tAsg (tOp oSub (tCB (cLen K) (tCons (tFld K (tVar 0) "pieces") tNil)) (tC (.int 1))) (gName 3))
    (tSeq (tWhile (tTest (tOp oLt (tVar 2) (tVar 3))) (tSeq (tAsg (tOp oFdiv (tOp oAdd (tOp oAdd (tVar 2) (tVar 3)) (tC (.int 1))) (tC (.int 2))) (gName 4))
    (tIfS (tTest (tOp oLe (tOp (rIxT K) (tOp (rIxL K) (tFld K (tVar 0) "pieces") (tVar 4)) (tC (.int 0))) (tVar 1))) (tAsg (tVar 4) (gName 2)) (tAsg (tOp oSub (tVar 4) (tC (.int 1))) (gName 3)))))
    (tRet (tOp (rIxT K) (tOp (rIxL K) (tFld K (tVar 0) "pieces") (tVar 2)) (tC (.int 1)))))))
theorem der_Coded_line_at (T : Tx K mg)  {f : Addr} {cdv : Value} {A : Around} {outer : List Env} {s : Shared} {H : Hp} {E : XK} (hr : Room 0 (A.deeper (envOfC "Coded.line_at" (defScope s_Coded_line_at) s.heap.objs.size f cdv))) : PSs (cxOf CX0 P w K mg base N_Coded_line_at "Coded.line_at" (defScope s_Coded_line_at) f cdv A outer s H E).nox (defBody s_Coded_line_at) (t_Coded_line_at K) := by
  have sc := sc_Coded_line_at
  exact (pss_cons (ps_set (i := 2) sc.nd rfl (by first | exact Or.inl rfl | exact Or.inr rfl) pe_int)
    (pss_cons (ps_set (i := 3) sc.nd rfl (by first | exact Or.inl rfl | exact Or.inr rfl) (pe_op opSub (pe_callB call_len' (by rfl) T.b_len (by decide +kernel) (pa_cons (pe_fld (pv 0) rfl) pa_nil)) pe_int))
    (pss_cons (ps_while PassesOwn.never (pt_cmpR opLt (pv 2) (pv 3) (nomark _)) (pss_cons (ps_set (i := 4) sc.nd rfl (by first | exact Or.inl rfl | exact Or.inr rfl) (pe_op opFdiv (pe_op opAdd (pe_op opAdd (pv 2) (pv 3)) pe_int) pe_int))
    (pss_one (ps_if (pt_cmpR opLe (pe_ix ix_tup (pe_ix ix_list (pe_fld (pv 0) rfl) (pv 4) (fun _ _ => rfl)) pe_int (fun _ _ => rfl)) (pv 1) (nomark _)) (pss_one (ps_set (i := 2) sc.nd rfl (by first | exact Or.inl rfl | exact Or.inr rfl) (pv 4))) (pss_one (ps_set (i := 3) sc.nd rfl (by first | exact Or.inl rfl | exact Or.inr rfl) (pe_op opSub (pv 4) pe_int)))))))
    (pss_one (ps_ret (pe_ix ix_tup (pe_ix ix_list (pe_fld (pv 0) rfl) (pv 2) (fun _ _ => rfl)) pe_int (fun _ _ => rfl)))))))
theorem gd_Coded_line_at (T : Tx K mg)  (len : ∀ vs H Q E, sp_Coded_line_at K vs H Q E → vs.length = 2) (rd : ∀ vs H Q E, sp_Coded_line_at K vs H Q E → t_Coded_line_at K ⟨fun _ H' => Q .non H', Q, fun _ _ => False, fun _ _ => False⟩ (start N_Coded_line_at vs) H) : Md P w K mg base (He.ga K "Coded") "line_at" 1 ["self", "position"] (sp_Coded_line_at K) := by
  obtain ⟨fd, F⟩ := T.f_Coded_line_at
  exact ⟨_, fd, F.ok sc_Coded_line_at len (fun cdv A outer s H vs Q E hr h => ⟨t_Coded_line_at K, PSs.nox (der_Coded_line_at T  hr), rd vs H Q E h⟩), T.m_Coded_line_at, F.bindsN (fun _ _ _ _ _ _ us hl => match us, hl with | [_, _], _ => rfl), T.c_Coded⟩
/-! Coded.value_at -/
def N_Coded_value_at : List Str := ["self", "position"]
theorem sc_Coded_value_at : FnScope N_Coded_value_at ["self", "position"] (defScope s_Coded_value_at) := ⟨rfl, rfl, rfl, by decide +kernel, rfl, by decide +kernel, by decide +kernel⟩
def t_Coded_value_at (K : PySem.W.Frag) : TS :=
    (tRet (tOp oAdd (tG (sp_floor_at K) (tCons (tM (He.ga K "Coded") "line_at" (sp_Coded_line_at K) (tVar 0) (tCons (tVar 1) tNil)) (tCons (tVar 1) tNil))) (tOp (rIxL K) (tFld K (tVar 0) "corrections") (tVar 1))))
theorem der_Coded_value_at (T : Tx K mg) (G_floor_at : Gd P w K mg base "floor_at" 1 ["line", "place"] (sp_floor_at K)) (G_Coded_line_at : Md P w K mg base (He.ga K "Coded") "line_at" 1 ["self", "position"] (sp_Coded_line_at K)) {f : Addr} {cdv : Value} {A : Around} {outer : List Env} {s : Shared} {H : Hp} {E : XK} (hr : Room 1 (A.deeper (envOfC "Coded.value_at" (defScope s_Coded_value_at) s.heap.objs.size f cdv))) : PSs (cxOf CX0 P w K mg base N_Coded_value_at "Coded.value_at" (defScope s_Coded_value_at) f cdv A outer s H E).nox (defBody s_Coded_value_at) (t_Coded_value_at K) := by
  have sc := sc_Coded_value_at
  exact (pss_one (ps_ret (pe_op opAdd (pe_g G_floor_at (hr.mono (by decide)) (by rfl) (pa_cons (pe_m (pv 0) G_Coded_line_at (hr.mono (by decide)) (pa_cons (pv 1) pa_nil)) (pa_cons (pv 1) pa_nil))) (pe_ix ix_list (pe_fld (pv 0) rfl) (pv 1) (fun _ _ => rfl)))))
theorem gd_Coded_value_at (T : Tx K mg) (G_floor_at : Gd P w K mg base "floor_at" 1 ["line", "place"] (sp_floor_at K)) (G_Coded_line_at : Md P w K mg base (He.ga K "Coded") "line_at" 1 ["self", "position"] (sp_Coded_line_at K)) (len : ∀ vs H Q E, sp_Coded_value_at K vs H Q E → vs.length = 2) (rd : ∀ vs H Q E, sp_Coded_value_at K vs H Q E → t_Coded_value_at K ⟨fun _ H' => Q .non H', Q, fun _ _ => False, fun _ _ => False⟩ (start N_Coded_value_at vs) H) : Md P w K mg base (He.ga K "Coded") "value_at" 2 ["self", "position"] (sp_Coded_value_at K) := by
  obtain ⟨fd, F⟩ := T.f_Coded_value_at
  exact ⟨_, fd, F.ok sc_Coded_value_at len (fun cdv A outer s H vs Q E hr h => ⟨t_Coded_value_at K, PSs.nox (der_Coded_value_at T G_floor_at G_Coded_line_at hr), rd vs H Q E h⟩), T.m_Coded_value_at, F.bindsN (fun _ _ _ _ _ _ us hl => match us, hl with | [_, _], _ => rfl), T.c_Coded⟩
/-! Coded.decoded -/
def N_Coded_decoded : List Str := ["self", "position"]
theorem sc_Coded_decoded : FnScope N_Coded_decoded ["self"] (defScope s_Coded_decoded) := ⟨rfl, rfl, rfl, by decide +kernel, rfl, by decide +kernel, by decide +kernel⟩
def t_Coded_decoded (K : PySem.W.Frag) : TS :=
    (tRet (tLc (iRng1 (tCons (tCB (cLen K) (tCons (tFld K (tVar 0) "corrections") tNil)) tNil)) (gName 1) tYes (tM (He.ga K "Coded") "value_at" (sp_Coded_value_at K) (tVar 0) (tCons (tVar 1) tNil)) [1]))
theorem der_Coded_decoded (T : Tx K mg) (G_Coded_value_at : Md P w K mg base (He.ga K "Coded") "value_at" 2 ["self", "position"] (sp_Coded_value_at K)) {f : Addr} {cdv : Value} {A : Around} {outer : List Env} {s : Shared} {H : Hp} {E : XK} (hr : Room 2 (A.deeper (envOfC "Coded.decoded" (defScope s_Coded_decoded) s.heap.objs.size f cdv))) : PSs (cxOf CX0 P w K mg base N_Coded_decoded "Coded.decoded" (defScope s_Coded_decoded) f cdv A outer s H E).nox (defBody s_Coded_decoded) (t_Coded_decoded K) := by
  have sc := sc_Coded_decoded
  exact (pss_one (ps_ret (pe_lc (own := [("position", 1)]) rfl sc.nd (pi_range1 (by rfl) T.b_range (pa_cons (pe_callB call_len' (by rfl) T.b_len (by decide +kernel) (pa_cons (pe_fld (pv 0) rfl) pa_nil)) pa_nil)) (blkOk_by (own := [("position", 1)]) (N := N_Coded_decoded) (sc := defScope s_Coded_decoded) (by decide +kernel)) (fun _ _ _ _ _ => (pg_name (i := 1) sc.nd rfl (by first | exact Or.inl rfl | exact Or.inr rfl))) (fun _ _ _ _ _ => pts_nil) (fun _ _ _ _ _ => (pe_m (pv 0) G_Coded_value_at (hr.mono (by decide)) (pa_cons (pv 1) pa_nil))))))
theorem gd_Coded_decoded (T : Tx K mg) (G_Coded_value_at : Md P w K mg base (He.ga K "Coded") "value_at" 2 ["self", "position"] (sp_Coded_value_at K)) (len : ∀ vs H Q E, sp_Coded_decoded K vs H Q E → vs.length = 1) (rd : ∀ vs H Q E, sp_Coded_decoded K vs H Q E → t_Coded_decoded K ⟨fun _ H' => Q .non H', Q, fun _ _ => False, fun _ _ => False⟩ (start N_Coded_decoded vs) H) : Md P w K mg base (He.ga K "Coded") "decoded" 3 ["self"] (sp_Coded_decoded K) := by
  obtain ⟨fd, F⟩ := T.f_Coded_decoded
  exact ⟨_, fd, F.ok sc_Coded_decoded len (fun cdv A outer s H vs Q E hr h => ⟨t_Coded_decoded K, PSs.nox (der_Coded_decoded T G_Coded_value_at hr), rd vs H Q E h⟩), T.m_Coded_decoded, F.bindsN (fun _ _ _ _ _ _ us hl => match us, hl with | [_], _ => rfl), T.c_Coded⟩
/-! FlatCutting.__init__ -/
def N_FlatCutting_init : List Str := ["self", "pieces", "reasons"]
theorem sc_FlatCutting_init : FnScope N_FlatCutting_init ["self", "pieces", "reasons"] (defScope s_FlatCutting_init) := ⟨rfl, rfl, rfl, by decide +kernel, rfl, by decide +kernel, by decide +kernel⟩
def t_FlatCutting_init (K : PySem.W.Frag) : TS :=
    (tSeq (sFld K (tVar 0) (tCB (cList K) (tCons (tVar 1) tNil)) "pieces")
    (sFld K (tVar 0) (tCB (cList K) (tCons (tVar 2) tNil)) "reasons"))
theorem der_FlatCutting_init (T : Tx K mg)  {f : Addr} {cdv : Value} {A : Around} {outer : List Env} {s : Shared} {H : Hp} {E : XK} (hr : Room 0 (A.deeper (envOfC "FlatCutting.__init__" (defScope s_FlatCutting_init) s.heap.objs.size f cdv))) : PSs (cxOf CX0 P w K mg base N_FlatCutting_init "FlatCutting.__init__" (defScope s_FlatCutting_init) f cdv A outer s H E).nox (defBody s_FlatCutting_init) (t_FlatCutting_init K) := by
  have sc := sc_FlatCutting_init
  exact (pss_cons (ps_fld (pv 0) (pe_callTy call_list' (by rfl) T.b_list (by decide +kernel) (pa_cons (pv 1) pa_nil)) rfl)
    (pss_one (ps_fld (pv 0) (pe_callTy call_list' (by rfl) T.b_list (by decide +kernel) (pa_cons (pv 2) pa_nil)) rfl)))
theorem gd_FlatCutting_init (T : Tx K mg)  (len : ∀ vs H Q E, sp_FlatCutting_init K vs H Q E → vs.length = 3) (rd : ∀ vs H Q E, sp_FlatCutting_init K vs H Q E → t_FlatCutting_init K ⟨fun _ H' => Q .non H', Q, fun _ _ => False, fun _ _ => False⟩ (start N_FlatCutting_init vs) H) : Kd P w K mg base "FlatCutting" (He.ga K "FlatCutting") 1 ["self", "pieces", "reasons"] (sp_FlatCutting_init K) := by
  obtain ⟨fd, F⟩ := T.f_FlatCutting_init
  exact ⟨_, fd, F.ok sc_FlatCutting_init len (fun cdv A outer s H vs Q E hr h => ⟨t_FlatCutting_init K, PSs.nox (der_FlatCutting_init T  hr), rd vs H Q E h⟩), T.k_FlatCutting, T.g_FlatCutting, F.bindsN (fun _ _ _ _ _ _ us hl => match us, hl with | [_, _, _], _ => rfl)⟩
/-! flat_cut -/
def N_flat_cut : List Str := ["values", "error", "pieces", "reasons", "start", "lowest", "highest", "position", "number", "found"]
theorem sc_flat_cut : FnScope N_flat_cut ["values", "error"] (defScope s_flat_cut) := ⟨rfl, rfl, rfl, by decide +kernel, rfl, by decide +kernel, by decide +kernel⟩
def t_flat_cut (K : PySem.W.Frag) : TS :=
    (tSeq (tAsg (tLst tNil) (gName 2))
    (tSeq (tAsg (tLst tNil) (gName 3))
    (tSeq (tAsg (tC (.int 0)) (gName 4))
    (tSeq (tAsg (tC (.int 0)) (gName 5))
    (tSeq (tAsg (tC (.int 0)) (gName 6))
    (tSeq (tFor (iEnum K (tCons (tVar 0) tNil)) (gTup K 2 (gCons (gName 7) (gCons (gName 8) gNil))) (tSeq (tAsg (tC .non) (gName 9))
    (tCut (tIfS (tAnd (tTest (tOp oGt (tVar 7) (tVar 4))) (tTest (tOp oGt (tOp oSub (tVar 8) (tOp (rIxL K) (tVar 0) (tVar 5))) (tOp oMul (tC (.int 2)) (tVar 1))))) (tAsg (tVar 5) (gName 9)) tNext)
    (tCut (tIfS (tAnd (tTest (tOp oGt (tVar 7) (tVar 4))) (tTest (tOp oGt (tOp oSub (tOp (rIxL K) (tVar 0) (tVar 6)) (tVar 8)) (tOp oMul (tC (.int 2)) (tVar 1))))) (tAsg (tVar 6) (gName 9)) tNext)
    (tCut (tIfS (tTest (tOp rNotN (tVar 9) (tC .non))) (tSeq (tDrop (tBM K "list" rAppend (tVar 2) (tCons (tTup (tCons (tVar 4) (tCons (tOp oSub (tOp (rIxL K) (tVar 0) (tVar 6)) (tVar 1)) tNil))) tNil)))
    (tSeq (tDrop (tBM K "list" rAppend (tVar 3) (tCons (tTup (tCons (tVar 9) (tCons (tVar 7) tNil))) tNil)))
    (tAsg (tVar 7) (gName 4)))) tNext)
    (tCut (tIfS (tOr (tTest (tOp rEq (tVar 7) (tVar 4))) (tTest (tOp oLt (tVar 8) (tOp (rIxL K) (tVar 0) (tVar 5))))) (tAsg (tVar 7) (gName 5)) tNext)
    (tIfS (tOr (tTest (tOp rEq (tVar 7) (tVar 4))) (tTest (tOp oGt (tVar 8) (tOp (rIxL K) (tVar 0) (tVar 6))))) (tAsg (tVar 7) (gName 6)) tNext)))))))
    (tCut (tIfS (tTruth K (tVar 0)) (tDrop (tBM K "list" rAppend (tVar 2) (tCons (tTup (tCons (tVar 4) (tCons (tOp oSub (tOp (rIxL K) (tVar 0) (tVar 6)) (tVar 1)) tNil))) tNil))) tNext)
    (tRet (tK (He.ga K "FlatCutting") (sp_FlatCutting_init K) (tCons (tVar 2) (tCons (tVar 3) tNil)))))))))))
theorem der_flat_cut (T : Tx K mg) (G_FlatCutting_init : Kd P w K mg base "FlatCutting" (He.ga K "FlatCutting") 1 ["self", "pieces", "reasons"] (sp_FlatCutting_init K)) {f : Addr} {cdv : Value} {A : Around} {outer : List Env} {s : Shared} {H : Hp} {E : XK} (hr : Room 2 (A.deeper (envOfC "flat_cut" (defScope s_flat_cut) s.heap.objs.size f cdv))) : PSs (cxOf CX0 P w K mg base N_flat_cut "flat_cut" (defScope s_flat_cut) f cdv A outer s H E).nox (defBody s_flat_cut) (t_flat_cut K) := by
  have sc := sc_flat_cut
  exact (pss_cons (ps_set (i := 2) sc.nd rfl (by first | exact Or.inl rfl | exact Or.inr rfl) (pe_lst pa_nil))
    (pss_cons (ps_set (i := 3) sc.nd rfl (by first | exact Or.inl rfl | exact Or.inr rfl) (pe_lst pa_nil))
    (pss_cons (ps_set (i := 4) sc.nd rfl (by first | exact Or.inl rfl | exact Or.inr rfl) pe_int)
    (pss_cons (ps_set (i := 5) sc.nd rfl (by first | exact Or.inl rfl | exact Or.inr rfl) pe_int)
    (pss_cons (ps_set (i := 6) sc.nd rfl (by first | exact Or.inl rfl | exact Or.inr rfl) pe_int)
    (pss_cons (ps_for PassesOwn.never rfl (pi_enum (by rfl) T.b_enumerate (pa_cons (pv 0) pa_nil)) (pg_tup rfl (pgs_cons (pg_name (i := 7) sc.nd rfl (by first | exact Or.inl rfl | exact Or.inr rfl)) (pgs_cons (pg_name (i := 8) sc.nd rfl (by first | exact Or.inl rfl | exact Or.inr rfl)) pgs_nil))) (pss_cons (ps_set (i := 9) sc.nd rfl (by first | exact Or.inl rfl | exact Or.inr rfl) pe_non)
    (pss_cut (ps_if (PW.pt (pw_and (pt_cmpR opGt (pv 7) (pv 4) (nomark _)) (pw_and1 (pt_cmpR opGt (pe_op opSub (pv 8) (pe_ix ix_list (pv 0) (pv 5) (fun _ _ => rfl))) (pe_op opMul pe_int (pv 1)) (nomark _))))) (pss_one (ps_set (i := 9) sc.nd rfl (by first | exact Or.inl rfl | exact Or.inr rfl) (pv 5))) pss_nil)
    (pss_cut (ps_if (PW.pt (pw_and (pt_cmpR opGt (pv 7) (pv 4) (nomark _)) (pw_and1 (pt_cmpR opGt (pe_op opSub (pe_ix ix_list (pv 0) (pv 6) (fun _ _ => rfl)) (pv 8)) (pe_op opMul pe_int (pv 1)) (nomark _))))) (pss_one (ps_set (i := 9) sc.nd rfl (by first | exact Or.inl rfl | exact Or.inr rfl) (pv 6))) pss_nil)
    (pss_cut (ps_if (pt_cmpR op_notN1 (pv 9) pe_non (nomark _)) (pss_cons (ps_expr (pe_bm PySem.F.plainAttrs_list PySem.F.slot_list_append PySem.F.type_list_append mt_append (pv 2) (pa_cons (pe_tup (pa_cons (pv 4) (pa_cons (pe_op opSub (pe_ix ix_list (pv 0) (pv 6) (fun _ _ => rfl)) (pv 1)) pa_nil))) pa_nil)))
    (pss_cons (ps_expr (pe_bm PySem.F.plainAttrs_list PySem.F.slot_list_append PySem.F.type_list_append mt_append (pv 3) (pa_cons (pe_tup (pa_cons (pv 9) (pa_cons (pv 7) pa_nil))) pa_nil)))
    (pss_one (ps_set (i := 4) sc.nd rfl (by first | exact Or.inl rfl | exact Or.inr rfl) (pv 7))))) pss_nil)
    (pss_cut (ps_if (PW.pt (pw_or (pt_cmpR op_eq (pv 7) (pv 4) (nomark _)) (pw_or1 (pt_cmpR opLt (pv 8) (pe_ix ix_list (pv 0) (pv 5) (fun _ _ => rfl)) (nomark _))))) (pss_one (ps_set (i := 5) sc.nd rfl (by first | exact Or.inl rfl | exact Or.inr rfl) (pv 7))) pss_nil)
    (pss_one (ps_if (PW.pt (pw_or (pt_cmpR op_eq (pv 7) (pv 4) (nomark _)) (pw_or1 (pt_cmpR opGt (pv 8) (pe_ix ix_list (pv 0) (pv 6) (fun _ _ => rfl)) (nomark _))))) (pss_one (ps_set (i := 6) sc.nd rfl (by first | exact Or.inl rfl | exact Or.inr rfl) (pv 7))) pss_nil))))))))
    (pss_cut (ps_if (pt_tru (pv 0) (by intro _; rfl)) (pss_one (ps_expr (pe_bm PySem.F.plainAttrs_list PySem.F.slot_list_append PySem.F.type_list_append mt_append (pv 2) (pa_cons (pe_tup (pa_cons (pv 4) (pa_cons (pe_op opSub (pe_ix ix_list (pv 0) (pv 6) (fun _ _ => rfl)) (pv 1)) pa_nil))) pa_nil)))) pss_nil)
    (pss_one (ps_ret (pe_k G_FlatCutting_init (hr.mono (by decide)) (by rfl) (pa_cons (pv 2) (pa_cons (pv 3) pa_nil))))))))))))
theorem gd_flat_cut (T : Tx K mg) (G_FlatCutting_init : Kd P w K mg base "FlatCutting" (He.ga K "FlatCutting") 1 ["self", "pieces", "reasons"] (sp_FlatCutting_init K)) (len : ∀ vs H Q E, sp_flat_cut K vs H Q E → vs.length = 2) (rd : ∀ vs H Q E, sp_flat_cut K vs H Q E → t_flat_cut K ⟨fun _ H' => Q .non H', Q, fun _ _ => False, fun _ _ => False⟩ (start N_flat_cut vs) H) : Gd P w K mg base "flat_cut" 3 ["values", "error"] (sp_flat_cut K) := by
  obtain ⟨fd, F⟩ := T.f_flat_cut
  exact ⟨_, fd, F.ok sc_flat_cut len (fun cdv A outer s H vs Q E hr h => ⟨t_flat_cut K, PSs.nox (der_flat_cut T G_FlatCutting_init hr), rd vs H Q E h⟩), T.g_flat_cut, F.kp, F.bindsN (fun _ _ _ _ _ _ us hl => match us, hl with | [_, _], _ => rfl)⟩
/-! is_flat -/
def N_is_flat : List Str := ["values", "height", "error", "number"]
theorem sc_is_flat : FnScope N_is_flat ["values", "height", "error"] (defScope s_is_flat) := ⟨rfl, rfl, rfl, by decide +kernel, rfl, by decide +kernel, by decide +kernel⟩
def t_is_flat (K : PySem.W.Frag) : TS :=
    (tRet (tCB (rAll K) (tCons (tLc (iList K (tVar 0)) (gName 3) tYes (tOp oLe (tCB cAbs (tCons (tOp oSub (tVar 3) (tVar 1)) tNil)) (tVar 2)) [3]) tNil)))
theorem der_is_flat (T : Tx K mg)  {f : Addr} {cdv : Value} {A : Around} {outer : List Env} {s : Shared} {H : Hp} {E : XK} (hr : Room 0 (A.deeper (envOfC "is_flat" (defScope s_is_flat) s.heap.objs.size f cdv))) : PSs (cxOf CX0 P w K mg base N_is_flat "is_flat" (defScope s_is_flat) f cdv A outer s H E).nox (defBody s_is_flat) (t_is_flat K) := by
  have sc := sc_is_flat
  exact (pss_one (ps_ret (pe_callB (cr_all rfl) (by rfl) T.b_all (by decide +kernel) (pa_cons (pe_lc (own := [("number", 3)]) rfl sc.nd (pi_list (pv 0)) (blkOk_by (own := [("number", 3)]) (N := N_is_flat) (sc := defScope s_is_flat) (by decide +kernel)) (fun _ _ _ _ _ => (pg_name (i := 3) sc.nd rfl (by first | exact Or.inl rfl | exact Or.inr rfl))) (fun _ _ _ _ _ => pts_nil) (fun _ _ _ _ _ => (pe_cmpR opLe (pe_callB call_abs' (by rfl) T.b_abs (by decide +kernel) (pa_cons (pe_op opSub (pv 3) (pv 1)) pa_nil)) (pv 2) (nomark _)))) pa_nil))))
theorem gd_is_flat (T : Tx K mg)  (len : ∀ vs H Q E, sp_is_flat K vs H Q E → vs.length = 3) (rd : ∀ vs H Q E, sp_is_flat K vs H Q E → t_is_flat K ⟨fun _ H' => Q .non H', Q, fun _ _ => False, fun _ _ => False⟩ (start N_is_flat vs) H) : Gd P w K mg base "is_flat" 1 ["values", "height", "error"] (sp_is_flat K) := by
  obtain ⟨fd, F⟩ := T.f_is_flat
  exact ⟨_, fd, F.ok sc_is_flat len (fun cdv A outer s H vs Q E hr h => ⟨t_is_flat K, PSs.nox (der_is_flat T  hr), rd vs H Q E h⟩), T.g_is_flat, F.kp, F.bindsN (fun _ _ _ _ _ _ us hl => match us, hl with | [_, _, _], _ => rfl)⟩
/-! is_flat_reason -/
def N_is_flat_reason : List Str := ["values", "error", "indexes", "least", "most", "first", "second"]
theorem sc_is_flat_reason : FnScope N_is_flat_reason ["values", "error", "indexes", "least", "most"] (defScope s_is_flat_reason) := ⟨rfl, rfl, rfl, by decide +kernel, rfl, by decide +kernel, by decide +kernel⟩
def t_is_flat_reason (K : PySem.W.Frag) : TS :=
    (tSeq (tAsg (tVar 2) (gTup K 2 (gCons (gName 5) (gCons (gName 6) gNil))))
    (tSeq (tIfS (tNot (tChT (tVar 3) (tChC oLe (tVar 5) (tChC oLt (tVar 6) (tChL oLe (tVar 4)))))) tNever tNext)
    (tRet (tOp oGt (tCB cAbs (tCons (tOp oSub (tOp (rIxL K) (tVar 0) (tVar 6)) (tOp (rIxL K) (tVar 0) (tVar 5))) tNil)) (tOp oMul (tC (.int 2)) (tVar 1))))))
theorem der_is_flat_reason (T : Tx K mg)  {f : Addr} {cdv : Value} {A : Around} {outer : List Env} {s : Shared} {H : Hp} {E : XK} (hr : Room 0 (A.deeper (envOfC "is_flat_reason" (defScope s_is_flat_reason) s.heap.objs.size f cdv))) : PSs (cxOf CX0 P w K mg base N_is_flat_reason "is_flat_reason" (defScope s_is_flat_reason) f cdv A outer s H E).nox (defBody s_is_flat_reason) (t_is_flat_reason K) := by
  have sc := sc_is_flat_reason
  exact (pss_cons (ps_asg (pv 2) (pg_tup rfl (pgs_cons (pg_name (i := 5) sc.nd rfl (by first | exact Or.inl rfl | exact Or.inr rfl)) (pgs_cons (pg_name (i := 6) sc.nd rfl (by first | exact Or.inl rfl | exact Or.inr rfl)) pgs_nil))))
    (pss_cons (ps_if (pt_not (pt_ch (pv 3) (pch_cons opLe (pv 5) (pch_cons opLt (pv 6) (pch_one opLe (pv 4)))))) (pss_one ps_never) pss_nil)
    (pss_one (ps_ret (pe_cmpR opGt (pe_callB call_abs' (by rfl) T.b_abs (by decide +kernel) (pa_cons (pe_op opSub (pe_ix ix_list (pv 0) (pv 6) (fun _ _ => rfl)) (pe_ix ix_list (pv 0) (pv 5) (fun _ _ => rfl))) pa_nil)) (pe_op opMul pe_int (pv 1)) (nomark _))))))
theorem gd_is_flat_reason (T : Tx K mg)  (len : ∀ vs H Q E, sp_is_flat_reason K vs H Q E → vs.length = 5) (rd : ∀ vs H Q E, sp_is_flat_reason K vs H Q E → t_is_flat_reason K ⟨fun _ H' => Q .non H', Q, fun _ _ => False, fun _ _ => False⟩ (start N_is_flat_reason vs) H) : Gd P w K mg base "is_flat_reason" 1 ["values", "error", "indexes", "least", "most"] (sp_is_flat_reason K) := by
  obtain ⟨fd, F⟩ := T.f_is_flat_reason
  exact ⟨_, fd, F.ok sc_is_flat_reason len (fun cdv A outer s H vs Q E hr h => ⟨t_is_flat_reason K, PSs.nox (der_is_flat_reason T  hr), rd vs H Q E h⟩), T.g_is_flat_reason, F.kp, F.bindsN (fun _ _ _ _ _ _ us hl => match us, hl with | [_, _, _, _, _], _ => rfl)⟩
/-! judge_flat -/
def N_judge_flat : List Str := ["values", "error", "cutting", "starts", "ends", "position", "piece", "indexes", "start", "height", "k"]
theorem sc_judge_flat : FnScope N_judge_flat ["values", "error", "cutting"] (defScope s_judge_flat) := ⟨rfl, rfl, rfl, by decide +kernel, rfl, by decide +kernel, by decide +kernel⟩
def t_judge_flat (K : PySem.W.Frag) : TS :=
    (tSeq (tAsg (tLc (iList K (tFld K (tVar 2) "pieces")) (gTup K 2 (gCons (gName 8) (gCons (gName 9) gNil))) tYes (tVar 8) [8, 9]) (gName 3))
    (tSeq (tIfS (tNot (tTruth K (tVar 0))) tNever tNext)
    (tSeq (tIfS (tOr (tNot (tTruth K (tVar 3))) (tOr (tTest (tOp rNe (tOp (rIxL K) (tVar 3) (tC (.int 0))) (tC (.int 0)))) (tOr (tTest (tOp oGe (tOp (rIxL K) (tVar 3) (tUn oNeg (tC (.int 1)))) (tCB (cLen K) (tCons (tVar 0) tNil)))) (tTest (tOp rNe (tCB (cLen K) (tCons (tFld K (tVar 2) "reasons") tNil)) (tOp oSub (tCB (cLen K) (tCons (tVar 3) tNil)) (tC (.int 1)))))))) tNever tNext)
    (tSeq (tIfS (tNot (tB (tCB (rAll K) (tCons (tLc (iRng2 (tCons (tC (.int 1)) (tCons (tCB (cLen K) (tCons (tVar 3) tNil)) tNil))) (gName 10) tYes (tOp oLt (tOp (rIxL K) (tVar 3) (tOp oSub (tVar 10) (tC (.int 1)))) (tOp (rIxL K) (tVar 3) (tVar 10))) [10]) tNil)))) tNever tNext)
    (tSeq (tAsg (tOp oCat (tSl (rSlL K) (tVar 3) (tPart (tC (.int 1))) tNoPart) (tLst (tCons (tCB (cLen K) (tCons (tVar 0) tNil)) tNil))) (gName 4))
    (tSeq (tFor (iEnum K (tCons (tFld K (tVar 2) "pieces") tNil)) (gTup K 2 (gCons (gName 5) (gCons (gName 6) gNil))) (tIfS (tNot (tB (tG (sp_is_flat K) (tCons (tSl (rSlL K) (tVar 0) (tPart (tOp (rIxT K) (tVar 6) (tC (.int 0)))) (tPart (tOp (rIxL K) (tVar 4) (tVar 5)))) (tCons (tOp (rIxT K) (tVar 6) (tC (.int 1))) (tCons (tVar 1) tNil)))))) tNever tNext))
    (tSeq (tFor (iEnum K (tCons (tFld K (tVar 2) "reasons") tNil)) (gTup K 2 (gCons (gName 5) (gCons (gName 7) gNil))) (tIfS (tNot (tB (tG (sp_is_flat_reason K) (tCons (tVar 0) (tCons (tVar 1) (tCons (tVar 7) (tCons (tOp (rIxL K) (tVar 3) (tVar 5)) (tCons (tOp (rIxL K) (tVar 3) (tOp oAdd (tVar 5) (tC (.int 1)))) tNil)))))))) tNever tNext))
    (tRet (tC (.bl true))))))))))
theorem der_judge_flat (T : Tx K mg) (G_is_flat : Gd P w K mg base "is_flat" 1 ["values", "height", "error"] (sp_is_flat K)) (G_is_flat_reason : Gd P w K mg base "is_flat_reason" 1 ["values", "error", "indexes", "least", "most"] (sp_is_flat_reason K)) {f : Addr} {cdv : Value} {A : Around} {outer : List Env} {s : Shared} {H : Hp} {E : XK} (hr : Room 1 (A.deeper (envOfC "judge_flat" (defScope s_judge_flat) s.heap.objs.size f cdv))) : PSs (cxOf CX0 P w K mg base N_judge_flat "judge_flat" (defScope s_judge_flat) f cdv A outer s H E).nox (defBody s_judge_flat) (t_judge_flat K) := by
  have sc := sc_judge_flat
  exact (pss_cons (ps_set (i := 3) sc.nd rfl (by first | exact Or.inl rfl | exact Or.inr rfl) (pe_lc (own := [("start", 8), ("height", 9)]) rfl sc.nd (pi_list (pe_fld (pv 2) rfl)) (blkOk_by (own := [("start", 8), ("height", 9)]) (N := N_judge_flat) (sc := defScope s_judge_flat) (by decide +kernel)) (fun _ _ _ _ _ => (pg_tup rfl (pgs_cons (pg_name (i := 8) sc.nd rfl (by first | exact Or.inl rfl | exact Or.inr rfl)) (pgs_cons (pg_name (i := 9) sc.nd rfl (by first | exact Or.inl rfl | exact Or.inr rfl)) pgs_nil)))) (fun _ _ _ _ _ => pts_nil) (fun _ _ _ _ _ => (pv 8))))
    (pss_cons (ps_if (pt_not (pt_tru (pv 0) (by intro _; rfl))) (pss_one ps_never) pss_nil)
    (pss_cons (ps_if (PW.pt (pw_or (pt_not (pt_tru (pv 3) (by intro _; rfl))) (pw_or (pt_cmpR op_ne (pe_ix ix_list (pv 3) pe_int (fun _ _ => rfl)) pe_int (nomark _)) (pw_or (pt_cmpR opGe (pe_ix ix_list (pv 3) (pe_un opNeg pe_int) (fun _ _ => rfl)) (pe_callB call_len' (by rfl) T.b_len (by decide +kernel) (pa_cons (pv 0) pa_nil)) (nomark _)) (pw_or1 (pt_cmpR op_ne (pe_callB call_len' (by rfl) T.b_len (by decide +kernel) (pa_cons (pe_fld (pv 2) rfl) pa_nil)) (pe_op opSub (pe_callB call_len' (by rfl) T.b_len (by decide +kernel) (pa_cons (pv 3) pa_nil)) pe_int) (nomark _))))))) (pss_one ps_never) pss_nil)
    (pss_cons (ps_if (pt_not (pt_val (pe_callB (cr_all rfl) (by rfl) T.b_all (by decide +kernel) (pa_cons (pe_lc (own := [("k", 10)]) rfl sc.nd (pi_range2 (by rfl) T.b_range (pa_cons pe_int (pa_cons (pe_callB call_len' (by rfl) T.b_len (by decide +kernel) (pa_cons (pv 3) pa_nil)) pa_nil))) (blkOk_by (own := [("k", 10)]) (N := N_judge_flat) (sc := defScope s_judge_flat) (by decide +kernel)) (fun _ _ _ _ _ => (pg_name (i := 10) sc.nd rfl (by first | exact Or.inl rfl | exact Or.inr rfl))) (fun _ _ _ _ _ => pts_nil) (fun _ _ _ _ _ => (pe_cmpR opLt (pe_ix ix_list (pv 3) (pe_op opSub (pv 10) pe_int) (fun _ _ => rfl)) (pe_ix ix_list (pv 3) (pv 10) (fun _ _ => rfl)) (nomark _)))) pa_nil)))) (pss_one ps_never) pss_nil)
    (pss_cons (ps_set (i := 4) sc.nd rfl (by first | exact Or.inl rfl | exact Or.inr rfl) (pe_op opCat (pe_slice sl_list (pv 3) (po_some pe_int) po_none) (pe_lst (pa_cons (pe_callB call_len' (by rfl) T.b_len (by decide +kernel) (pa_cons (pv 0) pa_nil)) pa_nil))))
    (pss_cons (ps_for PassesOwn.never rfl (pi_enum (by rfl) T.b_enumerate (pa_cons (pe_fld (pv 2) rfl) pa_nil)) (pg_tup rfl (pgs_cons (pg_name (i := 5) sc.nd rfl (by first | exact Or.inl rfl | exact Or.inr rfl)) (pgs_cons (pg_name (i := 6) sc.nd rfl (by first | exact Or.inl rfl | exact Or.inr rfl)) pgs_nil))) (pss_one (ps_if (pt_not (pt_val (pe_g G_is_flat (hr.mono (by decide)) (by rfl) (pa_cons (pe_slice sl_list (pv 0) (po_some (pe_ix ix_tup (pv 6) pe_int (fun _ _ => rfl))) (po_some (pe_ix ix_list (pv 4) (pv 5) (fun _ _ => rfl)))) (pa_cons (pe_ix ix_tup (pv 6) pe_int (fun _ _ => rfl)) (pa_cons (pv 1) pa_nil)))))) (pss_one ps_never) pss_nil)))
    (pss_cons (ps_for PassesOwn.never rfl (pi_enum (by rfl) T.b_enumerate (pa_cons (pe_fld (pv 2) rfl) pa_nil)) (pg_tup rfl (pgs_cons (pg_name (i := 5) sc.nd rfl (by first | exact Or.inl rfl | exact Or.inr rfl)) (pgs_cons (pg_name (i := 7) sc.nd rfl (by first | exact Or.inl rfl | exact Or.inr rfl)) pgs_nil))) (pss_one (ps_if (pt_not (pt_val (pe_g G_is_flat_reason (hr.mono (by decide)) (by rfl) (pa_cons (pv 0) (pa_cons (pv 1) (pa_cons (pv 7) (pa_cons (pe_ix ix_list (pv 3) (pv 5) (fun _ _ => rfl)) (pa_cons (pe_ix ix_list (pv 3) (pe_op opAdd (pv 5) pe_int) (fun _ _ => rfl)) pa_nil)))))))) (pss_one ps_never) pss_nil)))
    (pss_one (ps_ret pe_bl)))))))))
theorem gd_judge_flat (T : Tx K mg) (G_is_flat : Gd P w K mg base "is_flat" 1 ["values", "height", "error"] (sp_is_flat K)) (G_is_flat_reason : Gd P w K mg base "is_flat_reason" 1 ["values", "error", "indexes", "least", "most"] (sp_is_flat_reason K)) (len : ∀ vs H Q E, sp_judge_flat K vs H Q E → vs.length = 3) (rd : ∀ vs H Q E, sp_judge_flat K vs H Q E → t_judge_flat K ⟨fun _ H' => Q .non H', Q, fun _ _ => False, fun _ _ => False⟩ (start N_judge_flat vs) H) : Gd P w K mg base "judge_flat" 2 ["values", "error", "cutting"] (sp_judge_flat K) := by
  obtain ⟨fd, F⟩ := T.f_judge_flat
  exact ⟨_, fd, F.ok sc_judge_flat len (fun cdv A outer s H vs Q E hr h => ⟨t_judge_flat K, PSs.nox (der_judge_flat T G_is_flat G_is_flat_reason hr), rd vs H Q E h⟩), T.g_judge_flat, F.kp, F.bindsN (fun _ _ _ _ _ _ us hl => match us, hl with | [_, _, _], _ => rfl)⟩
/-! Level.__init__ -/
def N_Level_init : List Str := ["self", "marks", "error", "position", "key"]
theorem sc_Level_init : FnScope N_Level_init ["self", "marks", "error"] (defScope s_Level_init) := ⟨rfl, rfl, rfl, by decide +kernel, rfl, by decide +kernel, by decide +kernel⟩
def t_Level_init (K : PySem.W.Frag) : TS :=
    (tSeq (sFld K (tVar 0) (tVar 1) "marks")
    (tSeq (sFld K (tVar 0) (tVar 2) "error")
    (sFld K (tVar 0) (tFld K (tG (sp_cut K) (tCons (tLc (iEnum K (tCons (tVar 1) tNil)) (gTup K 2 (gCons (gName 3) (gCons (gName 4) gNil))) tYes (tTup (tCons (tVar 4) (tCons (tVar 3) tNil))) [3, 4]) (tCons (tVar 2) tNil))) "pieces") "pieces")))
theorem der_Level_init (T : Tx K mg) (G_cut : Gd P w K mg base "cut" 4 ["points", "error"] (sp_cut K)) {f : Addr} {cdv : Value} {A : Around} {outer : List Env} {s : Shared} {H : Hp} {E : XK} (hr : Room 4 (A.deeper (envOfC "Level.__init__" (defScope s_Level_init) s.heap.objs.size f cdv))) : PSs (cxOf CX0 P w K mg base N_Level_init "Level.__init__" (defScope s_Level_init) f cdv A outer s H E).nox (defBody s_Level_init) (t_Level_init K) := by
  have sc := sc_Level_init
  exact (pss_cons (ps_fld (pv 0) (pv 1) rfl)
    (pss_cons (ps_fld (pv 0) (pv 2) rfl)
    (pss_one (ps_fld (pv 0) (pe_fld (pe_g G_cut (hr.mono (by decide)) (by rfl) (pa_cons (pe_lc (own := [("position", 3), ("key", 4)]) rfl sc.nd (pi_enum (by rfl) T.b_enumerate (pa_cons (pv 1) pa_nil)) (blkOk_by (own := [("position", 3), ("key", 4)]) (N := N_Level_init) (sc := defScope s_Level_init) (by decide +kernel)) (fun _ _ _ _ _ => (pg_tup rfl (pgs_cons (pg_name (i := 3) sc.nd rfl (by first | exact Or.inl rfl | exact Or.inr rfl)) (pgs_cons (pg_name (i := 4) sc.nd rfl (by first | exact Or.inl rfl | exact Or.inr rfl)) pgs_nil)))) (fun _ _ _ _ _ => pts_nil) (fun _ _ _ _ _ => (pe_tup (pa_cons (pv 4) (pa_cons (pv 3) pa_nil))))) (pa_cons (pv 2) pa_nil))) rfl) rfl))))
theorem gd_Level_init (T : Tx K mg) (G_cut : Gd P w K mg base "cut" 4 ["points", "error"] (sp_cut K)) (len : ∀ vs H Q E, sp_Level_init K vs H Q E → vs.length = 3) (rd : ∀ vs H Q E, sp_Level_init K vs H Q E → t_Level_init K ⟨fun _ H' => Q .non H', Q, fun _ _ => False, fun _ _ => False⟩ (start N_Level_init vs) H) : Kd P w K mg base "Level" (He.ga K "Level") 5 ["self", "marks", "error"] (sp_Level_init K) := by
  obtain ⟨fd, F⟩ := T.f_Level_init
  exact ⟨_, fd, F.ok sc_Level_init len (fun cdv A outer s H vs Q E hr h => ⟨t_Level_init K, PSs.nox (der_Level_init T G_cut hr), rd vs H Q E h⟩), T.k_Level, T.g_Level, F.bindsN (fun _ _ _ _ _ _ us hl => match us, hl with | [_, _, _], _ => rfl)⟩
/-! Level.end_of -/
def N_Level_end_of : List Str := ["self", "number"]
theorem sc_Level_end_of : FnScope N_Level_end_of ["self", "number"] (defScope s_Level_end_of) := ⟨rfl, rfl, rfl, by decide +kernel, rfl, by decide +kernel, by decide +kernel⟩
def t_Level_end_of (K : PySem.W.Frag) : TS :=
    (tSeq (tIfS (tTest (tOp oLt (tOp oAdd (tVar 1) (tC (.int 1))) (tCB (cLen K) (tCons (tFld K (tVar 0) "pieces") tNil)))) (tRet (tOp (rIxT K) (tOp (rIxL K) (tFld K (tVar 0) "pieces") (tOp oAdd (tVar 1) (tC (.int 1)))) (tC (.int 0)))) tNext)
    (tRet (tCB (cLen K) (tCons (tFld K (tVar 0) "marks") tNil))))
theorem der_Level_end_of (T : Tx K mg)  {f : Addr} {cdv : Value} {A : Around} {outer : List Env} {s : Shared} {H : Hp} {E : XK} (hr : Room 0 (A.deeper (envOfC "Level.end_of" (defScope s_Level_end_of) s.heap.objs.size f cdv))) : PSs (cxOf CX0 P w K mg base N_Level_end_of "Level.end_of" (defScope s_Level_end_of) f cdv A outer s H E).nox (defBody s_Level_end_of) (t_Level_end_of K) := by
  have sc := sc_Level_end_of
  exact (pss_cons (ps_if (pt_cmpR opLt (pe_op opAdd (pv 1) pe_int) (pe_callB call_len' (by rfl) T.b_len (by decide +kernel) (pa_cons (pe_fld (pv 0) rfl) pa_nil)) (nomark _)) (pss_one (ps_ret (pe_ix ix_tup (pe_ix ix_list (pe_fld (pv 0) rfl) (pe_op opAdd (pv 1) pe_int) (fun _ _ => rfl)) pe_int (fun _ _ => rfl)))) pss_nil)
    (pss_one (ps_ret (pe_callB call_len' (by rfl) T.b_len (by decide +kernel) (pa_cons (pe_fld (pv 0) rfl) pa_nil)))))
theorem gd_Level_end_of (T : Tx K mg)  (len : ∀ vs H Q E, sp_Level_end_of K vs H Q E → vs.length = 2) (rd : ∀ vs H Q E, sp_Level_end_of K vs H Q E → t_Level_end_of K ⟨fun _ H' => Q .non H', Q, fun _ _ => False, fun _ _ => False⟩ (start N_Level_end_of vs) H) : Md P w K mg base (He.ga K "Level") "end_of" 1 ["self", "number"] (sp_Level_end_of K) := by
  obtain ⟨fd, F⟩ := T.f_Level_end_of
  exact ⟨_, fd, F.ok sc_Level_end_of len (fun cdv A outer s H vs Q E hr h => ⟨t_Level_end_of K, PSs.nox (der_Level_end_of T  hr), rd vs H Q E h⟩), T.m_Level_end_of, F.bindsN (fun _ _ _ _ _ _ us hl => match us, hl with | [_, _], _ => rfl), T.c_Level⟩
/-! Level.find -/
def N_Level_find : List Str := ["self", "number", "x", "depth", "looks", "last", "low", "high", "start", "line", "middle"]
theorem sc_Level_find : FnScope N_Level_find ["self", "number", "x", "depth", "looks"] (defScope s_Level_find) := ⟨rfl, rfl, rfl, by decide +kernel, rfl, by decide +kernel, by decide +kernel⟩
def t_Level_find (K : PySem.W.Frag) : TS :=
    (tSeq (tAsg (tOp (rIxL K) (tFld K (tVar 0) "pieces") (tVar 1)) (gTup K 2 (gCons (gName 8) (gCons (gName 9) gNil))))
    (tSeq (tAsg (tOp oSub (tM (He.ga K "Level") "end_of" (sp_Level_end_of K) (tVar 0) (tCons (tVar 1) tNil)) (tC (.int 1))) (gName 5))
    (tSeq (tAsg (tCB cMin2 (tCons (tVar 5) (tCons (tCB cMax2 (tCons (tVar 8) (tCons (tOp oSub (tOp oSub (tG (sp_ceiling_at K) (tCons (tVar 9) (tCons (tVar 2) tNil))) (tC (.int 1))) (tFld K (tVar 0) "error")) tNil))) tNil))) (gName 6))
    (tSeq (tAsg (tCB cMin2 (tCons (tVar 5) (tCons (tOp oAdd (tG (sp_floor_at K) (tCons (tVar 9) (tCons (tVar 2) tNil))) (tFld K (tVar 0) "error")) tNil))) (gName 7))
    (tSeq (tWhile (tTest (tOp oLt (tVar 6) (tVar 7))) (tSeq (tAsg (tOp oFdiv (tOp oAdd (tOp oAdd (tVar 6) (tVar 7)) (tC (.int 1))) (tC (.int 2))) (gName 10))
    (tSeq (tDrop (tBM K "list" rAppend (tVar 4) (tCons (tTup (tCons (tVar 3) (tCons (tVar 10) tNil))) tNil)))
    (tIfS (tTest (tOp oLe (tOp (rIxL K) (tFld K (tVar 0) "marks") (tVar 10)) (tVar 2))) (tAsg (tVar 10) (gName 6)) (tAsg (tOp oSub (tVar 10) (tC (.int 1))) (gName 7))))))
    (tRet (tVar 6)))))))
theorem der_Level_find (T : Tx K mg) (G_ceiling_at : Gd P w K mg base "ceiling_at" 1 ["line", "place"] (sp_ceiling_at K)) (G_floor_at : Gd P w K mg base "floor_at" 1 ["line", "place"] (sp_floor_at K)) (G_Level_end_of : Md P w K mg base (He.ga K "Level") "end_of" 1 ["self", "number"] (sp_Level_end_of K)) {f : Addr} {cdv : Value} {A : Around} {outer : List Env} {s : Shared} {H : Hp} {E : XK} (hr : Room 1 (A.deeper (envOfC "Level.find" (defScope s_Level_find) s.heap.objs.size f cdv))) : PSs (cxOf CX0 P w K mg base N_Level_find "Level.find" (defScope s_Level_find) f cdv A outer s H E).nox (defBody s_Level_find) (t_Level_find K) := by
  have sc := sc_Level_find
  exact (pss_cons (ps_asg (pe_ix ix_list (pe_fld (pv 0) rfl) (pv 1) (fun _ _ => rfl)) (pg_tup rfl (pgs_cons (pg_name (i := 8) sc.nd rfl (by first | exact Or.inl rfl | exact Or.inr rfl)) (pgs_cons (pg_name (i := 9) sc.nd rfl (by first | exact Or.inl rfl | exact Or.inr rfl)) pgs_nil))))
    (pss_cons (ps_set (i := 5) sc.nd rfl (by first | exact Or.inl rfl | exact Or.inr rfl) (pe_op opSub (pe_m (pv 0) G_Level_end_of (hr.mono (by decide)) (pa_cons (pv 1) pa_nil)) pe_int))
    (pss_cons (ps_set (i := 6) sc.nd rfl (by first | exact Or.inl rfl | exact Or.inr rfl) (pe_callB (call_min2' rfl) (by rfl) T.b_min (by decide +kernel) (pa_cons (pv 5) (pa_cons (pe_callB (call_max2' rfl) (by rfl) T.b_max (by decide +kernel) (pa_cons (pv 8) (pa_cons (pe_op opSub (pe_op opSub (pe_g G_ceiling_at (hr.mono (by decide)) (by rfl) (pa_cons (pv 9) (pa_cons (pv 2) pa_nil))) pe_int) (pe_fld (pv 0) rfl)) pa_nil))) pa_nil))))
    (pss_cons (ps_set (i := 7) sc.nd rfl (by first | exact Or.inl rfl | exact Or.inr rfl) (pe_callB (call_min2' rfl) (by rfl) T.b_min (by decide +kernel) (pa_cons (pv 5) (pa_cons (pe_op opAdd (pe_g G_floor_at (hr.mono (by decide)) (by rfl) (pa_cons (pv 9) (pa_cons (pv 2) pa_nil))) (pe_fld (pv 0) rfl)) pa_nil))))
    (pss_cons (ps_while PassesOwn.never (pt_cmpR opLt (pv 6) (pv 7) (nomark _)) (pss_cons (ps_set (i := 10) sc.nd rfl (by first | exact Or.inl rfl | exact Or.inr rfl) (pe_op opFdiv (pe_op opAdd (pe_op opAdd (pv 6) (pv 7)) pe_int) pe_int))
    (pss_cons (ps_expr (pe_bm PySem.F.plainAttrs_list PySem.F.slot_list_append PySem.F.type_list_append mt_append (pv 4) (pa_cons (pe_tup (pa_cons (pv 3) (pa_cons (pv 10) pa_nil))) pa_nil)))
    (pss_one (ps_if (pt_cmpR opLe (pe_ix ix_list (pe_fld (pv 0) rfl) (pv 10) (fun _ _ => rfl)) (pv 2) (nomark _)) (pss_one (ps_set (i := 6) sc.nd rfl (by first | exact Or.inl rfl | exact Or.inr rfl) (pv 10))) (pss_one (ps_set (i := 7) sc.nd rfl (by first | exact Or.inl rfl | exact Or.inr rfl) (pe_op opSub (pv 10) pe_int))))))))
    (pss_one (ps_ret (pv 6))))))))
theorem gd_Level_find (T : Tx K mg) (G_ceiling_at : Gd P w K mg base "ceiling_at" 1 ["line", "place"] (sp_ceiling_at K)) (G_floor_at : Gd P w K mg base "floor_at" 1 ["line", "place"] (sp_floor_at K)) (G_Level_end_of : Md P w K mg base (He.ga K "Level") "end_of" 1 ["self", "number"] (sp_Level_end_of K)) (len : ∀ vs H Q E, sp_Level_find K vs H Q E → vs.length = 5) (rd : ∀ vs H Q E, sp_Level_find K vs H Q E → t_Level_find K ⟨fun _ H' => Q .non H', Q, fun _ _ => False, fun _ _ => False⟩ (start N_Level_find vs) H) : Md P w K mg base (He.ga K "Level") "find" 2 ["self", "number", "x", "depth", "looks"] (sp_Level_find K) := by
  obtain ⟨fd, F⟩ := T.f_Level_find
  exact ⟨_, fd, F.ok sc_Level_find len (fun cdv A outer s H vs Q E hr h => ⟨t_Level_find K, PSs.nox (der_Level_find T G_ceiling_at G_floor_at G_Level_end_of hr), rd vs H Q E h⟩), T.m_Level_find, F.bindsN (fun _ _ _ _ _ _ us hl => match us, hl with | [_, _, _, _, _], _ => rfl), T.c_Level⟩
/-! Index.__init__ -/
def N_Index_init : List Str := ["self", "stored", "error", "upper", "below", "start", "line"]
theorem sc_Index_init : FnScope N_Index_init ["self", "stored", "error", "upper"] (defScope s_Index_init) := ⟨rfl, rfl, rfl, by decide +kernel, rfl, by decide +kernel, by decide +kernel⟩
def t_Index_init (K : PySem.W.Frag) : TS :=
    (tSeq (sFld K (tVar 0) (tCB (cList K) (tCons (tVar 1) tNil)) "stored")
    (tSeq (sFld K (tVar 0) (tLst (tCons (tK (He.ga K "Level") (sp_Level_init K) (tCons (tFld K (tVar 0) "stored") (tCons (tVar 2) tNil))) tNil)) "_levels")
    (tWhile (tTest (tOp oGt (tCB (cLen K) (tCons (tFld K (tOp (rIxL K) (tFld K (tVar 0) "_levels") (tUn oNeg (tC (.int 1)))) "pieces") tNil)) (tC (.int 1)))) (tSeq (tAsg (tOp (rIxL K) (tFld K (tVar 0) "_levels") (tUn oNeg (tC (.int 1)))) (gName 4))
    (tDrop (tBM K "list" rAppend (tFld K (tVar 0) "_levels") (tCons (tK (He.ga K "Level") (sp_Level_init K) (tCons (tLc (iList K (tFld K (tVar 4) "pieces")) (gTup K 2 (gCons (gName 5) (gCons (gName 6) gNil))) tYes (tOp (rIxL K) (tFld K (tVar 4) "marks") (tVar 5)) [5, 6]) (tCons (tVar 3) tNil))) tNil)))))))
theorem der_Index_init (T : Tx K mg) (G_Level_init : Kd P w K mg base "Level" (He.ga K "Level") 5 ["self", "marks", "error"] (sp_Level_init K)) {f : Addr} {cdv : Value} {A : Around} {outer : List Env} {s : Shared} {H : Hp} {E : XK} (hr : Room 6 (A.deeper (envOfC "Index.__init__" (defScope s_Index_init) s.heap.objs.size f cdv))) : PSs (cxOf CX0 P w K mg base N_Index_init "Index.__init__" (defScope s_Index_init) f cdv A outer s H E).nox (defBody s_Index_init) (t_Index_init K) := by
  have sc := sc_Index_init
  exact (pss_cons (ps_fld (pv 0) (pe_callTy call_list' (by rfl) T.b_list (by decide +kernel) (pa_cons (pv 1) pa_nil)) rfl)
    (pss_cons (ps_fld (pv 0) (pe_lst (pa_cons (pe_k G_Level_init (hr.mono (by decide)) (by rfl) (pa_cons (pe_fld (pv 0) rfl) (pa_cons (pv 2) pa_nil))) pa_nil)) rfl)
    (pss_one (ps_while PassesOwn.never (pt_cmpR opGt (pe_callB call_len' (by rfl) T.b_len (by decide +kernel) (pa_cons (pe_fld (pe_ix ix_list (pe_fld (pv 0) rfl) (pe_un opNeg pe_int) (fun _ _ => rfl)) rfl) pa_nil)) pe_int (nomark _)) (pss_cons (ps_set (i := 4) sc.nd rfl (by first | exact Or.inl rfl | exact Or.inr rfl) (pe_ix ix_list (pe_fld (pv 0) rfl) (pe_un opNeg pe_int) (fun _ _ => rfl)))
    (pss_one (ps_expr (pe_bm PySem.F.plainAttrs_list PySem.F.slot_list_append PySem.F.type_list_append mt_append (pe_fld (pv 0) rfl) (pa_cons (pe_k G_Level_init (hr.mono (by decide)) (by rfl) (pa_cons (pe_lc (own := [("start", 5), ("line", 6)]) rfl sc.nd (pi_list (pe_fld (pv 4) rfl)) (blkOk_by (own := [("start", 5), ("line", 6)]) (N := N_Index_init) (sc := defScope s_Index_init) (by decide +kernel)) (fun _ _ _ _ _ => (pg_tup rfl (pgs_cons (pg_name (i := 5) sc.nd rfl (by first | exact Or.inl rfl | exact Or.inr rfl)) (pgs_cons (pg_name (i := 6) sc.nd rfl (by first | exact Or.inl rfl | exact Or.inr rfl)) pgs_nil)))) (fun _ _ _ _ _ => pts_nil) (fun _ _ _ _ _ => (pe_ix ix_list (pe_fld (pv 4) rfl) (pv 5) (fun _ _ => rfl)))) (pa_cons (pv 3) pa_nil))) pa_nil)))))))))
theorem gd_Index_init (T : Tx K mg) (G_Level_init : Kd P w K mg base "Level" (He.ga K "Level") 5 ["self", "marks", "error"] (sp_Level_init K)) (len : ∀ vs H Q E, sp_Index_init K vs H Q E → vs.length = 4) (rd : ∀ vs H Q E, sp_Index_init K vs H Q E → t_Index_init K ⟨fun _ H' => Q .non H', Q, fun _ _ => False, fun _ _ => False⟩ (start N_Index_init vs) H) : Kd P w K mg base "Index" (He.ga K "Index") 7 ["self", "stored", "error", "upper"] (sp_Index_init K) := by
  obtain ⟨fd, F⟩ := T.f_Index_init
  exact ⟨_, fd, F.ok sc_Index_init len (fun cdv A outer s H vs Q E hr h => ⟨t_Index_init K, PSs.nox (der_Index_init T G_Level_init hr), rd vs H Q E h⟩), T.k_Index, T.g_Index, F.bindsN (fun _ _ _ _ _ _ us hl => match us, hl with | [_, _, _, _], _ => rfl)⟩
/-! Index.level_keys -/
def N_Index_level_keys : List Str := ["self", "level"]
theorem sc_Index_level_keys : FnScope N_Index_level_keys ["self"] (defScope s_Index_level_keys) := ⟨rfl, rfl, rfl, by decide +kernel, rfl, by decide +kernel, by decide +kernel⟩
def t_Index_level_keys (K : PySem.W.Frag) : TS :=
    (tRet (tLc (iList K (tFld K (tVar 0) "_levels")) (gName 1) tYes (tCB (cList K) (tCons (tFld K (tVar 1) "marks") tNil)) [1]))
theorem der_Index_level_keys (T : Tx K mg)  {f : Addr} {cdv : Value} {A : Around} {outer : List Env} {s : Shared} {H : Hp} {E : XK} (hr : Room 0 (A.deeper (envOfC "Index.level_keys" (defScope s_Index_level_keys) s.heap.objs.size f cdv))) : PSs (cxOf CX0 P w K mg base N_Index_level_keys "Index.level_keys" (defScope s_Index_level_keys) f cdv A outer s H E).nox (defBody s_Index_level_keys) (t_Index_level_keys K) := by
  have sc := sc_Index_level_keys
  exact (pss_one (ps_ret (pe_lc (own := [("level", 1)]) rfl sc.nd (pi_list (pe_fld (pv 0) rfl)) (blkOk_by (own := [("level", 1)]) (N := N_Index_level_keys) (sc := defScope s_Index_level_keys) (by decide +kernel)) (fun _ _ _ _ _ => (pg_name (i := 1) sc.nd rfl (by first | exact Or.inl rfl | exact Or.inr rfl))) (fun _ _ _ _ _ => pts_nil) (fun _ _ _ _ _ => (pe_callTy call_list' (by rfl) T.b_list (by decide +kernel) (pa_cons (pe_fld (pv 1) rfl) pa_nil))))))
theorem gd_Index_level_keys (T : Tx K mg)  (len : ∀ vs H Q E, sp_Index_level_keys K vs H Q E → vs.length = 1) (rd : ∀ vs H Q E, sp_Index_level_keys K vs H Q E → t_Index_level_keys K ⟨fun _ H' => Q .non H', Q, fun _ _ => False, fun _ _ => False⟩ (start N_Index_level_keys vs) H) : Md P w K mg base (He.ga K "Index") "level_keys" 1 ["self"] (sp_Index_level_keys K) := by
  obtain ⟨fd, F⟩ := T.f_Index_level_keys
  exact ⟨_, fd, F.ok sc_Index_level_keys len (fun cdv A outer s H vs Q E hr h => ⟨t_Index_level_keys K, PSs.nox (der_Index_level_keys T  hr), rd vs H Q E h⟩), T.m_Index_level_keys, F.bindsN (fun _ _ _ _ _ _ us hl => match us, hl with | [_], _ => rfl), T.c_Index⟩
/-! Index.look_up -/
def N_Index_look_up : List Str := ["self", "x", "top", "looks", "position", "depth"]
theorem sc_Index_look_up : FnScope N_Index_look_up ["self", "x"] (defScope s_Index_look_up) := ⟨rfl, rfl, rfl, by decide +kernel, rfl, by decide +kernel, by decide +kernel⟩
def t_Index_look_up (K : PySem.W.Frag) : TS :=
    (tSeq (tIfS (tNot (tTruth K (tFld K (tVar 0) "stored"))) tNever tNext)
    (tSeq (tAsg (tOp oSub (tCB (cLen K) (tCons (tFld K (tVar 0) "_levels") tNil)) (tC (.int 1))) (gName 2))
    (tSeq (tAsg (tLst (tCons (tTup (tCons (tVar 2) (tCons (tC (.int 0)) tNil))) tNil)) (gName 3))
    (tSeq (tIfS (tTest (tOp oLt (tVar 1) (tOp (rIxL K) (tFld K (tVar 0) "stored") (tC (.int 0))))) (tRet (tTup (tCons (tC (.int 0)) (tCons (tVar 3) tNil)))) tNext)
    (tSeq (tAsg (tC (.int 0)) (gName 4))
    (tSeq (tFor (iRng3 (tCons (tVar 2) (tCons (tUn oNeg (tC (.int 1))) (tCons (tUn oNeg (tC (.int 1))) tNil)))) (gName 5) (tAsg (tM (He.ga K "Level") "find" (sp_Level_find K) (tOp (rIxL K) (tFld K (tVar 0) "_levels") (tVar 5)) (tCons (tVar 4) (tCons (tVar 1) (tCons (tVar 5) (tCons (tVar 3) tNil))))) (gName 4)))
    (tRet (tTup (tCons (tOp oAdd (tVar 4) (tC (.int 1))) (tCons (tVar 3) tNil))))))))))
theorem der_Index_look_up (T : Tx K mg) (G_Level_find : Md P w K mg base (He.ga K "Level") "find" 2 ["self", "number", "x", "depth", "looks"] (sp_Level_find K)) {f : Addr} {cdv : Value} {A : Around} {outer : List Env} {s : Shared} {H : Hp} {E : XK} (hr : Room 2 (A.deeper (envOfC "Index.look_up" (defScope s_Index_look_up) s.heap.objs.size f cdv))) : PSs (cxOf CX0 P w K mg base N_Index_look_up "Index.look_up" (defScope s_Index_look_up) f cdv A outer s H E).nox (defBody s_Index_look_up) (t_Index_look_up K) := by
  have sc := sc_Index_look_up
  exact (pss_cons (ps_if (pt_not (pt_tru (pe_fld (pv 0) rfl) (by intro _; rfl))) (pss_one ps_never) pss_nil)
    (pss_cons (ps_set (i := 2) sc.nd rfl (by first | exact Or.inl rfl | exact Or.inr rfl) (pe_op opSub (pe_callB call_len' (by rfl) T.b_len (by decide +kernel) (pa_cons (pe_fld (pv 0) rfl) pa_nil)) pe_int))
    (pss_cons (ps_set (i := 3) sc.nd rfl (by first | exact Or.inl rfl | exact Or.inr rfl) (pe_lst (pa_cons (pe_tup (pa_cons (pv 2) (pa_cons pe_int pa_nil))) pa_nil)))
    (pss_cons (ps_if (pt_cmpR opLt (pv 1) (pe_ix ix_list (pe_fld (pv 0) rfl) pe_int (fun _ _ => rfl)) (nomark _)) (pss_one (ps_ret (pe_tup (pa_cons pe_int (pa_cons (pv 3) pa_nil))))) pss_nil)
    (pss_cons (ps_set (i := 4) sc.nd rfl (by first | exact Or.inl rfl | exact Or.inr rfl) pe_int)
    (pss_cons (ps_for PassesOwn.never rfl (pi_range3 (by rfl) T.b_range (pa_cons (pv 2) (pa_cons (pe_un opNeg pe_int) (pa_cons (pe_un opNeg pe_int) pa_nil)))) (pg_name (i := 5) sc.nd rfl (by first | exact Or.inl rfl | exact Or.inr rfl)) (pss_one (ps_set (i := 4) sc.nd rfl (by first | exact Or.inl rfl | exact Or.inr rfl) (pe_m (pe_ix ix_list (pe_fld (pv 0) rfl) (pv 5) (fun _ _ => rfl)) G_Level_find (hr.mono (by decide)) (pa_cons (pv 4) (pa_cons (pv 1) (pa_cons (pv 5) (pa_cons (pv 3) pa_nil))))))))
    (pss_one (ps_ret (pe_tup (pa_cons (pe_op opAdd (pv 4) pe_int) (pa_cons (pv 3) pa_nil)))))))))))
theorem gd_Index_look_up (T : Tx K mg) (G_Level_find : Md P w K mg base (He.ga K "Level") "find" 2 ["self", "number", "x", "depth", "looks"] (sp_Level_find K)) (len : ∀ vs H Q E, sp_Index_look_up K vs H Q E → vs.length = 2) (rd : ∀ vs H Q E, sp_Index_look_up K vs H Q E → t_Index_look_up K ⟨fun _ H' => Q .non H', Q, fun _ _ => False, fun _ _ => False⟩ (start N_Index_look_up vs) H) : Md P w K mg base (He.ga K "Index") "look_up" 3 ["self", "x"] (sp_Index_look_up K) := by
  obtain ⟨fd, F⟩ := T.f_Index_look_up
  exact ⟨_, fd, F.ok sc_Index_look_up len (fun cdv A outer s H vs Q E hr h => ⟨t_Index_look_up K, PSs.nox (der_Index_look_up T G_Level_find hr), rd vs H Q E h⟩), T.m_Index_look_up, F.bindsN (fun _ _ _ _ _ _ us hl => match us, hl with | [_, _], _ => rfl), T.c_Index⟩
/-! SpanCutting.__init__ -/
def N_SpanCutting_init : List Str := ["self", "pieces", "reasons"]
theorem sc_SpanCutting_init : FnScope N_SpanCutting_init ["self", "pieces", "reasons"] (defScope s_SpanCutting_init) := ⟨rfl, rfl, rfl, by decide +kernel, rfl, by decide +kernel, by decide +kernel⟩
def t_SpanCutting_init (K : PySem.W.Frag) : TS :=
    (tSeq (sFld K (tVar 0) (tCB (cList K) (tCons (tVar 1) tNil)) "pieces")
    (sFld K (tVar 0) (tCB (cList K) (tCons (tVar 2) tNil)) "reasons"))
theorem der_SpanCutting_init (T : Tx K mg)  {f : Addr} {cdv : Value} {A : Around} {outer : List Env} {s : Shared} {H : Hp} {E : XK} (hr : Room 0 (A.deeper (envOfC "SpanCutting.__init__" (defScope s_SpanCutting_init) s.heap.objs.size f cdv))) : PSs (cxOf CX0 P w K mg base N_SpanCutting_init "SpanCutting.__init__" (defScope s_SpanCutting_init) f cdv A outer s H E).nox (defBody s_SpanCutting_init) (t_SpanCutting_init K) := by
  have sc := sc_SpanCutting_init
  exact (pss_cons (ps_fld (pv 0) (pe_callTy call_list' (by rfl) T.b_list (by decide +kernel) (pa_cons (pv 1) pa_nil)) rfl)
    (pss_one (ps_fld (pv 0) (pe_callTy call_list' (by rfl) T.b_list (by decide +kernel) (pa_cons (pv 2) pa_nil)) rfl)))
theorem gd_SpanCutting_init (T : Tx K mg)  (len : ∀ vs H Q E, sp_SpanCutting_init K vs H Q E → vs.length = 3) (rd : ∀ vs H Q E, sp_SpanCutting_init K vs H Q E → t_SpanCutting_init K ⟨fun _ H' => Q .non H', Q, fun _ _ => False, fun _ _ => False⟩ (start N_SpanCutting_init vs) H) : Kd P w K mg base "SpanCutting" (He.ga K "SpanCutting") 1 ["self", "pieces", "reasons"] (sp_SpanCutting_init K) := by
  obtain ⟨fd, F⟩ := T.f_SpanCutting_init
  exact ⟨_, fd, F.ok sc_SpanCutting_init len (fun cdv A outer s H vs Q E hr h => ⟨t_SpanCutting_init K, PSs.nox (der_SpanCutting_init T  hr), rd vs H Q E h⟩), T.k_SpanCutting, T.g_SpanCutting, F.bindsN (fun _ _ _ _ _ _ us hl => match us, hl with | [_, _, _], _ => rfl)⟩
/-! three_meet -/
def N_three_meet : List Str := ["one", "two", "three", "width", "left", "right", "lowest", "highest"]
theorem sc_three_meet : FnScope N_three_meet ["one", "two", "three"] (defScope s_three_meet) := ⟨rfl, rfl, rfl, by decide +kernel, rfl, by decide +kernel, by decide +kernel⟩
def t_three_meet (K : PySem.W.Frag) : TS :=
    (tSeq (tAsg (tOp oSub (tOp (rIxT K) (tVar 2) (tC (.int 0))) (tOp (rIxT K) (tVar 0) (tC (.int 0)))) (gName 3))
    (tSeq (tAsg (tOp oSub (tOp (rIxT K) (tVar 2) (tC (.int 0))) (tOp (rIxT K) (tVar 1) (tC (.int 0)))) (gName 4))
    (tSeq (tAsg (tOp oSub (tOp (rIxT K) (tVar 1) (tC (.int 0))) (tOp (rIxT K) (tVar 0) (tC (.int 0)))) (gName 5))
    (tSeq (tAsg (tOp oAdd (tOp oMul (tOp (rIxT K) (tVar 0) (tC (.int 1))) (tVar 4)) (tOp oMul (tOp (rIxT K) (tVar 2) (tC (.int 1))) (tVar 5))) (gName 6))
    (tSeq (tAsg (tOp oAdd (tOp oMul (tOp (rIxT K) (tVar 0) (tC (.int 2))) (tVar 4)) (tOp oMul (tOp (rIxT K) (tVar 2) (tC (.int 2))) (tVar 5))) (gName 7))
    (tRet (tAndV (tOp oLe (tVar 6) (tOp oMul (tOp (rIxT K) (tVar 1) (tC (.int 2))) (tVar 3))) (tOp oLe (tOp oMul (tOp (rIxT K) (tVar 1) (tC (.int 1))) (tVar 3)) (tVar 7)))))))))
theorem der_three_meet (T : Tx K mg)  {f : Addr} {cdv : Value} {A : Around} {outer : List Env} {s : Shared} {H : Hp} {E : XK} (hr : Room 0 (A.deeper (envOfC "three_meet" (defScope s_three_meet) s.heap.objs.size f cdv))) : PSs (cxOf CX0 P w K mg base N_three_meet "three_meet" (defScope s_three_meet) f cdv A outer s H E).nox (defBody s_three_meet) (t_three_meet K) := by
  have sc := sc_three_meet
  exact (pss_cons (ps_set (i := 3) sc.nd rfl (by first | exact Or.inl rfl | exact Or.inr rfl) (pe_op opSub (pe_ix ix_tup (pv 2) pe_int (fun _ _ => rfl)) (pe_ix ix_tup (pv 0) pe_int (fun _ _ => rfl))))
    (pss_cons (ps_set (i := 4) sc.nd rfl (by first | exact Or.inl rfl | exact Or.inr rfl) (pe_op opSub (pe_ix ix_tup (pv 2) pe_int (fun _ _ => rfl)) (pe_ix ix_tup (pv 1) pe_int (fun _ _ => rfl))))
    (pss_cons (ps_set (i := 5) sc.nd rfl (by first | exact Or.inl rfl | exact Or.inr rfl) (pe_op opSub (pe_ix ix_tup (pv 1) pe_int (fun _ _ => rfl)) (pe_ix ix_tup (pv 0) pe_int (fun _ _ => rfl))))
    (pss_cons (ps_set (i := 6) sc.nd rfl (by first | exact Or.inl rfl | exact Or.inr rfl) (pe_op opAdd (pe_op opMul (pe_ix ix_tup (pv 0) pe_int (fun _ _ => rfl)) (pv 4)) (pe_op opMul (pe_ix ix_tup (pv 2) pe_int (fun _ _ => rfl)) (pv 5))))
    (pss_cons (ps_set (i := 7) sc.nd rfl (by first | exact Or.inl rfl | exact Or.inr rfl) (pe_op opAdd (pe_op opMul (pe_ix ix_tup (pv 0) pe_int (fun _ _ => rfl)) (pv 4)) (pe_op opMul (pe_ix ix_tup (pv 2) pe_int (fun _ _ => rfl)) (pv 5))))
    (pss_one (ps_ret (pe_and (pe_cmpR opLe (pv 6) (pe_op opMul (pe_ix ix_tup (pv 1) pe_int (fun _ _ => rfl)) (pv 3)) (nomark _)) (pe_one (pe_cmpR opLe (pe_op opMul (pe_ix ix_tup (pv 1) pe_int (fun _ _ => rfl)) (pv 3)) (pv 7) (nomark _)))))))))))
theorem gd_three_meet (T : Tx K mg)  (len : ∀ vs H Q E, sp_three_meet K vs H Q E → vs.length = 3) (rd : ∀ vs H Q E, sp_three_meet K vs H Q E → t_three_meet K ⟨fun _ H' => Q .non H', Q, fun _ _ => False, fun _ _ => False⟩ (start N_three_meet vs) H) : Gd P w K mg base "three_meet" 1 ["one", "two", "three"] (sp_three_meet K) := by
  obtain ⟨fd, F⟩ := T.f_three_meet
  exact ⟨_, fd, F.ok sc_three_meet len (fun cdv A outer s H vs Q E hr h => ⟨t_three_meet K, PSs.nox (der_three_meet T  hr), rd vs H Q E h⟩), T.g_three_meet, F.kp, F.bindsN (fun _ _ _ _ _ _ us hl => match us, hl with | [_, _, _], _ => rfl)⟩
/-! meets -/
def N_meets : List Str := ["line", "span", "p", "q", "d", "place", "low", "high"]
theorem sc_meets : FnScope N_meets ["line", "span"] (defScope s_meets) := ⟨rfl, rfl, rfl, by decide +kernel, rfl, by decide +kernel, by decide +kernel⟩
def t_meets (K : PySem.W.Frag) : TS :=
    (tSeq (tAsg (tVar 0) (gTup K 3 (gCons (gName 2) (gCons (gName 3) (gCons (gName 4) gNil)))))
    (tSeq (tAsg (tVar 1) (gTup K 3 (gCons (gName 5) (gCons (gName 6) (gCons (gName 7) gNil)))))
    (tRet (tChain oLe oLe (tOp oMul (tVar 6) (tVar 4)) (tOp oAdd (tOp oMul (tVar 2) (tVar 5)) (tVar 3)) (tOp oMul (tVar 7) (tVar 4))))))
theorem der_meets (T : Tx K mg)  {f : Addr} {cdv : Value} {A : Around} {outer : List Env} {s : Shared} {H : Hp} {E : XK} (hr : Room 0 (A.deeper (envOfC "meets" (defScope s_meets) s.heap.objs.size f cdv))) : PSs (cxOf CX0 P w K mg base N_meets "meets" (defScope s_meets) f cdv A outer s H E).nox (defBody s_meets) (t_meets K) := by
  have sc := sc_meets
  exact (pss_cons (ps_asg (pv 0) (pg_tup rfl (pgs_cons (pg_name (i := 2) sc.nd rfl (by first | exact Or.inl rfl | exact Or.inr rfl)) (pgs_cons (pg_name (i := 3) sc.nd rfl (by first | exact Or.inl rfl | exact Or.inr rfl)) (pgs_cons (pg_name (i := 4) sc.nd rfl (by first | exact Or.inl rfl | exact Or.inr rfl)) pgs_nil)))))
    (pss_cons (ps_asg (pv 1) (pg_tup rfl (pgs_cons (pg_name (i := 5) sc.nd rfl (by first | exact Or.inl rfl | exact Or.inr rfl)) (pgs_cons (pg_name (i := 6) sc.nd rfl (by first | exact Or.inl rfl | exact Or.inr rfl)) (pgs_cons (pg_name (i := 7) sc.nd rfl (by first | exact Or.inl rfl | exact Or.inr rfl)) pgs_nil)))))
    (pss_one (ps_ret (pe_chain opLe opLe (pe_op opMul (pv 6) (pv 4)) (pe_op opAdd (pe_op opMul (pv 2) (pv 5)) (pv 3)) (pe_op opMul (pv 7) (pv 4)))))))
theorem gd_meets (T : Tx K mg)  (len : ∀ vs H Q E, sp_meets K vs H Q E → vs.length = 2) (rd : ∀ vs H Q E, sp_meets K vs H Q E → t_meets K ⟨fun _ H' => Q .non H', Q, fun _ _ => False, fun _ _ => False⟩ (start N_meets vs) H) : Gd P w K mg base "meets" 1 ["line", "span"] (sp_meets K) := by
  obtain ⟨fd, F⟩ := T.f_meets
  exact ⟨_, fd, F.ok sc_meets len (fun cdv A outer s H vs Q E hr h => ⟨t_meets K, PSs.nox (der_meets T  hr), rd vs H Q E h⟩), T.g_meets, F.kp, F.bindsN (fun _ _ _ _ _ _ us hl => match us, hl with | [_, _], _ => rfl)⟩
/-! bounds_with -/
def N_bounds_with : List Str := ["spans", "bounds", "span", "lower", "upper", "place", "low", "high", "width"]
theorem sc_bounds_with : FnScope N_bounds_with ["spans", "bounds", "span"] (defScope s_bounds_with) := ⟨rfl, rfl, rfl, by decide +kernel, rfl, by decide +kernel, by decide +kernel⟩
def t_bounds_with (K : PySem.W.Frag) : TS :=
    (tSeq (tAsg (tVar 1) (gTup K 2 (gCons (gName 3) (gCons (gName 4) gNil))))
    (tSeq (tFor (iList K (tVar 0)) (gTup K 3 (gCons (gName 5) (gCons (gName 6) (gCons (gName 7) gNil)))) (tSeq (tAsg (tOp oSub (tOp (rIxT K) (tVar 2) (tC (.int 0))) (tVar 5)) (gName 8))
    (tCut (tIfS (tOr (tTest (tOp rIsN (tVar 3) (tC .non))) (tB (tG (sp_is_less K) (tCons (tVar 3) (tCons (tTup (tCons (tOp oSub (tOp (rIxT K) (tVar 2) (tC (.int 1))) (tVar 7)) (tCons (tVar 8) tNil))) tNil))))) (tAsg (tTup (tCons (tOp oSub (tOp (rIxT K) (tVar 2) (tC (.int 1))) (tVar 7)) (tCons (tVar 8) tNil))) (gName 3)) tNext)
    (tIfS (tOr (tTest (tOp rIsN (tVar 4) (tC .non))) (tB (tG (sp_is_less K) (tCons (tTup (tCons (tOp oSub (tOp (rIxT K) (tVar 2) (tC (.int 2))) (tVar 6)) (tCons (tVar 8) tNil))) (tCons (tVar 4) tNil))))) (tAsg (tTup (tCons (tOp oSub (tOp (rIxT K) (tVar 2) (tC (.int 2))) (tVar 6)) (tCons (tVar 8) tNil))) (gName 4)) tNext))))
    (tRet (tTup (tCons (tVar 3) (tCons (tVar 4) tNil))))))
theorem der_bounds_with (T : Tx K mg) (G_is_less : Gd P w K mg base "is_less" 1 ["one", "other"] (sp_is_less K)) {f : Addr} {cdv : Value} {A : Around} {outer : List Env} {s : Shared} {H : Hp} {E : XK} (hr : Room 1 (A.deeper (envOfC "bounds_with" (defScope s_bounds_with) s.heap.objs.size f cdv))) : PSs (cxOf CX0 P w K mg base N_bounds_with "bounds_with" (defScope s_bounds_with) f cdv A outer s H E).nox (defBody s_bounds_with) (t_bounds_with K) := by
  have sc := sc_bounds_with
  exact (pss_cons (ps_asg (pv 1) (pg_tup rfl (pgs_cons (pg_name (i := 3) sc.nd rfl (by first | exact Or.inl rfl | exact Or.inr rfl)) (pgs_cons (pg_name (i := 4) sc.nd rfl (by first | exact Or.inl rfl | exact Or.inr rfl)) pgs_nil))))
    (pss_cons (ps_for PassesOwn.never rfl (pi_list (pv 0)) (pg_tup rfl (pgs_cons (pg_name (i := 5) sc.nd rfl (by first | exact Or.inl rfl | exact Or.inr rfl)) (pgs_cons (pg_name (i := 6) sc.nd rfl (by first | exact Or.inl rfl | exact Or.inr rfl)) (pgs_cons (pg_name (i := 7) sc.nd rfl (by first | exact Or.inl rfl | exact Or.inr rfl)) pgs_nil)))) (pss_cons (ps_set (i := 8) sc.nd rfl (by first | exact Or.inl rfl | exact Or.inr rfl) (pe_op opSub (pe_ix ix_tup (pv 2) pe_int (fun _ _ => rfl)) (pv 5)))
    (pss_cut (ps_if (PW.pt (pw_or (pt_cmpR op_isN1 (pv 3) pe_non (nomark _)) (pw_or1 (pt_val (pe_g G_is_less (hr.mono (by decide)) (by rfl) (pa_cons (pv 3) (pa_cons (pe_tup (pa_cons (pe_op opSub (pe_ix ix_tup (pv 2) pe_int (fun _ _ => rfl)) (pv 7)) (pa_cons (pv 8) pa_nil))) pa_nil))))))) (pss_one (ps_set (i := 3) sc.nd rfl (by first | exact Or.inl rfl | exact Or.inr rfl) (pe_tup (pa_cons (pe_op opSub (pe_ix ix_tup (pv 2) pe_int (fun _ _ => rfl)) (pv 7)) (pa_cons (pv 8) pa_nil))))) pss_nil)
    (pss_one (ps_if (PW.pt (pw_or (pt_cmpR op_isN1 (pv 4) pe_non (nomark _)) (pw_or1 (pt_val (pe_g G_is_less (hr.mono (by decide)) (by rfl) (pa_cons (pe_tup (pa_cons (pe_op opSub (pe_ix ix_tup (pv 2) pe_int (fun _ _ => rfl)) (pv 6)) (pa_cons (pv 8) pa_nil))) (pa_cons (pv 4) pa_nil))))))) (pss_one (ps_set (i := 4) sc.nd rfl (by first | exact Or.inl rfl | exact Or.inr rfl) (pe_tup (pa_cons (pe_op opSub (pe_ix ix_tup (pv 2) pe_int (fun _ _ => rfl)) (pv 6)) (pa_cons (pv 8) pa_nil))))) pss_nil)))))
    (pss_one (ps_ret (pe_tup (pa_cons (pv 3) (pa_cons (pv 4) pa_nil)))))))
theorem gd_bounds_with (T : Tx K mg) (G_is_less : Gd P w K mg base "is_less" 1 ["one", "other"] (sp_is_less K)) (len : ∀ vs H Q E, sp_bounds_with K vs H Q E → vs.length = 3) (rd : ∀ vs H Q E, sp_bounds_with K vs H Q E → t_bounds_with K ⟨fun _ H' => Q .non H', Q, fun _ _ => False, fun _ _ => False⟩ (start N_bounds_with vs) H) : Gd P w K mg base "bounds_with" 2 ["spans", "bounds", "span"] (sp_bounds_with K) := by
  obtain ⟨fd, F⟩ := T.f_bounds_with
  exact ⟨_, fd, F.ok sc_bounds_with len (fun cdv A outer s H vs Q E hr h => ⟨t_bounds_with K, PSs.nox (der_bounds_with T G_is_less hr), rd vs H Q E h⟩), T.g_bounds_with, F.kp, F.bindsN (fun _ _ _ _ _ _ us hl => match us, hl with | [_, _, _], _ => rfl)⟩
/-! line_through -/
def N_line_through : List Str := ["spans", "bounds", "slope", "p", "d", "place", "low", "high"]
theorem sc_line_through : FnScope N_line_through ["spans", "bounds"] (defScope s_line_through) := ⟨rfl, rfl, rfl, by decide +kernel, rfl, by decide +kernel, by decide +kernel⟩
def t_line_through (K : PySem.W.Frag) : TS :=
    (tSeq (tAsg (tTup (tCons (tC (.int 0)) (tCons (tC (.int 1)) tNil))) (gName 2))
    (tCut (tIfS (tTest (tOp rNotN (tOp (rIxT K) (tVar 1) (tC (.int 0))) (tC .non))) (tAsg (tG (sp_slope_between K) (tCons (tG (sp_fraction K) (tCons (tOp (rIxT K) (tOp (rIxT K) (tVar 1) (tC (.int 0))) (tC (.int 0))) (tCons (tOp (rIxT K) (tOp (rIxT K) (tVar 1) (tC (.int 0))) (tC (.int 1))) tNil))) (tCons (tG (sp_fraction K) (tCons (tOp (rIxT K) (tOp (rIxT K) (tVar 1) (tC (.int 1))) (tC (.int 0))) (tCons (tOp (rIxT K) (tOp (rIxT K) (tVar 1) (tC (.int 1))) (tC (.int 1))) tNil))) tNil))) (gName 2)) tNext)
    (tSeq (tAsg (tVar 2) (gTup K 2 (gCons (gName 3) (gCons (gName 4) gNil))))
    (tRet (tTup (tCons (tVar 3) (tCons (tCB (rMax K) (tCons (tLc (iList K (tVar 0)) (gTup K 3 (gCons (gName 5) (gCons (gName 6) (gCons (gName 7) gNil)))) tYes (tOp oSub (tOp oMul (tVar 6) (tVar 4)) (tOp oMul (tVar 3) (tVar 5))) [5, 6, 7]) tNil)) (tCons (tVar 4) tNil))))))))
theorem der_line_through (T : Tx K mg) (G_fraction : Gd P w K mg base "fraction" 2 ["numerator", "denominator"] (sp_fraction K)) (G_slope_between : Gd P w K mg base "slope_between" 1 ["lower", "upper"] (sp_slope_between K)) {f : Addr} {cdv : Value} {A : Around} {outer : List Env} {s : Shared} {H : Hp} {E : XK} (hr : Room 2 (A.deeper (envOfC "line_through" (defScope s_line_through) s.heap.objs.size f cdv))) : PSs (cxOf CX0 P w K mg base N_line_through "line_through" (defScope s_line_through) f cdv A outer s H E).nox (defBody s_line_through) (t_line_through K) := by
  have sc := sc_line_through
  exact (pss_cons (ps_set (i := 2) sc.nd rfl (by first | exact Or.inl rfl | exact Or.inr rfl) (pe_tup (pa_cons pe_int (pa_cons pe_int pa_nil))))
    (pss_cut (ps_if (pt_cmpR op_notN1 (pe_ix ix_tup (pv 1) pe_int (fun _ _ => rfl)) pe_non (nomark _)) (pss_one (ps_set (i := 2) sc.nd rfl (by first | exact Or.inl rfl | exact Or.inr rfl) (pe_g G_slope_between (hr.mono (by decide)) (by rfl) (pa_cons (pe_g G_fraction (hr.mono (by decide)) (by rfl) (pa_cons (pe_ix ix_tup (pe_ix ix_tup (pv 1) pe_int (fun _ _ => rfl)) pe_int (fun _ _ => rfl)) (pa_cons (pe_ix ix_tup (pe_ix ix_tup (pv 1) pe_int (fun _ _ => rfl)) pe_int (fun _ _ => rfl)) pa_nil))) (pa_cons (pe_g G_fraction (hr.mono (by decide)) (by rfl) (pa_cons (pe_ix ix_tup (pe_ix ix_tup (pv 1) pe_int (fun _ _ => rfl)) pe_int (fun _ _ => rfl)) (pa_cons (pe_ix ix_tup (pe_ix ix_tup (pv 1) pe_int (fun _ _ => rfl)) pe_int (fun _ _ => rfl)) pa_nil))) pa_nil))))) pss_nil)
    (pss_cons (ps_asg (pv 2) (pg_tup rfl (pgs_cons (pg_name (i := 3) sc.nd rfl (by first | exact Or.inl rfl | exact Or.inr rfl)) (pgs_cons (pg_name (i := 4) sc.nd rfl (by first | exact Or.inl rfl | exact Or.inr rfl)) pgs_nil))))
    (pss_one (ps_ret (pe_tup (pa_cons (pv 3) (pa_cons (pe_callB (cr_max rfl) (by rfl) T.b_max (by decide +kernel) (pa_cons (pe_lc (own := [("place", 5), ("low", 6), ("high", 7)]) rfl sc.nd (pi_list (pv 0)) (blkOk_by (own := [("place", 5), ("low", 6), ("high", 7)]) (N := N_line_through) (sc := defScope s_line_through) (by decide +kernel)) (fun _ _ _ _ _ => (pg_tup rfl (pgs_cons (pg_name (i := 5) sc.nd rfl (by first | exact Or.inl rfl | exact Or.inr rfl)) (pgs_cons (pg_name (i := 6) sc.nd rfl (by first | exact Or.inl rfl | exact Or.inr rfl)) (pgs_cons (pg_name (i := 7) sc.nd rfl (by first | exact Or.inl rfl | exact Or.inr rfl)) pgs_nil))))) (fun _ _ _ _ _ => pts_nil) (fun _ _ _ _ _ => (pe_op opSub (pe_op opMul (pv 6) (pv 4)) (pe_op opMul (pv 3) (pv 5))))) pa_nil)) (pa_cons (pv 4) pa_nil)))))))))
theorem gd_line_through (T : Tx K mg) (G_fraction : Gd P w K mg base "fraction" 2 ["numerator", "denominator"] (sp_fraction K)) (G_slope_between : Gd P w K mg base "slope_between" 1 ["lower", "upper"] (sp_slope_between K)) (len : ∀ vs H Q E, sp_line_through K vs H Q E → vs.length = 2) (rd : ∀ vs H Q E, sp_line_through K vs H Q E → t_line_through K ⟨fun _ H' => Q .non H', Q, fun _ _ => False, fun _ _ => False⟩ (start N_line_through vs) H) : Gd P w K mg base "line_through" 3 ["spans", "bounds"] (sp_line_through K) := by
  obtain ⟨fd, F⟩ := T.f_line_through
  exact ⟨_, fd, F.ok sc_line_through len (fun cdv A outer s H vs Q E hr h => ⟨t_line_through K, PSs.nox (der_line_through T G_fraction G_slope_between hr), rd vs H Q E h⟩), T.g_line_through, F.kp, F.bindsN (fun _ _ _ _ _ _ us hl => match us, hl with | [_, _], _ => rfl)⟩
/-! reason_with -/
def N_reason_with : List Str := ["spans", "start", "position", "second", "first"]
theorem sc_reason_with : FnScope N_reason_with ["spans", "start", "position"] (defScope s_reason_with) := ⟨rfl, rfl, rfl, by decide +kernel, rfl, by decide +kernel, by decide +kernel⟩
def t_reason_with (K : PySem.W.Frag) : TS :=
    (tSeq (tFor (iRng2 (tCons (tOp oAdd (tVar 1) (tC (.int 1))) (tCons (tVar 2) tNil))) (gName 3) (tFor (iRng2 (tCons (tVar 1) (tCons (tVar 3) tNil))) (gName 4) (tIfS (tNot (tB (tG (sp_three_meet K) (tCons (tOp (rIxL K) (tVar 0) (tVar 4)) (tCons (tOp (rIxL K) (tVar 0) (tVar 3)) (tCons (tOp (rIxL K) (tVar 0) (tVar 2)) tNil)))))) (tRet (tTup (tCons (tVar 4) (tCons (tVar 3) (tCons (tVar 2) tNil))))) tNext)))
    tNever)
theorem der_reason_with (T : Tx K mg) (G_three_meet : Gd P w K mg base "three_meet" 1 ["one", "two", "three"] (sp_three_meet K)) {f : Addr} {cdv : Value} {A : Around} {outer : List Env} {s : Shared} {H : Hp} {E : XK} (hr : Room 1 (A.deeper (envOfC "reason_with" (defScope s_reason_with) s.heap.objs.size f cdv))) : PSs (cxOf CX0 P w K mg base N_reason_with "reason_with" (defScope s_reason_with) f cdv A outer s H E).nox (defBody s_reason_with) (t_reason_with K) := by
  have sc := sc_reason_with
  exact (pss_cons (ps_for PassesOwn.never rfl (pi_range2 (by rfl) T.b_range (pa_cons (pe_op opAdd (pv 1) pe_int) (pa_cons (pv 2) pa_nil))) (pg_name (i := 3) sc.nd rfl (by first | exact Or.inl rfl | exact Or.inr rfl)) (pss_one (ps_for PassesOwn.never rfl (pi_range2 (by rfl) T.b_range (pa_cons (pv 1) (pa_cons (pv 3) pa_nil))) (pg_name (i := 4) sc.nd rfl (by first | exact Or.inl rfl | exact Or.inr rfl)) (pss_one (ps_if (pt_not (pt_val (pe_g G_three_meet (hr.mono (by decide)) (by rfl) (pa_cons (pe_ix ix_list (pv 0) (pv 4) (fun _ _ => rfl)) (pa_cons (pe_ix ix_list (pv 0) (pv 3) (fun _ _ => rfl)) (pa_cons (pe_ix ix_list (pv 0) (pv 2) (fun _ _ => rfl)) pa_nil)))))) (pss_one (ps_ret (pe_tup (pa_cons (pv 4) (pa_cons (pv 3) (pa_cons (pv 2) pa_nil)))))) pss_nil)))))
    (pss_one ps_never))
theorem gd_reason_with (T : Tx K mg) (G_three_meet : Gd P w K mg base "three_meet" 1 ["one", "two", "three"] (sp_three_meet K)) (len : ∀ vs H Q E, sp_reason_with K vs H Q E → vs.length = 3) (rd : ∀ vs H Q E, sp_reason_with K vs H Q E → t_reason_with K ⟨fun _ H' => Q .non H', Q, fun _ _ => False, fun _ _ => False⟩ (start N_reason_with vs) H) : Gd P w K mg base "reason_with" 2 ["spans", "start", "position"] (sp_reason_with K) := by
  obtain ⟨fd, F⟩ := T.f_reason_with
  exact ⟨_, fd, F.ok sc_reason_with len (fun cdv A outer s H vs Q E hr h => ⟨t_reason_with K, PSs.nox (der_reason_with T G_three_meet hr), rd vs H Q E h⟩), T.g_reason_with, F.kp, F.bindsN (fun _ _ _ _ _ _ us hl => match us, hl with | [_, _, _], _ => rfl)⟩
/-! span_cut -/
def N_span_cut : List Str := ["spans", "pieces", "reasons", "start", "bounds", "position", "span", "longer"]
theorem sc_span_cut : FnScope N_span_cut ["spans"] (defScope s_span_cut) := ⟨rfl, rfl, rfl, by decide +kernel, rfl, by decide +kernel, by decide +kernel⟩
def t_span_cut (K : PySem.W.Frag) : TS :=
    (tSeq (tAsg (tLst tNil) (gName 1))
    (tSeq (tAsg (tLst tNil) (gName 2))
    (tSeq (tAsg (tC (.int 0)) (gName 3))
    (tSeq (tAsg (tTup (tCons (tC .non) (tCons (tC .non) tNil))) (gName 4))
    (tSeq (tFor (iEnum K (tCons (tVar 0) tNil)) (gTup K 2 (gCons (gName 5) (gCons (gName 6) gNil))) (tSeq (tAsg (tG (sp_bounds_with K) (tCons (tSl (rSlL K) (tVar 0) (tPart (tVar 3)) (tPart (tVar 5))) (tCons (tVar 4) (tCons (tVar 6) tNil)))) (gName 7))
    (tCut (tIfS (tAnd (tTest (tOp oGt (tVar 5) (tVar 3))) (tB (tG (sp_is_less K) (tCons (tOp (rIxT K) (tVar 7) (tC (.int 1))) (tCons (tOp (rIxT K) (tVar 7) (tC (.int 0))) tNil))))) (tSeq (tDrop (tBM K "list" rAppend (tVar 1) (tCons (tTup (tCons (tVar 3) (tCons (tG (sp_line_through K) (tCons (tSl (rSlL K) (tVar 0) (tPart (tVar 3)) (tPart (tVar 5))) (tCons (tVar 4) tNil))) tNil))) tNil)))
    (tSeq (tDrop (tBM K "list" rAppend (tVar 2) (tCons (tG (sp_reason_with K) (tCons (tVar 0) (tCons (tVar 3) (tCons (tVar 5) tNil)))) tNil)))
    (tSeq (tAsg (tVar 5) (gName 3))
    (tAsg (tTup (tCons (tC .non) (tCons (tC .non) tNil))) (gName 7))))) tNext)
    (tAsg (tVar 7) (gName 4)))))
    (tCut (tIfS (tTruth K (tVar 0)) (tDrop (tBM K "list" rAppend (tVar 1) (tCons (tTup (tCons (tVar 3) (tCons (tG (sp_line_through K) (tCons (tSl (rSlL K) (tVar 0) (tPart (tVar 3)) tNoPart) (tCons (tVar 4) tNil))) tNil))) tNil))) tNext)
    (tRet (tK (He.ga K "SpanCutting") (sp_SpanCutting_init K) (tCons (tVar 1) (tCons (tVar 2) tNil))))))))))
theorem der_span_cut (T : Tx K mg) (G_bounds_with : Gd P w K mg base "bounds_with" 2 ["spans", "bounds", "span"] (sp_bounds_with K)) (G_is_less : Gd P w K mg base "is_less" 1 ["one", "other"] (sp_is_less K)) (G_line_through : Gd P w K mg base "line_through" 3 ["spans", "bounds"] (sp_line_through K)) (G_reason_with : Gd P w K mg base "reason_with" 2 ["spans", "start", "position"] (sp_reason_with K)) (G_SpanCutting_init : Kd P w K mg base "SpanCutting" (He.ga K "SpanCutting") 1 ["self", "pieces", "reasons"] (sp_SpanCutting_init K)) {f : Addr} {cdv : Value} {A : Around} {outer : List Env} {s : Shared} {H : Hp} {E : XK} (hr : Room 3 (A.deeper (envOfC "span_cut" (defScope s_span_cut) s.heap.objs.size f cdv))) : PSs (cxOf CX0 P w K mg base N_span_cut "span_cut" (defScope s_span_cut) f cdv A outer s H E).nox (defBody s_span_cut) (t_span_cut K) := by
  have sc := sc_span_cut
  exact (pss_cons (ps_set (i := 1) sc.nd rfl (by first | exact Or.inl rfl | exact Or.inr rfl) (pe_lst pa_nil))
    (pss_cons (ps_set (i := 2) sc.nd rfl (by first | exact Or.inl rfl | exact Or.inr rfl) (pe_lst pa_nil))
    (pss_cons (ps_set (i := 3) sc.nd rfl (by first | exact Or.inl rfl | exact Or.inr rfl) pe_int)
    (pss_cons (ps_set (i := 4) sc.nd rfl (by first | exact Or.inl rfl | exact Or.inr rfl) (pe_tup (pa_cons pe_non (pa_cons pe_non pa_nil))))
    (pss_cons (ps_for PassesOwn.never rfl (pi_enum (by rfl) T.b_enumerate (pa_cons (pv 0) pa_nil)) (pg_tup rfl (pgs_cons (pg_name (i := 5) sc.nd rfl (by first | exact Or.inl rfl | exact Or.inr rfl)) (pgs_cons (pg_name (i := 6) sc.nd rfl (by first | exact Or.inl rfl | exact Or.inr rfl)) pgs_nil))) (pss_cons (ps_set (i := 7) sc.nd rfl (by first | exact Or.inl rfl | exact Or.inr rfl) (pe_g G_bounds_with (hr.mono (by decide)) (by rfl) (pa_cons (pe_slice sl_list (pv 0) (po_some (pv 3)) (po_some (pv 5))) (pa_cons (pv 4) (pa_cons (pv 6) pa_nil)))))
    (pss_cut (ps_if (PW.pt (pw_and (pt_cmpR opGt (pv 5) (pv 3) (nomark _)) (pw_and1 (pt_val (pe_g G_is_less (hr.mono (by decide)) (by rfl) (pa_cons (pe_ix ix_tup (pv 7) pe_int (fun _ _ => rfl)) (pa_cons (pe_ix ix_tup (pv 7) pe_int (fun _ _ => rfl)) pa_nil))))))) (pss_cons (ps_expr (pe_bm PySem.F.plainAttrs_list PySem.F.slot_list_append PySem.F.type_list_append mt_append (pv 1) (pa_cons (pe_tup (pa_cons (pv 3) (pa_cons (pe_g G_line_through (hr.mono (by decide)) (by rfl) (pa_cons (pe_slice sl_list (pv 0) (po_some (pv 3)) (po_some (pv 5))) (pa_cons (pv 4) pa_nil))) pa_nil))) pa_nil)))
    (pss_cons (ps_expr (pe_bm PySem.F.plainAttrs_list PySem.F.slot_list_append PySem.F.type_list_append mt_append (pv 2) (pa_cons (pe_g G_reason_with (hr.mono (by decide)) (by rfl) (pa_cons (pv 0) (pa_cons (pv 3) (pa_cons (pv 5) pa_nil)))) pa_nil)))
    (pss_cons (ps_set (i := 3) sc.nd rfl (by first | exact Or.inl rfl | exact Or.inr rfl) (pv 5))
    (pss_one (ps_set (i := 7) sc.nd rfl (by first | exact Or.inl rfl | exact Or.inr rfl) (pe_tup (pa_cons pe_non (pa_cons pe_non pa_nil)))))))) pss_nil)
    (pss_one (ps_set (i := 4) sc.nd rfl (by first | exact Or.inl rfl | exact Or.inr rfl) (pv 7))))))
    (pss_cut (ps_if (pt_tru (pv 0) (by intro _; rfl)) (pss_one (ps_expr (pe_bm PySem.F.plainAttrs_list PySem.F.slot_list_append PySem.F.type_list_append mt_append (pv 1) (pa_cons (pe_tup (pa_cons (pv 3) (pa_cons (pe_g G_line_through (hr.mono (by decide)) (by rfl) (pa_cons (pe_slice sl_list (pv 0) (po_some (pv 3)) po_none) (pa_cons (pv 4) pa_nil))) pa_nil))) pa_nil)))) pss_nil)
    (pss_one (ps_ret (pe_k G_SpanCutting_init (hr.mono (by decide)) (by rfl) (pa_cons (pv 1) (pa_cons (pv 2) pa_nil)))))))))))
theorem gd_span_cut (T : Tx K mg) (G_bounds_with : Gd P w K mg base "bounds_with" 2 ["spans", "bounds", "span"] (sp_bounds_with K)) (G_is_less : Gd P w K mg base "is_less" 1 ["one", "other"] (sp_is_less K)) (G_line_through : Gd P w K mg base "line_through" 3 ["spans", "bounds"] (sp_line_through K)) (G_reason_with : Gd P w K mg base "reason_with" 2 ["spans", "start", "position"] (sp_reason_with K)) (G_SpanCutting_init : Kd P w K mg base "SpanCutting" (He.ga K "SpanCutting") 1 ["self", "pieces", "reasons"] (sp_SpanCutting_init K)) (len : ∀ vs H Q E, sp_span_cut K vs H Q E → vs.length = 1) (rd : ∀ vs H Q E, sp_span_cut K vs H Q E → t_span_cut K ⟨fun _ H' => Q .non H', Q, fun _ _ => False, fun _ _ => False⟩ (start N_span_cut vs) H) : Gd P w K mg base "span_cut" 4 ["spans"] (sp_span_cut K) := by
  obtain ⟨fd, F⟩ := T.f_span_cut
  exact ⟨_, fd, F.ok sc_span_cut len (fun cdv A outer s H vs Q E hr h => ⟨t_span_cut K, PSs.nox (der_span_cut T G_bounds_with G_is_less G_line_through G_reason_with G_SpanCutting_init hr), rd vs H Q E h⟩), T.g_span_cut, F.kp, F.bindsN (fun _ _ _ _ _ _ us hl => match us, hl with | [_], _ => rfl)⟩
/-! is_span_piece -/
def N_is_span_piece : List Str := ["line", "spans", "span"]
theorem sc_is_span_piece : FnScope N_is_span_piece ["line", "spans"] (defScope s_is_span_piece) := ⟨rfl, rfl, rfl, by decide +kernel, rfl, by decide +kernel, by decide +kernel⟩
def t_is_span_piece (K : PySem.W.Frag) : TS :=
    (tRet (tAndV (tOp oGe (tOp (rIxT K) (tVar 0) (tC (.int 2))) (tC (.int 1))) (tCB (rAll K) (tCons (tLc (iList K (tVar 1)) (gName 2) tYes (tG (sp_meets K) (tCons (tVar 0) (tCons (tVar 2) tNil))) [2]) tNil))))
theorem der_is_span_piece (T : Tx K mg) (G_meets : Gd P w K mg base "meets" 1 ["line", "span"] (sp_meets K)) {f : Addr} {cdv : Value} {A : Around} {outer : List Env} {s : Shared} {H : Hp} {E : XK} (hr : Room 1 (A.deeper (envOfC "is_span_piece" (defScope s_is_span_piece) s.heap.objs.size f cdv))) : PSs (cxOf CX0 P w K mg base N_is_span_piece "is_span_piece" (defScope s_is_span_piece) f cdv A outer s H E).nox (defBody s_is_span_piece) (t_is_span_piece K) := by
  have sc := sc_is_span_piece
  exact (pss_one (ps_ret (pe_and (pe_cmpR opGe (pe_ix ix_tup (pv 0) pe_int (fun _ _ => rfl)) pe_int (nomark _)) (pe_one (pe_callB (cr_all rfl) (by rfl) T.b_all (by decide +kernel) (pa_cons (pe_lc (own := [("span", 2)]) rfl sc.nd (pi_list (pv 1)) (blkOk_by (own := [("span", 2)]) (N := N_is_span_piece) (sc := defScope s_is_span_piece) (by decide +kernel)) (fun _ _ _ _ _ => (pg_name (i := 2) sc.nd rfl (by first | exact Or.inl rfl | exact Or.inr rfl))) (fun _ _ _ _ _ => pts_nil) (fun _ _ _ _ _ => (pe_g G_meets (hr.mono (by decide)) (by rfl) (pa_cons (pv 0) (pa_cons (pv 2) pa_nil))))) pa_nil))))))
theorem gd_is_span_piece (T : Tx K mg) (G_meets : Gd P w K mg base "meets" 1 ["line", "span"] (sp_meets K)) (len : ∀ vs H Q E, sp_is_span_piece K vs H Q E → vs.length = 2) (rd : ∀ vs H Q E, sp_is_span_piece K vs H Q E → t_is_span_piece K ⟨fun _ H' => Q .non H', Q, fun _ _ => False, fun _ _ => False⟩ (start N_is_span_piece vs) H) : Gd P w K mg base "is_span_piece" 2 ["line", "spans"] (sp_is_span_piece K) := by
  obtain ⟨fd, F⟩ := T.f_is_span_piece
  exact ⟨_, fd, F.ok sc_is_span_piece len (fun cdv A outer s H vs Q E hr h => ⟨t_is_span_piece K, PSs.nox (der_is_span_piece T G_meets hr), rd vs H Q E h⟩), T.g_is_span_piece, F.kp, F.bindsN (fun _ _ _ _ _ _ us hl => match us, hl with | [_, _], _ => rfl)⟩
/-! is_span_reason -/
def N_is_span_reason : List Str := ["spans", "indexes", "least", "most", "first", "second", "third"]
theorem sc_is_span_reason : FnScope N_is_span_reason ["spans", "indexes", "least", "most"] (defScope s_is_span_reason) := ⟨rfl, rfl, rfl, by decide +kernel, rfl, by decide +kernel, by decide +kernel⟩
def t_is_span_reason (K : PySem.W.Frag) : TS :=
    (tSeq (tAsg (tVar 1) (gTup K 3 (gCons (gName 4) (gCons (gName 5) (gCons (gName 6) gNil)))))
    (tSeq (tIfS (tNot (tChT (tVar 2) (tChC oLe (tVar 4) (tChC oLt (tVar 5) (tChC oLt (tVar 6) (tChL oLe (tVar 3))))))) tNever tNext)
    (tRet (tNotV (tG (sp_three_meet K) (tCons (tOp (rIxL K) (tVar 0) (tVar 4)) (tCons (tOp (rIxL K) (tVar 0) (tVar 5)) (tCons (tOp (rIxL K) (tVar 0) (tVar 6)) tNil))))))))
theorem der_is_span_reason (T : Tx K mg) (G_three_meet : Gd P w K mg base "three_meet" 1 ["one", "two", "three"] (sp_three_meet K)) {f : Addr} {cdv : Value} {A : Around} {outer : List Env} {s : Shared} {H : Hp} {E : XK} (hr : Room 1 (A.deeper (envOfC "is_span_reason" (defScope s_is_span_reason) s.heap.objs.size f cdv))) : PSs (cxOf CX0 P w K mg base N_is_span_reason "is_span_reason" (defScope s_is_span_reason) f cdv A outer s H E).nox (defBody s_is_span_reason) (t_is_span_reason K) := by
  have sc := sc_is_span_reason
  exact (pss_cons (ps_asg (pv 1) (pg_tup rfl (pgs_cons (pg_name (i := 4) sc.nd rfl (by first | exact Or.inl rfl | exact Or.inr rfl)) (pgs_cons (pg_name (i := 5) sc.nd rfl (by first | exact Or.inl rfl | exact Or.inr rfl)) (pgs_cons (pg_name (i := 6) sc.nd rfl (by first | exact Or.inl rfl | exact Or.inr rfl)) pgs_nil)))))
    (pss_cons (ps_if (pt_not (pt_ch (pv 2) (pch_cons opLe (pv 4) (pch_cons opLt (pv 5) (pch_cons opLt (pv 6) (pch_one opLe (pv 3))))))) (pss_one ps_never) pss_nil)
    (pss_one (ps_ret (pe_not (pe_g G_three_meet (hr.mono (by decide)) (by rfl) (pa_cons (pe_ix ix_list (pv 0) (pv 4) (fun _ _ => rfl)) (pa_cons (pe_ix ix_list (pv 0) (pv 5) (fun _ _ => rfl)) (pa_cons (pe_ix ix_list (pv 0) (pv 6) (fun _ _ => rfl)) pa_nil)))))))))
theorem gd_is_span_reason (T : Tx K mg) (G_three_meet : Gd P w K mg base "three_meet" 1 ["one", "two", "three"] (sp_three_meet K)) (len : ∀ vs H Q E, sp_is_span_reason K vs H Q E → vs.length = 4) (rd : ∀ vs H Q E, sp_is_span_reason K vs H Q E → t_is_span_reason K ⟨fun _ H' => Q .non H', Q, fun _ _ => False, fun _ _ => False⟩ (start N_is_span_reason vs) H) : Gd P w K mg base "is_span_reason" 2 ["spans", "indexes", "least", "most"] (sp_is_span_reason K) := by
  obtain ⟨fd, F⟩ := T.f_is_span_reason
  exact ⟨_, fd, F.ok sc_is_span_reason len (fun cdv A outer s H vs Q E hr h => ⟨t_is_span_reason K, PSs.nox (der_is_span_reason T G_three_meet hr), rd vs H Q E h⟩), T.g_is_span_reason, F.kp, F.bindsN (fun _ _ _ _ _ _ us hl => match us, hl with | [_, _, _, _], _ => rfl)⟩
/-! judge_spans -/
def N_judge_spans : List Str := ["spans", "cutting", "starts", "ends", "position", "piece", "indexes", "start", "line", "k"]
theorem sc_judge_spans : FnScope N_judge_spans ["spans", "cutting"] (defScope s_judge_spans) := ⟨rfl, rfl, rfl, by decide +kernel, rfl, by decide +kernel, by decide +kernel⟩
def t_judge_spans (K : PySem.W.Frag) : TS :=
    (tSeq (tAsg (tLc (iList K (tFld K (tVar 1) "pieces")) (gTup K 2 (gCons (gName 7) (gCons (gName 8) gNil))) tYes (tVar 7) [7, 8]) (gName 2))
    (tSeq (tIfS (tNot (tTruth K (tVar 0))) tNever tNext)
    (tSeq (tIfS (tOr (tNot (tTruth K (tVar 2))) (tOr (tTest (tOp rNe (tOp (rIxL K) (tVar 2) (tC (.int 0))) (tC (.int 0)))) (tOr (tTest (tOp oGe (tOp (rIxL K) (tVar 2) (tUn oNeg (tC (.int 1)))) (tCB (cLen K) (tCons (tVar 0) tNil)))) (tTest (tOp rNe (tCB (cLen K) (tCons (tFld K (tVar 1) "reasons") tNil)) (tOp oSub (tCB (cLen K) (tCons (tVar 2) tNil)) (tC (.int 1)))))))) tNever tNext)
    (tSeq (tIfS (tNot (tB (tCB (rAll K) (tCons (tLc (iRng2 (tCons (tC (.int 1)) (tCons (tCB (cLen K) (tCons (tVar 2) tNil)) tNil))) (gName 9) tYes (tOp oLt (tOp (rIxL K) (tVar 2) (tOp oSub (tVar 9) (tC (.int 1)))) (tOp (rIxL K) (tVar 2) (tVar 9))) [9]) tNil)))) tNever tNext)
    (tSeq (tAsg (tOp oCat (tSl (rSlL K) (tVar 2) (tPart (tC (.int 1))) tNoPart) (tLst (tCons (tCB (cLen K) (tCons (tVar 0) tNil)) tNil))) (gName 3))
    (tSeq (tFor (iEnum K (tCons (tFld K (tVar 1) "pieces") tNil)) (gTup K 2 (gCons (gName 4) (gCons (gName 5) gNil))) (tIfS (tNot (tB (tG (sp_is_span_piece K) (tCons (tOp (rIxT K) (tVar 5) (tC (.int 1))) (tCons (tSl (rSlL K) (tVar 0) (tPart (tOp (rIxT K) (tVar 5) (tC (.int 0)))) (tPart (tOp (rIxL K) (tVar 3) (tVar 4)))) tNil))))) tNever tNext))
    (tSeq (tFor (iEnum K (tCons (tFld K (tVar 1) "reasons") tNil)) (gTup K 2 (gCons (gName 4) (gCons (gName 6) gNil))) (tIfS (tNot (tB (tG (sp_is_span_reason K) (tCons (tVar 0) (tCons (tVar 6) (tCons (tOp (rIxL K) (tVar 2) (tVar 4)) (tCons (tOp (rIxL K) (tVar 2) (tOp oAdd (tVar 4) (tC (.int 1)))) tNil))))))) tNever tNext))
    (tRet (tC (.bl true))))))))))
theorem der_judge_spans (T : Tx K mg) (G_is_span_piece : Gd P w K mg base "is_span_piece" 2 ["line", "spans"] (sp_is_span_piece K)) (G_is_span_reason : Gd P w K mg base "is_span_reason" 2 ["spans", "indexes", "least", "most"] (sp_is_span_reason K)) {f : Addr} {cdv : Value} {A : Around} {outer : List Env} {s : Shared} {H : Hp} {E : XK} (hr : Room 2 (A.deeper (envOfC "judge_spans" (defScope s_judge_spans) s.heap.objs.size f cdv))) : PSs (cxOf CX0 P w K mg base N_judge_spans "judge_spans" (defScope s_judge_spans) f cdv A outer s H E).nox (defBody s_judge_spans) (t_judge_spans K) := by
  have sc := sc_judge_spans
  exact (pss_cons (ps_set (i := 2) sc.nd rfl (by first | exact Or.inl rfl | exact Or.inr rfl) (pe_lc (own := [("start", 7), ("line", 8)]) rfl sc.nd (pi_list (pe_fld (pv 1) rfl)) (blkOk_by (own := [("start", 7), ("line", 8)]) (N := N_judge_spans) (sc := defScope s_judge_spans) (by decide +kernel)) (fun _ _ _ _ _ => (pg_tup rfl (pgs_cons (pg_name (i := 7) sc.nd rfl (by first | exact Or.inl rfl | exact Or.inr rfl)) (pgs_cons (pg_name (i := 8) sc.nd rfl (by first | exact Or.inl rfl | exact Or.inr rfl)) pgs_nil)))) (fun _ _ _ _ _ => pts_nil) (fun _ _ _ _ _ => (pv 7))))
    (pss_cons (ps_if (pt_not (pt_tru (pv 0) (by intro _; rfl))) (pss_one ps_never) pss_nil)
    (pss_cons (ps_if (PW.pt (pw_or (pt_not (pt_tru (pv 2) (by intro _; rfl))) (pw_or (pt_cmpR op_ne (pe_ix ix_list (pv 2) pe_int (fun _ _ => rfl)) pe_int (nomark _)) (pw_or (pt_cmpR opGe (pe_ix ix_list (pv 2) (pe_un opNeg pe_int) (fun _ _ => rfl)) (pe_callB call_len' (by rfl) T.b_len (by decide +kernel) (pa_cons (pv 0) pa_nil)) (nomark _)) (pw_or1 (pt_cmpR op_ne (pe_callB call_len' (by rfl) T.b_len (by decide +kernel) (pa_cons (pe_fld (pv 1) rfl) pa_nil)) (pe_op opSub (pe_callB call_len' (by rfl) T.b_len (by decide +kernel) (pa_cons (pv 2) pa_nil)) pe_int) (nomark _))))))) (pss_one ps_never) pss_nil)
    (pss_cons (ps_if (pt_not (pt_val (pe_callB (cr_all rfl) (by rfl) T.b_all (by decide +kernel) (pa_cons (pe_lc (own := [("k", 9)]) rfl sc.nd (pi_range2 (by rfl) T.b_range (pa_cons pe_int (pa_cons (pe_callB call_len' (by rfl) T.b_len (by decide +kernel) (pa_cons (pv 2) pa_nil)) pa_nil))) (blkOk_by (own := [("k", 9)]) (N := N_judge_spans) (sc := defScope s_judge_spans) (by decide +kernel)) (fun _ _ _ _ _ => (pg_name (i := 9) sc.nd rfl (by first | exact Or.inl rfl | exact Or.inr rfl))) (fun _ _ _ _ _ => pts_nil) (fun _ _ _ _ _ => (pe_cmpR opLt (pe_ix ix_list (pv 2) (pe_op opSub (pv 9) pe_int) (fun _ _ => rfl)) (pe_ix ix_list (pv 2) (pv 9) (fun _ _ => rfl)) (nomark _)))) pa_nil)))) (pss_one ps_never) pss_nil)
    (pss_cons (ps_set (i := 3) sc.nd rfl (by first | exact Or.inl rfl | exact Or.inr rfl) (pe_op opCat (pe_slice sl_list (pv 2) (po_some pe_int) po_none) (pe_lst (pa_cons (pe_callB call_len' (by rfl) T.b_len (by decide +kernel) (pa_cons (pv 0) pa_nil)) pa_nil))))
    (pss_cons (ps_for PassesOwn.never rfl (pi_enum (by rfl) T.b_enumerate (pa_cons (pe_fld (pv 1) rfl) pa_nil)) (pg_tup rfl (pgs_cons (pg_name (i := 4) sc.nd rfl (by first | exact Or.inl rfl | exact Or.inr rfl)) (pgs_cons (pg_name (i := 5) sc.nd rfl (by first | exact Or.inl rfl | exact Or.inr rfl)) pgs_nil))) (pss_one (ps_if (pt_not (pt_val (pe_g G_is_span_piece (hr.mono (by decide)) (by rfl) (pa_cons (pe_ix ix_tup (pv 5) pe_int (fun _ _ => rfl)) (pa_cons (pe_slice sl_list (pv 0) (po_some (pe_ix ix_tup (pv 5) pe_int (fun _ _ => rfl))) (po_some (pe_ix ix_list (pv 3) (pv 4) (fun _ _ => rfl)))) pa_nil))))) (pss_one ps_never) pss_nil)))
    (pss_cons (ps_for PassesOwn.never rfl (pi_enum (by rfl) T.b_enumerate (pa_cons (pe_fld (pv 1) rfl) pa_nil)) (pg_tup rfl (pgs_cons (pg_name (i := 4) sc.nd rfl (by first | exact Or.inl rfl | exact Or.inr rfl)) (pgs_cons (pg_name (i := 6) sc.nd rfl (by first | exact Or.inl rfl | exact Or.inr rfl)) pgs_nil))) (pss_one (ps_if (pt_not (pt_val (pe_g G_is_span_reason (hr.mono (by decide)) (by rfl) (pa_cons (pv 0) (pa_cons (pv 6) (pa_cons (pe_ix ix_list (pv 2) (pv 4) (fun _ _ => rfl)) (pa_cons (pe_ix ix_list (pv 2) (pe_op opAdd (pv 4) pe_int) (fun _ _ => rfl)) pa_nil))))))) (pss_one ps_never) pss_nil)))
    (pss_one (ps_ret pe_bl)))))))))
theorem gd_judge_spans (T : Tx K mg) (G_is_span_piece : Gd P w K mg base "is_span_piece" 2 ["line", "spans"] (sp_is_span_piece K)) (G_is_span_reason : Gd P w K mg base "is_span_reason" 2 ["spans", "indexes", "least", "most"] (sp_is_span_reason K)) (len : ∀ vs H Q E, sp_judge_spans K vs H Q E → vs.length = 2) (rd : ∀ vs H Q E, sp_judge_spans K vs H Q E → t_judge_spans K ⟨fun _ H' => Q .non H', Q, fun _ _ => False, fun _ _ => False⟩ (start N_judge_spans vs) H) : Gd P w K mg base "judge_spans" 3 ["spans", "cutting"] (sp_judge_spans K) := by
  obtain ⟨fd, F⟩ := T.f_judge_spans
  exact ⟨_, fd, F.ok sc_judge_spans len (fun cdv A outer s H vs Q E hr h => ⟨t_judge_spans K, PSs.nox (der_judge_spans T G_is_span_piece G_is_span_reason hr), rd vs H Q E h⟩), T.g_judge_spans, F.kp, F.bindsN (fun _ _ _ _ _ _ us hl => match us, hl with | [_, _], _ => rfl)⟩
/-! Stream.__init__ -/
def N_Stream_init : List Str := ["self", "error"]
theorem sc_Stream_init : FnScope N_Stream_init ["self", "error"] (defScope s_Stream_init) := ⟨rfl, rfl, rfl, by decide +kernel, rfl, by decide +kernel, by decide +kernel⟩
def t_Stream_init (K : PySem.W.Frag) : TS :=
    (tSeq (sFld K (tVar 0) (tVar 1) "error")
    (tSeq (sFld K (tVar 0) (tC (.int 0)) "length")
    (tSeq (sFld K (tVar 0) (tLst tNil) "_closed")
    (tSeq (sFld K (tVar 0) (tC (.int 0)) "_start")
    (sFld K (tVar 0) (tK (He.ga K "Fitter") (sp_Fitter_init K) (tCons (tVar 1) tNil)) "_fitter")))))
theorem der_Stream_init (T : Tx K mg) (G_Fitter_init : Kd P w K mg base "Fitter" (He.ga K "Fitter") 1 ["self", "error"] (sp_Fitter_init K)) {f : Addr} {cdv : Value} {A : Around} {outer : List Env} {s : Shared} {H : Hp} {E : XK} (hr : Room 2 (A.deeper (envOfC "Stream.__init__" (defScope s_Stream_init) s.heap.objs.size f cdv))) : PSs (cxOf CX0 P w K mg base N_Stream_init "Stream.__init__" (defScope s_Stream_init) f cdv A outer s H E).nox (defBody s_Stream_init) (t_Stream_init K) := by
  have sc := sc_Stream_init
  exact (pss_cons (ps_fld (pv 0) (pv 1) rfl)
    (pss_cons (ps_fld (pv 0) pe_int rfl)
    (pss_cons (ps_fld (pv 0) (pe_lst pa_nil) rfl)
    (pss_cons (ps_fld (pv 0) pe_int rfl)
    (pss_one (ps_fld (pv 0) (pe_k G_Fitter_init (hr.mono (by decide)) (by rfl) (pa_cons (pv 1) pa_nil)) rfl))))))
theorem gd_Stream_init (T : Tx K mg) (G_Fitter_init : Kd P w K mg base "Fitter" (He.ga K "Fitter") 1 ["self", "error"] (sp_Fitter_init K)) (len : ∀ vs H Q E, sp_Stream_init K vs H Q E → vs.length = 2) (rd : ∀ vs H Q E, sp_Stream_init K vs H Q E → t_Stream_init K ⟨fun _ H' => Q .non H', Q, fun _ _ => False, fun _ _ => False⟩ (start N_Stream_init vs) H) : Kd P w K mg base "Stream" (He.ga K "Stream") 3 ["self", "error"] (sp_Stream_init K) := by
  obtain ⟨fd, F⟩ := T.f_Stream_init
  exact ⟨_, fd, F.ok sc_Stream_init len (fun cdv A outer s H vs Q E hr h => ⟨t_Stream_init K, PSs.nox (der_Stream_init T G_Fitter_init hr), rd vs H Q E h⟩), T.k_Stream, T.g_Stream, F.bindsN (fun _ _ _ _ _ _ us hl => match us, hl with | [_, _], _ => rfl)⟩
/-! Stream.push -/
def N_Stream_push : List Str := ["self", "number", "point", "closed"]
theorem sc_Stream_push : FnScope N_Stream_push ["self", "number"] (defScope s_Stream_push) := ⟨rfl, rfl, rfl, by decide +kernel, rfl, by decide +kernel, by decide +kernel⟩
def t_Stream_push (K : PySem.W.Frag) : TS :=
    (tSeq (tAsg (tTup (tCons (tFld K (tVar 0) "length") (tCons (tVar 1) tNil))) (gName 2))
    (tSeq (tAsg (tC .non) (gName 3))
    (tCut (tIfS (tTest (tOp rNotN (tM (He.ga K "Fitter") "conflict" (sp_Fitter_conflict K) (tFld K (tVar 0) "_fitter") (tCons (tVar 2) tNil)) (tC .non))) (tSeq (tAsg (tTup (tCons (tFld K (tVar 0) "_start") (tCons (tM (He.ga K "Fitter") "line" (sp_Fitter_line K) (tFld K (tVar 0) "_fitter") tNil) tNil))) (gName 3))
    (tSeq (tDrop (tBM K "list" rAppend (tFld K (tVar 0) "_closed") (tCons (tVar 3) tNil)))
    (tSeq (sFld K (tVar 0) (tFld K (tVar 0) "length") "_start")
    (sFld K (tVar 0) (tK (He.ga K "Fitter") (sp_Fitter_init K) (tCons (tFld K (tVar 0) "error") tNil)) "_fitter")))) tNext)
    (tSeq (tDrop (tM (He.ga K "Fitter") "add" (sp_Fitter_add K) (tFld K (tVar 0) "_fitter") (tCons (tVar 2) tNil)))
    (tSeq (sFldAug K (tVar 0) (tC (.int 1)) rAdd "length")
    (tRet (tVar 3)))))))
theorem der_Stream_push (T : Tx K mg) (G_Fitter_init : Kd P w K mg base "Fitter" (He.ga K "Fitter") 1 ["self", "error"] (sp_Fitter_init K)) (G_Fitter_add : Md P w K mg base (He.ga K "Fitter") "add" 3 ["self", "point"] (sp_Fitter_add K)) (G_Fitter_conflict : Md P w K mg base (He.ga K "Fitter") "conflict" 2 ["self", "point"] (sp_Fitter_conflict K)) (G_Fitter_line : Md P w K mg base (He.ga K "Fitter") "line" 3 ["self"] (sp_Fitter_line K)) {f : Addr} {cdv : Value} {A : Around} {outer : List Env} {s : Shared} {H : Hp} {E : XK} (hr : Room 3 (A.deeper (envOfC "Stream.push" (defScope s_Stream_push) s.heap.objs.size f cdv))) : PSs (cxOf CX0 P w K mg base N_Stream_push "Stream.push" (defScope s_Stream_push) f cdv A outer s H E).nox (defBody s_Stream_push) (t_Stream_push K) := by
  have sc := sc_Stream_push
  exact (pss_cons (ps_set (i := 2) sc.nd rfl (by first | exact Or.inl rfl | exact Or.inr rfl) (pe_tup (pa_cons (pe_fld (pv 0) rfl) (pa_cons (pv 1) pa_nil))))
    (pss_cons (ps_set (i := 3) sc.nd rfl (by first | exact Or.inl rfl | exact Or.inr rfl) pe_non)
    (pss_cut (ps_if (pt_cmpR op_notN1 (pe_m (pe_fld (pv 0) rfl) G_Fitter_conflict (hr.mono (by decide)) (pa_cons (pv 2) pa_nil)) pe_non (nomark _)) (pss_cons (ps_set (i := 3) sc.nd rfl (by first | exact Or.inl rfl | exact Or.inr rfl) (pe_tup (pa_cons (pe_fld (pv 0) rfl) (pa_cons (pe_m0 (pe_fld (pv 0) rfl) G_Fitter_line (hr.mono (by decide))) pa_nil))))
    (pss_cons (ps_expr (pe_bm PySem.F.plainAttrs_list PySem.F.slot_list_append PySem.F.type_list_append mt_append (pe_fld (pv 0) rfl) (pa_cons (pv 3) pa_nil)))
    (pss_cons (ps_fld (pv 0) (pe_fld (pv 0) rfl) rfl)
    (pss_one (ps_fld (pv 0) (pe_k G_Fitter_init (hr.mono (by decide)) (by rfl) (pa_cons (pe_fld (pv 0) rfl) pa_nil)) rfl))))) pss_nil)
    (pss_cons (ps_expr (pe_m (pe_fld (pv 0) rfl) G_Fitter_add (hr.mono (by decide)) (pa_cons (pv 2) pa_nil)))
    (pss_cons (ps_fldaug (pv 0) pe_int in_add)
    (pss_one (ps_ret (pv 3))))))))
theorem gd_Stream_push (T : Tx K mg) (G_Fitter_init : Kd P w K mg base "Fitter" (He.ga K "Fitter") 1 ["self", "error"] (sp_Fitter_init K)) (G_Fitter_add : Md P w K mg base (He.ga K "Fitter") "add" 3 ["self", "point"] (sp_Fitter_add K)) (G_Fitter_conflict : Md P w K mg base (He.ga K "Fitter") "conflict" 2 ["self", "point"] (sp_Fitter_conflict K)) (G_Fitter_line : Md P w K mg base (He.ga K "Fitter") "line" 3 ["self"] (sp_Fitter_line K)) (len : ∀ vs H Q E, sp_Stream_push K vs H Q E → vs.length = 2) (rd : ∀ vs H Q E, sp_Stream_push K vs H Q E → t_Stream_push K ⟨fun _ H' => Q .non H', Q, fun _ _ => False, fun _ _ => False⟩ (start N_Stream_push vs) H) : Md P w K mg base (He.ga K "Stream") "push" 4 ["self", "number"] (sp_Stream_push K) := by
  obtain ⟨fd, F⟩ := T.f_Stream_push
  exact ⟨_, fd, F.ok sc_Stream_push len (fun cdv A outer s H vs Q E hr h => ⟨t_Stream_push K, PSs.nox (der_Stream_push T G_Fitter_init G_Fitter_add G_Fitter_conflict G_Fitter_line hr), rd vs H Q E h⟩), T.m_Stream_push, F.bindsN (fun _ _ _ _ _ _ us hl => match us, hl with | [_, _], _ => rfl), T.c_Stream⟩
/-! Stream.pieces -/
def N_Stream_pieces : List Str := ["self"]
theorem sc_Stream_pieces : FnScope N_Stream_pieces ["self"] (defScope s_Stream_pieces) := ⟨rfl, rfl, rfl, by decide +kernel, rfl, by decide +kernel, by decide +kernel⟩
def t_Stream_pieces (K : PySem.W.Frag) : TS :=
    (tSeq (tIfS (tTest (tOp rEq (tFld K (tVar 0) "length") (tC (.int 0)))) tNever tNext)
    (tRet (tOp oCat (tFld K (tVar 0) "_closed") (tLst (tCons (tTup (tCons (tFld K (tVar 0) "_start") (tCons (tM (He.ga K "Fitter") "line" (sp_Fitter_line K) (tFld K (tVar 0) "_fitter") tNil) tNil))) tNil)))))
theorem der_Stream_pieces (T : Tx K mg) (G_Fitter_line : Md P w K mg base (He.ga K "Fitter") "line" 3 ["self"] (sp_Fitter_line K)) {f : Addr} {cdv : Value} {A : Around} {outer : List Env} {s : Shared} {H : Hp} {E : XK} (hr : Room 3 (A.deeper (envOfC "Stream.pieces" (defScope s_Stream_pieces) s.heap.objs.size f cdv))) : PSs (cxOf CX0 P w K mg base N_Stream_pieces "Stream.pieces" (defScope s_Stream_pieces) f cdv A outer s H E).nox (defBody s_Stream_pieces) (t_Stream_pieces K) := by
  have sc := sc_Stream_pieces
  exact (pss_cons (ps_if (pt_cmpR op_eq (pe_fld (pv 0) rfl) pe_int (nomark _)) (pss_one ps_never) pss_nil)
    (pss_one (ps_ret (pe_op opCat (pe_fld (pv 0) rfl) (pe_lst (pa_cons (pe_tup (pa_cons (pe_fld (pv 0) rfl) (pa_cons (pe_m0 (pe_fld (pv 0) rfl) G_Fitter_line (hr.mono (by decide))) pa_nil))) pa_nil))))))
theorem gd_Stream_pieces (T : Tx K mg) (G_Fitter_line : Md P w K mg base (He.ga K "Fitter") "line" 3 ["self"] (sp_Fitter_line K)) (len : ∀ vs H Q E, sp_Stream_pieces K vs H Q E → vs.length = 1) (rd : ∀ vs H Q E, sp_Stream_pieces K vs H Q E → t_Stream_pieces K ⟨fun _ H' => Q .non H', Q, fun _ _ => False, fun _ _ => False⟩ (start N_Stream_pieces vs) H) : Md P w K mg base (He.ga K "Stream") "pieces" 4 ["self"] (sp_Stream_pieces K) := by
  obtain ⟨fd, F⟩ := T.f_Stream_pieces
  exact ⟨_, fd, F.ok sc_Stream_pieces len (fun cdv A outer s H vs Q E hr h => ⟨t_Stream_pieces K, PSs.nox (der_Stream_pieces T G_Fitter_line hr), rd vs H Q E h⟩), T.m_Stream_pieces, F.bindsN (fun _ _ _ _ _ _ us hl => match us, hl with | [_], _ => rfl), T.c_Stream⟩
/-! _law_cell -/
def N_law_cell : List Str := ["_law_script", "_law_k"]
theorem sc_law_cell : FnScope N_law_cell ["_law_script", "_law_k"] (defScope s_law_cell) := ⟨rfl, rfl, rfl, by decide +kernel, rfl, by decide +kernel, by decide +kernel⟩
def t_law_cell (K : PySem.W.Frag) : TS :=
    (tSeq (tIfS (tTest (tOp oLt (tVar 1) (tCB (cLen K) (tCons (tVar 0) tNil)))) (tRet (tOp (rIxL K) (tVar 0) (tVar 1))) tNext)
    (tRet (tC (.int 0))))
theorem der_law_cell (T : Tx K mg)  {f : Addr} {cdv : Value} {A : Around} {outer : List Env} {s : Shared} {H : Hp} {E : XK} (hr : Room 0 (A.deeper (envOfC "_law_cell" (defScope s_law_cell) s.heap.objs.size f cdv))) : PSs (cxOf CX0 P w K mg base N_law_cell "_law_cell" (defScope s_law_cell) f cdv A outer s H E).nox (defBody s_law_cell) (t_law_cell K) := by
  have sc := sc_law_cell
  exact (pss_cons (ps_if (pt_cmpR opLt (pv 1) (pe_callB call_len' (by rfl) T.b_len (by decide +kernel) (pa_cons (pv 0) pa_nil)) (nomark _)) (pss_one (ps_ret (pe_ix ix_list (pv 0) (pv 1) (fun _ _ => rfl)))) pss_nil)
    (pss_one (ps_ret pe_int)))
theorem gd_law_cell (T : Tx K mg)  (len : ∀ vs H Q E, sp_law_cell K vs H Q E → vs.length = 2) (rd : ∀ vs H Q E, sp_law_cell K vs H Q E → t_law_cell K ⟨fun _ H' => Q .non H', Q, fun _ _ => False, fun _ _ => False⟩ (start N_law_cell vs) H) : Gd P w K mg base "_law_cell" 1 ["_law_script", "_law_k"] (sp_law_cell K) := by
  obtain ⟨fd, F⟩ := T.f_law_cell
  exact ⟨_, fd, F.ok sc_law_cell len (fun cdv A outer s H vs Q E hr h => ⟨t_law_cell K, PSs.nox (der_law_cell T  hr), rd vs H Q E h⟩), T.g_law_cell, F.kp, F.bindsN (fun _ _ _ _ _ _ us hl => match us, hl with | [_, _], _ => rfl)⟩
/-! _law_digits -/
def N_law_digits : List Str := ["_law_cell_here", "_law_many", "_law_count", "_law_digits_here", "_law_rest", "_law_k", "_law_mixed"]
theorem sc_law_digits : FnScope N_law_digits ["_law_cell_here", "_law_many", "_law_count"] (defScope s_law_digits) := ⟨rfl, rfl, rfl, by decide +kernel, rfl, by decide +kernel, by decide +kernel⟩
def t_law_digits (K : PySem.W.Frag) : TS :=
    (tSeq (tAsg (tLst tNil) (gName 3))
    (tSeq (tAsg (tVar 0) (gName 4))
    (tSeq (tFor (iRng1 (tCons (tVar 2) tNil)) (gName 5) (tIfS (tTest (tOp oGe (tVar 0) (tOp oPow (tC (.int 10)) (tC (.int 18))))) (tSeq (tDrop (tBM K "list" rAppend (tVar 3) (tCons (tOp oMod (tCB cInt (tCons (tVar 4) tNil)) (tVar 1)) tNil)))
    (tAsg (tOp oFdiv (tVar 4) (tVar 1)) (gName 4))) (tSeq (tAsg (tOp oMod (tCB cInt (tCons (tOp oAdd (tOp oAdd (tOp oMul (tVar 0) (tC (.int 48271))) (tOp oMul (tVar 5) (tC (.int 69621)))) (tC (.int 1013))) tNil)) (tC (.int 2147483647))) (gName 6))
    (tSeq (tAsg (tOp oMod (tCB cInt (tCons (tOp oAdd (tOp oAdd (tOp oMul (tVar 6) (tVar 6)) (tOp oMul (tC (.int 7)) (tVar 6))) (tVar 5)) tNil)) (tC (.int 2147483629))) (gName 6))
    (tDrop (tBM K "list" rAppend (tVar 3) (tCons (tOp oMod (tCB cInt (tCons (tOp oFdiv (tVar 6) (tC (.int 31))) tNil)) (tVar 1)) tNil)))))))
    (tRet (tVar 3)))))
theorem der_law_digits (T : Tx K mg)  {f : Addr} {cdv : Value} {A : Around} {outer : List Env} {s : Shared} {H : Hp} {E : XK} (hr : Room 0 (A.deeper (envOfC "_law_digits" (defScope s_law_digits) s.heap.objs.size f cdv))) : PSs (cxOf CX0 P w K mg base N_law_digits "_law_digits" (defScope s_law_digits) f cdv A outer s H E).nox (defBody s_law_digits) (t_law_digits K) := by
  have sc := sc_law_digits
  exact (pss_cons (ps_set (i := 3) sc.nd rfl (by first | exact Or.inl rfl | exact Or.inr rfl) (pe_lst pa_nil))
    (pss_cons (ps_set (i := 4) sc.nd rfl (by first | exact Or.inl rfl | exact Or.inr rfl) (pv 0))
    (pss_cons (ps_for PassesOwn.never rfl (pi_range1 (by rfl) T.b_range (pa_cons (pv 2) pa_nil)) (pg_name (i := 5) sc.nd rfl (by first | exact Or.inl rfl | exact Or.inr rfl)) (pss_one (ps_if (pt_cmpR opGe (pv 0) (pe_op opPow pe_int pe_int) (nomark _)) (pss_cons (ps_expr (pe_bm PySem.F.plainAttrs_list PySem.F.slot_list_append PySem.F.type_list_append mt_append (pv 3) (pa_cons (pe_op opMod (pe_callTy call_int' (by rfl) T.b_int (by decide +kernel) (pa_cons (pv 4) pa_nil)) (pv 1)) pa_nil)))
    (pss_one (ps_set (i := 4) sc.nd rfl (by first | exact Or.inl rfl | exact Or.inr rfl) (pe_op opFdiv (pv 4) (pv 1))))) (pss_cons (ps_set (i := 6) sc.nd rfl (by first | exact Or.inl rfl | exact Or.inr rfl) (pe_op opMod (pe_callTy call_int' (by rfl) T.b_int (by decide +kernel) (pa_cons (pe_op opAdd (pe_op opAdd (pe_op opMul (pv 0) pe_int) (pe_op opMul (pv 5) pe_int)) pe_int) pa_nil)) pe_int))
    (pss_cons (ps_set (i := 6) sc.nd rfl (by first | exact Or.inl rfl | exact Or.inr rfl) (pe_op opMod (pe_callTy call_int' (by rfl) T.b_int (by decide +kernel) (pa_cons (pe_op opAdd (pe_op opAdd (pe_op opMul (pv 6) (pv 6)) (pe_op opMul pe_int (pv 6))) (pv 5)) pa_nil)) pe_int))
    (pss_one (ps_expr (pe_bm PySem.F.plainAttrs_list PySem.F.slot_list_append PySem.F.type_list_append mt_append (pv 3) (pa_cons (pe_op opMod (pe_callTy call_int' (by rfl) T.b_int (by decide +kernel) (pa_cons (pe_op opFdiv (pv 6) pe_int) pa_nil)) (pv 1)) pa_nil)))))))))
    (pss_one (ps_ret (pv 3))))))
theorem gd_law_digits (T : Tx K mg)  (len : ∀ vs H Q E, sp_law_digits K vs H Q E → vs.length = 3) (rd : ∀ vs H Q E, sp_law_digits K vs H Q E → t_law_digits K ⟨fun _ H' => Q .non H', Q, fun _ _ => False, fun _ _ => False⟩ (start N_law_digits vs) H) : Gd P w K mg base "_law_digits" 1 ["_law_cell_here", "_law_many", "_law_count"] (sp_law_digits K) := by
  obtain ⟨fd, F⟩ := T.f_law_digits
  exact ⟨_, fd, F.ok sc_law_digits len (fun cdv A outer s H vs Q E hr h => ⟨t_law_digits K, PSs.nox (der_law_digits T  hr), rd vs H Q E h⟩), T.g_law_digits, F.kp, F.bindsN (fun _ _ _ _ _ _ us hl => match us, hl with | [_, _, _], _ => rfl)⟩
/-! _law_three -/
def N_law_three : List Str := ["_law_one", "_law_two", "_law_three_here", "_law_error", "_law_height"]
theorem sc_law_three : FnScope N_law_three ["_law_one", "_law_two", "_law_three_here", "_law_error"] (defScope s_law_three) := ⟨rfl, rfl, rfl, by decide +kernel, rfl, by decide +kernel, by decide +kernel⟩
def t_law_three (K : PySem.W.Frag) : TS :=
    (tSeq (tAsg (tOp oSub (tOp oSub (tOp oMul (tOp (rIxT K) (tVar 1) (tC (.int 1))) (tOp oSub (tOp (rIxT K) (tVar 2) (tC (.int 0))) (tOp (rIxT K) (tVar 0) (tC (.int 0))))) (tOp oMul (tOp (rIxT K) (tVar 0) (tC (.int 1))) (tOp oSub (tOp (rIxT K) (tVar 2) (tC (.int 0))) (tOp (rIxT K) (tVar 1) (tC (.int 0)))))) (tOp oMul (tOp (rIxT K) (tVar 2) (tC (.int 1))) (tOp oSub (tOp (rIxT K) (tVar 1) (tC (.int 0))) (tOp (rIxT K) (tVar 0) (tC (.int 0)))))) (gName 4))
    (tRet (tOp oLe (tCB cAbs (tCons (tVar 4) tNil)) (tOp oMul (tOp oMul (tC (.int 2)) (tVar 3)) (tOp oSub (tOp (rIxT K) (tVar 2) (tC (.int 0))) (tOp (rIxT K) (tVar 0) (tC (.int 0))))))))
theorem der_law_three (T : Tx K mg)  {f : Addr} {cdv : Value} {A : Around} {outer : List Env} {s : Shared} {H : Hp} {E : XK} (hr : Room 0 (A.deeper (envOfC "_law_three" (defScope s_law_three) s.heap.objs.size f cdv))) : PSs (cxOf CX0 P w K mg base N_law_three "_law_three" (defScope s_law_three) f cdv A outer s H E).nox (defBody s_law_three) (t_law_three K) := by
  have sc := sc_law_three
  exact (pss_cons (ps_set (i := 4) sc.nd rfl (by first | exact Or.inl rfl | exact Or.inr rfl) (pe_op opSub (pe_op opSub (pe_op opMul (pe_ix ix_tup (pv 1) pe_int (fun _ _ => rfl)) (pe_op opSub (pe_ix ix_tup (pv 2) pe_int (fun _ _ => rfl)) (pe_ix ix_tup (pv 0) pe_int (fun _ _ => rfl)))) (pe_op opMul (pe_ix ix_tup (pv 0) pe_int (fun _ _ => rfl)) (pe_op opSub (pe_ix ix_tup (pv 2) pe_int (fun _ _ => rfl)) (pe_ix ix_tup (pv 1) pe_int (fun _ _ => rfl))))) (pe_op opMul (pe_ix ix_tup (pv 2) pe_int (fun _ _ => rfl)) (pe_op opSub (pe_ix ix_tup (pv 1) pe_int (fun _ _ => rfl)) (pe_ix ix_tup (pv 0) pe_int (fun _ _ => rfl))))))
    (pss_one (ps_ret (pe_cmpR opLe (pe_callB call_abs' (by rfl) T.b_abs (by decide +kernel) (pa_cons (pv 4) pa_nil)) (pe_op opMul (pe_op opMul pe_int (pv 3)) (pe_op opSub (pe_ix ix_tup (pv 2) pe_int (fun _ _ => rfl)) (pe_ix ix_tup (pv 0) pe_int (fun _ _ => rfl)))) (nomark _)))))
theorem gd_law_three (T : Tx K mg)  (len : ∀ vs H Q E, sp_law_three K vs H Q E → vs.length = 4) (rd : ∀ vs H Q E, sp_law_three K vs H Q E → t_law_three K ⟨fun _ H' => Q .non H', Q, fun _ _ => False, fun _ _ => False⟩ (start N_law_three vs) H) : Gd P w K mg base "_law_three" 1 ["_law_one", "_law_two", "_law_three_here", "_law_error"] (sp_law_three K) := by
  obtain ⟨fd, F⟩ := T.f_law_three
  exact ⟨_, fd, F.ok sc_law_three len (fun cdv A outer s H vs Q E hr h => ⟨t_law_three K, PSs.nox (der_law_three T  hr), rd vs H Q E h⟩), T.g_law_three, F.kp, F.bindsN (fun _ _ _ _ _ _ us hl => match us, hl with | [_, _, _, _], _ => rfl)⟩
/-! _law_near -/
def N_law_near : List Str := ["_law_line", "_law_points", "_law_error", "_law_point"]
theorem sc_law_near : FnScope N_law_near ["_law_line", "_law_points", "_law_error"] (defScope s_law_near) := ⟨rfl, rfl, rfl, by decide +kernel, rfl, by decide +kernel, by decide +kernel⟩
def t_law_near (K : PySem.W.Frag) : TS :=
    (tSeq (tIfS (tOr (tNot (tB (tCB (rIsi K) (tCons (tVar 0) (tCons (tC (.ty "tuple")) tNil))))) (tOr (tTest (tOp rNe (tCB (cLen K) (tCons (tVar 0) tNil)) (tC (.int 3)))) (tTest (tOp oLt (tOp (rIxT K) (tVar 0) (tC (.int 2))) (tC (.int 1)))))) tNever tNext)
    (tSeq (tFor (iList K (tVar 1)) (gName 3) (tIfS (tTest (tOp oGt (tCB cAbs (tCons (tOp oSub (tOp oAdd (tOp oMul (tOp (rIxT K) (tVar 0) (tC (.int 0))) (tOp (rIxT K) (tVar 3) (tC (.int 0)))) (tOp (rIxT K) (tVar 0) (tC (.int 1)))) (tOp oMul (tOp (rIxT K) (tVar 3) (tC (.int 1))) (tOp (rIxT K) (tVar 0) (tC (.int 2))))) tNil)) (tOp oMul (tVar 2) (tOp (rIxT K) (tVar 0) (tC (.int 2)))))) tNever tNext))
    (tRet (tC (.bl true)))))
theorem der_law_near (T : Tx K mg)  {f : Addr} {cdv : Value} {A : Around} {outer : List Env} {s : Shared} {H : Hp} {E : XK} (hr : Room 0 (A.deeper (envOfC "_law_near" (defScope s_law_near) s.heap.objs.size f cdv))) : PSs (cxOf CX0 P w K mg base N_law_near "_law_near" (defScope s_law_near) f cdv A outer s H E).nox (defBody s_law_near) (t_law_near K) := by
  have sc := sc_law_near
  exact (pss_cons (ps_if (PW.pt (pw_or (pt_not (pt_val (pe_callB call_isi (by rfl) T.b_isinstance (by decide +kernel) (pa_cons (pv 0) (pa_cons (pe_bltn (v := .ty "tuple") (by rfl) T.b_tuple (by decide +kernel) rfl) pa_nil))))) (pw_or (pt_cmpR op_ne (pe_callB call_len' (by rfl) T.b_len (by decide +kernel) (pa_cons (pv 0) pa_nil)) pe_int (nomark _)) (pw_or1 (pt_cmpR opLt (pe_ix ix_tup (pv 0) pe_int (fun _ _ => rfl)) pe_int (nomark _)))))) (pss_one ps_never) pss_nil)
    (pss_cons (ps_for PassesOwn.never rfl (pi_list (pv 1)) (pg_name (i := 3) sc.nd rfl (by first | exact Or.inl rfl | exact Or.inr rfl)) (pss_one (ps_if (pt_cmpR opGt (pe_callB call_abs' (by rfl) T.b_abs (by decide +kernel) (pa_cons (pe_op opSub (pe_op opAdd (pe_op opMul (pe_ix ix_tup (pv 0) pe_int (fun _ _ => rfl)) (pe_ix ix_tup (pv 3) pe_int (fun _ _ => rfl))) (pe_ix ix_tup (pv 0) pe_int (fun _ _ => rfl))) (pe_op opMul (pe_ix ix_tup (pv 3) pe_int (fun _ _ => rfl)) (pe_ix ix_tup (pv 0) pe_int (fun _ _ => rfl)))) pa_nil)) (pe_op opMul (pv 2) (pe_ix ix_tup (pv 0) pe_int (fun _ _ => rfl))) (nomark _)) (pss_one ps_never) pss_nil)))
    (pss_one (ps_ret pe_bl))))
theorem gd_law_near (T : Tx K mg)  (len : ∀ vs H Q E, sp_law_near K vs H Q E → vs.length = 3) (rd : ∀ vs H Q E, sp_law_near K vs H Q E → t_law_near K ⟨fun _ H' => Q .non H', Q, fun _ _ => False, fun _ _ => False⟩ (start N_law_near vs) H) : Gd P w K mg base "_law_near" 1 ["_law_line", "_law_points", "_law_error"] (sp_law_near K) := by
  obtain ⟨fd, F⟩ := T.f_law_near
  exact ⟨_, fd, F.ok sc_law_near len (fun cdv A outer s H vs Q E hr h => ⟨t_law_near K, PSs.nox (der_law_near T  hr), rd vs H Q E h⟩), T.g_law_near, F.kp, F.bindsN (fun _ _ _ _ _ _ us hl => match us, hl with | [_, _, _], _ => rfl)⟩
/-! _law_judged -/
def N_law_judged : List Str := ["_law_points", "_law_error", "_law_pieces", "_law_reasons", "_law_starts", "_law_ends", "_law_k", "_law_i", "_law_j", "_law_m", "_law_piece"]
theorem sc_law_judged : FnScope N_law_judged ["_law_points", "_law_error", "_law_pieces", "_law_reasons"] (defScope s_law_judged) := ⟨rfl, rfl, rfl, by decide +kernel, rfl, by decide +kernel, by decide +kernel⟩
def t_law_judged (K : PySem.W.Frag) : TS :=
    (tSeq (tIfS (tTest (tOp rEq (tCB (cLen K) (tCons (tVar 0) tNil)) (tC (.int 0)))) tNever tNext)
    (tSeq (tAsg (tLc (iList K (tVar 2)) (gName 10) tYes (tOp (rIxT K) (tVar 10) (tC (.int 0))) [10]) (gName 4))
    (tSeq (tIfS (tOr (tTest (tOp rEq (tCB (cLen K) (tCons (tVar 4) tNil)) (tC (.int 0)))) (tOr (tTest (tOp rNe (tOp (rIxL K) (tVar 4) (tC (.int 0))) (tC (.int 0)))) (tTest (tOp rNe (tCB (cLen K) (tCons (tVar 3) tNil)) (tOp oSub (tCB (cLen K) (tCons (tVar 4) tNil)) (tC (.int 1))))))) tNever tNext)
    (tSeq (tAsg (tOp oCat (tSl (rSlL K) (tVar 4) (tPart (tC (.int 1))) tNoPart) (tLst (tCons (tCB (cLen K) (tCons (tVar 0) tNil)) tNil))) (gName 5))
    (tSeq (tFor (iRng1 (tCons (tCB (cLen K) (tCons (tVar 2) tNil)) tNil)) (gName 6) (tSeq (tIfS (tNot (tChT (tC (.int 0)) (tChC oLe (tOp (rIxL K) (tVar 4) (tVar 6)) (tChC oLt (tOp (rIxL K) (tVar 5) (tVar 6)) (tChL oLe (tCB (cLen K) (tCons (tVar 0) tNil))))))) tNever tNext)
    (tIfS (tNot (tB (tG (sp_law_near K) (tCons (tOp (rIxT K) (tOp (rIxL K) (tVar 2) (tVar 6)) (tC (.int 1))) (tCons (tSl (rSlL K) (tVar 0) (tPart (tOp (rIxL K) (tVar 4) (tVar 6))) (tPart (tOp (rIxL K) (tVar 5) (tVar 6)))) (tCons (tVar 1) tNil)))))) tNever tNext)))
    (tSeq (tFor (iRng1 (tCons (tCB (cLen K) (tCons (tVar 3) tNil)) tNil)) (gName 6) (tSeq (tAsg (tOp (rIxL K) (tVar 3) (tVar 6)) (gTup K 3 (gCons (gName 7) (gCons (gName 8) (gCons (gName 9) gNil)))))
    (tSeq (tIfS (tNot (tChT (tOp (rIxL K) (tVar 4) (tVar 6)) (tChC oLe (tVar 7) (tChC oLt (tVar 8) (tChC oLt (tVar 9) (tChL oLe (tOp (rIxL K) (tVar 4) (tOp oAdd (tVar 6) (tC (.int 1)))))))))) tNever tNext)
    (tIfS (tB (tG (sp_law_three K) (tCons (tOp (rIxL K) (tVar 0) (tVar 7)) (tCons (tOp (rIxL K) (tVar 0) (tVar 8)) (tCons (tOp (rIxL K) (tVar 0) (tVar 9)) (tCons (tVar 1) tNil)))))) tNever tNext))))
    (tRet (tC (.bl true)))))))))
theorem der_law_judged (T : Tx K mg) (G_law_near : Gd P w K mg base "_law_near" 1 ["_law_line", "_law_points", "_law_error"] (sp_law_near K)) (G_law_three : Gd P w K mg base "_law_three" 1 ["_law_one", "_law_two", "_law_three_here", "_law_error"] (sp_law_three K)) {f : Addr} {cdv : Value} {A : Around} {outer : List Env} {s : Shared} {H : Hp} {E : XK} (hr : Room 1 (A.deeper (envOfC "_law_judged" (defScope s_law_judged) s.heap.objs.size f cdv))) : PSs (cxOf CX0 P w K mg base N_law_judged "_law_judged" (defScope s_law_judged) f cdv A outer s H E).nox (defBody s_law_judged) (t_law_judged K) := by
  have sc := sc_law_judged
  exact (pss_cons (ps_if (pt_cmpR op_eq (pe_callB call_len' (by rfl) T.b_len (by decide +kernel) (pa_cons (pv 0) pa_nil)) pe_int (nomark _)) (pss_one ps_never) pss_nil)
    (pss_cons (ps_setLc (i := 4) (own := [("_law_piece", 10)]) rfl sc.nd rfl rfl (sw_true rfl rfl rfl (by decide +kernel)) (pi_list (pv 2)) (blkOk_by (own := [("_law_piece", 10)]) (N := N_law_judged) (sc := defScope s_law_judged) (by decide +kernel)) (fun _ _ _ _ _ => (pg_name (i := 10) sc.nd rfl (by first | exact Or.inl rfl | exact Or.inr rfl))) (fun _ _ _ _ _ => pts_nil) (fun _ _ _ _ _ => (pe_ix ix_tup (pv 10) pe_int (fun _ _ => rfl))))
    (pss_cons (ps_if (PW.pt (pw_or (pt_cmpR op_eq (pe_callB call_len' (by rfl) T.b_len (by decide +kernel) (pa_cons (pv 4) pa_nil)) pe_int (nomark _)) (pw_or (pt_cmpR op_ne (pe_ix ix_list (pv 4) pe_int (fun _ _ => rfl)) pe_int (nomark _)) (pw_or1 (pt_cmpR op_ne (pe_callB call_len' (by rfl) T.b_len (by decide +kernel) (pa_cons (pv 3) pa_nil)) (pe_op opSub (pe_callB call_len' (by rfl) T.b_len (by decide +kernel) (pa_cons (pv 4) pa_nil)) pe_int) (nomark _)))))) (pss_one ps_never) pss_nil)
    (pss_cons (ps_set (i := 5) sc.nd rfl (by first | exact Or.inl rfl | exact Or.inr rfl) (pe_op opCat (pe_slice sl_list (pv 4) (po_some pe_int) po_none) (pe_lst (pa_cons (pe_callB call_len' (by rfl) T.b_len (by decide +kernel) (pa_cons (pv 0) pa_nil)) pa_nil))))
    (pss_cons (ps_for PassesOwn.never rfl (pi_range1 (by rfl) T.b_range (pa_cons (pe_callB call_len' (by rfl) T.b_len (by decide +kernel) (pa_cons (pv 2) pa_nil)) pa_nil)) (pg_name (i := 6) sc.nd rfl (by first | exact Or.inl rfl | exact Or.inr rfl)) (pss_cons (ps_if (pt_not (pt_ch pe_int (pch_cons opLe (pe_ix ix_list (pv 4) (pv 6) (fun _ _ => rfl)) (pch_cons opLt (pe_ix ix_list (pv 5) (pv 6) (fun _ _ => rfl)) (pch_one opLe (pe_callB call_len' (by rfl) T.b_len (by decide +kernel) (pa_cons (pv 0) pa_nil))))))) (pss_one ps_never) pss_nil)
    (pss_one (ps_if (pt_not (pt_val (pe_g G_law_near (hr.mono (by decide)) (by rfl) (pa_cons (pe_ix ix_tup (pe_ix ix_list (pv 2) (pv 6) (fun _ _ => rfl)) pe_int (fun _ _ => rfl)) (pa_cons (pe_slice sl_list (pv 0) (po_some (pe_ix ix_list (pv 4) (pv 6) (fun _ _ => rfl))) (po_some (pe_ix ix_list (pv 5) (pv 6) (fun _ _ => rfl)))) (pa_cons (pv 1) pa_nil)))))) (pss_one ps_never) pss_nil))))
    (pss_cons (ps_for PassesOwn.never rfl (pi_range1 (by rfl) T.b_range (pa_cons (pe_callB call_len' (by rfl) T.b_len (by decide +kernel) (pa_cons (pv 3) pa_nil)) pa_nil)) (pg_name (i := 6) sc.nd rfl (by first | exact Or.inl rfl | exact Or.inr rfl)) (pss_cons (ps_asg (pe_ix ix_list (pv 3) (pv 6) (fun _ _ => rfl)) (pg_tup rfl (pgs_cons (pg_name (i := 7) sc.nd rfl (by first | exact Or.inl rfl | exact Or.inr rfl)) (pgs_cons (pg_name (i := 8) sc.nd rfl (by first | exact Or.inl rfl | exact Or.inr rfl)) (pgs_cons (pg_name (i := 9) sc.nd rfl (by first | exact Or.inl rfl | exact Or.inr rfl)) pgs_nil)))))
    (pss_cons (ps_if (pt_not (pt_ch (pe_ix ix_list (pv 4) (pv 6) (fun _ _ => rfl)) (pch_cons opLe (pv 7) (pch_cons opLt (pv 8) (pch_cons opLt (pv 9) (pch_one opLe (pe_ix ix_list (pv 4) (pe_op opAdd (pv 6) pe_int) (fun _ _ => rfl)))))))) (pss_one ps_never) pss_nil)
    (pss_one (ps_if (pt_val (pe_g G_law_three (hr.mono (by decide)) (by rfl) (pa_cons (pe_ix ix_list (pv 0) (pv 7) (fun _ _ => rfl)) (pa_cons (pe_ix ix_list (pv 0) (pv 8) (fun _ _ => rfl)) (pa_cons (pe_ix ix_list (pv 0) (pv 9) (fun _ _ => rfl)) (pa_cons (pv 1) pa_nil)))))) (pss_one ps_never) pss_nil)))))
    (pss_one (ps_ret pe_bl))))))))
theorem gd_law_judged (T : Tx K mg) (G_law_near : Gd P w K mg base "_law_near" 1 ["_law_line", "_law_points", "_law_error"] (sp_law_near K)) (G_law_three : Gd P w K mg base "_law_three" 1 ["_law_one", "_law_two", "_law_three_here", "_law_error"] (sp_law_three K)) (len : ∀ vs H Q E, sp_law_judged K vs H Q E → vs.length = 4) (rd : ∀ vs H Q E, sp_law_judged K vs H Q E → t_law_judged K ⟨fun _ H' => Q .non H', Q, fun _ _ => False, fun _ _ => False⟩ (start N_law_judged vs) H) : Gd P w K mg base "_law_judged" 2 ["_law_points", "_law_error", "_law_pieces", "_law_reasons"] (sp_law_judged K) := by
  obtain ⟨fd, F⟩ := T.f_law_judged
  exact ⟨_, fd, F.ok sc_law_judged len (fun cdv A outer s H vs Q E hr h => ⟨t_law_judged K, PSs.nox (der_law_judged T G_law_near G_law_three hr), rd vs H Q E h⟩), T.g_law_judged, F.kp, F.bindsN (fun _ _ _ _ _ _ us hl => match us, hl with | [_, _, _, _], _ => rfl)⟩
/-! _law_digits_of -/
def N_law_digits_of : List Str := ["_law_number", "_law_count", "_law_rest", "_law_k"]
theorem sc_law_digits_of : FnScope N_law_digits_of ["_law_number"] (defScope s_law_digits_of) := ⟨rfl, rfl, rfl, by decide +kernel, rfl, by decide +kernel, by decide +kernel⟩
def t_law_digits_of (K : PySem.W.Frag) : TS :=
    (tSeq (tAsg (tC (.int 0)) (gName 1))
    (tSeq (tAsg (tVar 0) (gName 2))
    (tSeq (tFor (iRng1 (tCons (tC (.int 60)) tNil)) (gName 3) (tIfS (tTest (tOp oGt (tVar 2) (tC (.int 0)))) (tSeq (tAsg (tOp oAdd (tVar 1) (tC (.int 1))) (gName 1))
    (tAsg (tOp oFdiv (tVar 2) (tC (.int 2))) (gName 2))) tNext))
    (tRet (tVar 1)))))
theorem der_law_digits_of (T : Tx K mg)  {f : Addr} {cdv : Value} {A : Around} {outer : List Env} {s : Shared} {H : Hp} {E : XK} (hr : Room 0 (A.deeper (envOfC "_law_digits_of" (defScope s_law_digits_of) s.heap.objs.size f cdv))) : PSs (cxOf CX0 P w K mg base N_law_digits_of "_law_digits_of" (defScope s_law_digits_of) f cdv A outer s H E).nox (defBody s_law_digits_of) (t_law_digits_of K) := by
  have sc := sc_law_digits_of
  exact (pss_cons (ps_set (i := 1) sc.nd rfl (by first | exact Or.inl rfl | exact Or.inr rfl) pe_int)
    (pss_cons (ps_set (i := 2) sc.nd rfl (by first | exact Or.inl rfl | exact Or.inr rfl) (pv 0))
    (pss_cons (ps_for PassesOwn.never rfl (pi_range1 (by rfl) T.b_range (pa_cons pe_int pa_nil)) (pg_name (i := 3) sc.nd rfl (by first | exact Or.inl rfl | exact Or.inr rfl)) (pss_one (ps_if (pt_cmpR opGt (pv 2) pe_int (nomark _)) (pss_cons (ps_set (i := 1) sc.nd rfl (by first | exact Or.inl rfl | exact Or.inr rfl) (pe_op opAdd (pv 1) pe_int))
    (pss_one (ps_set (i := 2) sc.nd rfl (by first | exact Or.inl rfl | exact Or.inr rfl) (pe_op opFdiv (pv 2) pe_int)))) pss_nil)))
    (pss_one (ps_ret (pv 1))))))
theorem gd_law_digits_of (T : Tx K mg)  (len : ∀ vs H Q E, sp_law_digits_of K vs H Q E → vs.length = 1) (rd : ∀ vs H Q E, sp_law_digits_of K vs H Q E → t_law_digits_of K ⟨fun _ H' => Q .non H', Q, fun _ _ => False, fun _ _ => False⟩ (start N_law_digits_of vs) H) : Gd P w K mg base "_law_digits_of" 1 ["_law_number"] (sp_law_digits_of K) := by
  obtain ⟨fd, F⟩ := T.f_law_digits_of
  exact ⟨_, fd, F.ok sc_law_digits_of len (fun cdv A outer s H vs Q E hr h => ⟨t_law_digits_of K, PSs.nox (der_law_digits_of T  hr), rd vs H Q E h⟩), T.g_law_digits_of, F.kp, F.bindsN (fun _ _ _ _ _ _ us hl => match us, hl with | [_], _ => rfl)⟩
/-! _law_looks_right -/
def N_law_looks_right : List Str := ["_law_looks", "_law_levels", "_law_error", "_law_upper", "_law_is_below", "_law_last", "_law_counts", "_law_look", "_law_depth", "_law_most", "_law_level"]
theorem sc_law_looks_right : FnScope N_law_looks_right ["_law_looks", "_law_levels", "_law_error", "_law_upper", "_law_is_below"] (defScope s_law_looks_right) := ⟨rfl, rfl, rfl, by decide +kernel, rfl, by decide +kernel, by decide +kernel⟩
def t_law_looks_right (K : PySem.W.Frag) : TS :=
    (tSeq (tIfS (tOr (tNot (tB (tCB (rIsi K) (tCons (tVar 0) (tCons (tC (.ty "list")) tNil))))) (tAnd (tB (tVar 4)) (tTest (tOp oGt (tCB (cLen K) (tCons (tVar 0) tNil)) (tC (.int 1)))))) tNever tNext)
    (tSeq (tAsg (tOp oSub (tCB (cLen K) (tCons (tVar 1) tNil)) (tC (.int 1))) (gName 5))
    (tSeq (tAsg (tLc (iList K (tVar 1)) (gName 10) tYes (tC (.int 0)) [10]) (gName 6))
    (tSeq (tFor (iList K (tVar 0)) (gName 7) (tSeq (tIfS (tOr (tNot (tChT (tC (.int 0)) (tChC oLe (tOp (rIxT K) (tVar 7) (tC (.int 0))) (tChL oLe (tVar 5))))) (tNot (tChT (tC (.int 0)) (tChC oLe (tOp (rIxT K) (tVar 7) (tC (.int 1))) (tChL oLt (tCB (cLen K) (tCons (tOp (rIxL K) (tVar 1) (tOp (rIxT K) (tVar 7) (tC (.int 0)))) tNil))))))) tNever tNext)
    (tSeq (tAsg (tOp (rIxT K) (tVar 7) (tC (.int 0))) (gName 5))
    (tAsg (tOp oAdd (tOp (rIxL K) (tVar 6) (tOp (rIxT K) (tVar 7) (tC (.int 0)))) (tC (.int 1))) (gSub (tVar 6) (tOp (rIxT K) (tVar 7) (tC (.int 0))) rSetL)))))
    (tSeq (tFor (iRng1 (tCons (tCB (cLen K) (tCons (tVar 1) tNil)) tNil)) (gName 8) (tSeq (tAsg (tG (sp_law_digits_of K) (tCons (tOp oAdd (tOp oMul (tC (.int 2)) (tIf (tTest (tOp rEq (tVar 8) (tC (.int 0)))) (tVar 2) (tVar 3))) (tC (.int 2))) tNil)) (gName 9))
    (tIfS (tTest (tOp oGt (tOp (rIxL K) (tVar 6) (tVar 8)) (tOp oAdd (tVar 9) (tCB cInt (tCons (tOp rEq (tVar 8) (tOp oSub (tCB (cLen K) (tCons (tVar 1) tNil)) (tC (.int 1)))) tNil))))) tNever tNext)))
    (tRet (tC (.bl true))))))))
theorem der_law_looks_right (T : Tx K mg) (G_law_digits_of : Gd P w K mg base "_law_digits_of" 1 ["_law_number"] (sp_law_digits_of K)) {f : Addr} {cdv : Value} {A : Around} {outer : List Env} {s : Shared} {H : Hp} {E : XK} (hr : Room 1 (A.deeper (envOfC "_law_looks_right" (defScope s_law_looks_right) s.heap.objs.size f cdv))) : PSs (cxOf CX0 P w K mg base N_law_looks_right "_law_looks_right" (defScope s_law_looks_right) f cdv A outer s H E).nox (defBody s_law_looks_right) (t_law_looks_right K) := by
  have sc := sc_law_looks_right
  exact (pss_cons (ps_if (PW.pt (pw_or (pt_not (pt_val (pe_callB call_isi (by rfl) T.b_isinstance (by decide +kernel) (pa_cons (pv 0) (pa_cons (pe_bltn (v := .ty "list") (by rfl) T.b_list (by decide +kernel) rfl) pa_nil))))) (pw_or1 (PW.pt (pw_and (pt_val (pv 4)) (pw_and1 (pt_cmpR opGt (pe_callB call_len' (by rfl) T.b_len (by decide +kernel) (pa_cons (pv 0) pa_nil)) pe_int (nomark _)))))))) (pss_one ps_never) pss_nil)
    (pss_cons (ps_set (i := 5) sc.nd rfl (by first | exact Or.inl rfl | exact Or.inr rfl) (pe_op opSub (pe_callB call_len' (by rfl) T.b_len (by decide +kernel) (pa_cons (pv 1) pa_nil)) pe_int))
    (pss_cons (ps_setLc (i := 6) (own := [("_law_level", 10)]) rfl sc.nd rfl rfl (sw_true rfl rfl rfl (by decide +kernel)) (pi_list (pv 1)) (blkOk_by (own := [("_law_level", 10)]) (N := N_law_looks_right) (sc := defScope s_law_looks_right) (by decide +kernel)) (fun _ _ _ _ _ => (pg_name (i := 10) sc.nd rfl (by first | exact Or.inl rfl | exact Or.inr rfl))) (fun _ _ _ _ _ => pts_nil) (fun _ _ _ _ _ => pe_int))
    (pss_cons (ps_for PassesOwn.never rfl (pi_list (pv 0)) (pg_name (i := 7) sc.nd rfl (by first | exact Or.inl rfl | exact Or.inr rfl)) (pss_cons (ps_if (PW.pt (pw_or (pt_not (pt_ch pe_int (pch_cons opLe (pe_ix ix_tup (pv 7) pe_int (fun _ _ => rfl)) (pch_one opLe (pv 5))))) (pw_or1 (pt_not (pt_ch pe_int (pch_cons opLe (pe_ix ix_tup (pv 7) pe_int (fun _ _ => rfl)) (pch_one opLt (pe_callB call_len' (by rfl) T.b_len (by decide +kernel) (pa_cons (pe_ix ix_list (pv 1) (pe_ix ix_tup (pv 7) pe_int (fun _ _ => rfl)) (fun _ _ => rfl)) pa_nil))))))))) (pss_one ps_never) pss_nil)
    (pss_cons (ps_set (i := 5) sc.nd rfl (by first | exact Or.inl rfl | exact Or.inr rfl) (pe_ix ix_tup (pv 7) pe_int (fun _ _ => rfl)))
    (pss_one (ps_asg (pe_op opAdd (pe_ix ix_list (pv 6) (pe_ix ix_tup (pv 7) pe_int (fun _ _ => rfl)) (fun _ _ => rfl)) pe_int) (pg_sub (pv 6) (pe_ix ix_tup (pv 7) pe_int (fun _ _ => rfl)) set_list))))))
    (pss_cons (ps_for PassesOwn.never rfl (pi_range1 (by rfl) T.b_range (pa_cons (pe_callB call_len' (by rfl) T.b_len (by decide +kernel) (pa_cons (pv 1) pa_nil)) pa_nil)) (pg_name (i := 8) sc.nd rfl (by first | exact Or.inl rfl | exact Or.inr rfl)) (pss_cons (ps_set (i := 9) sc.nd rfl (by first | exact Or.inl rfl | exact Or.inr rfl) (pe_g G_law_digits_of (hr.mono (by decide)) (by rfl) (pa_cons (pe_op opAdd (pe_op opMul pe_int (pe_ifExp (pt_cmpR op_eq (pv 8) pe_int (nomark _)) (pv 2) (pv 3))) pe_int) pa_nil)))
    (pss_one (ps_if (pt_cmpR opGt (pe_ix ix_list (pv 6) (pv 8) (fun _ _ => rfl)) (pe_op opAdd (pv 9) (pe_callTy call_int' (by rfl) T.b_int (by decide +kernel) (pa_cons (pe_cmpR op_eq (pv 8) (pe_op opSub (pe_callB call_len' (by rfl) T.b_len (by decide +kernel) (pa_cons (pv 1) pa_nil)) pe_int) (nomark _)) pa_nil))) (nomark _)) (pss_one ps_never) pss_nil))))
    (pss_one (ps_ret pe_bl)))))))
theorem gd_law_looks_right (T : Tx K mg) (G_law_digits_of : Gd P w K mg base "_law_digits_of" 1 ["_law_number"] (sp_law_digits_of K)) (len : ∀ vs H Q E, sp_law_looks_right K vs H Q E → vs.length = 5) (rd : ∀ vs H Q E, sp_law_looks_right K vs H Q E → t_law_looks_right K ⟨fun _ H' => Q .non H', Q, fun _ _ => False, fun _ _ => False⟩ (start N_law_looks_right vs) H) : Gd P w K mg base "_law_looks_right" 2 ["_law_looks", "_law_levels", "_law_error", "_law_upper", "_law_is_below"] (sp_law_looks_right K) := by
  obtain ⟨fd, F⟩ := T.f_law_looks_right
  exact ⟨_, fd, F.ok sc_law_looks_right len (fun cdv A outer s H vs Q E hr h => ⟨t_law_looks_right K, PSs.nox (der_law_looks_right T G_law_digits_of hr), rd vs H Q E h⟩), T.g_law_looks_right, F.kp, F.bindsN (fun _ _ _ _ _ _ us hl => match us, hl with | [_, _, _, _, _], _ => rfl)⟩
/-! _law_curve -/
def N_law_curve : List Str := ["_law_cell_here", "_law_size", "_law_digits_here", "_law_slope", "_law_bend", "_law_noise", "_law_points", "_law_place", "_law_height", "_law_k"]
theorem sc_law_curve : FnScope N_law_curve ["_law_cell_here", "_law_size"] (defScope s_law_curve) := ⟨rfl, rfl, rfl, by decide +kernel, rfl, by decide +kernel, by decide +kernel⟩
def t_law_curve (K : PySem.W.Frag) : TS :=
    (tSeq (tAsg (tG (sp_law_digits K) (tCons (tVar 0) (tCons (tC (.int 840)) (tCons (tOp oAdd (tVar 1) (tC (.int 4))) tNil)))) (gName 2))
    (tSeq (tAsg (tOp oSub (tOp oMod (tCB cInt (tCons (tOp (rIxL K) (tVar 2) (tVar 1)) tNil)) (tC (.int 41))) (tC (.int 20))) (gName 3))
    (tSeq (tAsg (tOp (rIxL K) (tLst (tCons (tC (.int 2)) (tCons (tC (.int 5)) (tCons (tC (.int 30)) tNil)))) (tOp oMod (tCB cInt (tCons (tOp (rIxL K) (tVar 2) (tOp oAdd (tVar 1) (tC (.int 1)))) tNil)) (tC (.int 3)))) (gName 4))
    (tSeq (tAsg (tOp (rIxL K) (tLst (tCons (tC (.int 0)) (tCons (tC (.int 1)) (tCons (tC (.int 3)) tNil)))) (tOp oMod (tCB cInt (tCons (tOp (rIxL K) (tVar 2) (tOp oAdd (tVar 1) (tC (.int 2)))) tNil)) (tC (.int 3)))) (gName 5))
    (tSeq (tAsg (tLst tNil) (gName 6))
    (tSeq (tAsg (tOp oSub (tCB cInt (tCons (tOp (rIxL K) (tVar 2) (tOp oAdd (tVar 1) (tC (.int 3)))) tNil)) (tC (.int 400))) (gName 7))
    (tSeq (tAsg (tC (.int 0)) (gName 8))
    (tSeq (tFor (iRng1 (tCons (tVar 1) tNil)) (gName 9) (tCut (tIfS (tTest (tOp rEq (tOp oMod (tCB cInt (tCons (tOp (rIxL K) (tVar 2) (tVar 9)) tNil)) (tVar 4)) (tC (.int 0)))) (tAsg (tOp oSub (tOp oAdd (tVar 3) (tOp oMod (tCB cInt (tCons (tOp oFdiv (tOp (rIxL K) (tVar 2) (tVar 9)) (tC (.int 30))) tNil)) (tC (.int 3)))) (tC (.int 1))) (gName 3)) tNext)
    (tSeq (tAsg (tOp oAdd (tOp oAdd (tVar 7) (tC (.int 1))) (tOp oMod (tCB cInt (tCons (tOp oFdiv (tOp (rIxL K) (tVar 2) (tVar 9)) (tC (.int 90))) tNil)) (tC (.int 3)))) (gName 7))
    (tSeq (tAsg (tOp oAdd (tVar 8) (tVar 3)) (gName 8))
    (tDrop (tBM K "list" rAppend (tVar 6) (tCons (tTup (tCons (tVar 7) (tCons (tOp oSub (tOp oAdd (tVar 8) (tOp oMod (tCB cInt (tCons (tOp oFdiv (tOp (rIxL K) (tVar 2) (tVar 9)) (tC (.int 270))) tNil)) (tOp oAdd (tOp oMul (tC (.int 2)) (tVar 5)) (tC (.int 1))))) (tVar 5)) tNil))) tNil)))))))
    (tRet (tVar 6))))))))))
theorem der_law_curve (T : Tx K mg) (G_law_digits : Gd P w K mg base "_law_digits" 1 ["_law_cell_here", "_law_many", "_law_count"] (sp_law_digits K)) {f : Addr} {cdv : Value} {A : Around} {outer : List Env} {s : Shared} {H : Hp} {E : XK} (hr : Room 1 (A.deeper (envOfC "_law_curve" (defScope s_law_curve) s.heap.objs.size f cdv))) : PSs (cxOf CX0 P w K mg base N_law_curve "_law_curve" (defScope s_law_curve) f cdv A outer s H E).nox (defBody s_law_curve) (t_law_curve K) := by
  have sc := sc_law_curve
  exact (pss_cons (ps_set (i := 2) sc.nd rfl (by first | exact Or.inl rfl | exact Or.inr rfl) (pe_g G_law_digits (hr.mono (by decide)) (by rfl) (pa_cons (pv 0) (pa_cons pe_int (pa_cons (pe_op opAdd (pv 1) pe_int) pa_nil)))))
    (pss_cons (ps_set (i := 3) sc.nd rfl (by first | exact Or.inl rfl | exact Or.inr rfl) (pe_op opSub (pe_op opMod (pe_callTy call_int' (by rfl) T.b_int (by decide +kernel) (pa_cons (pe_ix ix_list (pv 2) (pv 1) (fun _ _ => rfl)) pa_nil)) pe_int) pe_int))
    (pss_cons (ps_set (i := 4) sc.nd rfl (by first | exact Or.inl rfl | exact Or.inr rfl) (pe_ix ix_list (pe_lst (pa_cons pe_int (pa_cons pe_int (pa_cons pe_int pa_nil)))) (pe_op opMod (pe_callTy call_int' (by rfl) T.b_int (by decide +kernel) (pa_cons (pe_ix ix_list (pv 2) (pe_op opAdd (pv 1) pe_int) (fun _ _ => rfl)) pa_nil)) pe_int) (fun _ _ => rfl)))
    (pss_cons (ps_set (i := 5) sc.nd rfl (by first | exact Or.inl rfl | exact Or.inr rfl) (pe_ix ix_list (pe_lst (pa_cons pe_int (pa_cons pe_int (pa_cons pe_int pa_nil)))) (pe_op opMod (pe_callTy call_int' (by rfl) T.b_int (by decide +kernel) (pa_cons (pe_ix ix_list (pv 2) (pe_op opAdd (pv 1) pe_int) (fun _ _ => rfl)) pa_nil)) pe_int) (fun _ _ => rfl)))
    (pss_cons (ps_set (i := 6) sc.nd rfl (by first | exact Or.inl rfl | exact Or.inr rfl) (pe_lst pa_nil))
    (pss_cons (ps_set (i := 7) sc.nd rfl (by first | exact Or.inl rfl | exact Or.inr rfl) (pe_op opSub (pe_callTy call_int' (by rfl) T.b_int (by decide +kernel) (pa_cons (pe_ix ix_list (pv 2) (pe_op opAdd (pv 1) pe_int) (fun _ _ => rfl)) pa_nil)) pe_int))
    (pss_cons (ps_set (i := 8) sc.nd rfl (by first | exact Or.inl rfl | exact Or.inr rfl) pe_int)
    (pss_cons (ps_for PassesOwn.never rfl (pi_range1 (by rfl) T.b_range (pa_cons (pv 1) pa_nil)) (pg_name (i := 9) sc.nd rfl (by first | exact Or.inl rfl | exact Or.inr rfl)) (pss_cut (ps_if (pt_cmpR op_eq (pe_op opMod (pe_callTy call_int' (by rfl) T.b_int (by decide +kernel) (pa_cons (pe_ix ix_list (pv 2) (pv 9) (fun _ _ => rfl)) pa_nil)) (pv 4)) pe_int (nomark _)) (pss_one (ps_set (i := 3) sc.nd rfl (by first | exact Or.inl rfl | exact Or.inr rfl) (pe_op opSub (pe_op opAdd (pv 3) (pe_op opMod (pe_callTy call_int' (by rfl) T.b_int (by decide +kernel) (pa_cons (pe_op opFdiv (pe_ix ix_list (pv 2) (pv 9) (fun _ _ => rfl)) pe_int) pa_nil)) pe_int)) pe_int))) pss_nil)
    (pss_cons (ps_set (i := 7) sc.nd rfl (by first | exact Or.inl rfl | exact Or.inr rfl) (pe_op opAdd (pe_op opAdd (pv 7) pe_int) (pe_op opMod (pe_callTy call_int' (by rfl) T.b_int (by decide +kernel) (pa_cons (pe_op opFdiv (pe_ix ix_list (pv 2) (pv 9) (fun _ _ => rfl)) pe_int) pa_nil)) pe_int)))
    (pss_cons (ps_set (i := 8) sc.nd rfl (by first | exact Or.inl rfl | exact Or.inr rfl) (pe_op opAdd (pv 8) (pv 3)))
    (pss_one (ps_expr (pe_bm PySem.F.plainAttrs_list PySem.F.slot_list_append PySem.F.type_list_append mt_append (pv 6) (pa_cons (pe_tup (pa_cons (pv 7) (pa_cons (pe_op opSub (pe_op opAdd (pv 8) (pe_op opMod (pe_callTy call_int' (by rfl) T.b_int (by decide +kernel) (pa_cons (pe_op opFdiv (pe_ix ix_list (pv 2) (pv 9) (fun _ _ => rfl)) pe_int) pa_nil)) (pe_op opAdd (pe_op opMul pe_int (pv 5)) pe_int))) (pv 5)) pa_nil))) pa_nil))))))))
    (pss_one (ps_ret (pv 6)))))))))))
theorem gd_law_curve (T : Tx K mg) (G_law_digits : Gd P w K mg base "_law_digits" 1 ["_law_cell_here", "_law_many", "_law_count"] (sp_law_digits K)) (len : ∀ vs H Q E, sp_law_curve K vs H Q E → vs.length = 2) (rd : ∀ vs H Q E, sp_law_curve K vs H Q E → t_law_curve K ⟨fun _ H' => Q .non H', Q, fun _ _ => False, fun _ _ => False⟩ (start N_law_curve vs) H) : Gd P w K mg base "_law_curve" 2 ["_law_cell_here", "_law_size"] (sp_law_curve K) := by
  obtain ⟨fd, F⟩ := T.f_law_curve
  exact ⟨_, fd, F.ok sc_law_curve len (fun cdv A outer s H vs Q E hr h => ⟨t_law_curve K, PSs.nox (der_law_curve T G_law_digits hr), rd vs H Q E h⟩), T.g_law_curve, F.kp, F.bindsN (fun _ _ _ _ _ _ us hl => match us, hl with | [_, _], _ => rfl)⟩
/-! _law_flat_starts -/
def N_law_flat_starts : List Str := ["_law_values", "_law_error", "_law_starts", "_law_low", "_law_high", "_law_k"]
theorem sc_law_flat_starts : FnScope N_law_flat_starts ["_law_values", "_law_error"] (defScope s_law_flat_starts) := ⟨rfl, rfl, rfl, by decide +kernel, rfl, by decide +kernel, by decide +kernel⟩
def t_law_flat_starts (K : PySem.W.Frag) : TS :=
    (tSeq (tAsg (tLst tNil) (gName 2))
    (tSeq (tAsg (tC (.int 0)) (gName 3))
    (tSeq (tAsg (tC (.int 0)) (gName 4))
    (tSeq (tFor (iRng1 (tCons (tCB (cLen K) (tCons (tVar 0) tNil)) tNil)) (gName 5) (tCut (tIfS (tOr (tTest (tOp rEq (tCB (cLen K) (tCons (tVar 2) tNil)) (tC (.int 0)))) (tTest (tOp oGt (tOp oSub (tCB cMax2 (tCons (tVar 4) (tCons (tOp (rIxL K) (tVar 0) (tVar 5)) tNil))) (tCB cMin2 (tCons (tVar 3) (tCons (tOp (rIxL K) (tVar 0) (tVar 5)) tNil)))) (tOp oMul (tC (.int 2)) (tVar 1))))) (tSeq (tDrop (tBM K "list" rAppend (tVar 2) (tCons (tVar 5) tNil)))
    (tSeq (tAsg (tOp (rIxL K) (tVar 0) (tVar 5)) (gName 3))
    (tAsg (tOp (rIxL K) (tVar 0) (tVar 5)) (gName 4)))) tNext)
    (tSeq (tAsg (tCB cMin2 (tCons (tVar 3) (tCons (tOp (rIxL K) (tVar 0) (tVar 5)) tNil))) (gName 3))
    (tAsg (tCB cMax2 (tCons (tVar 4) (tCons (tOp (rIxL K) (tVar 0) (tVar 5)) tNil))) (gName 4)))))
    (tRet (tVar 2))))))
theorem der_law_flat_starts (T : Tx K mg)  {f : Addr} {cdv : Value} {A : Around} {outer : List Env} {s : Shared} {H : Hp} {E : XK} (hr : Room 0 (A.deeper (envOfC "_law_flat_starts" (defScope s_law_flat_starts) s.heap.objs.size f cdv))) : PSs (cxOf CX0 P w K mg base N_law_flat_starts "_law_flat_starts" (defScope s_law_flat_starts) f cdv A outer s H E).nox (defBody s_law_flat_starts) (t_law_flat_starts K) := by
  have sc := sc_law_flat_starts
  exact (pss_cons (ps_set (i := 2) sc.nd rfl (by first | exact Or.inl rfl | exact Or.inr rfl) (pe_lst pa_nil))
    (pss_cons (ps_set (i := 3) sc.nd rfl (by first | exact Or.inl rfl | exact Or.inr rfl) pe_int)
    (pss_cons (ps_set (i := 4) sc.nd rfl (by first | exact Or.inl rfl | exact Or.inr rfl) pe_int)
    (pss_cons (ps_for PassesOwn.never rfl (pi_range1 (by rfl) T.b_range (pa_cons (pe_callB call_len' (by rfl) T.b_len (by decide +kernel) (pa_cons (pv 0) pa_nil)) pa_nil)) (pg_name (i := 5) sc.nd rfl (by first | exact Or.inl rfl | exact Or.inr rfl)) (pss_cut (ps_if (PW.pt (pw_or (pt_cmpR op_eq (pe_callB call_len' (by rfl) T.b_len (by decide +kernel) (pa_cons (pv 2) pa_nil)) pe_int (nomark _)) (pw_or1 (pt_cmpR opGt (pe_op opSub (pe_callB (call_max2' rfl) (by rfl) T.b_max (by decide +kernel) (pa_cons (pv 4) (pa_cons (pe_ix ix_list (pv 0) (pv 5) (fun _ _ => rfl)) pa_nil))) (pe_callB (call_min2' rfl) (by rfl) T.b_min (by decide +kernel) (pa_cons (pv 3) (pa_cons (pe_ix ix_list (pv 0) (pv 5) (fun _ _ => rfl)) pa_nil)))) (pe_op opMul pe_int (pv 1)) (nomark _))))) (pss_cons (ps_expr (pe_bm PySem.F.plainAttrs_list PySem.F.slot_list_append PySem.F.type_list_append mt_append (pv 2) (pa_cons (pv 5) pa_nil)))
    (pss_cons (ps_set (i := 3) sc.nd rfl (by first | exact Or.inl rfl | exact Or.inr rfl) (pe_ix ix_list (pv 0) (pv 5) (fun _ _ => rfl)))
    (pss_one (ps_set (i := 4) sc.nd rfl (by first | exact Or.inl rfl | exact Or.inr rfl) (pe_ix ix_list (pv 0) (pv 5) (fun _ _ => rfl)))))) pss_nil)
    (pss_cons (ps_set (i := 3) sc.nd rfl (by first | exact Or.inl rfl | exact Or.inr rfl) (pe_callB (call_min2' rfl) (by rfl) T.b_min (by decide +kernel) (pa_cons (pv 3) (pa_cons (pe_ix ix_list (pv 0) (pv 5) (fun _ _ => rfl)) pa_nil))))
    (pss_one (ps_set (i := 4) sc.nd rfl (by first | exact Or.inl rfl | exact Or.inr rfl) (pe_callB (call_max2' rfl) (by rfl) T.b_max (by decide +kernel) (pa_cons (pv 4) (pa_cons (pe_ix ix_list (pv 0) (pv 5) (fun _ _ => rfl)) pa_nil))))))))
    (pss_one (ps_ret (pv 2)))))))
theorem gd_law_flat_starts (T : Tx K mg)  (len : ∀ vs H Q E, sp_law_flat_starts K vs H Q E → vs.length = 2) (rd : ∀ vs H Q E, sp_law_flat_starts K vs H Q E → t_law_flat_starts K ⟨fun _ H' => Q .non H', Q, fun _ _ => False, fun _ _ => False⟩ (start N_law_flat_starts vs) H) : Gd P w K mg base "_law_flat_starts" 1 ["_law_values", "_law_error"] (sp_law_flat_starts K) := by
  obtain ⟨fd, F⟩ := T.f_law_flat_starts
  exact ⟨_, fd, F.ok sc_law_flat_starts len (fun cdv A outer s H vs Q E hr h => ⟨t_law_flat_starts K, PSs.nox (der_law_flat_starts T  hr), rd vs H Q E h⟩), T.g_law_flat_starts, F.kp, F.bindsN (fun _ _ _ _ _ _ us hl => match us, hl with | [_, _], _ => rfl)⟩
/-! law -/
def N_law : List Str := ["_law_script", "_law_size", "_law_points", "_law_error", "_law_found", "_law_starts", "_law_values", "_law_stream", "_law_number", "_law_rows", "_law_flat", "_law_coded", "_law_places", "_law_upper", "_law_index", "_law_levels", "_law_k", "_law_spans", "_law_through", "_law_x", "_law_told", "_law_due", "_law_piece", "_law_place", "_law_height"]
theorem sc_law : FnScope N_law ["_law_script"] (defScope s_law) := ⟨rfl, rfl, rfl, by decide +kernel, rfl, by decide +kernel, by decide +kernel⟩
def t_law (K : PySem.W.Frag) : TS :=
    (tSeq (tAsg (tOp oAdd (tC (.int 30)) (tOp oMod (tCB cInt (tCons (tG (sp_law_cell K) (tCons (tVar 0) (tCons (tC (.int 0)) tNil))) tNil)) (tC (.int 120)))) (gName 1))
    (tCut (tIfS (tTest (tOp rEq (tOp oMod (tCB cInt (tCons (tOp oFdiv (tG (sp_law_cell K) (tCons (tVar 0) (tCons (tC (.int 0)) tNil))) (tC (.int 120))) tNil)) (tC (.int 16))) (tC (.int 15)))) (tAsg (tOp oAdd (tC (.int 300)) (tOp oMod (tCB cInt (tCons (tOp oFdiv (tG (sp_law_cell K) (tCons (tVar 0) (tCons (tC (.int 0)) tNil))) (tC (.int 1920))) tNil)) (tC (.int 1700)))) (gName 1)) tNext)
    (tSeq (tAsg (tG (sp_law_curve K) (tCons (tG (sp_law_cell K) (tCons (tVar 0) (tCons (tC (.int 1)) tNil))) (tCons (tVar 1) tNil))) (gName 2))
    (tSeq (tAsg (tOp (rIxL K) (tLst (tCons (tC (.int 0)) (tCons (tC (.int 1)) (tCons (tC (.int 4)) (tCons (tC (.int 30)) (tCons (tC (.int 400)) tNil)))))) (tOp oMod (tCB cInt (tCons (tG (sp_law_cell K) (tCons (tVar 0) (tCons (tC (.int 2)) tNil))) tNil)) (tC (.int 5)))) (gName 3))
    (tSeq (tAsg (tG (sp_cut K) (tCons (tCB (cList K) (tCons (tVar 2) tNil)) (tCons (tVar 3) tNil))) (gName 4))
    (tSeq (tAsg (tLc (iList K (tFld K (tVar 4) "pieces")) (gName 22) tYes (tOp (rIxT K) (tVar 22) (tC (.int 0))) [22]) (gName 5))
    (tSeq (tIfS (tOr (tNot (tB (tG (sp_law_judged K) (tCons (tVar 2) (tCons (tVar 3) (tCons (tFld K (tVar 4) "pieces") (tCons (tFld K (tVar 4) "reasons") tNil))))))) (tTest (tOp rNotB (tG (sp_judge K) (tCons (tVar 2) (tCons (tVar 3) (tCons (tVar 4) tNil)))) (tC (.bl true))))) tNever tNext)
    (tSeq (tAsg (tLc (iList K (tVar 2)) (gTup K 2 (gCons (gName 23) (gCons (gName 24) gNil))) tYes (tVar 24) [23, 24]) (gName 6))
    (tSeq (tAsg (tK (He.ga K "Stream") (sp_Stream_init K) (tCons (tVar 3) tNil)) (gName 7))
    (tSeq (tFor (iList K (tVar 6)) (gName 8) (tDrop (tM (He.ga K "Stream") "push" (sp_Stream_push K) (tVar 7) (tCons (tVar 8) tNil))))
    (tSeq (tAsg (tLc (iRng1 (tCons (tVar 1) tNil)) (gName 16) tYes (tTup (tCons (tVar 16) (tCons (tOp (rIxL K) (tVar 6) (tVar 16)) tNil))) [16]) (gName 9))
    (tSeq (tIfS (tTest (tOp (rNeD K) (tLc (iList K (tM (He.ga K "Stream") "pieces" (sp_Stream_pieces K) (tVar 7) tNil)) (gName 22) tYes (tOp (rIxT K) (tVar 22) (tC (.int 0))) [22]) (tLc (iList K (tFld K (tG (sp_cut K) (tCons (tVar 9) (tCons (tVar 3) tNil))) "pieces")) (gName 22) tYes (tOp (rIxT K) (tVar 22) (tC (.int 0))) [22]))) tNever tNext)
    (tSeq (tIfS (tNot (tB (tG (sp_law_judged K) (tCons (tVar 9) (tCons (tVar 3) (tCons (tM (He.ga K "Stream") "pieces" (sp_Stream_pieces K) (tVar 7) tNil) (tCons (tFld K (tG (sp_cut K) (tCons (tVar 9) (tCons (tVar 3) tNil))) "reasons") tNil))))))) tNever tNext)
    (tCut (tIfS (tTest (tOp oLe (tVar 1) (tC (.int 300)))) (tSeq (tAsg (tLc (iList K (tVar 2)) (gTup K 2 (gCons (gName 23) (gCons (gName 24) gNil))) tYes (tTup (tCons (tVar 23) (tCons (tOp oSub (tVar 24) (tVar 3)) (tCons (tOp oAdd (tVar 24) (tVar 3)) tNil)))) [23, 24]) (gName 17))
    (tSeq (tAsg (tG (sp_span_cut K) (tCons (tVar 17) tNil)) (gName 18))
    (tIfS (tOr (tTest (tOp (rNeD K) (tLc (iList K (tFld K (tVar 18) "pieces")) (gName 22) tYes (tOp (rIxT K) (tVar 22) (tC (.int 0))) [22]) (tVar 5))) (tTest (tOp rNotB (tG (sp_judge_spans K) (tCons (tVar 17) (tCons (tVar 18) tNil))) (tC (.bl true))))) tNever tNext))) tNext)
    (tSeq (tAsg (tG (sp_flat_cut K) (tCons (tCB (cList K) (tCons (tVar 6) tNil)) (tCons (tVar 3) tNil))) (gName 10))
    (tSeq (tIfS (tTest (tOp (rNeD K) (tLc (iList K (tFld K (tVar 10) "pieces")) (gName 22) tYes (tOp (rIxT K) (tVar 22) (tC (.int 0))) [22]) (tG (sp_law_flat_starts K) (tCons (tVar 6) (tCons (tVar 3) tNil))))) tNever tNext)
    (tSeq (tIfS (tTest (tOp rNotB (tG (sp_judge_flat K) (tCons (tCB (cList K) (tCons (tVar 6) tNil)) (tCons (tVar 3) (tCons (tVar 10) tNil)))) (tC (.bl true)))) tNever tNext)
    (tSeq (tAsg (tK (He.ga K "Coded") (sp_Coded_init K) (tCons (tCB (cList K) (tCons (tVar 6) tNil)) (tCons (tVar 3) tNil))) (gName 11))
    (tSeq (tIfS (tTest (tOp (rNeD K) (tM (He.ga K "Coded") "decoded" (sp_Coded_decoded K) (tVar 11) tNil) (tVar 6))) tNever tNext)
    (tSeq (tAsg (tLc (iList K (tVar 2)) (gTup K 2 (gCons (gName 23) (gCons (gName 24) gNil))) tYes (tVar 23) [23, 24]) (gName 12))
    (tSeq (tAsg (tOp oMod (tCB cInt (tCons (tG (sp_law_cell K) (tCons (tVar 0) (tCons (tC (.int 3)) tNil))) tNil)) (tC (.int 5))) (gName 13))
    (tSeq (tAsg (tK (He.ga K "Index") (sp_Index_init K) (tCons (tCB (cList K) (tCons (tVar 12) tNil)) (tCons (tCB cMin2 (tCons (tVar 3) (tCons (tC (.int 30)) tNil))) (tCons (tVar 13) tNil)))) (gName 14))
    (tSeq (tAsg (tM (He.ga K "Index") "level_keys" (sp_Index_level_keys K) (tVar 14) tNil) (gName 15))
    (tSeq (tFor (iRng1 (tCons (tC (.int 20)) tNil)) (gName 16) (tSeq (tAsg (tOp oAdd (tOp oSub (tOp (rIxL K) (tVar 12) (tC (.int 0))) (tC (.int 2))) (tOp oMod (tCB cInt (tCons (tOp oAdd (tOp oFdiv (tG (sp_law_cell K) (tCons (tVar 0) (tCons (tC (.int 4)) tNil))) (tOp oAdd (tVar 16) (tC (.int 1)))) (tOp oMul (tVar 16) (tC (.int 37)))) tNil)) (tOp oAdd (tOp oSub (tOp (rIxL K) (tVar 12) (tOp oSub (tVar 1) (tC (.int 1)))) (tOp (rIxL K) (tVar 12) (tC (.int 0)))) (tC (.int 5))))) (gName 19))
    (tSeq (tAsg (tM (He.ga K "Index") "look_up" (sp_Index_look_up K) (tVar 14) (tCons (tVar 19) tNil)) (gName 20))
    (tSeq (tAsg (tCB (cLen K) (tCons (tLc (iList K (tVar 12)) (gName 23) (tTest (tOp oLe (tVar 23) (tVar 19))) (tVar 23) [23]) tNil)) (gName 21))
    (tIfS (tOr (tTest (tOp rNe (tOp (rIxT K) (tVar 20) (tC (.int 0))) (tVar 21))) (tNot (tB (tG (sp_law_looks_right K) (tCons (tOp (rIxT K) (tVar 20) (tC (.int 1))) (tCons (tVar 15) (tCons (tCB cMin2 (tCons (tVar 3) (tCons (tC (.int 30)) tNil))) (tCons (tVar 13) (tCons (tOp rEq (tVar 21) (tC (.int 0))) tNil))))))))) tNever tNext)))))
    (tRet (tC (.bl true)))))))))))))))))))))))))))
theorem der_law (T : Tx K mg) (G_cut : Gd P w K mg base "cut" 4 ["points", "error"] (sp_cut K)) (G_flat_cut : Gd P w K mg base "flat_cut" 3 ["values", "error"] (sp_flat_cut K)) (G_judge : Gd P w K mg base "judge" 3 ["points", "error", "cutting"] (sp_judge K)) (G_judge_flat : Gd P w K mg base "judge_flat" 2 ["values", "error", "cutting"] (sp_judge_flat K)) (G_judge_spans : Gd P w K mg base "judge_spans" 3 ["spans", "cutting"] (sp_judge_spans K)) (G_law_cell : Gd P w K mg base "_law_cell" 1 ["_law_script", "_law_k"] (sp_law_cell K)) (G_law_curve : Gd P w K mg base "_law_curve" 2 ["_law_cell_here", "_law_size"] (sp_law_curve K)) (G_law_flat_starts : Gd P w K mg base "_law_flat_starts" 1 ["_law_values", "_law_error"] (sp_law_flat_starts K)) (G_law_judged : Gd P w K mg base "_law_judged" 2 ["_law_points", "_law_error", "_law_pieces", "_law_reasons"] (sp_law_judged K)) (G_law_looks_right : Gd P w K mg base "_law_looks_right" 2 ["_law_looks", "_law_levels", "_law_error", "_law_upper", "_law_is_below"] (sp_law_looks_right K)) (G_span_cut : Gd P w K mg base "span_cut" 4 ["spans"] (sp_span_cut K)) (G_Coded_init : Kd P w K mg base "Coded" (He.ga K "Coded") 5 ["self", "values", "error"] (sp_Coded_init K)) (G_Index_init : Kd P w K mg base "Index" (He.ga K "Index") 7 ["self", "stored", "error", "upper"] (sp_Index_init K)) (G_Stream_init : Kd P w K mg base "Stream" (He.ga K "Stream") 3 ["self", "error"] (sp_Stream_init K)) (G_Coded_decoded : Md P w K mg base (He.ga K "Coded") "decoded" 3 ["self"] (sp_Coded_decoded K)) (G_Index_level_keys : Md P w K mg base (He.ga K "Index") "level_keys" 1 ["self"] (sp_Index_level_keys K)) (G_Index_look_up : Md P w K mg base (He.ga K "Index") "look_up" 3 ["self", "x"] (sp_Index_look_up K)) (G_Stream_pieces : Md P w K mg base (He.ga K "Stream") "pieces" 4 ["self"] (sp_Stream_pieces K)) (G_Stream_push : Md P w K mg base (He.ga K "Stream") "push" 4 ["self", "number"] (sp_Stream_push K)) {f : Addr} {cdv : Value} {A : Around} {outer : List Env} {s : Shared} {H : Hp} {E : XK} (hr : Room 8 (A.deeper (envOfC "law" (defScope s_law) s.heap.objs.size f cdv))) : PSs (cxOf CX0 P w K mg base N_law "law" (defScope s_law) f cdv A outer s H E).nox (defBody s_law) (t_law K) := by
  have sc := sc_law
  exact (pss_cons (ps_set (i := 1) sc.nd rfl (by first | exact Or.inl rfl | exact Or.inr rfl) (pe_op opAdd pe_int (pe_op opMod (pe_callTy call_int' (by rfl) T.b_int (by decide +kernel) (pa_cons (pe_g G_law_cell (hr.mono (by decide)) (by rfl) (pa_cons (pv 0) (pa_cons pe_int pa_nil))) pa_nil)) pe_int)))
    (pss_cut (ps_if (pt_cmpR op_eq (pe_op opMod (pe_callTy call_int' (by rfl) T.b_int (by decide +kernel) (pa_cons (pe_op opFdiv (pe_g G_law_cell (hr.mono (by decide)) (by rfl) (pa_cons (pv 0) (pa_cons pe_int pa_nil))) pe_int) pa_nil)) pe_int) pe_int (nomark _)) (pss_one (ps_set (i := 1) sc.nd rfl (by first | exact Or.inl rfl | exact Or.inr rfl) (pe_op opAdd pe_int (pe_op opMod (pe_callTy call_int' (by rfl) T.b_int (by decide +kernel) (pa_cons (pe_op opFdiv (pe_g G_law_cell (hr.mono (by decide)) (by rfl) (pa_cons (pv 0) (pa_cons pe_int pa_nil))) pe_int) pa_nil)) pe_int)))) pss_nil)
    (pss_cons (ps_set (i := 2) sc.nd rfl (by first | exact Or.inl rfl | exact Or.inr rfl) (pe_g G_law_curve (hr.mono (by decide)) (by rfl) (pa_cons (pe_g G_law_cell (hr.mono (by decide)) (by rfl) (pa_cons (pv 0) (pa_cons pe_int pa_nil))) (pa_cons (pv 1) pa_nil))))
    (pss_cons (ps_set (i := 3) sc.nd rfl (by first | exact Or.inl rfl | exact Or.inr rfl) (pe_ix ix_list (pe_lst (pa_cons pe_int (pa_cons pe_int (pa_cons pe_int (pa_cons pe_int (pa_cons pe_int pa_nil)))))) (pe_op opMod (pe_callTy call_int' (by rfl) T.b_int (by decide +kernel) (pa_cons (pe_g G_law_cell (hr.mono (by decide)) (by rfl) (pa_cons (pv 0) (pa_cons pe_int pa_nil))) pa_nil)) pe_int) (fun _ _ => rfl)))
    (pss_cons (ps_set (i := 4) sc.nd rfl (by first | exact Or.inl rfl | exact Or.inr rfl) (pe_g G_cut (hr.mono (by decide)) (by rfl) (pa_cons (pe_callTy call_list' (by rfl) T.b_list (by decide +kernel) (pa_cons (pv 2) pa_nil)) (pa_cons (pv 3) pa_nil))))
    (pss_cons (ps_setLc (i := 5) (own := [("_law_piece", 22)]) rfl sc.nd rfl rfl (sw_true rfl rfl rfl (by decide +kernel)) (pi_list (pe_fld (pv 4) rfl)) (blkOk_by (own := [("_law_piece", 22)]) (N := N_law) (sc := defScope s_law) (by decide +kernel)) (fun _ _ _ _ _ => (pg_name (i := 22) sc.nd rfl (by first | exact Or.inl rfl | exact Or.inr rfl))) (fun _ _ _ _ _ => pts_nil) (fun _ _ _ _ _ => (pe_ix ix_tup (pv 22) pe_int (fun _ _ => rfl))))
    (pss_cons (ps_if (PW.pt (pw_or (pt_not (pt_val (pe_g G_law_judged (hr.mono (by decide)) (by rfl) (pa_cons (pv 2) (pa_cons (pv 3) (pa_cons (pe_fld (pv 4) rfl) (pa_cons (pe_fld (pv 4) rfl) pa_nil))))))) (pw_or1 (pt_cmpR op_notBl (pe_g G_judge (hr.mono (by decide)) (by rfl) (pa_cons (pv 2) (pa_cons (pv 3) (pa_cons (pv 4) pa_nil)))) pe_bl (nomark _))))) (pss_one ps_never) pss_nil)
    (pss_cons (ps_set (i := 6) sc.nd rfl (by first | exact Or.inl rfl | exact Or.inr rfl) (pe_lc (own := [("_law_place", 23), ("_law_height", 24)]) rfl sc.nd (pi_list (pv 2)) (blkOk_by (own := [("_law_place", 23), ("_law_height", 24)]) (N := N_law) (sc := defScope s_law) (by decide +kernel)) (fun _ _ _ _ _ => (pg_tup rfl (pgs_cons (pg_name (i := 23) sc.nd rfl (by first | exact Or.inl rfl | exact Or.inr rfl)) (pgs_cons (pg_name (i := 24) sc.nd rfl (by first | exact Or.inl rfl | exact Or.inr rfl)) pgs_nil)))) (fun _ _ _ _ _ => pts_nil) (fun _ _ _ _ _ => (pv 24))))
    (pss_cons (ps_set (i := 7) sc.nd rfl (by first | exact Or.inl rfl | exact Or.inr rfl) (pe_k G_Stream_init (hr.mono (by decide)) (by rfl) (pa_cons (pv 3) pa_nil)))
    (pss_cons (ps_for PassesOwn.never rfl (pi_list (pv 6)) (pg_name (i := 8) sc.nd rfl (by first | exact Or.inl rfl | exact Or.inr rfl)) (pss_one (ps_expr (pe_m (pv 7) G_Stream_push (hr.mono (by decide)) (pa_cons (pv 8) pa_nil)))))
    (pss_cons (ps_setLc (i := 9) (own := [("_law_k", 16)]) rfl sc.nd rfl rfl (sw_true rfl rfl rfl (by decide +kernel)) (pi_range1 (by rfl) T.b_range (pa_cons (pv 1) pa_nil)) (blkOk_by (own := [("_law_k", 16)]) (N := N_law) (sc := defScope s_law) (by decide +kernel)) (fun _ _ _ _ _ => (pg_name (i := 16) sc.nd rfl (by first | exact Or.inl rfl | exact Or.inr rfl))) (fun _ _ _ _ _ => pts_nil) (fun _ _ _ _ _ => (pe_tup (pa_cons (pv 16) (pa_cons (pe_ix ix_list (pv 6) (pv 16) (fun _ _ => rfl)) pa_nil)))))
    (pss_cons (ps_if (pt_cmpR (op_neD hr.units) (pe_lc (own := [("_law_piece", 22)]) rfl sc.nd (pi_list (pe_m0 (pv 7) G_Stream_pieces (hr.mono (by decide)))) (blkOk_by (own := [("_law_piece", 22)]) (N := N_law) (sc := defScope s_law) (by decide +kernel)) (fun _ _ _ _ _ => (pg_name (i := 22) sc.nd rfl (by first | exact Or.inl rfl | exact Or.inr rfl))) (fun _ _ _ _ _ => pts_nil) (fun _ _ _ _ _ => (pe_ix ix_tup (pv 22) pe_int (fun _ _ => rfl)))) (pe_lc (own := [("_law_piece", 22)]) rfl sc.nd (pi_list (pe_fld (pe_g G_cut (hr.mono (by decide)) (by rfl) (pa_cons (pv 9) (pa_cons (pv 3) pa_nil))) rfl)) (blkOk_by (own := [("_law_piece", 22)]) (N := N_law) (sc := defScope s_law) (by decide +kernel)) (fun _ _ _ _ _ => (pg_name (i := 22) sc.nd rfl (by first | exact Or.inl rfl | exact Or.inr rfl))) (fun _ _ _ _ _ => pts_nil) (fun _ _ _ _ _ => (pe_ix ix_tup (pv 22) pe_int (fun _ _ => rfl)))) (nomark _)) (pss_one ps_never) pss_nil)
    (pss_cons (ps_if (pt_not (pt_val (pe_g G_law_judged (hr.mono (by decide)) (by rfl) (pa_cons (pv 9) (pa_cons (pv 3) (pa_cons (pe_m0 (pv 7) G_Stream_pieces (hr.mono (by decide))) (pa_cons (pe_fld (pe_g G_cut (hr.mono (by decide)) (by rfl) (pa_cons (pv 9) (pa_cons (pv 3) pa_nil))) rfl) pa_nil))))))) (pss_one ps_never) pss_nil)
    (pss_cut (ps_if (pt_cmpR opLe (pv 1) pe_int (nomark _)) (pss_cons (ps_setLc (i := 17) (own := [("_law_place", 23), ("_law_height", 24)]) rfl sc.nd rfl rfl (sw_true rfl rfl rfl (by decide +kernel)) (pi_list (pv 2)) (blkOk_by (own := [("_law_place", 23), ("_law_height", 24)]) (N := N_law) (sc := defScope s_law) (by decide +kernel)) (fun _ _ _ _ _ => (pg_tup rfl (pgs_cons (pg_name (i := 23) sc.nd rfl (by first | exact Or.inl rfl | exact Or.inr rfl)) (pgs_cons (pg_name (i := 24) sc.nd rfl (by first | exact Or.inl rfl | exact Or.inr rfl)) pgs_nil)))) (fun _ _ _ _ _ => pts_nil) (fun _ _ _ _ _ => (pe_tup (pa_cons (pv 23) (pa_cons (pe_op opSub (pv 24) (pv 3)) (pa_cons (pe_op opAdd (pv 24) (pv 3)) pa_nil))))))
    (pss_cons (ps_set (i := 18) sc.nd rfl (by first | exact Or.inl rfl | exact Or.inr rfl) (pe_g G_span_cut (hr.mono (by decide)) (by rfl) (pa_cons (pv 17) pa_nil)))
    (pss_one (ps_if (PW.pt (pw_or (pt_cmpR (op_neD hr.units) (pe_lc (own := [("_law_piece", 22)]) rfl sc.nd (pi_list (pe_fld (pv 18) rfl)) (blkOk_by (own := [("_law_piece", 22)]) (N := N_law) (sc := defScope s_law) (by decide +kernel)) (fun _ _ _ _ _ => (pg_name (i := 22) sc.nd rfl (by first | exact Or.inl rfl | exact Or.inr rfl))) (fun _ _ _ _ _ => pts_nil) (fun _ _ _ _ _ => (pe_ix ix_tup (pv 22) pe_int (fun _ _ => rfl)))) (pv 5) (nomark _)) (pw_or1 (pt_cmpR op_notBl (pe_g G_judge_spans (hr.mono (by decide)) (by rfl) (pa_cons (pv 17) (pa_cons (pv 18) pa_nil))) pe_bl (nomark _))))) (pss_one ps_never) pss_nil)))) pss_nil)
    (pss_cons (ps_set (i := 10) sc.nd rfl (by first | exact Or.inl rfl | exact Or.inr rfl) (pe_g G_flat_cut (hr.mono (by decide)) (by rfl) (pa_cons (pe_callTy call_list' (by rfl) T.b_list (by decide +kernel) (pa_cons (pv 6) pa_nil)) (pa_cons (pv 3) pa_nil))))
    (pss_cons (ps_if (pt_cmpR (op_neD hr.units) (pe_lc (own := [("_law_piece", 22)]) rfl sc.nd (pi_list (pe_fld (pv 10) rfl)) (blkOk_by (own := [("_law_piece", 22)]) (N := N_law) (sc := defScope s_law) (by decide +kernel)) (fun _ _ _ _ _ => (pg_name (i := 22) sc.nd rfl (by first | exact Or.inl rfl | exact Or.inr rfl))) (fun _ _ _ _ _ => pts_nil) (fun _ _ _ _ _ => (pe_ix ix_tup (pv 22) pe_int (fun _ _ => rfl)))) (pe_g G_law_flat_starts (hr.mono (by decide)) (by rfl) (pa_cons (pv 6) (pa_cons (pv 3) pa_nil))) (nomark _)) (pss_one ps_never) pss_nil)
    (pss_cons (ps_if (pt_cmpR op_notBl (pe_g G_judge_flat (hr.mono (by decide)) (by rfl) (pa_cons (pe_callTy call_list' (by rfl) T.b_list (by decide +kernel) (pa_cons (pv 6) pa_nil)) (pa_cons (pv 3) (pa_cons (pv 10) pa_nil)))) pe_bl (nomark _)) (pss_one ps_never) pss_nil)
    (pss_cons (ps_set (i := 11) sc.nd rfl (by first | exact Or.inl rfl | exact Or.inr rfl) (pe_k G_Coded_init (hr.mono (by decide)) (by rfl) (pa_cons (pe_callTy call_list' (by rfl) T.b_list (by decide +kernel) (pa_cons (pv 6) pa_nil)) (pa_cons (pv 3) pa_nil))))
    (pss_cons (ps_if (pt_cmpR (op_neD hr.units) (pe_m0 (pv 11) G_Coded_decoded (hr.mono (by decide))) (pv 6) (nomark _)) (pss_one ps_never) pss_nil)
    (pss_cons (ps_setLc (i := 12) (own := [("_law_place", 23), ("_law_height", 24)]) rfl sc.nd rfl rfl (sw_true rfl rfl rfl (by decide +kernel)) (pi_list (pv 2)) (blkOk_by (own := [("_law_place", 23), ("_law_height", 24)]) (N := N_law) (sc := defScope s_law) (by decide +kernel)) (fun _ _ _ _ _ => (pg_tup rfl (pgs_cons (pg_name (i := 23) sc.nd rfl (by first | exact Or.inl rfl | exact Or.inr rfl)) (pgs_cons (pg_name (i := 24) sc.nd rfl (by first | exact Or.inl rfl | exact Or.inr rfl)) pgs_nil)))) (fun _ _ _ _ _ => pts_nil) (fun _ _ _ _ _ => (pv 23)))
    (pss_cons (ps_set (i := 13) sc.nd rfl (by first | exact Or.inl rfl | exact Or.inr rfl) (pe_op opMod (pe_callTy call_int' (by rfl) T.b_int (by decide +kernel) (pa_cons (pe_g G_law_cell (hr.mono (by decide)) (by rfl) (pa_cons (pv 0) (pa_cons pe_int pa_nil))) pa_nil)) pe_int))
    (pss_cons (ps_set (i := 14) sc.nd rfl (by first | exact Or.inl rfl | exact Or.inr rfl) (pe_k G_Index_init (hr.mono (by decide)) (by rfl) (pa_cons (pe_callTy call_list' (by rfl) T.b_list (by decide +kernel) (pa_cons (pv 12) pa_nil)) (pa_cons (pe_callB (call_min2' rfl) (by rfl) T.b_min (by decide +kernel) (pa_cons (pv 3) (pa_cons pe_int pa_nil))) (pa_cons (pv 13) pa_nil)))))
    (pss_cons (ps_set (i := 15) sc.nd rfl (by first | exact Or.inl rfl | exact Or.inr rfl) (pe_m0 (pv 14) G_Index_level_keys (hr.mono (by decide))))
    (pss_cons (ps_for PassesOwn.never rfl (pi_range1 (by rfl) T.b_range (pa_cons pe_int pa_nil)) (pg_name (i := 16) sc.nd rfl (by first | exact Or.inl rfl | exact Or.inr rfl)) (pss_cons (ps_set (i := 19) sc.nd rfl (by first | exact Or.inl rfl | exact Or.inr rfl) (pe_op opAdd (pe_op opSub (pe_ix ix_list (pv 12) pe_int (fun _ _ => rfl)) pe_int) (pe_op opMod (pe_callTy call_int' (by rfl) T.b_int (by decide +kernel) (pa_cons (pe_op opAdd (pe_op opFdiv (pe_g G_law_cell (hr.mono (by decide)) (by rfl) (pa_cons (pv 0) (pa_cons pe_int pa_nil))) (pe_op opAdd (pv 16) pe_int)) (pe_op opMul (pv 16) pe_int)) pa_nil)) (pe_op opAdd (pe_op opSub (pe_ix ix_list (pv 12) (pe_op opSub (pv 1) pe_int) (fun _ _ => rfl)) (pe_ix ix_list (pv 12) pe_int (fun _ _ => rfl))) pe_int))))
    (pss_cons (ps_set (i := 20) sc.nd rfl (by first | exact Or.inl rfl | exact Or.inr rfl) (pe_m (pv 14) G_Index_look_up (hr.mono (by decide)) (pa_cons (pv 19) pa_nil)))
    (pss_cons (ps_set (i := 21) sc.nd rfl (by first | exact Or.inl rfl | exact Or.inr rfl) (pe_callB call_len' (by rfl) T.b_len (by decide +kernel) (pa_cons (pe_lc (own := [("_law_place", 23)]) rfl sc.nd (pi_list (pv 12)) (blkOk_by (own := [("_law_place", 23)]) (N := N_law) (sc := defScope s_law) (by decide +kernel)) (fun _ _ _ _ _ => (pg_name (i := 23) sc.nd rfl (by first | exact Or.inl rfl | exact Or.inr rfl))) (fun _ _ _ _ _ => (pts_one (pt_cmpR opLe (pv 23) (pv 19) (nomark _)))) (fun _ _ _ _ _ => (pv 23))) pa_nil)))
    (pss_one (ps_if (PW.pt (pw_or (pt_cmpR op_ne (pe_ix ix_tup (pv 20) pe_int (fun _ _ => rfl)) (pv 21) (nomark _)) (pw_or1 (pt_not (pt_val (pe_g G_law_looks_right (hr.mono (by decide)) (by rfl) (pa_cons (pe_ix ix_tup (pv 20) pe_int (fun _ _ => rfl)) (pa_cons (pv 15) (pa_cons (pe_callB (call_min2' rfl) (by rfl) T.b_min (by decide +kernel) (pa_cons (pv 3) (pa_cons pe_int pa_nil))) (pa_cons (pv 13) (pa_cons (pe_cmpR op_eq (pv 21) pe_int (nomark _)) pa_nil))))))))))) (pss_one ps_never) pss_nil))))))
    (pss_one (ps_ret pe_bl))))))))))))))))))))))))))
theorem gd_law (T : Tx K mg) (G_cut : Gd P w K mg base "cut" 4 ["points", "error"] (sp_cut K)) (G_flat_cut : Gd P w K mg base "flat_cut" 3 ["values", "error"] (sp_flat_cut K)) (G_judge : Gd P w K mg base "judge" 3 ["points", "error", "cutting"] (sp_judge K)) (G_judge_flat : Gd P w K mg base "judge_flat" 2 ["values", "error", "cutting"] (sp_judge_flat K)) (G_judge_spans : Gd P w K mg base "judge_spans" 3 ["spans", "cutting"] (sp_judge_spans K)) (G_law_cell : Gd P w K mg base "_law_cell" 1 ["_law_script", "_law_k"] (sp_law_cell K)) (G_law_curve : Gd P w K mg base "_law_curve" 2 ["_law_cell_here", "_law_size"] (sp_law_curve K)) (G_law_flat_starts : Gd P w K mg base "_law_flat_starts" 1 ["_law_values", "_law_error"] (sp_law_flat_starts K)) (G_law_judged : Gd P w K mg base "_law_judged" 2 ["_law_points", "_law_error", "_law_pieces", "_law_reasons"] (sp_law_judged K)) (G_law_looks_right : Gd P w K mg base "_law_looks_right" 2 ["_law_looks", "_law_levels", "_law_error", "_law_upper", "_law_is_below"] (sp_law_looks_right K)) (G_span_cut : Gd P w K mg base "span_cut" 4 ["spans"] (sp_span_cut K)) (G_Coded_init : Kd P w K mg base "Coded" (He.ga K "Coded") 5 ["self", "values", "error"] (sp_Coded_init K)) (G_Index_init : Kd P w K mg base "Index" (He.ga K "Index") 7 ["self", "stored", "error", "upper"] (sp_Index_init K)) (G_Stream_init : Kd P w K mg base "Stream" (He.ga K "Stream") 3 ["self", "error"] (sp_Stream_init K)) (G_Coded_decoded : Md P w K mg base (He.ga K "Coded") "decoded" 3 ["self"] (sp_Coded_decoded K)) (G_Index_level_keys : Md P w K mg base (He.ga K "Index") "level_keys" 1 ["self"] (sp_Index_level_keys K)) (G_Index_look_up : Md P w K mg base (He.ga K "Index") "look_up" 3 ["self", "x"] (sp_Index_look_up K)) (G_Stream_pieces : Md P w K mg base (He.ga K "Stream") "pieces" 4 ["self"] (sp_Stream_pieces K)) (G_Stream_push : Md P w K mg base (He.ga K "Stream") "push" 4 ["self", "number"] (sp_Stream_push K)) (len : ∀ vs H Q E, sp_law K vs H Q E → vs.length = 1) (rd : ∀ vs H Q E, sp_law K vs H Q E → t_law K ⟨fun _ H' => Q .non H', Q, fun _ _ => False, fun _ _ => False⟩ (start N_law vs) H) : Gd P w K mg base "law" 9 ["_law_script"] (sp_law K) := by
  obtain ⟨fd, F⟩ := T.f_law
  exact ⟨_, fd, F.ok sc_law len (fun cdv A outer s H vs Q E hr h => ⟨t_law K, PSs.nox (der_law T G_cut G_flat_cut G_judge G_judge_flat G_judge_spans G_law_cell G_law_curve G_law_flat_starts G_law_judged G_law_looks_right G_span_cut G_Coded_init G_Index_init G_Stream_init G_Coded_decoded G_Index_level_keys G_Index_look_up G_Stream_pieces G_Stream_push hr), rd vs H Q E h⟩), T.g_law, F.kp, F.bindsN (fun _ _ _ _ _ _ us hl => match us, hl with | [_], _ => rfl)⟩
end
local macro_rules | `(tactic| walk_at "fx") => `(tactic| first
  | ((with_reducible refine' fx_Fitter__bottoms (by assumption) ?h ?l ?_); (case h => walk_at "lk"); (case l => exact rfl))
  | ((with_reducible refine' fx_Fitter__flat (by assumption) ?h ?l ?_); (case h => walk_at "lk"); (case l => exact rfl))
  | ((with_reducible refine' fx_Fitter__points (by assumption) ?h ?l ?_); (case h => walk_at "lk"); (case l => exact rfl))
  | ((with_reducible refine' fx_Fitter__steep (by assumption) ?h ?l ?_); (case h => walk_at "lk"); (case l => exact rfl))
  | ((with_reducible refine' fx_Fitter__tops (by assumption) ?h ?l ?_); (case h => walk_at "lk"); (case l => exact rfl))
  | ((with_reducible refine' fx_Fitter_count (by assumption) ?h ?l ?_); (case h => walk_at "lk"); (case l => exact rfl))
  | ((with_reducible refine' fx_Fitter_error (by assumption) ?h ?l ?_); (case h => walk_at "lk"); (case l => exact rfl))
  | ((with_reducible refine' fx_Cutting_pieces (by assumption) ?h ?l ?_); (case h => walk_at "lk"); (case l => exact rfl))
  | ((with_reducible refine' fx_Cutting_reasons (by assumption) ?h ?l ?_); (case h => walk_at "lk"); (case l => exact rfl))
  | ((with_reducible refine' fx_Coded_corrections (by assumption) ?h ?l ?_); (case h => walk_at "lk"); (case l => exact rfl))
  | ((with_reducible refine' fx_Coded_pieces (by assumption) ?h ?l ?_); (case h => walk_at "lk"); (case l => exact rfl))
  | ((with_reducible refine' fx_FlatCutting_pieces (by assumption) ?h ?l ?_); (case h => walk_at "lk"); (case l => exact rfl))
  | ((with_reducible refine' fx_FlatCutting_reasons (by assumption) ?h ?l ?_); (case h => walk_at "lk"); (case l => exact rfl))
  | ((with_reducible refine' fx_Level_error (by assumption) ?h ?l ?_); (case h => walk_at "lk"); (case l => exact rfl))
  | ((with_reducible refine' fx_Level_marks (by assumption) ?h ?l ?_); (case h => walk_at "lk"); (case l => exact rfl))
  | ((with_reducible refine' fx_Level_pieces (by assumption) ?h ?l ?_); (case h => walk_at "lk"); (case l => exact rfl))
  | ((with_reducible refine' fx_Index__levels (by assumption) ?h ?l ?_); (case h => walk_at "lk"); (case l => exact rfl))
  | ((with_reducible refine' fx_Index_stored (by assumption) ?h ?l ?_); (case h => walk_at "lk"); (case l => exact rfl))
  | ((with_reducible refine' fx_SpanCutting_pieces (by assumption) ?h ?l ?_); (case h => walk_at "lk"); (case l => exact rfl))
  | ((with_reducible refine' fx_SpanCutting_reasons (by assumption) ?h ?l ?_); (case h => walk_at "lk"); (case l => exact rfl))
  | ((with_reducible refine' fx_Stream__closed (by assumption) ?h ?l ?_); (case h => walk_at "lk"); (case l => exact rfl))
  | ((with_reducible refine' fx_Stream__fitter (by assumption) ?h ?l ?_); (case h => walk_at "lk"); (case l => exact rfl))
  | ((with_reducible refine' fx_Stream__start (by assumption) ?h ?l ?_); (case h => walk_at "lk"); (case l => exact rfl))
  | ((with_reducible refine' fx_Stream_error (by assumption) ?h ?l ?_); (case h => walk_at "lk"); (case l => exact rfl))
  | ((with_reducible refine' fx_Stream_length (by assumption) ?h ?l ?_); (case h => walk_at "lk"); (case l => exact rfl)))
local macro_rules | `(tactic| walk_at "sx") => `(tactic| first
  | ((with_reducible refine' sx_Fitter__bottoms (by assumption) ?h ?l ?_); (case h => walk_at "lk"); (case l => exact Nat.lt_of_lt_of_le (Nat.lt_of_succ_le (Nat.le_of_ble_eq_true rfl)) (show 50 ≤ 1000 by decide)))
  | ((with_reducible refine' sx_Fitter__flat (by assumption) ?h ?l ?_); (case h => walk_at "lk"); (case l => exact Nat.lt_of_lt_of_le (Nat.lt_of_succ_le (Nat.le_of_ble_eq_true rfl)) (show 50 ≤ 1000 by decide)))
  | ((with_reducible refine' sx_Fitter__points (by assumption) ?h ?l ?_); (case h => walk_at "lk"); (case l => exact Nat.lt_of_lt_of_le (Nat.lt_of_succ_le (Nat.le_of_ble_eq_true rfl)) (show 50 ≤ 1000 by decide)))
  | ((with_reducible refine' sx_Fitter__steep (by assumption) ?h ?l ?_); (case h => walk_at "lk"); (case l => exact Nat.lt_of_lt_of_le (Nat.lt_of_succ_le (Nat.le_of_ble_eq_true rfl)) (show 50 ≤ 1000 by decide)))
  | ((with_reducible refine' sx_Fitter__tops (by assumption) ?h ?l ?_); (case h => walk_at "lk"); (case l => exact Nat.lt_of_lt_of_le (Nat.lt_of_succ_le (Nat.le_of_ble_eq_true rfl)) (show 50 ≤ 1000 by decide)))
  | ((with_reducible refine' sx_Fitter_count (by assumption) ?h ?l ?_); (case h => walk_at "lk"); (case l => exact Nat.lt_of_lt_of_le (Nat.lt_of_succ_le (Nat.le_of_ble_eq_true rfl)) (show 50 ≤ 1000 by decide)))
  | ((with_reducible refine' sx_Fitter_error (by assumption) ?h ?l ?_); (case h => walk_at "lk"); (case l => exact Nat.lt_of_lt_of_le (Nat.lt_of_succ_le (Nat.le_of_ble_eq_true rfl)) (show 50 ≤ 1000 by decide)))
  | ((with_reducible refine' sx_Cutting_pieces (by assumption) ?h ?l ?_); (case h => walk_at "lk"); (case l => exact Nat.lt_of_lt_of_le (Nat.lt_of_succ_le (Nat.le_of_ble_eq_true rfl)) (show 50 ≤ 1000 by decide)))
  | ((with_reducible refine' sx_Cutting_reasons (by assumption) ?h ?l ?_); (case h => walk_at "lk"); (case l => exact Nat.lt_of_lt_of_le (Nat.lt_of_succ_le (Nat.le_of_ble_eq_true rfl)) (show 50 ≤ 1000 by decide)))
  | ((with_reducible refine' sx_Coded_corrections (by assumption) ?h ?l ?_); (case h => walk_at "lk"); (case l => exact Nat.lt_of_lt_of_le (Nat.lt_of_succ_le (Nat.le_of_ble_eq_true rfl)) (show 50 ≤ 1000 by decide)))
  | ((with_reducible refine' sx_Coded_pieces (by assumption) ?h ?l ?_); (case h => walk_at "lk"); (case l => exact Nat.lt_of_lt_of_le (Nat.lt_of_succ_le (Nat.le_of_ble_eq_true rfl)) (show 50 ≤ 1000 by decide)))
  | ((with_reducible refine' sx_FlatCutting_pieces (by assumption) ?h ?l ?_); (case h => walk_at "lk"); (case l => exact Nat.lt_of_lt_of_le (Nat.lt_of_succ_le (Nat.le_of_ble_eq_true rfl)) (show 50 ≤ 1000 by decide)))
  | ((with_reducible refine' sx_FlatCutting_reasons (by assumption) ?h ?l ?_); (case h => walk_at "lk"); (case l => exact Nat.lt_of_lt_of_le (Nat.lt_of_succ_le (Nat.le_of_ble_eq_true rfl)) (show 50 ≤ 1000 by decide)))
  | ((with_reducible refine' sx_Level_error (by assumption) ?h ?l ?_); (case h => walk_at "lk"); (case l => exact Nat.lt_of_lt_of_le (Nat.lt_of_succ_le (Nat.le_of_ble_eq_true rfl)) (show 50 ≤ 1000 by decide)))
  | ((with_reducible refine' sx_Level_marks (by assumption) ?h ?l ?_); (case h => walk_at "lk"); (case l => exact Nat.lt_of_lt_of_le (Nat.lt_of_succ_le (Nat.le_of_ble_eq_true rfl)) (show 50 ≤ 1000 by decide)))
  | ((with_reducible refine' sx_Level_pieces (by assumption) ?h ?l ?_); (case h => walk_at "lk"); (case l => exact Nat.lt_of_lt_of_le (Nat.lt_of_succ_le (Nat.le_of_ble_eq_true rfl)) (show 50 ≤ 1000 by decide)))
  | ((with_reducible refine' sx_Index__levels (by assumption) ?h ?l ?_); (case h => walk_at "lk"); (case l => exact Nat.lt_of_lt_of_le (Nat.lt_of_succ_le (Nat.le_of_ble_eq_true rfl)) (show 50 ≤ 1000 by decide)))
  | ((with_reducible refine' sx_Index_stored (by assumption) ?h ?l ?_); (case h => walk_at "lk"); (case l => exact Nat.lt_of_lt_of_le (Nat.lt_of_succ_le (Nat.le_of_ble_eq_true rfl)) (show 50 ≤ 1000 by decide)))
  | ((with_reducible refine' sx_SpanCutting_pieces (by assumption) ?h ?l ?_); (case h => walk_at "lk"); (case l => exact Nat.lt_of_lt_of_le (Nat.lt_of_succ_le (Nat.le_of_ble_eq_true rfl)) (show 50 ≤ 1000 by decide)))
  | ((with_reducible refine' sx_SpanCutting_reasons (by assumption) ?h ?l ?_); (case h => walk_at "lk"); (case l => exact Nat.lt_of_lt_of_le (Nat.lt_of_succ_le (Nat.le_of_ble_eq_true rfl)) (show 50 ≤ 1000 by decide)))
  | ((with_reducible refine' sx_Stream__closed (by assumption) ?h ?l ?_); (case h => walk_at "lk"); (case l => exact Nat.lt_of_lt_of_le (Nat.lt_of_succ_le (Nat.le_of_ble_eq_true rfl)) (show 50 ≤ 1000 by decide)))
  | ((with_reducible refine' sx_Stream__fitter (by assumption) ?h ?l ?_); (case h => walk_at "lk"); (case l => exact Nat.lt_of_lt_of_le (Nat.lt_of_succ_le (Nat.le_of_ble_eq_true rfl)) (show 50 ≤ 1000 by decide)))
  | ((with_reducible refine' sx_Stream__start (by assumption) ?h ?l ?_); (case h => walk_at "lk"); (case l => exact Nat.lt_of_lt_of_le (Nat.lt_of_succ_le (Nat.le_of_ble_eq_true rfl)) (show 50 ≤ 1000 by decide)))
  | ((with_reducible refine' sx_Stream_error (by assumption) ?h ?l ?_); (case h => walk_at "lk"); (case l => exact Nat.lt_of_lt_of_le (Nat.lt_of_succ_le (Nat.le_of_ble_eq_true rfl)) (show 50 ≤ 1000 by decide)))
  | ((with_reducible refine' sx_Stream_length (by assumption) ?h ?l ?_); (case h => walk_at "lk"); (case l => exact Nat.lt_of_lt_of_le (Nat.lt_of_succ_le (Nat.le_of_ble_eq_true rfl)) (show 50 ≤ 1000 by decide))))
local macro_rules | `(tactic| walk_at "lk") => `(tactic| first | assumption | exact upd_same | (refine same_get (by assumption) ?_; walk_at "lk"))
local macro_rules | `(tactic| walk_at "mul") => `(tactic| first | exact .inr ⟨by omega, by omega⟩ | exact .inl ⟨by omega, by omega⟩)
local macro_rules | `(tactic| walk_at "x") => `(tactic| first
  | ((with_reducible refine' x_var ?h ?_); case h => exact rfl)
  | with_reducible refine x_op ?_
  | with_reducible refine x_c ?_
  | with_reducible refine r_add ?_
  | with_reducible refine r_sub ?_
  | ((with_reducible refine r_mul ?h ?_); case h => walk_at "mul")
  | with_reducible refine x_cons ?_
  | with_reducible refine x_nil ?_
  | with_reducible refine x_cb ?_
  | with_reducible refine s_seq ?_
  | with_reducible refine s_asg ?_
  | with_reducible refine g_name ?_
  | with_reducible refine s_ret ?_
  | with_reducible refine s_if ?_
  | with_reducible refine s_next ?_
  | with_reducible refine s_drop ?_
  | with_reducible refine x_g ?_
  | with_reducible refine x_m ?_
  | with_reducible refine x_k ?_
  | with_reducible refine x_fld ?_
  | ((with_reducible refine fld_guard ?_); walk_at "fx")
  | with_reducible refine x_test ?_
  | with_reducible refine x_tB ?_
  | with_reducible refine x_blk ?_
  | with_reducible refine x_not ?_
  | with_reducible refine x_and ?_
  | with_reducible refine x_or ?_
  | with_reducible refine x_tif ?_
  | with_reducible refine x_andV ?_
  | with_reducible refine x_orV ?_
  | with_reducible refine x_notV ?_
  | with_reducible refine x_tru ?_
  | with_reducible refine x_truI ?_
  | with_reducible refine x_chT ?_
  | with_reducible refine x_chC ?_
  | with_reducible refine x_chL ?_
  | with_reducible refine x_chain ?_
  | with_reducible refine x_tup ?_
  | with_reducible refine x_lst ?_
  | with_reducible refine x_un ?_
  | with_reducible refine x_bm ?_
  | with_reducible refine x_bm0 ?_
  | with_reducible refine x_sl ?_
  | with_reducible refine x_noPart ?_
  | with_reducible refine x_part ?_
  | with_reducible refine x_partK ?_
  | with_reducible refine r_neg ?_
  | with_reducible refine r_lt ?_
  | with_reducible refine r_le ?_
  | with_reducible refine r_gt ?_
  | with_reducible refine r_ge ?_
  | with_reducible refine r_eqI ?_
  | with_reducible refine r_neI ?_
  | with_reducible refine r_abs ?_
  | with_reducible refine r_max2 ?_
  | with_reducible refine r_min2 ?_
  | with_reducible refine r_int ?_
  | with_reducible refine r_notN_non ?_
  | with_reducible refine r_notN_ref ?_
  | with_reducible refine r_notN_int ?_
  | with_reducible refine r_isN_non ?_
  | with_reducible refine r_isN_ref ?_
  | with_reducible refine g_cons ?_
  | with_reducible refine g_nil ?_
  | ((with_reducible refine' g_tup ?h ?l ?_); (case h => walk_at "lk"); (case l => exact rfl))
  | ((with_reducible refine' r_ixT ?h ?l ?_); (case h => walk_at "lk"); (case l => first | exact rfl | exact at_c0 | exact at_c1))
  | with_reducible refine s_par ?_
  | with_reducible refine s_parK ?_
  | with_reducible refine s_fld ?_
  | with_reducible refine s_for ?_
  | with_reducible refine i_list ?_
  | with_reducible refine i_rng1 ?_
  | with_reducible refine i_rng2 ?_
  | with_reducible refine i_rng3 ?_
  | with_reducible refine i_enum ?_
  | with_reducible refine x_lc ?_
  | with_reducible refine x_lenum ?_
  | with_reducible refine s_retN ?_
  | ((with_reducible refine sfld_guard ?_); walk_at "sx"))
local macro_rules | `(tactic| walk_at "go") => `(tactic| repeat (walk_at "x"))
/-! ### readings: lines.py, fits.py -/
section
variable {K : PySem.W.Frag}
theorem rd_floor_at (vs : List V) (H : Hp) (Q : VK) (E : XK) (h : sp_floor_at K vs H Q E) : t_floor_at K ⟨fun _ H' => Q .non H', Q, fun _ _ => False, fun _ _ => False⟩ (start N_floor_at vs) H := by
  obtain ⟨l, p, q, d, x, rfl, hl, h0, h1, hx, k⟩ := h
  obtain ⟨x1, x2⟩ := hx
  unfold t_floor_at
  walk_at "go"
  exact r_fdiv ⟨by omega, by omega⟩ k
theorem rd_ceiling_at (vs : List V) (H : Hp) (Q : VK) (E : XK) (h : sp_ceiling_at K vs H Q E) : t_ceiling_at K ⟨fun _ H' => Q .non H', Q, fun _ _ => False, fun _ _ => False⟩ (start N_ceiling_at vs) H := by
  obtain ⟨l, p, q, d, x, rfl, hl, h0, h1, hx, k⟩ := h
  obtain ⟨x1, x2⟩ := hx
  unfold t_ceiling_at
  walk_at "go"
  refine r_fdiv ⟨by omega, by omega⟩ ?_
  walk_at "go"
  exact k
theorem rd_is_near (vs : List V) (H : Hp) (Q : VK) (E : XK) (h : sp_is_near K vs H Q E) : t_is_near K ⟨fun _ H' => Q .non H', Q, fun _ _ => False, fun _ _ => False⟩ (start N_is_near vs) H := by
  obtain ⟨l, a, t, p, e, rfl, hl, ha, h0, h1, hx, k1, k2⟩ := h
  obtain ⟨x1, x2⟩ := hx
  unfold t_is_near
  walk_at "go"
  by_cases hn : NearL e t p
  · rw [decide_eq_true (show ((t.1 * p.1 + t.2.1 - p.2 * t.2.2).natAbs : Int) ≤ e * t.2.2 from hn)]
    exact k1 hn
  · rw [decide_eq_false (show ¬ ((t.1 * p.1 + t.2.1 - p.2 * t.2.2).natAbs : Int) ≤ e * t.2.2 from hn)]
    exact k2 hn
theorem rd_line_fits (vs : List V) (H : Hp) (Q : VK) (E : XK) (h : sp_line_fits K vs H Q E) : t_line_fits K ⟨fun _ H' => Q .non H', Q, fun _ _ => False, fun _ _ => False⟩ (start N_line_fits vs) H := by
  obtain ⟨l, a, t, pts, e, rfl, hl, ⟨xs, ha, hx⟩, h0, h1, hn, k⟩ := h
  unfold t_line_fits
  walk_at "go"
  refine i_listK ha ?_
  refine forL (fun i σ H' => ∃ v, σ = [some (.ref l), some (.ref a), some (.int e), v] ∧ H' = H) ⟨none, rfl, rfl⟩ (fun i σ H' _ ⟨_, _, e⟩ => by rw [e]; exact ha) ?_ ?_
  · rintro i x σ H' hi ⟨v, rfl, rfl⟩
    obtain ⟨p, hp, pa, rfl, hpa⟩ := hx.get' hi
    obtain ⟨hb, hnear⟩ := hn i p hp
    walk_at "go"
    refine ⟨l, pa, t, p, e, rfl, hl, hpa, h0, h1, hb, fun _ => ?_, fun z => absurd hnear z⟩
    walk_at "go"
    refine ite_f rfl ?_
    walk_at "go"
    exact ⟨_, rfl, rfl⟩
  · rintro σ H' ⟨v, rfl, rfl⟩
    walk_at "go"
    exact k
theorem rd_three_fit (vs : List V) (H : Hp) (Q : VK) (E : XK) (h : sp_three_fit K vs H Q E) : t_three_fit K ⟨fun _ H' => Q .non H', Q, fun _ _ => False, fun _ _ => False⟩ (start N_three_fit vs) H := by
  obtain ⟨a, b, c, p1, p2, p3, e, rfl, ha, hb, hc, ⟨a1, a2⟩, ⟨b1, b2⟩, ⟨c1, c2⟩, k1, k2⟩ := h
  unfold t_three_fit
  walk_at "go"
  by_cases hn : T3 e p1 p2 p3
  · rw [decide_eq_true (show ((p2.2 * (p3.1 - p1.1) - p1.2 * (p3.1 - p2.1) - p3.2 * (p2.1 - p1.1)).natAbs : Int) ≤ 2 * e * (p3.1 - p1.1) from hn)]
    exact k1 hn
  · rw [decide_eq_false (show ¬ ((p2.2 * (p3.1 - p1.1) - p1.2 * (p3.1 - p2.1) - p3.2 * (p2.1 - p1.1)).natAbs : Int) ≤ 2 * e * (p3.1 - p1.1) from hn)]
    exact k2 hn
theorem rd_is_less (vs : List V) (H : Hp) (Q : VK) (E : XK) (h : sp_is_less K vs H Q E) : t_is_less K ⟨fun _ H' => Q .non H', Q, fun _ _ => False, fun _ _ => False⟩ (start N_is_less vs) H := by
  obtain ⟨a, b, n1, d1, n2, d2, rfl, ha, hb, ⟨_, _⟩, ⟨_, _⟩, k⟩ := h
  unfold t_is_less
  walk_at "go"
  exact k
theorem rd_is_below (vs : List V) (H : Hp) (Q : VK) (E : XK) (h : sp_is_below K vs H Q E) : t_is_below K ⟨fun _ H' => Q .non H', Q, fun _ _ => False, fun _ _ => False⟩ (start N_is_below vs) H := by
  obtain ⟨a, b, n1, d1, n2, d2, rfl, ha, hb, ⟨_, _⟩, ⟨_, _⟩, k⟩ := h
  unfold t_is_below
  walk_at "go"
  exact k
theorem rd_turn (vs : List V) (H : Hp) (Q : VK) (E : XK) (h : sp_turn K vs H Q E) : t_turn K ⟨fun _ H' => Q .non H', Q, fun _ _ => False, fun _ _ => False⟩ (start N_turn vs) H := by
  obtain ⟨a, b, c, x1, y1, x2, y2, x3, y3, r1, r2, r3, rfl, ha, hb, hc, ⟨_, _⟩, ⟨_, _⟩, ⟨_, _⟩, k⟩ := h
  unfold t_turn
  walk_at "go"
  exact k
theorem rd_rise_over (vs : List V) (H : Hp) (Q : VK) (E : XK) (h : sp_rise_over K vs H Q E) : t_rise_over K ⟨fun _ H' => Q .non H', Q, fun _ _ => False, fun _ _ => False⟩ (start N_rise_over vs) H := by
  obtain ⟨a, b, x1, y1, x2, y2, r1, r2, rfl, ha, hb, k⟩ := h
  unfold t_rise_over
  walk_at "go"
  exact newT fun r H' _ s1 hr => k r H' s1 hr
theorem rd_common_divisor (vs : List V) (H : Hp) (Q : VK) (E : XK) (h : sp_common_divisor K vs H Q E) : t_common_divisor K ⟨fun _ H' => Q .non H', Q, fun _ _ => False, fun _ _ => False⟩ (start N_common_divisor vs) H := by
  obtain ⟨a, b, rfl, hb, k⟩ := h
  unfold t_common_divisor
  walk_at "go"
  refine s_while (fun m σ H' => ∃ f s : Int, σ = [some (.int a), some (.int b), some (.int f), some (.int s)] ∧ H' = H ∧ 0 ≤ f ∧ 0 ≤ s ∧ 0 < f + s ∧ m = s.toNat ∧ ∀ g : Int, g ∣ f → g ∣ s → g ∣ a ∧ g ∣ b) b.natAbs
    ⟨_, _, rfl, rfl, by omega, by omega, by omega, by omega, fun g h1 h2 => ⟨Int.dvd_natAbs.mp h1, Int.dvd_natAbs.mp h2⟩⟩ ?_
  rintro m σ H' ⟨f, s, rfl, rfl, hf, hs, hfs, rfl, hg⟩
  walk_at "go"
  by_cases hz : s = 0
  · refine whF (by rw [hz]; rfl) ?_
    walk_at "go"
    subst hz
    obtain ⟨h1, h2⟩ := hg f (Int.dvd_refl f) (Int.dvd_zero f)
    exact k f (by omega) h1 h2
  · refine whT (by simpa using hz) ?_
    walk_at "go"
    refine r_mod (by omega) ?_
    walk_at "go"
    have h1 := Int.emod_nonneg f hz
    have h2 := Int.emod_lt_of_pos f (show 0 < s by omega)
    refine ⟨(f % s).toNat, by omega, s, f % s, rfl, rfl, hs, h1, by omega, rfl, fun g g1 g2 => hg g ?_ g1⟩
    have e := Int.mul_ediv_add_emod f s
    rw [← e]
    exact Int.dvd_add (Int.dvd_trans g1 (Int.dvd_mul_right _ _)) g2
theorem rd_fraction (vs : List V) (H : Hp) (Q : VK) (E : XK) (h : sp_fraction K vs H Q E) : t_fraction K ⟨fun _ H' => Q .non H', Q, fun _ _ => False, fun _ _ => False⟩ (start N_fraction vs) H := by
  obtain ⟨a, b, rfl, hb, hb2, k⟩ := h
  unfold t_fraction
  walk_at "go"
  refine ⟨a, b, rfl, hb, fun g hg ga gb => ?_⟩
  have gle : g ≤ b := Int.le_of_dvd hb gb
  walk_at "go"
  refine r_fdiv ⟨hg, by omega⟩ ?_
  walk_at "go"
  refine r_fdiv ⟨hg, by omega⟩ ?_
  walk_at "go"
  exact newT fun r H' _ s1 hr => k g _ _ r H' hg (Int.ediv_mul_cancel ga) (Int.ediv_mul_cancel gb) s1 hr
theorem rd_slope_between (vs : List V) (H : Hp) (Q : VK) (E : XK) (h : sp_slope_between K vs H Q E) : t_slope_between K ⟨fun _ H' => Q .non H', Q, fun _ _ => False, fun _ _ => False⟩ (start N_slope_between vs) H := by
  obtain ⟨a, b, l1, l2, u1, u2, rfl, ha, hb, k1, k2, k3⟩ := h
  unfold t_slope_between
  walk_at "go"
  refine ite_d (fun h => ?_) (fun h => ?_)
  · walk_at "go"
    exact k1 h
  · walk_at "go"
    refine ite_d (fun h2 => ?_) (fun h2 => ?_)
    · walk_at "go"
      exact k2 (by omega) h2
    · walk_at "go"
      exact newT fun r H' _ s1 hr => k3 (by omega) (by omega) r H' s1 hr
theorem rd_line_with_slope (vs : List V) (H : Hp) (Q : VK) (E : XK) (h : sp_line_with_slope K vs H Q E) : t_line_with_slope K ⟨fun _ H' => Q .non H', Q, fun _ _ => False, fun _ _ => False⟩ (start N_line_with_slope vs) H := by
  obtain ⟨a, s, e, p, d, pts, rfl, ⟨xs, ha, hx⟩, hs, hd0, hd1, hn0, hn1, hbd, k⟩ := h
  unfold t_line_with_slope
  walk_at "go"
  refine i_listK ha ?_
  refine lcL (ds := pts.map fun t => t.2 * d - e * d - p * t.1) (fun _ v n => v = .int n) (fun _ _ _ _ _ h => h) ha (by rw [List.length_map, hx.len]) (by rw [List.length_map]; exact hn1) ?_ gm_tup2 ?_
  · intro i x n H' Q' s1 hi hn kq
    obtain ⟨t, ht, pa, rfl, hpa⟩ := hx.get' hi
    obtain ⟨b1, b2⟩ := hbd i t ht
    rw [List.getElem?_map, ht] at hn
    cases Option.some.inj hn
    walk_at "go"
    refine ⟨rfl, ?_⟩
    walk_at "go"
    exact kq _ _ (Same.refl _) rfl
  · intro D H1 ys nD s1 hD hy
    rw [lr_int hy] at hD
    walk_at "go"
    refine r_max hD (by rw [List.length_map]; exact hn0) fun m hm hmax => ?_
    walk_at "go"
    refine newT fun r H2 nr s2 hr => k m r H2 ?_ ?_ (s1.trans s2) hr
    · obtain ⟨t, ht, rfl⟩ := List.mem_map.mp hm
      obtain ⟨i, hi, e⟩ := List.getElem_of_mem ht
      exact ⟨i, t, by rw [List.getElem?_eq_getElem hi, e], rfl⟩
    · intro i t ht
      exact hmax _ (List.mem_map.mpr ⟨t, List.mem_of_getElem? ht, rfl⟩)
end
/-! ### readings: Fitter -/
theorem ptsOf_len (X Y : Nat → Int) (n : Nat) : (ptsOf X Y n).length = n := by
  unfold ptsOf
  rw [List.length_map, List.length_range]
theorem ptsOf_get (X Y : Nat → Int) {n i : Nat} (h : i < n) : (ptsOf X Y n)[i]? = some (X i, Y i) := by
  unfold ptsOf
  rw [List.getElem?_map, List.getElem?_range h]
  rfl
theorem ptsOf_succ (X Y : Nat → Int) (n : Nat) : ptsOf X Y (n + 1) = ptsOf X Y n ++ [(X n, Y n)] := by
  unfold ptsOf
  rw [List.range_succ, List.map_append]
  rfl
theorem frm_tp {fp : List Addr} {H H' : Hp} (f : Frm fp H H') (h : ∀ b, b ∈ fp → ∀ xs, H b ≠ some (.tup xs)) : Tp H H' := fun a xs e => f a _ e (fun z => h a z xs e)
section
variable {K : PySem.W.Frag}
theorem rd_Fitter_init (T : TK K) (vs : List V) (H : Hp) (Q : VK) (E : XK) (h : sp_Fitter_init K vs H Q E) : t_Fitter_init K ⟨fun _ H' => Q .non H', Q, fun _ _ => False, fun _ _ => False⟩ (start N_Fitter_init vs) H := by
  obtain ⟨p, e, rfl, ⟨dx, hp⟩, he, k⟩ := h
  unfold t_Fitter_init
  walk_at "go"
  refine newL fun lp H1 n1 s1 e1 => ?_
  walk_at "go"
  refine newL fun lt H2 n2 s2 e2 => ?_
  walk_at "go"
  refine newL fun lb H3 n3 s3 e3 => ?_
  walk_at "go"
  refine newT fun tf H4 n4 s4 e4 => ?_
  walk_at "go"
  refine newT fun ts H5 n5 s5 e5 => ?_
  walk_at "go"
  have p1 : lp ≠ p := fun z => by rw [z, upd_same] at n1; cases n1
  have p2 : lt ≠ p := fun z => by rw [z, upd_same] at n2; cases n2
  have p3 : lb ≠ p := fun z => by rw [z, upd_same] at n3; cases n3
  have q1 : lp ≠ lt := ne_of_none (H := upd H1 p _) (by rw [upd_ne p1]; exact e1) n2
  have f1 : H2 lp = some (.lst []) := s2 _ _ (by rw [upd_ne p1]; exact e1)
  have q2 : lp ≠ lb := ne_of_none (H := upd H2 p _) (by rw [upd_ne p1]; exact f1) n3
  have q3 : lt ≠ lb := ne_of_none (H := upd H2 p _) (by rw [upd_ne p2]; exact e2) n3
  have g1 : ∀ {b o}, b ≠ p → H3 b = some o → H5 b = some o := fun hb h => s5 _ _ (by rw [upd_ne hb]; exact s4 _ _ (by rw [upd_ne hb]; exact h))
  have g2 : ∀ {b o}, b ≠ p → H2 b = some o → H3 b = some o := fun hb h => s3 _ _ (by rw [upd_ne hb]; exact h)
  have fr : Frm [p] H (upd H5 p (.ins (He.ga K "Fitter") dx (fitF e 0 lp lt lb (.ref tf) (.ref ts)))) := fun b o hb hn => by
    have hbp : b ≠ p := fun z => hn (by rw [z]; exact List.mem_singleton.mpr rfl)
    rw [upd_ne hbp]
    exact g1 hbp (g2 hbp (s2 _ _ (by rw [upd_ne hbp]; exact s1 _ _ (by rw [upd_ne hbp, upd_ne hbp]; exact hb))))
  refine k _ [p, lp, lt, lb] (fun X Y => ⟨he, fun i j _ h => absurd h (Nat.not_lt_zero _), fun i h => absurd h (Nat.not_lt_zero _), Nat.zero_le _, fun i j _ _ _ h => absurd h (Nat.not_lt_zero _), [], [], .ref tf, .ref ts, ⟨dx, lp, lt, lb, [], [], [], rfl, upd_same, q1, q2, q3, ?_, LR.nil, ?_, LR.nil, ?_, LR.nil⟩, List.Pairwise.nil, List.Pairwise.nil, fun c h => absurd h List.not_mem_nil, fun c h => absurd h List.not_mem_nil, fun h => absurd h (Nat.lt_irrefl _), fun h => absurd h (by decide), fun _ => ⟨rfl, rfl⟩, fun h => absurd h (by decide)⟩) fr ?_ (List.mem_cons_self ..) (frm_tp fr fun b hb xs hx => ?_)
  · rw [upd_ne p1]
    exact g1 p1 (g2 p1 f1)
  · rw [upd_ne p2]
    exact g1 p2 (g2 p2 e2)
  · rw [upd_ne p3]
    exact g1 p3 e3
  · intro b hb
    simp only [List.mem_cons, List.not_mem_nil, or_false] at hb
    have back1 : H1 lt = none → H lt = none := fun h => by
      cases q : H lt with
      | none => rfl
      | some o =>
        have := s1 lt o (by rw [upd_ne p2, upd_ne p2]; exact q)
        rw [h] at this
        cases this
    rcases hb with rfl | rfl | rfl | rfl
    · exact .inl rfl
    · rw [upd_ne p1, upd_ne p1] at n1
      exact .inr n1
    · rw [upd_ne p2] at n2
      exact .inr (back1 n2)
    · rw [upd_ne p3] at n3
      refine .inr ?_
      cases q : H b with
      | none => rfl
      | some o =>
        have h1 := s1 b o (by rw [upd_ne p3, upd_ne p3]; exact q)
        have h2 := s2 b o (by rw [upd_ne p3]; exact h1)
        rw [n3] at h2
        cases h2
  · rw [List.mem_singleton.mp hb, hp] at hx
    cases hx
end
/-! ### readings: Fitter.conflict, the corners -/
theorem fitN_small {X Y : Nat → Int} {e : Int} {n : Nat} (h : n ≤ 2) (A : AscN X n) (he : 0 ≤ e) : FitN X (loF Y e) (hiF Y e) n := fun i j k m hij hj hkm hm => by
  have e1 : i = 0 := by omega
  have e2 : j = 1 := by omega
  have e3 : k = 0 := by omega
  have e4 : m = 1 := by omega
  subst e1 e2 e3 e4
  have h1 := A.pos hij hj
  refine Int.mul_le_mul_of_nonneg_right ?_ (Int.le_of_lt h1)
  unfold loF hiF
  omega
theorem lo_le_hi {Y : Nat → Int} {e : Int} (he : 0 ≤ e) (k : Nat) : loF Y e k ≤ hiF Y e k := by
  unfold loF hiF
  omega
section
variable {K : PySem.W.Frag}
theorem rd_Fitter_conflict (T : TK K) (vs : List V) (H : Hp) (Q : VK) (E : XK) (h : sp_Fitter_conflict K vs H Q E) : t_Fitter_conflict K ⟨fun _ H' => Q .non H', Q, fun _ _ => False, fun _ _ => False⟩ (start N_Fitter_conflict vs) H := by
  obtain ⟨p, pt, fp, e, X, Y, n, rfl, F, hpt, A, ⟨bn1, bn2⟩, k1, k2⟩ := h
  obtain ⟨S, B, fv, sv, ⟨dx, lp, lt, lb, ps, ts, bs, rfl, hp, q1, q2, q3, hlp, rps, hlt, rts, hlb, rbs⟩, _, _, _, _, _, _, _, hfs⟩ := F.ex
  unfold t_Fitter_conflict
  walk_at "go"
  refine ite_d (fun hn => ?_) (fun hn => ?_)
  · walk_at "go"
    exact k1 (fitN_small (by omega) A F.e0) H (Same.refl H)
  · have hn2 : 2 ≤ n := by omega
    obtain ⟨⟨a, b, ⟨tf, ta, tb, rfl, htf, hta, htb⟩, PF⟩, c, d, ⟨tg, tc, td, rfl, htg, htc, htd⟩, PS⟩ := hfs hn2
    dsimp only at hta htb htc htd
    have ba := F.bd a (by have := PF.lt; have := PF.ltn; omega)
    have bb := F.bd b PF.ltn
    have bc := F.bd c (by have := PS.lt; have := PS.ltn; omega)
    have bd := F.bd d PS.ltn
    obtain ⟨_, _⟩ := ba
    obtain ⟨_, _⟩ := bb
    obtain ⟨_, _⟩ := bc
    obtain ⟨_, _⟩ := bd
    walk_at "go"
    refine newT fun p1 H1 n1 s1 e1 => ?_
    walk_at "go"
    refine ⟨tb, p1, _, _, _, _, _, _, rfl, s1 _ _ htb, e1, fun r1 H2 s2 e2 => ?_⟩
    walk_at "go"
    refine ⟨ta, tb, _, _, _, _, _, _, rfl, s2 _ _ (s1 _ _ hta), s2 _ _ (s1 _ _ htb), fun r2 H3 s3 e3 => ?_⟩
    walk_at "go"
    refine ⟨r1, r2, _, _, _, _, rfl, s3 _ _ e2, e3, ⟨by omega, by omega⟩, ⟨by omega, by omega⟩, ?_⟩
    have s13 : Same H H3 := (s1.trans s2).trans s3
    walk_at "go"
    refine ite_d (fun hlt => ?_) (fun hge => ?_)
    · walk_at "go"
      refine newT fun r H4 nr s4 e4 => ?_
      exact k2 a b r H4 (no_fit1 PF.lt PF.ltn hlt) PF.lt PF.ltn (no_three1 hlt) (s13.trans s4) e4
    · walk_at "go"
      refine ⟨tc, td, _, _, _, _, _, _, rfl, s13 _ _ htc, s13 _ _ htd, fun r3 H4 s4 e4 => ?_⟩
      walk_at "go"
      refine newT fun p2 H5 n5 s5 e5 => ?_
      walk_at "go"
      refine ⟨td, p2, _, _, _, _, _, _, rfl, s5 _ _ (s4 _ _ (s13 _ _ htd)), e5, fun r4 H6 s6 e6 => ?_⟩
      walk_at "go"
      refine ⟨r3, r4, _, _, _, _, rfl, s6 _ _ (s5 _ _ e4), e6, ⟨by omega, by omega⟩, ⟨by omega, by omega⟩, ?_⟩
      have s16 : Same H H6 := ((s13.trans s4).trans s5).trans s6
      walk_at "go"
      refine ite_d (fun hlt2 => ?_) (fun hge2 => ?_)
      · walk_at "go"
        refine newT fun r H7 nr s7 e7 => ?_
        exact k2 c d r H7 (no_fit2 PS.lt PS.ltn hlt2) PS.lt PS.ltn (no_three2 hlt2) (s16.trans s7) e7
      · walk_at "go"
        exact k1 (fit_ext A F.fit (fun k _ => lo_le_hi F.e0 k) PF PS (Int.not_lt.mp hge) (Int.not_lt.mp hge2)) H6 s16
end
/-! ### readings: Fitter.lower_steep, raise_flat -/
section
variable {K : PySem.W.Frag}
/-- the parts in another heap, in which p has new fields -/
theorem FitH.move {H H' : Hp} {p dx lp lt lb : Addr} {fp : List Addr} {e : Int} {X Y : Nat → Int} {n' np : Nat} {S B : List Nat} {fv' sv' : V} {ps ts bs : List V} (efp : fp = [p, lp, lt, lb]) (q1 : lp ≠ lt) (q2 : lp ≠ lb) (q3 : lt ≠ lb)
    (hlp : H lp = some (.lst ps)) (rps : LR (PtR H) ps (ptsOf X Y np)) (hlt : H lt = some (.lst ts)) (rts : LR (CoR X (hiF Y e) H) ts S) (hlb : H lb = some (.lst bs)) (rbs : LR (CoR X (loF Y e) H) bs B)
    (b : Frm [p] H H') (t : Tp H H') (h1 : lp ≠ p) (h2 : lt ≠ p) (h3 : lb ≠ p) (hp : H' p = some (.ins (He.ga K "Fitter") dx (fitF e n' lp lt lb fv' sv'))) : FitH K H' p fp e X Y n' np S B fv' sv' :=
  ⟨dx, lp, lt, lb, ps, ts, bs, efp, hp, q1, q2, q3, b _ _ hlp (fun z => h1 (List.mem_singleton.mp z)), rps.mono fun _ _ h => h.mono t, b _ _ hlt (fun z => h2 (List.mem_singleton.mp z)), rts.mono fun _ _ h => h.mono t, b _ _ hlb (fun z => h3 (List.mem_singleton.mp z)), rbs.mono fun _ _ h => h.mono t⟩
theorem frm1_upd {H H1 : Hp} {p : Addr} {o : HO} (s : Same H H1) : Frm [p] H (upd H1 p o) := fun b u e n => by
  rw [upd_ne (fun z => n (by rw [z]; exact List.mem_singleton.mpr rfl))]
  exact s _ _ e
theorem rd_Fitter_lower_steep (T : TK K) (vs : List V) (H : Hp) (Q : VK) (E : XK) (h : sp_Fitter_lower_steep K vs H Q E) : t_Fitter_lower_steep K ⟨fun _ H' => Q .non H', Q, fun _ _ => False, fun _ _ => False⟩ (start N_Fitter_lower_steep vs) H := by
  obtain ⟨p, t, fp, e, X, Y, n, S, B, fv, sv, c, d, rfl, ⟨dx, lp, lt, lb, ps, ts, bs, rfl, hp, q1, q2, q3, hlp, rps, hlt, rts, hlb, rbs⟩, ⟨tg, tc, td, rfl, htg, htc, htd⟩, ht, A, bd, he, F, PS, hB, DB, neB, hn, k⟩ := h
  dsimp only at htc htd
  have h1 : lp ≠ p := ne_of hlp hp (by intro z; cases z)
  have h2 : lt ≠ p := ne_of hlt hp (by intro z; cases z)
  have h3 : lb ≠ p := ne_of hlb hp (by intro z; cases z)
  have bc := bd c (by have := PS.lt; have := PS.ltn; omega)
  have bdd := bd d (by have := PS.ltn; omega)
  have bn := bd n (Nat.le_refl n)
  obtain ⟨_, _⟩ := bc
  obtain ⟨_, _⟩ := bdd
  obtain ⟨_, _⟩ := bn
  unfold t_Fitter_lower_steep
  walk_at "go"
  refine ⟨tc, t, _, _, _, _, _, _, rfl, htc, ht, fun r1 H1 s1 e1 => ?_⟩
  walk_at "go"
  refine ⟨tc, td, _, _, _, _, _, _, rfl, s1 _ _ htc, s1 _ _ htd, fun r2 H2 s2 e2 => ?_⟩
  walk_at "go"
  refine ⟨r1, r2, _, _, _, _, rfl, s2 _ _ e1, e2, ⟨by omega, by omega⟩, ⟨by omega, by omega⟩, ?_⟩
  have s12 : Same H H2 := s1.trans s2
  walk_at "go"
  refine ite_nd (fun hge => ?_) (fun hcut => ?_)
  · walk_at "go"
    exact k (.ref tg) c d H2 (FitH.move rfl q1 q2 q3 hlp rps hlt rts hlb rbs (frm_same s12) (same_tp s12) h1 h2 h3 (s12 _ _ hp)) ⟨tg, tc, td, rfl, s12 _ _ htg, s12 _ _ htc, s12 _ _ htd⟩
      (steep_keep A F (fun k _ => lo_le_hi he k) PS (Int.not_lt.mp hge)) (frm_same s12) (same_tp s12)
  · walk_at "go"
    -- best = self._bottoms[0]
    obtain ⟨g0, hg0⟩ : ∃ g0, B[0]? = some g0 := by
      cases B with
      | nil => exact absurd rfl neB
      | cons g r => exact ⟨g, rfl⟩
    obtain ⟨v0, hv0, b0, rfl, hb0⟩ := rbs.get hg0
    refine r_ixL (s12 _ _ hlb) (atI_nat (j := 0) hv0) ?_
    walk_at "go"
    refine i_listK (s12 _ _ hlb) ?_
    refine forL (fun i σ H' => ∃ (b : Addr) (g : Nat) (v3 : Option V), σ = [some (.ref p), some (.ref t), some (.ref b), v3] ∧ Same H H' ∧ g ∈ B ∧ H' b = some (.tup [.int (X g), .int (loF Y e g), .int (g : Int)]) ∧
      ∀ (j c' : Nat), j < i → B[j]? = some c' → (hiF Y e n - loF Y e g) * (X n - X c') ≤ (hiF Y e n - loF Y e c') * (X n - X g))
      ⟨b0, g0, none, rfl, s12, List.mem_of_getElem? hg0, s12 _ _ hb0, fun j c' h => absurd h (Nat.not_lt_zero _)⟩ (fun i σ H' _ ⟨_, _, _, _, s, _⟩ => s _ _ hlb) ?_ ?_
    · rintro i x σ H' hi ⟨b, g, v3, rfl, s, hg, hb, best⟩
      obtain ⟨c', hc', ca, rfl, hca⟩ := rbs.get' hi
      have hc'n := hB c' (List.mem_of_getElem? hc')
      have hgn := hB g hg
      have bc' := bd c' (by omega)
      have bg := bd g (by omega)
      obtain ⟨_, _⟩ := bc'
      obtain ⟨_, _⟩ := bg
      have hca' := s _ _ hca
      have ht' := s _ _ ht
      walk_at "go"
      refine ⟨ca, t, _, _, _, _, _, _, rfl, hca', ht', fun r3 H3 s3 e3 => ?_⟩
      walk_at "go"
      refine ⟨b, t, _, _, _, _, _, _, rfl, s3 _ _ hb, s3 _ _ ht', fun r4 H4 s4 e4 => ?_⟩
      walk_at "go"
      refine ⟨r3, r4, _, _, _, _, rfl, s4 _ _ e3, e4, ⟨by omega, by omega⟩, ⟨by omega, by omega⟩, ?_⟩
      have s34 : Same H' H4 := s3.trans s4
      have xg := A.pos hgn (Nat.lt_succ_self n)
      have xc := A.pos hc'n (Nat.lt_succ_self n)
      walk_at "go"
      refine ite_d (fun hlt2 => ?_) (fun hge2 => ?_)
      · walk_at "go"
        refine ⟨ca, c', some (.ref ca), rfl, s.trans s34, List.mem_of_getElem? hc', s34 _ _ hca', fun j c2 hj hc2 => ?_⟩
        by_cases hji : j < i
        · have b1 := best j c2 hji hc2
          have x2 := A.pos (hB c2 (List.mem_of_getElem? hc2)) (Nat.lt_succ_self n)
          exact fr_trans xg xc x2 (Int.le_of_lt hlt2) b1
        · have eji : j = i := by omega
          subst eji
          rw [hc'] at hc2
          cases Option.some.inj hc2
          exact Int.le_refl _
      · walk_at "go"
        refine ⟨b, g, some (.ref ca), rfl, s.trans s34, hg, s34 _ _ hb, fun j c2 hj hc2 => ?_⟩
        by_cases hji : j < i
        · exact best j c2 hji hc2
        · have eji : j = i := by omega
          subst eji
          rw [hc'] at hc2
          cases Option.some.inj hc2
          exact Int.not_lt.mp hge2
    · rintro σ H' ⟨b, g, v3, rfl, s, hg, hb, best⟩
      have hgn := hB g hg
      have hp' := s _ _ hp
      have ht' := s _ _ ht
      walk_at "go"
      refine newT fun w H3 nw s3 e3 => ?_
      walk_at "go"
      have s3' : Same H H3 := s.trans s3
      have best2 : ∀ i, i < n → (hiF Y e n - loF Y e g) * (X n - X i) ≤ (hiF Y e n - loF Y e i) * (X n - X g) := fun i hi => by
        have hx : X (n - 1) < X n := A (n - 1) n (by omega) (Nat.lt_succ_self n)
        obtain ⟨c', hc', h4⟩ := DB i hi (X n) (hiF Y e n) hx
        obtain ⟨j, hj, ej⟩ := List.getElem_of_mem hc'
        have h5 := best j c' (by rw [rbs.len]; exact hj) (by rw [List.getElem?_eq_getElem hj, ej])
        exact fr_trans (A.pos (hB c' hc') (Nat.lt_succ_self n)) (A.pos hgn (Nat.lt_succ_self n)) (A.pos hi (Nat.lt_succ_self n)) h5 h4
      have tt : Tp H (upd H3 p (.ins (He.ga K "Fitter") dx (fitF e n lp lt lb fv (.ref w)))) := (same_tp s3').trans (Tp.mutI (s3 _ _ hp'))
      exact k (.ref w) g n _ (FitH.move rfl q1 q2 q3 hlp rps hlt rts hlb rbs (frm1_upd s3') tt h1 h2 h3 upd_same) ⟨w, b, t, rfl, Tp.mutI (s3 _ _ hp') _ _ e3, Tp.mutI (s3 _ _ hp') _ _ (s3 _ _ hb), tt _ _ ht⟩
        (steep_new A PS hgn best2 (Int.le_of_lt hcut)) (frm1_upd s3') tt
theorem rd_Fitter_raise_flat (T : TK K) (vs : List V) (H : Hp) (Q : VK) (E : XK) (h : sp_Fitter_raise_flat K vs H Q E) : t_Fitter_raise_flat K ⟨fun _ H' => Q .non H', Q, fun _ _ => False, fun _ _ => False⟩ (start N_Fitter_raise_flat vs) H := by
  obtain ⟨p, t, fp, e, X, Y, n, S, B, fv, sv, a, b, rfl, ⟨dx, lp, lt, lb, ps, ts, bs, rfl, hp, q1, q2, q3, hlp, rps, hlt, rts, hlb, rbs⟩, ⟨tg, ta, tb, rfl, htg, hta, htb⟩, ht, A, bd, he, F, PF, hS, DT, neS, hn, k⟩ := h
  dsimp only at hta htb
  have h1 : lp ≠ p := ne_of hlp hp (by intro z; cases z)
  have h2 : lt ≠ p := ne_of hlt hp (by intro z; cases z)
  have h3 : lb ≠ p := ne_of hlb hp (by intro z; cases z)
  have ba := bd a (by have := PF.lt; have := PF.ltn; omega)
  have bb := bd b (by have := PF.ltn; omega)
  have bn := bd n (Nat.le_refl n)
  obtain ⟨_, _⟩ := ba
  obtain ⟨_, _⟩ := bb
  obtain ⟨_, _⟩ := bn
  unfold t_Fitter_raise_flat
  walk_at "go"
  refine ⟨ta, tb, _, _, _, _, _, _, rfl, hta, htb, fun r1 H1 s1 e1 => ?_⟩
  walk_at "go"
  refine ⟨ta, t, _, _, _, _, _, _, rfl, s1 _ _ hta, s1 _ _ ht, fun r2 H2 s2 e2 => ?_⟩
  walk_at "go"
  refine ⟨r1, r2, _, _, _, _, rfl, s2 _ _ e1, e2, ⟨by omega, by omega⟩, ⟨by omega, by omega⟩, ?_⟩
  have s12 : Same H H2 := s1.trans s2
  walk_at "go"
  refine ite_nd (fun hge => ?_) (fun hcut => ?_)
  · walk_at "go"
    exact k (.ref tg) a b H2 (FitH.move rfl q1 q2 q3 hlp rps hlt rts hlb rbs (frm_same s12) (same_tp s12) h1 h2 h3 (s12 _ _ hp)) ⟨tg, ta, tb, rfl, s12 _ _ htg, s12 _ _ hta, s12 _ _ htb⟩
      (flat_keep A F (fun k _ => lo_le_hi he k) PF (Int.not_lt.mp hge)) (frm_same s12) (same_tp s12)
  · walk_at "go"
    -- best = self._bottoms[0]
    obtain ⟨g0, hg0⟩ : ∃ g0, S[0]? = some g0 := by
      cases S with
      | nil => exact absurd rfl neS
      | cons g r => exact ⟨g, rfl⟩
    obtain ⟨v0, hv0, b0, rfl, hb0⟩ := rts.get hg0
    refine r_ixL (s12 _ _ hlt) (atI_nat (j := 0) hv0) ?_
    walk_at "go"
    refine i_listK (s12 _ _ hlt) ?_
    refine forL (fun i σ H' => ∃ (b : Addr) (g : Nat) (v3 : Option V), σ = [some (.ref p), some (.ref t), some (.ref b), v3] ∧ Same H H' ∧ g ∈ S ∧ H' b = some (.tup [.int (X g), .int (hiF Y e g), .int (g : Int)]) ∧
      ∀ (j c' : Nat), j < i → S[j]? = some c' → (loF Y e n - hiF Y e c') * (X n - X g) ≤ (loF Y e n - hiF Y e g) * (X n - X c'))
      ⟨b0, g0, none, rfl, s12, List.mem_of_getElem? hg0, s12 _ _ hb0, fun j c' h => absurd h (Nat.not_lt_zero _)⟩ (fun i σ H' _ ⟨_, _, _, _, s, _⟩ => s _ _ hlt) ?_ ?_
    · rintro i x σ H' hi ⟨b, g, v3, rfl, s, hg, hb, best⟩
      obtain ⟨c', hc', ca, rfl, hca⟩ := rts.get' hi
      have hc'n := hS c' (List.mem_of_getElem? hc')
      have hgn := hS g hg
      have bc' := bd c' (by omega)
      have bg := bd g (by omega)
      obtain ⟨_, _⟩ := bc'
      obtain ⟨_, _⟩ := bg
      have hca' := s _ _ hca
      have ht' := s _ _ ht
      walk_at "go"
      refine ⟨b, t, _, _, _, _, _, _, rfl, hb, ht', fun r3 H3 s3 e3 => ?_⟩
      walk_at "go"
      refine ⟨ca, t, _, _, _, _, _, _, rfl, s3 _ _ hca', s3 _ _ ht', fun r4 H4 s4 e4 => ?_⟩
      walk_at "go"
      refine ⟨r3, r4, _, _, _, _, rfl, s4 _ _ e3, e4, ⟨by omega, by omega⟩, ⟨by omega, by omega⟩, ?_⟩
      have s34 : Same H' H4 := s3.trans s4
      have xg := A.pos hgn (Nat.lt_succ_self n)
      have xc := A.pos hc'n (Nat.lt_succ_self n)
      walk_at "go"
      refine ite_d (fun hlt2 => ?_) (fun hge2 => ?_)
      · walk_at "go"
        refine ⟨ca, c', some (.ref ca), rfl, s.trans s34, List.mem_of_getElem? hc', s34 _ _ hca', fun j c2 hj hc2 => ?_⟩
        by_cases hji : j < i
        · have b1 := best j c2 hji hc2
          have x2 := A.pos (hS c2 (List.mem_of_getElem? hc2)) (Nat.lt_succ_self n)
          exact fr_trans xg x2 xc b1 (Int.le_of_lt hlt2)
        · have eji : j = i := by omega
          subst eji
          rw [hc'] at hc2
          cases Option.some.inj hc2
          exact Int.le_refl _
      · walk_at "go"
        refine ⟨b, g, some (.ref ca), rfl, s.trans s34, hg, s34 _ _ hb, fun j c2 hj hc2 => ?_⟩
        by_cases hji : j < i
        · exact best j c2 hji hc2
        · have eji : j = i := by omega
          subst eji
          rw [hc'] at hc2
          cases Option.some.inj hc2
          exact Int.not_lt.mp hge2
    · rintro σ H' ⟨b, g, v3, rfl, s, hg, hb, best⟩
      have hgn := hS g hg
      have hp' := s _ _ hp
      have ht' := s _ _ ht
      walk_at "go"
      refine newT fun w H3 nw s3 e3 => ?_
      walk_at "go"
      have s3' : Same H H3 := s.trans s3
      have best2 : ∀ i, i < n → (loF Y e n - hiF Y e i) * (X n - X g) ≤ (loF Y e n - hiF Y e g) * (X n - X i) := fun i hi => by
        have hx : X (n - 1) < X n := A (n - 1) n (by omega) (Nat.lt_succ_self n)
        obtain ⟨c', hc', h4⟩ := DT i hi (X n) (loF Y e n) hx
        obtain ⟨j, hj, ej⟩ := List.getElem_of_mem hc'
        have h5 := best j c' (by rw [rts.len]; exact hj) (by rw [List.getElem?_eq_getElem hj, ej])
        exact fr_trans (A.pos (hS c' hc') (Nat.lt_succ_self n)) (A.pos hi (Nat.lt_succ_self n)) (A.pos hgn (Nat.lt_succ_self n)) h4 h5
      have tt : Tp H (upd H3 p (.ins (He.ga K "Fitter") dx (fitF e n lp lt lb (.ref w) sv))) := (same_tp s3').trans (Tp.mutI (s3 _ _ hp'))
      exact k (.ref w) g n _ (FitH.move rfl q1 q2 q3 hlp rps hlt rts hlb rbs (frm1_upd s3') tt h1 h2 h3 upd_same) ⟨w, b, t, rfl, Tp.mutI (s3 _ _ hp') _ _ e3, Tp.mutI (s3 _ _ hp') _ _ (s3 _ _ hb), tt _ _ ht⟩
        (flat_new A PF hgn best2 (Int.le_of_lt hcut)) (frm1_upd s3') tt
end
/-! ### readings: Fitter.add_corners -/
theorem at_m {α : Type} {xs : List α} {j : Nat} {i : Int} {v : α} (h : xs[j]? = some v) (e : i = (j : Int) - (xs.length : Int)) : atI xs i = some v := by
  have hj := (List.getElem?_eq_some_iff.mp h).1
  unfold atI ixN
  rw [if_neg (by omega), if_pos (by omega)]
  have e2 : (i + (xs.length : Int)).toNat = j := by omega
  rw [e2]
  exact h
theorem last2 {S : List Nat} (h : 1 < S.length) : ∃ S0 p q, S = S0 ++ [p] ++ [q] := by
  refine ⟨S.dropLast.dropLast, S.dropLast.getLast (fun z => ?_), S.getLast (fun z => ?_), ?_⟩
  · have := congrArg List.length z
    rw [List.length_dropLast] at this
    simp at this
    omega
  · rw [z] at h
    simp at h
  · rw [List.dropLast_concat_getLast, List.dropLast_concat_getLast]
theorem asc_len {n : Nat} : ∀ {S : List Nat}, S.Pairwise (· < ·) → (∀ c, c ∈ S → c < n) → S.length ≤ n := by
  have h : ∀ {S : List Nat} {m : Nat}, S.Pairwise (· < ·) → (∀ c, c ∈ S → m ≤ c ∧ c < n) → S.length + m ≤ n ∨ S = [] := by
    intro S
    induction S with
    | nil => intro m _ _; exact .inr rfl
    | cons a r ih =>
      intro m h1 h2
      have ha := h2 a (List.mem_cons_self ..)
      rw [List.pairwise_cons] at h1
      rcases ih (m := a + 1) h1.2 (fun c hc => ⟨h1.1 c hc, (h2 c (List.mem_cons_of_mem _ hc)).2⟩) with h3 | h3
      · refine .inl ?_
        rw [List.length_cons]
        omega
      · refine .inl ?_
        rw [h3]
        show 1 + m ≤ n
        omega
  intro S h1 h2
  rcases h (m := 0) h1 (fun c hc => ⟨Nat.zero_le _, h2 c hc⟩) with h3 | h3
  · omega
  · rw [h3]
    exact Nat.zero_le _
section
variable {K : PySem.W.Frag}
theorem fit_tops {H : Hp} {p dx lp lt lb : Addr} {fp : List Addr} {e : Int} {X Y : Nat → Int} {n np : Nat} {S B : List Nat} {fv sv : V} {ps ts bs ts' : List V} (efp : fp = [p, lp, lt, lb]) (hp : H p = some (.ins (He.ga K "Fitter") dx (fitF e n lp lt lb fv sv))) (q1 : lp ≠ lt) (q2 : lp ≠ lb) (q3 : lt ≠ lb)
    (hlp : H lp = some (.lst ps)) (rps : LR (PtR H) ps (ptsOf X Y np)) (hlt : H lt = some (.lst ts)) (rts : LR (CoR X (hiF Y e) H) ts' S) (hlb : H lb = some (.lst bs)) (rbs : LR (CoR X (loF Y e) H) bs B) :
    FitH K (upd H lt (.lst ts')) p fp e X Y n np S B fv sv := by
  have t := Tp.mutL (o := .lst ts') hlt
  refine ⟨dx, lp, lt, lb, ps, ts', bs, efp, ?_, q1, q2, q3, ?_, rps.mono fun _ _ h => h.mono t, upd_same, rts.mono fun _ _ h => h.mono t, ?_, rbs.mono fun _ _ h => h.mono t⟩
  · rw [upd_ne (ne_of hp hlt (by intro z; cases z))]
    exact hp
  · rw [upd_ne q1]
    exact hlp
  · rw [upd_ne q3.symm]
    exact hlb
theorem fit_bots {H : Hp} {p dx lp lt lb : Addr} {fp : List Addr} {e : Int} {X Y : Nat → Int} {n np : Nat} {S B : List Nat} {fv sv : V} {ps ts bs bs' : List V} (efp : fp = [p, lp, lt, lb]) (hp : H p = some (.ins (He.ga K "Fitter") dx (fitF e n lp lt lb fv sv))) (q1 : lp ≠ lt) (q2 : lp ≠ lb) (q3 : lt ≠ lb)
    (hlp : H lp = some (.lst ps)) (rps : LR (PtR H) ps (ptsOf X Y np)) (hlt : H lt = some (.lst ts)) (rts : LR (CoR X (hiF Y e) H) ts S) (hlb : H lb = some (.lst bs)) (rbs : LR (CoR X (loF Y e) H) bs' B) :
    FitH K (upd H lb (.lst bs')) p fp e X Y n np S B fv sv := by
  have t := Tp.mutL (o := .lst bs') hlb
  refine ⟨dx, lp, lt, lb, ps, ts, bs', efp, ?_, q1, q2, q3, ?_, rps.mono fun _ _ h => h.mono t, ?_, rts.mono fun _ _ h => h.mono t, upd_same, rbs.mono fun _ _ h => h.mono t⟩
  · rw [upd_ne (ne_of hp hlb (by intro z; cases z))]
    exact hp
  · rw [upd_ne q2]
    exact hlp
  · rw [upd_ne q3]
    exact hlt
/-- p's object, its list changed -/
theorem frm_in {H H' : Hp} {fp : List Addr} {a : Addr} {o : HO} (f : Frm fp H H') (h : a ∈ fp) : Frm fp H (upd H' a o) := fun b u e n => by
  rw [upd_ne (fun z => n (by rw [z]; exact h))]
  exact f _ _ e n
theorem rd_Fitter_add_corners (T : TK K) (vs : List V) (H : Hp) (Q : VK) (E : XK) (h : sp_Fitter_add_corners K vs H Q E) : t_Fitter_add_corners K ⟨fun _ H' => Q .non H', Q, fun _ _ => False, fun _ _ => False⟩ (start N_Fitter_add_corners vs) H := by
  obtain ⟨p, t, b, fp, e, X, Y, n, S, B, fv, sv, rfl, FH, ht, hb, A, bd, hn, sS, sB, hS, hB, dom, k⟩ := h
  have e0 : ∃ f, f ≤ X n ∧ DomT X (hiF Y e) S n f ∧ DomB X (loF Y e) B n f := by
    by_cases h0 : 0 < n
    · exact ⟨X (n - 1), Int.le_of_lt (A (n - 1) n (by omega) (Nat.lt_succ_self n)), dom h0⟩
    · exact ⟨X n, Int.le_refl _, fun i h => by omega, fun i h => by omega⟩
  obtain ⟨f, hf, DT, DB⟩ := e0
  obtain ⟨_, _⟩ := bd n (Nat.le_refl n)
  unfold t_Fitter_add_corners
  refine st_cut (fun σ H' => ∃ S1 : List Nat, σ = [some (.ref p), some (.ref t), some (.ref b)] ∧ FitH K H' p fp e X Y n n S1 B fv sv ∧ S1.Pairwise (· < ·) ∧ (∀ c, c ∈ S1 → c < n) ∧ DomT X (hiF Y e) (S1 ++ [n]) (n + 1) (X n) ∧ Frm fp H H' ∧ Tp H H') ?_ ?_
  · refine s_while (fun m σ H' => ∃ S1 : List Nat, σ = [some (.ref p), some (.ref t), some (.ref b)] ∧ FitH K H' p fp e X Y n n S1 B fv sv ∧ S1.Pairwise (· < ·) ∧ (∀ c, c ∈ S1 → c < n) ∧ DomT X (hiF Y e) (S1 ++ [n]) (n + 1) (X n) ∧ Frm fp H H' ∧ Tp H H' ∧ m = S1.length) S.length
      ⟨S, rfl, FH, sS, hS, DT.more hf, Frm.refl _ _, Tp.refl _, rfl⟩ ?_
    rintro m σ H1 ⟨S1, rfl, FH1, sS1, hS1, D1, fr1, tp1, rfl⟩
    obtain ⟨dx, lp, lt, lb, ps, ts, bs, efp, hp, q1, q2, q3, hlp, rps, hlt, rts, hlb, rbs⟩ := id FH1
    have mt : lt ∈ fp := by rw [efp]; simp
    walk_at "go"
    refine r_len hlt ?_
    walk_at "go"
    refine ite_d (fun h1 => ?_) (fun h1 => ?_)
    · obtain ⟨S0, c1, c2, rfl⟩ := last2 (S := S1) (by have := rts.len; omega)
      have l1 : (S0 ++ [c1] ++ [c2])[S0.length]? = some c1 := by simp
      have l2 : (S0 ++ [c1] ++ [c2])[S0.length + 1]? = some c2 := by
        rw [List.getElem?_append_right (by simp)]
        simp
      have hlen : ts.length = S0.length + 2 := by rw [rts.len]; simp
      obtain ⟨v1, g1, a1, rfl, ha1⟩ := rts.get l1
      obtain ⟨v2, g2, a2, rfl, ha2⟩ := rts.get l2
      have n1 := hS1 c1 (by simp)
      have n2 := hS1 c2 (by simp)
      have lt12 : c1 < c2 := by
        rw [List.pairwise_append] at sS1
        exact sS1.2.2 c1 (by simp) c2 (by simp)
      obtain ⟨_, _⟩ := bd c1 (by omega)
      obtain ⟨_, _⟩ := bd c2 (by omega)
      walk_at "go"
      refine r_ixL hlt (at_m g1 (by omega)) ?_
      walk_at "go"
      refine r_ixL hlt (at_m g2 (by omega)) ?_
      walk_at "go"
      refine ⟨a1, a2, t, _, _, _, _, _, _, _, _, _, rfl, ha1, ha2, tp1 _ _ ht, ⟨by omega, by omega⟩, ⟨by omega, by omega⟩, ⟨by omega, by omega⟩, ?_⟩
      walk_at "go"
      refine whD (fun hturn => ?_) (fun hturn => ?_)
      · walk_at "go"
        refine ⟨tyL hlt, ?_⟩
        refine r_pop hlt (y := .ref a2) (by rw [hlen]; exact g2) ?_
        walk_at "go"
        refine ⟨(S0 ++ [c1]).length, by simp, S0 ++ [c1], rfl, fit_tops efp hp q1 q2 q3 hlp rps hlt ?_ hlb rbs, ?_, ?_, ?_, frm_in fr1 mt, tp1.trans (Tp.mutL hlt), rfl⟩
        · have := rts.dropLast
          rw [List.dropLast_concat] at this
          exact this
        · rw [List.pairwise_append] at sS1
          exact sS1.1
        · intro c hc
          exact hS1 c (List.mem_append_left _ hc)
        · exact D1.pop A lt12 n2 (fun c hc => hS1 c (by simp [hc])) hturn
      · exact ⟨_, rfl, FH1, sS1, hS1, D1, fr1, tp1⟩
    · exact whF rfl ⟨_, rfl, FH1, sS1, hS1, D1, fr1, tp1⟩
  rintro σ H1 ⟨S1', rfl, ⟨dx, lp, lt, lb, ps, ts, bs, efp, hp, q1, q2, q3, hlp, rps, hlt, rts, hlb, rbs⟩, sS1', hS1', D1', fr1', tp1'⟩
  walk_at "go"
  refine ⟨tyL hlt, ?_⟩
  walk_at "go"
  have hb1 : ∀ (S : List Nat), S.Pairwise (· < ·) → (∀ c, c ∈ S → c < n) → S.length ≤ 20000 := fun S h1 h2 => Nat.le_trans (asc_len h1 h2) hn
  refine r_app hlt (by rw [rts.len]; exact Nat.le_trans (hb1 _ sS1' hS1') (by decide)) ?_
  have mt' : lt ∈ fp := by rw [efp]; simp
  have FH2 : FitH K (upd H1 lt (.lst (ts ++ [.ref t]))) p fp e X Y n n (S1' ++ [n]) B fv sv := fit_tops efp hp q1 q2 q3 hlp rps hlt (rts.app ⟨t, rfl, tp1' _ _ ht⟩) hlb rbs
  have fr2 : Frm fp H (upd H1 lt (.lst (ts ++ [.ref t]))) := frm_in fr1' mt'
  have tp2 : Tp H (upd H1 lt (.lst (ts ++ [.ref t]))) := tp1'.trans (Tp.mutL hlt)
  clear hp hlp rps hlt rts hlb rbs
  walk_at "go"
  refine st_cut (fun σ H' => ∃ S1 : List Nat, σ = [some (.ref p), some (.ref t), some (.ref b)] ∧ FitH K H' p fp e X Y n n (S1' ++ [n]) S1 fv sv ∧ S1.Pairwise (· < ·) ∧ (∀ c, c ∈ S1 → c < n) ∧ DomB X (loF Y e) (S1 ++ [n]) (n + 1) (X n) ∧ Frm fp H H' ∧ Tp H H') ?_ ?_
  · refine s_while (fun m σ H' => ∃ S1 : List Nat, σ = [some (.ref p), some (.ref t), some (.ref b)] ∧ FitH K H' p fp e X Y n n (S1' ++ [n]) S1 fv sv ∧ S1.Pairwise (· < ·) ∧ (∀ c, c ∈ S1 → c < n) ∧ DomB X (loF Y e) (S1 ++ [n]) (n + 1) (X n) ∧ Frm fp H H' ∧ Tp H H' ∧ m = S1.length) B.length
      ⟨B, rfl, FH2, sB, hB, DB.more hf, fr2, tp2, rfl⟩ ?_
    rintro m σ H1 ⟨S1, rfl, FH1, sS1, hS1, D1, fr1, tp1, rfl⟩
    obtain ⟨dx, lp, lt, lb, ps, ts, bs, efp, hp, q1, q2, q3, hlp, rps, hlt, rts, hlb, rbs⟩ := id FH1
    have mt : lb ∈ fp := by rw [efp]; simp
    walk_at "go"
    refine r_len hlb ?_
    walk_at "go"
    refine ite_d (fun h1 => ?_) (fun h1 => ?_)
    · obtain ⟨S0, c1, c2, rfl⟩ := last2 (S := S1) (by have := rbs.len; omega)
      have l1 : (S0 ++ [c1] ++ [c2])[S0.length]? = some c1 := by simp
      have l2 : (S0 ++ [c1] ++ [c2])[S0.length + 1]? = some c2 := by
        rw [List.getElem?_append_right (by simp)]
        simp
      have hlen : bs.length = S0.length + 2 := by rw [rbs.len]; simp
      obtain ⟨v1, g1, a1, rfl, ha1⟩ := rbs.get l1
      obtain ⟨v2, g2, a2, rfl, ha2⟩ := rbs.get l2
      have n1 := hS1 c1 (by simp)
      have n2 := hS1 c2 (by simp)
      have lt12 : c1 < c2 := by
        rw [List.pairwise_append] at sS1
        exact sS1.2.2 c1 (by simp) c2 (by simp)
      obtain ⟨_, _⟩ := bd c1 (by omega)
      obtain ⟨_, _⟩ := bd c2 (by omega)
      walk_at "go"
      refine r_ixL hlb (at_m g1 (by omega)) ?_
      walk_at "go"
      refine r_ixL hlb (at_m g2 (by omega)) ?_
      walk_at "go"
      refine ⟨a1, a2, b, _, _, _, _, _, _, _, _, _, rfl, ha1, ha2, tp1 _ _ hb, ⟨by omega, by omega⟩, ⟨by omega, by omega⟩, ⟨by omega, by omega⟩, ?_⟩
      walk_at "go"
      refine whD (fun hturn => ?_) (fun hturn => ?_)
      · walk_at "go"
        refine ⟨tyL hlb, ?_⟩
        refine r_pop hlb (y := .ref a2) (by rw [hlen]; exact g2) ?_
        walk_at "go"
        refine ⟨(S0 ++ [c1]).length, by simp, S0 ++ [c1], rfl, fit_bots efp hp q1 q2 q3 hlp rps hlt rts hlb ?_, ?_, ?_, ?_, frm_in fr1 mt, tp1.trans (Tp.mutL hlb), rfl⟩
        · have := rbs.dropLast
          rw [List.dropLast_concat] at this
          exact this
        · rw [List.pairwise_append] at sS1
          exact sS1.1
        · intro c hc
          exact hS1 c (List.mem_append_left _ hc)
        · exact D1.pop A lt12 n2 (fun c hc => hS1 c (by simp [hc])) hturn
      · exact ⟨_, rfl, FH1, sS1, hS1, D1, fr1, tp1⟩
    · exact whF rfl ⟨_, rfl, FH1, sS1, hS1, D1, fr1, tp1⟩
  rintro σ H3 ⟨B1', rfl, ⟨dx3, lp3, lt3, lb3, ps3, ts3, bs3, efp3, hp3, q13, q23, q33, hlp3, rps3, hlt3, rts3, hlb3, rbs3⟩, sB1', hB1', E1', fr3, tp3⟩
  walk_at "go"
  refine ⟨tyL hlb3, ?_⟩
  walk_at "go"
  refine r_app hlb3 (by rw [rbs3.len]; exact Nat.le_trans (hb1 _ sB1' hB1') (by decide)) ?_
  walk_at "go"
  have mb3 : lb3 ∈ fp := by rw [efp3]; simp
  have asc : ∀ S : List Nat, S.Pairwise (· < ·) → (∀ c, c ∈ S → c < n) → (S ++ [n]).Pairwise (· < ·) := fun S h1 h2 => by
    rw [List.pairwise_append]
    exact ⟨h1, List.pairwise_singleton _ _, fun a ha b hb => by rw [List.mem_singleton.mp hb]; exact h2 a ha⟩
  have sub : ∀ S : List Nat, (∀ c, c ∈ S → c < n) → ∀ c, c ∈ S ++ [n] → c < n + 1 := fun S h c hc => by
    rcases List.mem_append.mp hc with h1 | h1
    · exact Nat.lt_succ_of_lt (h c h1)
    · rw [List.mem_singleton.mp h1]; exact Nat.lt_succ_self n
  refine k (S1' ++ [n]) (B1' ++ [n]) _ (fit_bots efp3 hp3 q13 q23 q33 hlp3 rps3 hlt3 rts3 hlb3 (rbs3.app ⟨b, rfl, tp3 _ _ hb⟩)) (asc _ sS1' hS1') (asc _ sB1' hB1') (sub _ hS1') (sub _ hB1') D1' E1' (by simp) (by simp) (fun h0 => ?_) (frm_in fr3 mb3) (tp3.trans (Tp.mutL hlb3))
  have z1 : S1' = [] := by
    cases S1' with
    | nil => rfl
    | cons a r => exact absurd (hS1' a (List.mem_cons_self ..)) (by omega)
  have z2 : B1' = [] := by
    cases B1' with
    | nil => rfl
    | cons a r => exact absurd (hB1' a (List.mem_cons_self ..)) (by omega)
  rw [z1, z2, h0]
  exact ⟨rfl, rfl⟩
end
/-! ### readings: Fitter.add, Fitter.line, Cutting.__init__ .. -/
theorem s_aug1 {K : PySem.W.Frag} {f : Str} {p C dx : Addr} {fs : List (Str × V)} {n : Int} {σ : St} {H : Hp} {nx b c : St → Hp → Prop} {r : VK} (hσ : σ[0]? = some (some (.ref p))) (h : H p = some (.ins C dx fs)) (hc : Cls K C) (na : NoAttr K C f) (l : fs.lookup f = some (.int n)) (hl : fs.length < 1000) (q : nx σ (upd H p (.ins C dx (putF f (.int (n + 1)) fs)))) :
    sFldAug K (tVar 0) (tC (.int 1)) rAdd f ⟨nx, r, b, c⟩ σ H := ⟨_, hσ, p, C, dx, fs, _, rfl, h, hc, na, l, ⟨n, 1, rfl, rfl, dx, fs, h, hl, q⟩⟩
theorem flat_two {X Y : Nat → Int} {e : Int} : FlatOK X (loF Y e) (hiF Y e) 2 0 1 := ⟨by decide, by decide, fun i j hij hj => by
  have e1 : i = 0 := by omega
  have e2 : j = 1 := by omega
  subst e1 e2
  exact Int.le_refl _⟩
theorem steep_two {X Y : Nat → Int} {e : Int} : SteepOK X (loF Y e) (hiF Y e) 2 0 1 := ⟨by decide, by decide, fun i j hij hj => by
  have e1 : i = 0 := by omega
  have e2 : j = 1 := by omega
  subst e1 e2
  exact Int.le_refl _⟩
section
variable {K : PySem.W.Frag}
theorem FitH.same {H H' : Hp} {p : Addr} {fp : List Addr} {e : Int} {X Y : Nat → Int} {n np : Nat} {S B : List Nat} {fv sv : V} (F : FitH K H p fp e X Y n np S B fv sv) (s : Same H H') : FitH K H' p fp e X Y n np S B fv sv := by
  obtain ⟨dx, lp, lt, lb, ps, ts, bs, efp, hp, q1, q2, q3, hlp, rps, hlt, rts, hlb, rbs⟩ := F
  have t := same_tp s
  exact ⟨dx, lp, lt, lb, ps, ts, bs, efp, s _ _ hp, q1, q2, q3, s _ _ hlp, rps.mono fun _ _ h => h.mono t, s _ _ hlt, rts.mono fun _ _ h => h.mono t, s _ _ hlb, rbs.mono fun _ _ h => h.mono t⟩
/-- the fitter's objects stand, and so do tuples -/
theorem FitH.frm {H H' : Hp} {p : Addr} {fp : List Addr} {e : Int} {X Y : Nat → Int} {n np : Nat} {S B : List Nat} {fv sv : V} (F : FitH K H p fp e X Y n np S B fv sv) (k : ∀ b o, b ∈ fp → H b = some o → H' b = some o) (t : Tp H H') : FitH K H' p fp e X Y n np S B fv sv := by
  obtain ⟨dx, lp, lt, lb, ps, ts, bs, rfl, hp, q1, q2, q3, hlp, rps, hlt, rts, hlb, rbs⟩ := F
  exact ⟨dx, lp, lt, lb, ps, ts, bs, rfl, k _ _ (by simp) hp, q1, q2, q3, k _ _ (by simp) hlp, rps.mono fun _ _ h => h.mono t, k _ _ (by simp) hlt, rts.mono fun _ _ h => h.mono t, k _ _ (by simp) hlb, rbs.mono fun _ _ h => h.mono t⟩
theorem FitAt.frm {H H' : Hp} {p : Addr} {fp : List Addr} {e : Int} {X Y : Nat → Int} {n : Nat} (F : FitAt K H p fp e X Y n) (k : ∀ b o, b ∈ fp → H b = some o → H' b = some o) (t : Tp H H') : FitAt K H' p fp e X Y n := by
  obtain ⟨h1, h2, h3, h4, h5, S, B, fv, sv, FH, a1, a2, a3, a4, a5, a6, a7, hfs⟩ := F
  refine ⟨h1, h2, h3, h4, h5, S, B, fv, sv, FH.frm k t, a1, a2, a3, a4, a5, a6, a7, fun h => ?_⟩
  obtain ⟨⟨a, b, p1, q1⟩, c, d, p2, q2⟩ := hfs h
  exact ⟨⟨a, b, p1.mono t, q1⟩, c, d, p2.mono t, q2⟩
theorem FitAt.same {H H' : Hp} {p : Addr} {fp : List Addr} {e : Int} {X Y : Nat → Int} {n : Nat} (F : FitAt K H p fp e X Y n) (s : Same H H') : FitAt K H' p fp e X Y n := F.frm (fun b o _ h => s b o h) (same_tp s)
theorem FitAt.isI {H : Hp} {p : Addr} {fp : List Addr} {e : Int} {X Y : Nat → Int} {n : Nat} (F : FitAt K H p fp e X Y n) {m : Str} (hm : (fitF e n 0 0 0 .non .non).lookup m = none) : IsI (He.ga K "Fitter") m (.ref p) H := by
  obtain ⟨S, B, fv, sv, ⟨dx, lp, lt, lb, ps, ts, bs, efp, hp, _⟩, _⟩ := F.ex
  refine ⟨p, dx, _, rfl, hp, ?_⟩
  have h : ∀ (l1 l2 : List (Str × V)), l1.map (·.1) = l2.map (·.1) → l1.lookup m = none → l2.lookup m = none := by
    intro l1
    induction l1 with
    | nil =>
      intro l2 e _
      cases l2 with
      | nil => rfl
      | cons a r => simp at e
    | cons a r ih =>
      intro l2 e h
      cases l2 with
      | nil => simp at e
      | cons b r2 =>
        obtain ⟨a1, a2⟩ := a
        obtain ⟨b1, b2⟩ := b
        simp only [List.map_cons, List.cons.injEq] at e
        obtain ⟨e1, e2⟩ := e
        subst e1
        rw [List.lookup_cons] at h ⊢
        split at h
        · cases h
        · exact ih r2 e2 h
  exact h (fitF e n 0 0 0 .non .non) _ rfl hm
theorem fit_pts {H : Hp} {p dx lp lt lb : Addr} {fp : List Addr} {e : Int} {X Y : Nat → Int} {n np : Nat} {S B : List Nat} {fv sv : V} {ps ts bs ps' : List V} (efp : fp = [p, lp, lt, lb]) (hp : H p = some (.ins (He.ga K "Fitter") dx (fitF e n lp lt lb fv sv))) (q1 : lp ≠ lt) (q2 : lp ≠ lb) (q3 : lt ≠ lb)
    (hlp : H lp = some (.lst ps)) (rps : LR (PtR H) ps' (ptsOf X Y np)) (hlt : H lt = some (.lst ts)) (rts : LR (CoR X (hiF Y e) H) ts S) (hlb : H lb = some (.lst bs)) (rbs : LR (CoR X (loF Y e) H) bs B) :
    FitH K (upd H lp (.lst ps')) p fp e X Y n np S B fv sv := by
  have t := Tp.mutL (o := .lst ps') hlp
  refine ⟨dx, lp, lt, lb, ps', ts, bs, efp, ?_, q1, q2, q3, upd_same, rps.mono fun _ _ h => h.mono t, ?_, rts.mono fun _ _ h => h.mono t, ?_, rbs.mono fun _ _ h => h.mono t⟩
  · rw [upd_ne (ne_of hp hlp (by intro z; cases z))]
    exact hp
  · rw [upd_ne q1.symm]
    exact hlt
  · rw [upd_ne q2.symm]
    exact hlb
theorem fit_ins {H : Hp} {p dx lp lt lb : Addr} {fp : List Addr} {e : Int} {X Y : Nat → Int} {n n' np : Nat} {S B : List Nat} {fv sv fv' sv' : V} {ps ts bs : List V} (efp : fp = [p, lp, lt, lb]) (hp : H p = some (.ins (He.ga K "Fitter") dx (fitF e n lp lt lb fv sv))) (q1 : lp ≠ lt) (q2 : lp ≠ lb) (q3 : lt ≠ lb)
    (hlp : H lp = some (.lst ps)) (rps : LR (PtR H) ps (ptsOf X Y np)) (hlt : H lt = some (.lst ts)) (rts : LR (CoR X (hiF Y e) H) ts S) (hlb : H lb = some (.lst bs)) (rbs : LR (CoR X (loF Y e) H) bs B) :
    FitH K (upd H p (.ins (He.ga K "Fitter") dx (fitF e n' lp lt lb fv' sv'))) p fp e X Y n' np S B fv' sv' := by
  have t := Tp.mutI (o := .ins (He.ga K "Fitter") dx (fitF e n' lp lt lb fv' sv')) hp
  refine ⟨dx, lp, lt, lb, ps, ts, bs, efp, upd_same, q1, q2, q3, ?_, rps.mono fun _ _ h => h.mono t, ?_, rts.mono fun _ _ h => h.mono t, ?_, rbs.mono fun _ _ h => h.mono t⟩
  · rw [upd_ne (ne_of hlp hp (by intro z; cases z))]
    exact hlp
  · rw [upd_ne (ne_of hlt hp (by intro z; cases z))]
    exact hlt
  · rw [upd_ne (ne_of hlb hp (by intro z; cases z))]
    exact hlb
theorem rd_Fitter_add (T : TK K) (vs : List V) (H : Hp) (Q : VK) (E : XK) (h : sp_Fitter_add K vs H Q E) : t_Fitter_add K ⟨fun _ H' => Q .non H', Q, fun _ _ => False, fun _ _ => False⟩ (start N_Fitter_add vs) H := by
  obtain ⟨p, pt, fp, e, X, Y, n, rfl, F, hpt, A, bn, hn, hfit, k⟩ := h
  unfold t_Fitter_add
  walk_at "go"
  refine ⟨F.isI rfl, ?_⟩
  walk_at "go"
  refine ⟨p, pt, fp, e, X, Y, n, rfl, F, hpt, A, bn, fun _ H1 s1 => ?_, fun i j r H1 nf => absurd hfit nf⟩
  walk_at "go"
  refine ite_f rfl ?_
  have F1 := F.same s1
  have hpt1 := s1 _ _ hpt
  obtain ⟨he, asc, bd, _, fit, S, B, fv, sv, FH, sS, sB, hS, hB, dom, h1, h0, hfs⟩ := id F1
  have bd' : ∀ i, i ≤ n → Bd (X i) := fun i hi => by
    by_cases h : i < n
    · exact bd i h
    · have : i = n := by omega
      rw [this]
      exact bn
  obtain ⟨dx, lp, lt, lb, ps, ts, bs, efp, hp, q1, q2, q3, hlp, rps, hlt, rts, hlb, rbs⟩ := id FH
  have mp : p ∈ fp := by rw [efp]; simp
  have ml : lp ∈ fp := by rw [efp]; simp
  walk_at "go"
  refine newT fun t H2 n2 s2 e2 => ?_
  walk_at "go"
  refine newT fun b H3 n3 s3 e3 => ?_
  have s13 : Same H1 H3 := s2.trans s3
  have s03 : Same H H3 := s1.trans s13
  have e2' := s3 _ _ e2
  have hp3 := s13 _ _ hp
  walk_at "go"
  refine st_cut (fun σ H' => ∃ fv' sv' : V, σ = [some (.ref p), some (.ref pt), some (.ref t), some (.ref b)] ∧ FitH K H' p fp e X Y n n S B fv' sv' ∧ Frm fp H H' ∧ Tp H3 H' ∧
    (2 ≤ n + 1 → (∃ a b, PrR X (hiF Y e) (loF Y e) H' fv' (a, b) ∧ FlatOK X (loF Y e) (hiF Y e) (n + 1) a b) ∧ ∃ c d, PrR X (loF Y e) (hiF Y e) H' sv' (c, d) ∧ SteepOK X (loF Y e) (hiF Y e) (n + 1) c d)) ?_ ?_
  · walk_at "go"
    refine ite_d (fun hn1 => ?_) (fun hn1 => ?_)
    · have en : n = 1 := by omega
      subst en
      obtain ⟨rfl, rfl⟩ := h1 rfl
      obtain ⟨v0, hv0, a0, rfl, ha0⟩ := rts.get (i := 0) (d := 0) rfl
      obtain ⟨w0, hw0, b0, rfl, hb0⟩ := rbs.get (i := 0) (d := 0) rfl
      walk_at "go"
      refine r_ixL (s13 _ _ hlt) (atI_nat (j := 0) hv0) ?_
      walk_at "go"
      refine newT fun w H4 n4 s4 e4 => ?_
      walk_at "go"
      have hp4 := s4 _ _ hp3
      have s14 : Same H1 H4 := s13.trans s4
      refine r_ixL (xs := bs) (by rw [upd_ne (ne_of (s14 _ _ hlb) hp4 (by intro z; cases z))]; exact s14 _ _ hlb) (atI_nat (j := 0) hw0) ?_
      walk_at "go"
      refine newT fun w2 H5 n5 s5 e5 => ?_
      walk_at "go"
      have t45 : Tp H4 H5 := (Tp.mutI (o := .ins (He.ga K "Fitter") dx (fitF e 1 lp lt lb (.ref w) sv)) hp4).trans (same_tp s5)
      have hp5 : H5 p = some (.ins (He.ga K "Fitter") dx (fitF e 1 lp lt lb (.ref w) sv)) := s5 _ _ upd_same
      have g5 : ∀ {c o}, c ≠ p → H1 c = some o → H5 c = some o := fun hc h => s5 _ _ (by rw [upd_ne hc]; exact s14 _ _ h)
      have t15 : Tp H1 H5 := (same_tp s14).trans t45
      have t56 : Tp H5 (upd H5 p (.ins (He.ga K "Fitter") dx (fitF e 1 lp lt lb (.ref w) (.ref w2)))) := Tp.mutI hp5
      refine ⟨.ref w, .ref w2, rfl, fit_ins efp hp5 q1 q2 q3 (g5 (ne_of hlp hp (by intro z; cases z)) hlp) (rps.mono fun _ _ h => h.mono t15) (g5 (ne_of hlt hp (by intro z; cases z)) hlt) (rts.mono fun _ _ h => h.mono t15) (g5 (ne_of hlb hp (by intro z; cases z)) hlb) (rbs.mono fun _ _ h => h.mono t15), ?_, (same_tp s4).trans (t45.trans t56), fun _ => ⟨⟨0, 1, ⟨w, a0, b, rfl, ?_, ?_, ?_⟩, flat_two⟩, 0, 1, ⟨w2, b0, t, rfl, ?_, ?_, ?_⟩, steep_two⟩⟩
      · refine frm_in (fun c o hc hm => s5 _ _ ?_) mp
        rw [upd_ne (fun z => hm (by rw [z]; exact mp))]
        exact s4 _ _ (s03 _ _ hc)
      · exact t56 _ _ (t45 _ _ e4)
      · exact t56 _ _ (t15 _ _ ha0)
      · exact t56 _ _ (t45 _ _ (s4 _ _ e3))
      · exact t56 _ _ e5
      · exact t56 _ _ (t15 _ _ hb0)
      · exact t56 _ _ (t45 _ _ (s4 _ _ e2'))
    · walk_at "go"
      refine ite_d (fun hn2 => ?_) (fun hn2 => ?_)
      · have hn2' : 2 ≤ n := by omega
        obtain ⟨DT, DB, nS, nB⟩ := dom (by omega)
        obtain ⟨⟨a, b', PRf, PF⟩, c, d, PRs, PS⟩ := hfs hn2'
        have FH3 := FH.same s13
        walk_at "go"
        refine ⟨(F1.same s13).isI rfl, ?_⟩
        walk_at "go"
        refine ⟨p, t, fp, e, X, Y, n, S, B, fv, sv, c, d, rfl, FH3, PRs.mono (same_tp s13), e2', A, bd', he, fit, PS, hB, DB, nB, by omega, fun sv' c' d' H4 FH4 PR4 PS4 fr4 t4 => ?_⟩
        walk_at "go"
        obtain ⟨dx4, lp4, lt4, lb4, ps4, ts4, bs4, efp4, hp4, _⟩ := id FH4
        refine ⟨⟨p, dx4, _, rfl, hp4, rfl⟩, ?_⟩
        walk_at "go"
        refine ⟨p, b, fp, e, X, Y, n, S, B, fv, sv', a, b', rfl, FH4, PRf.mono ((same_tp s13).trans t4), t4 _ _ e3, A, bd', he, fit, PF, hS, DT, nS, by omega, fun fv' a' b'' H5 FH5 PR5 PF5 fr5 t5 => ?_⟩
        walk_at "go"
        have m1 : ∀ x, x ∈ [p] → x ∈ fp := fun x hx => by rw [List.mem_singleton.mp hx]; exact mp
        exact ⟨fv', sv', rfl, FH5, ((frm_same s03).trans (fr4.mono m1)).trans (fr5.mono m1), t4.trans t5, fun _ => ⟨⟨a', b'', PR5, PF5⟩, c', d', PR4.mono t5, PS4⟩⟩
      · have en : n = 0 := by omega
        walk_at "go"
        exact ⟨fv, sv, rfl, FH.same s13, frm_same s03, Tp.refl _, fun h => absurd h (by omega)⟩
  · rintro σ H4 ⟨fv', sv', rfl, FH4, fr4, t4, hfs4⟩
    walk_at "go"
    obtain ⟨dx4, lp4, lt4, lb4, ps4, ts4, bs4, efp4, hp4, _⟩ := id FH4
    refine ⟨⟨p, dx4, _, rfl, hp4, rfl⟩, ?_⟩
    walk_at "go"
    refine ⟨p, t, b, fp, e, X, Y, n, S, B, fv', sv', rfl, FH4, t4 _ _ e2', t4 _ _ e3, A, bd', by omega, sS, sB, hS, hB, fun h => ⟨(dom h).1, (dom h).2.1⟩, fun S' B' H5 FH5 sS' sB' hS' hB' DT' DB' nS' nB' h0' fr5 t5 => ?_⟩
    obtain ⟨dx5, lp5, lt5, lb5, ps5, ts5, bs5, efp5, hp5, q15, q25, q35, hlp5, rps5, hlt5, rts5, hlb5, rbs5⟩ := id FH5
    have ml5 : lp5 ∈ fp := by rw [efp5]; simp
    walk_at "go"
    refine ⟨tyL hlp5, ?_⟩
    walk_at "go"
    have hpt5 : H5 pt = some (.tup [.int (X n), .int (Y n)]) := t5 _ _ (t4 _ _ (s13 _ _ hpt1))
    refine r_app hlp5 (by rw [rps5.len, ptsOf_len]; omega) ?_
    have FH6 : FitH K (upd H5 lp5 (.lst (ps5 ++ [.ref pt]))) p fp e X Y n (n + 1) S' B' fv' sv' := fit_pts efp5 hp5 q15 q25 q35 hlp5 (by rw [ptsOf_succ]; exact rps5.app ⟨pt, rfl, hpt5⟩) hlt5 rts5 hlb5 rbs5
    have t6 := Tp.mutL (o := .lst (ps5 ++ [.ref pt])) hlp5
    have fr6 : Frm fp H (upd H5 lp5 (.lst (ps5 ++ [.ref pt]))) := frm_in (fr4.trans fr5) ml5
    obtain ⟨dx6, lp6, lt6, lb6, ps6, ts6, bs6, efp6, hp6, q16, q26, q36, hlp6, rps6, hlt6, rts6, hlb6, rbs6⟩ := FH6
    walk_at "go"
    refine s_aug1 rfl hp6 T.c_Fitter T.n_Fitter_count (n := (n : Int)) rfl (by show 7 < 1000; decide) ?_
    walk_at "go"
    have t7 := Tp.mutI (o := .ins (He.ga K "Fitter") dx6 (fitF e (n + 1) lp6 lt6 lb6 fv' sv')) hp6
    have tall : Tp H4 (upd (upd H5 lp5 (.lst (ps5 ++ [.ref pt]))) p (.ins (He.ga K "Fitter") dx6 (fitF e (n + 1) lp6 lt6 lb6 fv' sv'))) := t5.trans (t6.trans t7)
    refine k _ ⟨he, A, fun i hi => bd' i (by omega), by omega, hfit, S', B', fv', sv', fit_ins efp6 hp6 q16 q26 q36 hlp6 rps6 hlt6 rts6 hlb6 rbs6, sS', sB', hS', hB', fun _ => ⟨DT', DB', nS', nB'⟩, fun h => h0' (by omega), fun h => absurd h (by omega), fun h => ?_⟩ (frm_in fr6 mp) (((same_tp s03).trans t4).trans tall)
    obtain ⟨⟨a, b', p1, r1⟩, c, d, p2, r2⟩ := hfs4 h
    exact ⟨⟨a, b', p1.mono tall, r1⟩, c, d, p2.mono tall, r2⟩
end
/-! ### readings: Fitter.line, the cuttings' __init__ -/
section
variable {K : PySem.W.Frag}
theorem rd_Fitter_line (T : TK K) (vs : List V) (H : Hp) (Q : VK) (E : XK) (h : sp_Fitter_line K vs H Q E) : t_Fitter_line K ⟨fun _ H' => Q .non H', Q, fun _ _ => False, fun _ _ => False⟩ (start N_Fitter_line vs) H := by
  obtain ⟨p, fp, e, X, Y, n, rfl, F, hn, k⟩ := h
  obtain ⟨he, A, bd, hlen, fit, S, B, fv, sv, ⟨dx, lp, lt, lb, ps, ts, bs, efp, hp, q1, q2, q3, hlp, rps, hlt, rts, hlb, rbs⟩, sS, sB, hS, hB, dom, h1, h0, hfs⟩ := id F
  unfold t_Fitter_line
  walk_at "go"
  refine ite_f (decide_eq_false (by omega)) ?_
  walk_at "go"
  refine ite_d (fun hn1 => ?_) (fun hn1 => ?_)
  · have en : n = 1 := by omega
    subst en
    obtain ⟨v0, hv0, a0, rfl, ha0⟩ := rps.get (ptsOf_get X Y (Nat.zero_lt_one))
    walk_at "go"
    refine r_ixL hlp (atI_nat (j := 0) hv0) ?_
    walk_at "go"
    refine newT fun r H1 n1 s1 e1 => k (0, Y 0, 1) r H1 ⟨Int.le_refl _, (by show (1 : Int) ≤ 2000000; decide), fun i hi => ?_, fun _ => Int.le_refl _⟩ s1 e1
    have ei : i = 0 := by omega
    subst ei
    show ((0 * X 0 + Y 0 - Y 0 * 1).natAbs : Int) ≤ e * 1
    rw [show 0 * X 0 + Y 0 - Y 0 * 1 = 0 by omega]
    simp
    exact he
  · have hn2 : 2 ≤ n := by omega
    obtain ⟨⟨a, b, ⟨tf, ta, tb, rfl, htf, hta, htb⟩, PF⟩, c, d, ⟨tg, tc, td, rfl, htg, htc, htd⟩, PS⟩ := hfs hn2
    dsimp only at hta htb htc htd
    have ba := bd a (by have := PF.lt; have := PF.ltn; omega)
    have bb := bd b PF.ltn
    have bc := bd c (by have := PS.lt; have := PS.ltn; omega)
    have bd2 := bd d PS.ltn
    obtain ⟨_, _⟩ := ba
    obtain ⟨_, _⟩ := bb
    obtain ⟨_, _⟩ := bc
    obtain ⟨_, _⟩ := bd2
    have xab := A.pos PF.lt PF.ltn
    have xcd := A.pos PS.lt PS.ltn
    have LU := fit a b c d PF.lt PF.ltn PS.lt PS.ltn
    walk_at "go"
    refine ⟨ta, tb, _, _, _, _, _, _, rfl, hta, htb, fun r1 H1 s1 e1 => ?_⟩
    walk_at "go"
    refine ⟨tc, td, _, _, _, _, _, _, rfl, s1 _ _ htc, s1 _ _ htd, fun r2 H2 s2 e2 => ?_⟩
    have e1' := s2 _ _ e1
    walk_at "go"
    refine ⟨_, _, rfl, xab, by omega, fun g1 p1 w1 f1 H3 hg1 ep1 ew1 s3 e3 => ?_⟩
    have e2' := s3 _ _ e2
    walk_at "go"
    refine ⟨_, _, rfl, xcd, by omega, fun g2 p2 w2 f2 H4 hg2 ep2 ew2 s4 e4 => ?_⟩
    obtain ⟨w1p, w1l⟩ := red_pos hg1 ew1 xab
    obtain ⟨w2p, w2l⟩ := red_pos hg2 ew2 xcd
    have s04 : Same H H4 := ((s1.trans s2).trans s3).trans s4
    -- what follows, whatever the slope
    have last : ∀ (rs : Addr) (H5 : Hp) (p w : Int), Same H H5 → H5 rs = some (.tup [.int p, .int w]) → 0 < w → w ≤ 2000000 → (loF Y e b - hiF Y e a) * w ≤ p * (X b - X a) → p * (X d - X c) ≤ (hiF Y e d - loF Y e c) * w → ((∀ i j, i < j → j < n → Y i ≤ Y j) → 0 ≤ p) →
        sp_line_with_slope K [.ref lp, .int e, .ref rs] H5 Q E0 := fun rs H5 p w s5 e5 hw hw2 hL hU hup => by
      refine ⟨lp, rs, e, p, w, ptsOf X Y n, rfl, ⟨ps, s5 _ _ hlp, rps.mono fun _ _ h => h.mono (same_tp s5)⟩, e5, hw, hw2, by rw [ptsOf_len]; exact hn, by rw [ptsOf_len]; omega, fun i t ht => ?_, fun q r H6 hq hmax s6 e6 => ?_⟩
      · have hi : i < n := by rw [← ptsOf_len X Y n]; exact (List.getElem?_eq_some_iff.mp ht).1
        rw [ptsOf_get X Y hi] at ht
        cases Option.some.inj ht
        exact bd i hi
      · obtain ⟨j, t, hj, hq⟩ := hq
        have hjn : j < n := by rw [← ptsOf_len X Y n]; exact (List.getElem?_eq_some_iff.mp hj).1
        rw [ptsOf_get X Y hjn] at hj
        cases Option.some.inj hj
        exact k (p, q, w) r H6 ⟨hw, hw2, fun i hi => line_near A he PF PS hw hL hU hjn hq (fun i hi => hmax i _ (ptsOf_get X Y hi)) hi, hup⟩ (s5.trans s6) e6
    walk_at "go"
    refine ⟨f1, f2, p1, w1, p2, w2, rfl, s4 _ _ e3, e4, fun hp1 => ?_, fun hp1 hp2 => ?_, fun hp1 hp2 r H5 s5 e5 => ?_⟩
    · walk_at "go"
      refine last f1 H4 p1 w1 s04 (s4 _ _ e3) w1p (by omega) (red_ge hg1 ep1 ew1 (Int.le_refl _)) (red_le hg1 ep1 ew1 LU) fun _ => Int.le_of_lt hp1
    · walk_at "go"
      refine last f2 H4 p2 w2 s04 e4 w2p (by omega) (red_ge hg2 ep2 ew2 LU) (red_le hg2 ep2 ew2 (Int.le_refl _)) fun hY => ?_
      have h3 := (red_sign hg2 ep2).2.2 hp2
      have h4 := hY c d PS.lt PS.ltn
      unfold loF hiF at h3
      omega
    · walk_at "go"
      refine last r H5 0 1 (s04.trans s5) e5 (by decide) (by decide) ?_ ?_ fun _ => Int.le_refl _
      · have := (red_sign hg1 ep1).1 hp1
        omega
      · have := (red_sign hg2 ep2).2.1 hp2
        omega
theorem rd_two {C : Addr} {t : TS} (hC : Cls K C) (n1 : NoAttr K C "pieces") (n2 : NoAttr K C "reasons") (ht : t = tSeq (sFld K (tVar 0) (tCB (cList K) (tCons (tVar 1) tNil)) "pieces") (sFld K (tVar 0) (tCB (cList K) (tCons (tVar 2) tNil)) "reasons"))
    (vs : List V) (H : Hp) (Q : VK) (E : XK) (h : spTwo C vs H Q E) : t ⟨fun _ H' => Q .non H', Q, fun _ _ => False, fun _ _ => False⟩ (start ["self", "pieces", "reasons"] vs) H := by
  obtain ⟨p, a, b, xs, ys, rfl, ⟨dx, hp⟩, ha, hb, k⟩ := h
  rw [ht]
  walk_at "go"
  refine r_list ha fun a' H1 n1' s1 e1 => ?_
  walk_at "go"
  refine s_fldK (s1 _ _ hp) hC n1 (by decide) ?_
  walk_at "go"
  have hp1 := s1 _ _ hp
  refine r_list (xs := ys) (by rw [upd_ne (ne_of (s1 _ _ hb) hp1 (by intro z; cases z))]; exact s1 _ _ hb) fun b' H2 n2' s2 e2 => ?_
  walk_at "go"
  refine s_fldK (s2 _ _ upd_same) hC n2 (by show 1 < 1000; decide) ?_
  have nap : a' ≠ p := ne_of e1 hp1 (by intro z; cases z)
  have hp2 : H2 p = some (.ins C dx (putF "pieces" (.ref a') [])) := s2 _ _ upd_same
  have nbp : b' ≠ p := ne_of e2 hp2 (by intro z; cases z)
  have fr : Frm [p] H (upd H2 p (.ins C dx (flds2 "pieces" "reasons" a' b'))) := fun c o hc hm => by
    have hcp : c ≠ p := fun z => hm (by rw [z]; exact List.mem_singleton.mpr rfl)
    rw [upd_ne hcp]
    exact s2 _ _ (by rw [upd_ne hcp]; exact s1 _ _ hc)
  refine k _ a' b' dx upd_same ?_ ?_ fr (frm_tp fr fun c hc xs hx => ?_)
  · rw [upd_ne nap]
    exact s2 _ _ (by rw [upd_ne nap]; exact e1)
  · rw [upd_ne nbp]
    exact e2
  · rw [List.mem_singleton.mp hc, hp] at hx
    cases hx
theorem rd_Cutting_init (T : TK K) (vs : List V) (H : Hp) (Q : VK) (E : XK) (h : sp_Cutting_init K vs H Q E) : t_Cutting_init K ⟨fun _ H' => Q .non H', Q, fun _ _ => False, fun _ _ => False⟩ (start N_Cutting_init vs) H := rd_two T.c_Cutting T.n_Cutting_pieces T.n_Cutting_reasons rfl vs H Q E h
end
/-! ### readings: cut -/
/-- the loop's word: g points are looked at, i are in the fitter -/
structure CutI (K : PySem.W.Frag) (H0 : Hp) (a : Addr) (e : Int) (lp lr : Addr) (X Y : Nat → Int) (N i g : Nat) (σ : St) (H' : Hp) : Prop where
  ex : ∃ (s : Nat) (cs : List Nat) (pcs : List Pc) (rs : List Tr) (p : Addr) (fp : List Addr) (vs1 vs2 : List V) (v6 v7 v8 : Option V), σ = [some (.ref a), some (.int e), some (.ref lp), some (.ref lr), some (.int (s : Int)), some (.ref p), v6, v7, v8] ∧
    FitAt K H' p fp e (fun k => X (s + k)) (fun k => Y (s + k)) (i - s) ∧ H' lp = some (.lst vs1) ∧ LR (PcR H') vs1 pcs ∧ H' lr = some (.lst vs2) ∧ LR (TrR H') vs2 rs ∧ lp ∉ fp ∧ lr ∉ fp ∧ (∀ b, b ∈ fp → H0 b = none) ∧
    Gr (SegP e X Y) g cs s ∧ s ≤ i ∧ (0 < i → s < g) ∧ CutOk (LnP e X Y) (RsP e X Y) (s : Int) pcs rs ∧ rs.length = pcs.length ∧ pcs.map (·.1) = intsOf cs ∧ (pcs = [] → s = 0) ∧ pcs.length ≤ i ∧
    (∀ (k : Nat) (q : Pc), pcs[k]? = some q → 1 ≤ q.2.2.2 ∧ q.2.2.2 ≤ 2000000 ∧ ((∀ i j, i < j → j < N → Y i ≤ Y j) → 0 ≤ q.2.1))
  sm : Same H0 H'
theorem intsOf_app (cs : List Nat) (s : Nat) : intsOf (cs ++ [s]) = intsOf cs ++ [(s : Int)] := by
  unfold intsOf
  rw [List.map_append]
  rfl
section
variable {K : PySem.W.Frag}
theorem cut_add {H0 H' : Hp} {a lp lr pa : Addr} {e : Int} {X Y : Nat → Int} {N i : Nat} {σ : St} {n b c : St → Hp → Prop} {r : VK} (I : CutI K H0 a e lp lr X Y N i (i + 1) σ H') (h7 : σ[7]? = some (some (.ref pa))) (hpa : H' pa = some (.tup [.int (X i), .int (Y i)]))
    {s0 : Nat} (h4 : σ[4]? = some (some (.int (s0 : Int)))) (seg : SegP e X Y s0 (i + 1)) (A : AscN X N) (bd : Bd (X i)) (hi : i < N) (hN : N ≤ 10000) (k : ∀ H'', CutI K H0 a e lp lr X Y N (i + 1) (i + 1) σ H'' → n σ H'') :
    tDrop (tM (He.ga K "Fitter") "add" (sp_Fitter_add K) (tVar 5) (tCons (tVar 7) tNil)) ⟨n, r, b, c⟩ σ H' := by
  obtain ⟨⟨s, cs, pcs, rs, p, fp, vs1, vs2, v6, v7, v8, rfl, F, h1, r1, h2, r2, m1, m2, fpN, G, hsi, hsg, C, hrl, hst, hs0, hpl, hd⟩, sm⟩ := I
  have e7 : v7 = some (.ref pa) := Option.some.inj h7
  subst e7
  have e4 : (s0 : Int) = (s : Int) := by
    have := Option.some.inj (Option.some.inj h4)
    injection this with this
    exact this.symm
  have e4' : s0 = s := by omega
  subst e4'
  have es : s0 + (i - s0) = i := by omega
  walk_at "go"
  refine ⟨F.isI rfl, ?_⟩
  walk_at "go"
  refine ⟨p, pa, fp, e, _, _, i - s0, rfl, F, ?_, ascN_shift A (by omega), ?_, by omega, ?_, fun H2 F2 fr2 t2 => ?_⟩
  · show H' pa = some (.tup [.int (X (s0 + (i - s0))), .int (Y (s0 + (i - s0)))])
    rw [es]
    exact hpa
  · show Bd (X (s0 + (i - s0)))
    rw [es]
    exact bd
  · have e1 : i + 1 - s0 = (i - s0) + 1 := by omega
    have z2 : FitN (fun k => X (s0 + k)) (loF (fun k => Y (s0 + k)) e) (hiF (fun k => Y (s0 + k)) e) (i + 1 - s0) := seg
    rw [e1] at z2
    exact z2
  · refine k H2 ⟨⟨s0, cs, pcs, rs, p, fp, vs1, vs2, _, _, _, rfl, ?_, fr2 _ _ h1 m1, r1.mono fun _ _ h => h.mono t2, fr2 _ _ h2 m2, r2.mono fun _ _ h => h.mono t2, m1, m2, fpN, G, by omega, fun _ => by omega, C, hrl, hst, hs0, by omega, hd⟩, fr2.out sm fpN⟩
    have e1 : i + 1 - s0 = (i - s0) + 1 := by omega
    rw [e1]
    exact F2
theorem rd_cut (T : TK K) (vs : List V) (H : Hp) (Q : VK) (E : XK) (h : sp_cut K vs H Q E) : t_cut K ⟨fun _ H' => Q .non H', Q, fun _ _ => False, fun _ _ => False⟩ (start N_cut vs) H := by
  obtain ⟨a, e, pts, rfl, ⟨xs, ha, hx⟩, PO, he, k⟩ := h
  have hN := PO.pos
  have hlen := PO.len
  have near_of : ∀ (s i : Nat) (l : Tr), LineOk e (fun k => px pts (s + k)) (fun k => py pts (s + k)) (i - s) l → ∀ j : Nat, (s : Int) ≤ (j : Int) → (j : Int) < (i : Int) → LnP e (px pts) (py pts) l j := fun s i l L j h1 h2 => by
    have h3 := L.near (j - s) (by omega)
    have h4 : s + (j - s) = j := by omega
    rw [h4] at h3
    exact h3
  have up_of : ∀ (s i : Nat) (l : Tr), i ≤ pts.length → LineOk e (fun k => px pts (s + k)) (fun k => py pts (s + k)) (i - s) l → (∀ i j, i < j → j < pts.length → py pts i ≤ py pts j) → 0 ≤ l.1 := fun s i l hi L hY => L.up fun c d hcd hd => hY (s + c) (s + d) (by omega) (by omega)
  unfold t_cut
  walk_at "go"
  refine newL fun lp H1 n1 s1 e1 => ?_
  walk_at "go"
  refine newL fun lr H2 n2 s2 e2 => ?_
  walk_at "go"
  have s02 : Same H H2 := s1.trans s2
  have lpN : H lp = none := n1
  have lrN : H lr = none := s1.free n2
  have lplr : lp ≠ lr := ne_of_none e1 n2
  refine mkK fun p H3 n3 s3 hp => ?_
  have s03 : Same H H3 := s02.trans s3
  refine ⟨p, e, rfl, hp, he, fun H4 fp FA fr4 fp4 mp t4 => ⟨rfl, ?_⟩⟩
  have pN : H p = none := s02.free n3
  have fpN : ∀ b, b ∈ fp → H b = none := fun b hb => by
    rcases fp4 b hb with rfl | h
    · exact pN
    · exact s03.free h
  have e1' : H3 lp = some (.lst []) := s3 _ _ (s2 _ _ e1)
  have e2' : H3 lr = some (.lst []) := s3 _ _ e2
  have lpp : lp ≠ p := ne_of_none (s2 _ _ e1) n3
  have lrp : lr ≠ p := ne_of_none e2 n3
  have notin : ∀ l, l ≠ p → H3 l = some (.lst []) → l ∉ fp := fun l h1 h2 hm => by
    rcases fp4 l hm with h | h
    · exact h1 h
    · rw [h2] at h
      cases h
  have s04 : Same H H4 := fr4.out s03 fun b hb => by rw [List.mem_singleton.mp hb]; exact pN
  walk_at "go"
  refine i_enumK (s04 _ _ ha) ?_
  refine forE (fun i σ H' => CutI K H a e lp lr (px pts) (py pts) pts.length i i σ H')
    ⟨⟨0, [], [], [], p, fp, [], [], none, none, none, rfl, FA _ _, fr4 _ _ e1' (fun z => lpp (List.mem_singleton.mp z)), LR.nil, fr4 _ _ e2' (fun z => lrp (List.mem_singleton.mp z)), LR.nil, notin lp lpp e1', notin lr lrp e2', fpN, .zero, Nat.le_refl _, fun h => absurd h (Nat.lt_irrefl _), CutOk.nil, rfl, rfl, fun _ => rfl, Nat.le_refl _, fun k q h => by simp at h⟩, s04⟩
    (fun i σ H' _ I => I.sm _ _ ha) ?_ ?_
  · -- a turn
    rintro i x σ H5 Tt H6 hi ⟨⟨s, cs, pcs, rs, p, fp, vs1, vs2, v6, v7, v8, rfl, F, h1, r1, h2, r2, m1, m2, fpN, G, hsi, hsg, C, hrl, hst, hs0, hpl, hd⟩, sm⟩ nT s6 e6
    obtain ⟨pt, hpt, pa, rfl, hpa⟩ := hx.get' hi
    have hiN : i < pts.length := (List.getElem?_eq_some_iff.mp hpt).1
    have ex : px pts i = pt.1 := px_of hpt
    have ey : py pts i = pt.2 := py_of hpt
    have es : s + (i - s) = i := by omega
    have hpa6 : H6 pa = some (.tup [.int pt.1, .int pt.2]) := s6 _ _ (sm _ _ hpa)
    have t6 := same_tp s6
    have F6 := F.same s6
    have sm6 := sm.trans s6
    have bdi := PO.bd i hiN
    walk_at "go"
    refine ⟨F6.isI rfl, ?_⟩
    walk_at "go"
    refine ⟨p, pa, fp, e, _, _, i - s, rfl, F6, ?_, ascN_shift PO.asc (by omega), ?_, fun hF H7 s7 => ?_, fun i' j' r H7 nF hij hjn nT3 s7 e7 => ?_⟩
    · show H6 pa = some (.tup [.int (px pts (s + (i - s))), .int (py pts (s + (i - s)))])
      rw [es, ex, ey]
      exact hpa6
    · show Bd (px pts (s + (i - s)))
      rw [es]
      exact bdi
    all_goals walk_at "go"
    all_goals refine st_cut (fun σ' H' => CutI K H a e lp lr (px pts) (py pts) pts.length i (i + 1) σ' H' ∧ σ'[7]? = some (some (.ref pa)) ∧ H' pa = some (.tup [.int pt.1, .int pt.2]) ∧ ∃ s : Nat, σ'[4]? = some (some (.int (s : Int))) ∧ SegP e (px pts) (py pts) s (i + 1)) ?_ ?_
    · -- it fits
      walk_at "go"
      refine ite_f rfl ?_
      walk_at "go"
      have hseg : SegP e (px pts) (py pts) s (i + 1) := by
        have e1 : i + 1 - s = (i - s) + 1 := by omega
        show FitN _ _ _ (i + 1 - s)
        rw [e1]
        exact hF
      refine ⟨⟨⟨s, cs, pcs, rs, p, fp, vs1, vs2, _, _, _, rfl, F6.same s7, s7 _ _ (s6 _ _ h1), r1.mono fun _ _ h => h.mono (t6.trans (same_tp s7)), s7 _ _ (s6 _ _ h2), r2.mono fun _ _ h => h.mono (t6.trans (same_tp s7)), m1, m2, fpN, .take G hseg, hsi, fun _ => by omega, C, hrl, hst, hs0, hpl, hd⟩, sm6.trans s7⟩, rfl, s7 _ _ hpa6, s, rfl, hseg⟩
    · rintro σ' H' ⟨I, g7, gpa, s0, g4, seg⟩
      exact cut_add I g7 (by rw [ex, ey]; exact gpa) g4 seg PO.asc bdi hiN hlen fun _ J => J
    · -- it does not: a piece is closed
      walk_at "go"
      refine ite_t rfl ?_
      have si : s < i := by
        rcases Nat.lt_or_ge s i with h | h
        · exact h
        · exfalso
          have : i - s = 0 := by omega
          rw [this] at hjn
          exact absurd hjn (Nat.not_lt_zero _)
      have h17 := s7 _ _ (s6 _ _ h1)
      have h27 := s7 _ _ (s6 _ _ h2)
      walk_at "go"
      refine ⟨tyL h17, ?_⟩
      walk_at "go"
      refine ⟨(F6.same s7).isI rfl, ?_⟩
      walk_at "go"
      refine ⟨p, fp, e, _, _, i - s, rfl, F6.same s7, by omega, fun l rl H8 L s8 e8 => ?_⟩
      walk_at "go"
      refine newT fun w H9 nw s9 e9 => ?_
      have s79 : Same H7 H9 := s8.trans s9
      have t59 : Tp H5 H9 := t6.trans ((same_tp s7).trans (same_tp s79))
      have h19 := s79 _ _ h17
      have h29 := s79 _ _ h27
      have hvs1 : vs1.length = pcs.length := r1.len
      have hvs2 : vs2.length = rs.length := r2.len
      walk_at "go"
      refine r_app h19 (by omega) ?_
      walk_at "go"
      have sm9 : Same H H9 := (sm6.trans s7).trans s79
      have h2a : (upd H9 lp (.lst (vs1 ++ [.ref w]))) lr = some (.lst vs2) := by rw [upd_ne lplr.symm]; exact h29
      have ta : Tp H9 (upd H9 lp (.lst (vs1 ++ [.ref w]))) := Tp.mutL h19
      have e7a : (upd H9 lp (.lst (vs1 ++ [.ref w]))) r = some (.tup [.int (i' : Int), .int (j' : Int)]) := ta _ _ (s79 _ _ e7)
      refine ⟨tyL h2a, ?_⟩
      walk_at "go"
      refine newT fun w2 H10 nw2 s10 e10 => ?_
      have h210 := s10 _ _ h2a
      walk_at "go"
      refine r_app h210 (by omega) ?_
      walk_at "go"
      have h110 : H10 lp = some (.lst (vs1 ++ [.ref w])) := s10 _ _ upd_same
      have tb : Tp H10 (upd H10 lr (.lst (vs2 ++ [.ref w2]))) := Tp.mutL h210
      have sm10 : Same H H10 := (same_mut sm9 lpN).trans s10
      have sm11 : Same H (upd H10 lr (.lst (vs2 ++ [.ref w2]))) := same_mut sm10 lrN
      have t911 : Tp H9 (upd H10 lr (.lst (vs2 ++ [.ref w2]))) := ta.trans ((same_tp s10).trans tb)
      refine mkK fun p2 H12 n12 s12 hp2 => ?_
      have sm12 : Same H H12 := sm11.trans s12
      refine ⟨p2, e, rfl, hp2, he, fun H13 fp2 FA2 fr13 fp13 mp2 t13 => ⟨rfl, ?_⟩⟩
      walk_at "go"
      have p2N : H p2 = none := sm11.free n12
      have h1b : (upd H10 lr (.lst (vs2 ++ [.ref w2]))) lp = some (.lst (vs1 ++ [.ref w])) := by rw [upd_ne lplr]; exact h110
      have lpp2 : lp ≠ p2 := ne_of_none h1b n12
      have lrp2 : lr ≠ p2 := ne_of_none (H := upd H10 lr (.lst (vs2 ++ [.ref w2]))) upd_same n12
      have fpN2 : ∀ b, b ∈ fp2 → H b = none := fun b hb => by
        rcases fp13 b hb with rfl | h
        · exact p2N
        · exact sm12.free h
      have notin2 : ∀ l o, l ≠ p2 → H12 l = some o → l ∉ fp2 := fun l o h1 h2 hm => by
        rcases fp13 l hm with h | h
        · exact h1 h
        · rw [h2] at h
          cases h
      have h112 := s12 _ _ h1b
      have h212 : H12 lr = some (.lst (vs2 ++ [.ref w2])) := s12 _ _ upd_same
      have t913 : Tp H9 H13 := t911.trans ((same_tp s12).trans t13)
      have C2 := C.push (m' := (i : Int)) hrl (fun z => by rw [hs0 z]; rfl) (by omega) (by omega) (near_of s i l L)
      have hlen2 : rs.length + 1 = (pcs ++ [((s : Int), l)]).length := by rw [List.length_append, List.length_singleton, hrl]
      have C3 := C2.why (r := ((s : Int) + (i' : Int), (s : Int) + (j' : Int), (i : Int))) hlen2 (fun q hq => by
        rw [hrl, List.getElem?_append_right (Nat.le_refl _), Nat.sub_self] at hq
        cases Option.some.inj hq
        refine ⟨by show (s : Int) ≤ (s : Int) + (i' : Int); omega, by show (s : Int) + (i' : Int) < (s : Int) + (j' : Int); omega, by show (s : Int) + (j' : Int) < (i : Int); omega, Int.le_refl _, ?_⟩
        have a1 : ((s : Int) + (i' : Int)).toNat = s + i' := by omega
        have a2 : ((s : Int) + (j' : Int)).toNat = s + j' := by omega
        have a3 : ((i : Int)).toNat = i := by omega
        show ¬ T3 e (px pts ((s : Int) + (i' : Int)).toNat, py pts ((s : Int) + (i' : Int)).toNat) (px pts ((s : Int) + (j' : Int)).toNat, py pts ((s : Int) + (j' : Int)).toNat) (px pts (i : Int).toNat, py pts (i : Int).toNat)
        rw [a1, a2, a3]
        rw [es] at nT3
        exact nT3)
      have nseg : ¬ SegP e (px pts) (py pts) s (i + 1) := fun z => nF (by
        have e1 : i + 1 - s = (i - s) + 1 := by omega
        have z2 : FitN (fun k => px pts (s + k)) (loF (fun k => py pts (s + k)) e) (hiF (fun k => py pts (s + k)) e) (i + 1 - s) := z
        rw [e1] at z2
        exact z2)
      have pc : PcR H9 (.ref w) ((s : Int), l) := ⟨w, rl, rfl, e9, s9 _ _ e8⟩
      refine ⟨⟨⟨i, cs ++ [s], pcs ++ [((s : Int), l)], rs ++ [((s : Int) + (i' : Int), (s : Int) + (j' : Int), (i : Int))], p2, fp2, vs1 ++ [.ref w], vs2 ++ [.ref w2], _, _, _, rfl, by rw [Nat.sub_self]; exact FA2 _ _, fr13 _ _ h112 (fun z => lpp2 (List.mem_singleton.mp z)), (r1.mono fun _ _ h => h.mono (t59.trans t913)).app (pc.mono t913), fr13 _ _ h212 (fun z => lrp2 (List.mem_singleton.mp z)), (r2.mono fun _ _ h => h.mono (t59.trans t913)).app ⟨w2, rfl, ?_⟩, notin2 lp _ lpp2 h112, notin2 lr _ lrp2 h212, fpN2, .close G nseg, Nat.le_refl _, fun _ => Nat.lt_succ_self i, C3, ?_, ?_, ?_, ?_, ?_⟩, ?_⟩, rfl, ?_, i, rfl, ?_⟩
      · exact t13 _ _ (same_tp s12 _ _ (tb _ _ e10))
      · rw [List.length_append, List.length_append, hrl]
        rfl
      · rw [List.map_append, hst, intsOf_app]
        rfl
      · intro z
        exact absurd z (by simp)
      · rw [List.length_append, List.length_singleton]
        have h3 := C.asc
        have h4 : pcs.length ≤ s := starts_len C
        omega
      · intro k q hq
        by_cases hk : k < pcs.length
        · rw [List.getElem?_append_left hk] at hq
          exact hd k q hq
        · have hkl := (List.getElem?_eq_some_iff.mp hq).1
          rw [List.length_append, List.length_singleton] at hkl
          have ek : k = pcs.length := by omega
          subst ek
          rw [List.getElem?_append_right (Nat.le_refl _), Nat.sub_self] at hq
          cases Option.some.inj hq
          exact ⟨L.d1, L.d2, up_of s i l (Nat.le_of_lt hiN) L⟩
      · exact fr13.out sm12 fun b hb => by rw [List.mem_singleton.mp hb]; exact p2N
      · exact t913 _ _ (s79 _ _ (s7 _ _ hpa6))
      · have e1 : i + 1 - i = 1 := by omega
        show FitN _ _ _ (i + 1 - i)
        rw [e1]
        exact fitN_small (by decide) (ascN_shift PO.asc (by omega)) he
    · rintro σ' H' ⟨I, g7, gpa, s0, g4, seg⟩
      exact cut_add I g7 (by rw [ex, ey]; exact gpa) g4 seg PO.asc bdi hiN hlen fun _ J => J
  · -- behind the loop
    have hxl : xs.length = pts.length := hx.len
    rw [hxl]
    rintro σ H5 ⟨⟨s, cs, pcs, rs, p, fp, vs1, vs2, v6, v7, v8, rfl, F, h1, r1, h2, r2, m1, m2, fpN, G, hsi, hsg, C, hrl, hst, hs0, hpl, hd⟩, sm⟩
    have sN := hsg hN
    walk_at "go"
    refine st_cut (fun σ' H' => ∃ (vs1' : List V) (l : Tr), σ' = [some (.ref a), some (.int e), some (.ref lp), some (.ref lr), some (.int (s : Int)), some (.ref p), v6, v7, v8] ∧ Same H H' ∧ LineOk e (fun k => px pts (s + k)) (fun k => py pts (s + k)) (pts.length - s) l ∧
      H' lp = some (.lst vs1') ∧ LR (PcR H') vs1' (pcs ++ [((s : Int), l)]) ∧ H' lr = some (.lst vs2) ∧ LR (TrR H') vs2 rs) ?_ ?_
    · walk_at "go"
      refine x_truL (sm _ _ ha) ?_
      refine ite_t (by
        cases xs with
        | nil => rw [← hxl] at hN; exact absurd hN (by decide)
        | cons a r => rfl) ?_
      walk_at "go"
      refine ⟨tyL h1, ?_⟩
      walk_at "go"
      refine ⟨F.isI rfl, ?_⟩
      walk_at "go"
      refine ⟨p, fp, e, _, _, pts.length - s, rfl, F, by omega, fun l rl H8 L s8 e8 => ?_⟩
      walk_at "go"
      refine newT fun w H9 nw s9 e9 => ?_
      have s59 : Same H5 H9 := s8.trans s9
      have h19 := s59 _ _ h1
      have hvs1 : vs1.length = pcs.length := r1.len
      walk_at "go"
      refine r_app h19 (by omega) ?_
      walk_at "go"
      have ta : Tp H5 (upd H9 lp (.lst (vs1 ++ [.ref w]))) := (same_tp s59).trans (Tp.mutL h19)
      have pc : PcR (upd H9 lp (.lst (vs1 ++ [.ref w]))) (.ref w) ((s : Int), l) := ⟨w, rl, rfl, Tp.mutL h19 _ _ e9, Tp.mutL h19 _ _ (s9 _ _ e8)⟩
      refine ⟨vs1 ++ [.ref w], l, rfl, same_mut (sm.trans s59) lpN, L, upd_same, (r1.mono fun _ _ h => h.mono ta).app pc, ?_, r2.mono fun _ _ h => h.mono ta⟩
      rw [upd_ne lplr.symm]
      exact s59 _ _ h2
    · rintro σ' H6 ⟨vs1', l, rfl, sm6, L, h16, r16, h26, r26⟩
      walk_at "go"
      refine mkK fun c H7 n7 s7 hc => ?_
      refine ⟨c, lp, lr, vs1', vs2, rfl, hc, s7 _ _ h16, s7 _ _ h26, fun H8 a' b' dx e8 ea eb fr8 t8 => ⟨rfl, ?_⟩⟩
      have cN : H c = none := sm6.free n7
      have sm8 : Same H H8 := fr8.out (sm6.trans s7) fun b hb => by rw [List.mem_singleton.mp hb]; exact cN
      have t68 : Tp H6 H8 := (same_tp s7).trans t8
      refine k c H8 (pcs ++ [((s : Int), l)]) rs sm8 ⟨dx, a', b', e8, ⟨vs1', ea, r16.mono fun _ _ h => h.mono t68⟩, vs2, eb, r26.mono fun _ _ h => h.mono t68⟩ ⟨C.push hrl (fun z => by rw [hs0 z]; rfl) (by omega) (by omega) (near_of s pts.length l L), by rw [List.length_append, List.length_singleton, hrl], ⟨cs, s, G, ?_⟩, fun k q hq => ?_⟩
      · rw [List.map_append, hst, intsOf_app]
        rfl
      · by_cases hk : k < pcs.length
        · rw [List.getElem?_append_left hk] at hq
          exact hd k q hq
        · have hkl := (List.getElem?_eq_some_iff.mp hq).1
          rw [List.length_append, List.length_singleton] at hkl
          have ek : k = pcs.length := by omega
          subst ek
          rw [List.getElem?_append_right (Nat.le_refl _), Nat.sub_self] at hq
          cases Option.some.inj hq
          exact ⟨L.d1, L.d2, up_of s pts.length l (Nat.le_refl _) L⟩
end
/-! ### readings: are_starts, is_reason, judge -/
theorem cutV_nat (xs : List V) (s t : Nat) (h : s ≤ t) (ht : t ≤ xs.length) : cutV xs (some (s : Int)) (some (t : Int)) = (xs.drop s).take (t - s) := by
  unfold cutV
  rw [HT.sIx_nat, HT.sIx_nat, show min s xs.length = s by omega, show min t xs.length = t by omega]
theorem cutV_1 (xs : List V) : cutV xs (some 1) none = xs.drop 1 := by
  unfold cutV
  rw [show HT.sIx xs.length 0 (some 1) = min 1 xs.length from HT.sIx_nat xs.length 0 1, HT.sIx_none]
  cases xs with
  | nil => rfl
  | cons x r =>
    rw [show min 1 (x :: r).length = 1 by
      rw [List.length_cons]
      omega]
    show (List.take ((x :: r).length - 1) r) = r
    rw [List.length_cons, Nat.add_sub_cancel]
    exact List.take_length
theorem at_i {α : Type} {xs : List α} {i : Int} {v : α} (h0 : 0 ≤ i) (h : xs[i.toNat]? = some v) : atI xs i = some v := by
  have e : i = ((i.toNat : Nat) : Int) := by omega
  rw [e]
  exact atI_nat h
theorem map_int_get {ss : List Int} {k : Nat} {s : Int} (h : ss[k]? = some s) : (ss.map V.int)[k]? = some (.int s) := by
  rw [List.getElem?_map, h]
  rfl
theorem isEmpty_of_pos {α : Type} {xs : List α} (h : 0 < xs.length) : xs.isEmpty = false := by
  cases xs with
  | nil => exact absurd h (Nat.lt_irrefl 0)
  | cons a r => rfl
section
variable {K : PySem.W.Frag}
theorem rd_are_starts (vs : List V) (H : Hp) (Q : VK) (E : XK) (h : sp_are_starts K vs H Q E) : t_are_starts K ⟨fun _ H' => Q .non H', Q, fun _ _ => False, fun _ _ => False⟩ (start N_are_starts vs) H := by
  obtain ⟨a, ss, m, rfl, ha, ⟨h0, hasc, hin⟩, hlen, k⟩ := h
  have hpos := (List.getElem?_eq_some_iff.mp h0).1
  obtain ⟨z, hz⟩ : ∃ z, ss[ss.length - 1]? = some z := ⟨ss[ss.length - 1], List.getElem?_eq_getElem _⟩
  have hzm := (hin _ _ hz).2
  unfold t_are_starts
  walk_at "go"
  refine x_truL ha ?_
  refine ite_f (by rw [isEmpty_of_pos (by rw [List.length_map]; exact hpos)]; rfl) ?_
  walk_at "go"
  refine r_ixL ha (atI_nat (j := 0) (map_int_get h0)) ?_
  walk_at "go"
  refine ite_f rfl ?_
  walk_at "go"
  refine r_ixL ha (at_m (map_int_get hz) (by rw [List.length_map]; omega)) ?_
  walk_at "go"
  refine ite_f (decide_eq_false (by omega)) ?_
  walk_at "go"
  refine r_len ha ?_
  walk_at "go"
  refine i_rng2K ⟨by decide, by decide⟩ (by rw [List.length_map]; omega) ?_
  have e1 : (((ss.map V.int).length : Nat) - 1 : Int).toNat = ss.length - 1 := by rw [List.length_map]; omega
  rw [e1]
  refine lcR (ds := List.replicate (ss.length - 1) true) (fun _ v b => v = .bl b) (fun _ _ _ _ _ h => h) List.length_replicate (by rw [List.length_replicate]; omega) ?_ gm_name ?_
  · intro i d H' Q' s1 hi hd kq
    have ed : d = true := List.eq_of_mem_replicate (List.mem_of_getElem? hd)
    subst ed
    obtain ⟨x, hx⟩ : ∃ x, ss[i]? = some x := ⟨ss[i], List.getElem?_eq_getElem (by omega)⟩
    obtain ⟨y, hy⟩ : ∃ y, ss[i + 1]? = some y := ⟨ss[i + 1], List.getElem?_eq_getElem (by omega)⟩
    walk_at "go"
    refine ⟨rfl, ?_⟩
    walk_at "go"
    refine r_ixL (s1 _ _ ha) (at_of (j := i) (by omega) (map_int_get hx)) ?_
    walk_at "go"
    refine r_ixL (s1 _ _ ha) (at_of (j := i + 1) (by omega) (map_int_get hy)) ?_
    walk_at "go"
    exact kq _ _ (Same.refl _) (by rw [decide_eq_true (hasc i x y hx hy)])
  · intro D H1 ys nD s1 hD hy
    rw [lr_bl hy] at hD
    walk_at "go"
    refine r_all hD ?_
    rw [show (List.replicate (ss.length - 1) true).all id = true by
      rw [List.all_eq_true]
      intro x hx
      rw [List.eq_of_mem_replicate hx]
      rfl]
    exact k H1 s1
theorem rd_is_reason (vs : List V) (H : Hp) (Q : VK) (E : XK) (h : sp_is_reason K vs H Q E) : t_is_reason K ⟨fun _ H' => Q .non H', Q, fun _ _ => False, fun _ _ => False⟩ (start N_is_reason vs) H := by
  obtain ⟨a, r, e, s, t, pts, w, rfl, ⟨xs, ha, hx⟩, PO, hr, ⟨w1, w2, w3, w4, w5⟩, hs, ht, k⟩ := h
  have g : ∀ i : Int, 0 ≤ i → i < (pts.length : Int) → ∃ v, xs[i.toNat]? = some v ∧ PtR H v (px pts i.toNat, py pts i.toNat) := fun i h1 h2 => by
    have h3 : pts[i.toNat]? = some pts[i.toNat] := List.getElem?_eq_getElem (by omega)
    obtain ⟨v, hv, r⟩ := hx.get h3
    refine ⟨v, hv, ?_⟩
    rw [px_of h3, py_of h3]
    exact r
  obtain ⟨v1, g1, a1, rfl, r1⟩ := g w.1 (by omega) (by omega)
  obtain ⟨v2, g2, a2, rfl, r2⟩ := g w.2.1 (by omega) (by omega)
  obtain ⟨v3, g3, a3, rfl, r3⟩ := g w.2.2 (by omega) (by omega)
  unfold t_is_reason
  walk_at "go"
  refine x_chK (decide_eq_true w1) ?_
  walk_at "go"
  refine x_chK (decide_eq_true w2) ?_
  walk_at "go"
  refine x_chK (decide_eq_true w3) ?_
  walk_at "go"
  rw [decide_eq_true w4]
  refine ite_f rfl ?_
  walk_at "go"
  refine r_ixL ha (at_i (by omega) g1) ?_
  walk_at "go"
  refine r_ixL ha (at_i (by omega) g2) ?_
  walk_at "go"
  refine r_ixL ha (at_i (by omega) g3) ?_
  walk_at "go"
  refine ⟨a1, a2, a3, _, _, _, e, rfl, r1, r2, r3, PO.bd _ (by omega), PO.bd _ (by omega), PO.bd _ (by omega), fun z => absurd z w5, fun _ => ?_⟩
  walk_at "go"
  exact k
theorem rd_judge (T : TK K) (vs : List V) (H : Hp) (Q : VK) (E : XK) (h : sp_judge K vs H Q E) : t_judge K ⟨fun _ H' => Q .non H', Q, fun _ _ => False, fun _ _ => False⟩ (start N_judge vs) H := by
  obtain ⟨a, c, e, pts, pcs, rs, rfl, ⟨xs, ha, hx⟩, PO, ⟨dx, la, lb, hc, ⟨ps, hla, hps⟩, ⟨qs, hlb, hqs⟩⟩, ⟨C, hlen, hgr, hd⟩, k⟩ := h
  have hN := PO.pos
  have hNl := PO.len
  have hxl : xs.length = pts.length := hx.len
  have hpl := starts_len C
  have hpl2 : ps.length = pcs.length := hps.len
  have hql : qs.length = rs.length := hqs.len
  unfold t_judge
  walk_at "go"
  refine i_listK hla ?_
  refine lcL (ds := pcs.map (·.1)) (fun _ v n => v = .int n) (fun _ _ _ _ _ h => h) hla (by rw [List.length_map, hpl2]) (by rw [List.length_map]; omega) ?_ gm_tup2 ?_
  · intro i x n H' Q' s1 hi hn kq
    obtain ⟨q, hq, pa, pb, rfl, hpa, hpb⟩ := hps.get' hi
    rw [starts_get hq] at hn
    cases Option.some.inj hn
    walk_at "go"
    refine ⟨rfl, ?_⟩
    walk_at "go"
    exact kq _ _ (Same.refl _) rfl
  · intro D H1 ys nD s1 hD hy
    rw [lr_int hy] at hD
    have hDl : ((pcs.map (·.1)).map V.int).length = pcs.length := by rw [List.length_map, List.length_map]
    walk_at "go"
    refine x_truL (s1 _ _ ha) ?_
    refine ite_f (by rw [isEmpty_of_pos (by omega)]; rfl) ?_
    walk_at "go"
    refine r_len (s1 _ _ ha) ?_
    walk_at "go"
    refine ⟨D, pcs.map (·.1), _, rfl, hD, ⟨C.first' (by omega), C.asc', fun k s hs => by rw [hxl]; exact C.in' k s hs⟩, by rw [List.length_map]; omega, fun H2 s2 => ?_⟩
    have s02 := s1.trans s2
    walk_at "go"
    refine ite_f rfl ?_
    walk_at "go"
    refine r_len (s02 _ _ hlb) ?_
    walk_at "go"
    refine r_len (s2 _ _ hD) ?_
    walk_at "go"
    refine ite_f (by rw [decide_eq_true (show (qs.length : Int) = (((pcs.map (·.1)).map V.int).length : Int) - 1 by rw [hDl]; omega)]; rfl) ?_
    walk_at "go"
    refine r_slL (s2 _ _ hD) fun b H3 n3 s3 e3 => ?_
    rw [cutV_1] at e3
    walk_at "go"
    refine r_len (s3 _ _ (s02 _ _ ha)) ?_
    walk_at "go"
    refine newL fun b2 H4 n4 s4 e4 => ?_
    refine r_catL (s4 _ _ e3) e4 (by rw [List.length_drop, hDl, List.length_singleton]; omega) fun en H5 n5 s5 e5 => ?_
    have s05 : Same H H5 := ((s02.trans s3).trans s4).trans s5
    have hD5 : H5 D = some (.lst ((pcs.map (·.1)).map V.int)) := s5 _ _ (s4 _ _ (s3 _ _ (s2 _ _ hD)))
    have ee : ((pcs.map (·.1)).map V.int).drop 1 ++ [V.int (xs.length : Int)] = (((pcs.map (·.1)).drop 1) ++ [(pts.length : Int)]).map V.int := by
      rw [List.map_append, List.map_drop, hxl]
      rfl
    rw [ee] at e5
    walk_at "go"
    refine i_enumK (s05 _ _ hla) ?_
    refine forE (fun i σ H' => ∃ v5 v6 v7 v8 v9 : Option V, σ = [some (.ref a), some (.int e), some (.ref c), some (.ref D), some (.ref en), v5, v6, v7, v8, v9] ∧ Same H5 H') ⟨_, _, _, _, _, rfl, Same.refl _⟩ (fun i σ H' _ ⟨_, _, _, _, _, _, s⟩ => s _ _ (s05 _ _ hla)) ?_ ?_
    · rintro i x σ H6 Tt H7 hi ⟨v5, v6, v7, v8, v9, rfl, s6⟩ nT s7 eT
      obtain ⟨q, hq, pa, pb, rfl, hpa, hpb⟩ := hps.get' hi
      have s07 : Same H H7 := (s05.trans s6).trans s7
      have hik : i < pcs.length := by rw [← hpl2]; exact (List.getElem?_eq_some_iff.mp hi).1
      obtain ⟨q0, q1, q2⟩ := C.asc i q hq
      obtain ⟨d1, d2, _⟩ := hd i q hq
      have hpa7 := s07 _ _ hpa
      have hpb7 := s07 _ _ hpb
      walk_at "go"
      refine ite_f (decide_eq_false (by omega)) ?_
      walk_at "go"
      refine r_ixL (s7 _ _ (s6 _ _ e5)) (atI_nat (j := i) (map_int_get (ends_get i hik))) ?_
      walk_at "go"
      have es : q.1 = ((q.1.toNat : Nat) : Int) := by omega
      have et : nxt pcs (pts.length : Int) i = (((nxt pcs (pts.length : Int) i).toNat : Nat) : Int) := by omega
      refine r_slL (s07 _ _ ha) fun sl H8 n8 s8 e8 => ?_
      rw [es, et, cutV_nat xs _ _ (by omega) (by omega)] at e8
      walk_at "go"
      have hpb8 := s8 _ _ hpb7
      refine ⟨pb, sl, q.2, (pts.drop q.1.toNat).take ((nxt pcs (pts.length : Int) i).toNat - q.1.toNat), e, rfl, hpb8, ⟨_, e8, ((hx.mono fun _ _ h => h.mono ((same_tp s07).trans (same_tp s8))).drop _).take _⟩, d1, d2, fun j p hj => ?_, ?_⟩
      · have hj2 := hj
        rw [List.getElem?_take] at hj
        split at hj
        · rename_i hlt
          rw [List.getElem?_drop] at hj
          have hjn := (List.getElem?_eq_some_iff.mp hj).1
          have h1 := C.line i q hq (q.1.toNat + j) (by omega) (by omega)
          unfold LnP at h1
          rw [px_of hj, py_of hj] at h1
          have h2 := PO.bd _ hjn
          rw [px_of hj] at h2
          exact ⟨h2, h1⟩
        · cases hj
      · walk_at "go"
        refine ite_f rfl ?_
        walk_at "go"
        exact ⟨_, _, _, _, _, rfl, (s6.trans s7).trans s8⟩
    · rintro σ H6 ⟨v5, v6, v7, v8, v9, rfl, s6⟩
      have s06 := s05.trans s6
      walk_at "go"
      refine i_enumK (s06 _ _ hlb) ?_
      refine forE (fun i σ H' => ∃ v5 v6 v7 v8 v9 : Option V, σ = [some (.ref a), some (.int e), some (.ref c), some (.ref D), some (.ref en), v5, v6, v7, v8, v9] ∧ Same H6 H') ⟨_, _, _, _, _, rfl, Same.refl _⟩ (fun i σ H' _ ⟨_, _, _, _, _, _, s⟩ => s _ _ (s06 _ _ hlb)) ?_ ?_
      · rintro i x σ H7 Tt H8 hi ⟨v5, v6, v7, v8, v9, rfl, s7⟩ nT s8 eT
        obtain ⟨w, hw, wa, rfl, hwa⟩ := hqs.get' hi
        have s08 : Same H H8 := (s06.trans s7).trans s8
        have hir : i < rs.length := (List.getElem?_eq_some_iff.mp hw).1
        obtain ⟨q, hq⟩ : ∃ q, pcs[i]? = some q := ⟨pcs[i], List.getElem?_eq_getElem (by omega)⟩
        have hR := C.reason i w q hw hq
        obtain ⟨q0, q1, q2⟩ := C.asc i q hq
        have hn1 : (pcs.map (·.1))[i + 1]? = some (nxt pcs (pts.length : Int) i) := starts_nxt (by omega)
        have hn2 := C.in' _ _ hn1
        have hD8 := s8 _ _ (s7 _ _ (s6 _ _ hD5))
        walk_at "go"
        refine r_ixL hD8 (atI_nat (j := i) (map_int_get (starts_get hq))) ?_
        walk_at "go"
        refine r_ixL hD8 (at_of (j := i + 1) (by omega) (map_int_get hn1)) ?_
        walk_at "go"
        refine ⟨a, wa, e, q.1, _, pts, w, rfl, ⟨xs, s08 _ _ ha, hx.mono fun _ _ h => h.mono (same_tp s08)⟩, PO, s08 _ _ hwa, hR, q0, hn2.2, ?_⟩
        walk_at "go"
        refine ite_f rfl ?_
        walk_at "go"
        exact ⟨_, _, _, _, _, rfl, s7.trans s8⟩
      · rintro σ H7 ⟨v5, v6, v7, v8, v9, rfl, s7⟩
        walk_at "go"
        exact k H7 (s06.trans s7)
end
/-! ### readings: coded.py -/
theorem bsrch_step {st : List Int} {x : Int} {f low high : Nat} (h : low < high) (hf : high - low ≤ f) : bsrch st x f low high = if vOf st ((low + high + 1) / 2) ≤ x then bsrch st x f ((low + high + 1) / 2) high else bsrch st x f low ((low + high + 1) / 2 - 1) := by
  rw [bsrch_fuel (f := f) (g := f + 1) hf (by omega)]
  show (if low < high then _ else _) = _
  rw [if_pos h]
theorem lineOf_get {pcs : List Pc} {i : Int} {q : Pc} (h : pcs[lineIx pcs i]? = some q) : lineOf pcs i = q.2 := by
  unfold lineOf
  rw [h]
theorem frm_mut {fp : List Addr} {H H' : Hp} {l : Addr} {o : HO} (a : Frm fp H H') (h : H l = none) : Frm fp H (upd H' l o) := fun b u e n => by
  rw [upd_ne (ne_of_none e h)]
  exact a b u e n
theorem Frm.same {fp : List Addr} {H H' H2 : Hp} (a : Frm fp H H') (s : Same H' H2) : Frm fp H H2 := fun b u e n => s b u (a b u e n)
theorem r_lenum {K : PySem.W.Frag} {H : Hp} {Q : VK} {a : Addr} {ns : List Int} (h : H a = some (.lst (ns.map V.int))) (hl : ns.length ≤ 100000) (q : ∀ l H', H l = none → Same H H' → LsR PtR H' l (rows ns) → Q (.ref l) H') : LEnK K Q (.ref a) H := by
  refine ⟨a, _, rfl, SqL.of h, by rw [List.length_map]; exact hl, fun l H' nl s hy => q l H' nl s ?_⟩
  obtain ⟨ys, h1, h2, h3⟩ := hy
  refine ⟨ys, h1, by rw [h2, List.length_map, rows_len], fun i v d hv hd => ?_⟩
  have hi : i < ns.length := by
    have := (List.getElem?_eq_some_iff.mp hd).1
    rw [rows_len] at this
    exact this
  rw [rows_get hi] at hd
  cases Option.some.inj hd
  obtain ⟨T, hT, hT2⟩ := h3 i _ (map_int_get (vOf_get hi))
  rw [hv] at hT
  exact ⟨T, Option.some.inj hT, hT2⟩
section
variable {K : PySem.W.Frag}
theorem rd_Coded_line_at (T : TK K) (vs : List V) (H : Hp) (Q : VK) (E : XK) (h : sp_Coded_line_at K vs H Q E) : t_Coded_line_at K ⟨fun _ H' => Q .non H', Q, fun _ _ => False, fun _ _ => False⟩ (start N_Coded_line_at vs) H := by
  obtain ⟨p, pcs, cors, i, rfl, ⟨dx, lp, lc, hp, ⟨ps, hlp, hps⟩, hlc⟩, ⟨D0, D1, D2⟩, k⟩ := h
  have hpl : ps.length = pcs.length := hps.len
  unfold t_Coded_line_at
  walk_at "go"
  refine r_len hlp ?_
  walk_at "go"
  refine s_while (fun m σ H' => ∃ (low high : Nat) (v4 : Option V), σ = [some (.ref p), some (.int i), some (.int (low : Int)), some (.int (high : Int)), v4] ∧ H' = H ∧ low ≤ high ∧ high < pcs.length ∧ m = high - low ∧ bsrch (pcs.map (·.1)) i pcs.length low high = lineIx pcs i) (pcs.length - 1)
    ⟨0, pcs.length - 1, none, ?_, rfl, by omega, by omega, by omega, rfl⟩ ?_
  · have e1 : (ps.length : Int) - 1 = ((pcs.length - 1 : Nat) : Int) := by omega
    rw [e1]
    rfl
  rintro m σ H' ⟨low, high, v4, rfl, rfl, hlh, hh, rfl, hb⟩
  walk_at "go"
  refine whD (fun hlt => ?_) (fun hge => ?_)
  · have hlt' : low < high := by omega
    walk_at "go"
    refine r_fdiv ⟨by decide, by decide⟩ ?_
    have em : ((low : Int) + (high : Int) + 1) / 2 = (((low + high + 1) / 2 : Nat) : Int) := by omega
    rw [em]
    have hml : (low + high + 1) / 2 < pcs.length := by omega
    obtain ⟨q, hq⟩ : ∃ q, pcs[(low + high + 1) / 2]? = some q := ⟨pcs[(low + high + 1) / 2], List.getElem?_eq_getElem hml⟩
    obtain ⟨v, hv, pa, pb, rfl, hpa, hpb⟩ := hps.get hq
    have hvo : vOf (pcs.map (·.1)) ((low + high + 1) / 2) = q.1 := vOf_of (starts_get hq)
    rw [bsrch_step hlt' (by omega), hvo] at hb
    walk_at "go"
    refine r_ixL hlp (atI_nat hv) ?_
    walk_at "go"
    refine ite_d (fun hle => ?_) (fun hle => ?_)
    · rw [if_pos hle] at hb
      walk_at "go"
      exact ⟨high - (low + high + 1) / 2, by omega, _, _, _, rfl, rfl, by omega, hh, rfl, hb⟩
    · rw [if_neg hle] at hb
      walk_at "go"
      have e1 : (((low + high + 1) / 2 : Nat) : Int) - 1 = (((low + high + 1) / 2 - 1 : Nat) : Int) := by omega
      rw [e1]
      exact ⟨(low + high + 1) / 2 - 1 - low, by omega, low, (low + high + 1) / 2 - 1, _, rfl, rfl, by omega, by omega, rfl, hb⟩
  · have e : low = high := by omega
    subst e
    rw [bsrch_end (Nat.le_refl _)] at hb
    obtain ⟨q, hq⟩ : ∃ q, pcs[low]? = some q := ⟨pcs[low], List.getElem?_eq_getElem hh⟩
    obtain ⟨v, hv, pa, pb, rfl, hpa, hpb⟩ := hps.get hq
    walk_at "go"
    refine r_ixL hlp (atI_nat hv) ?_
    walk_at "go"
    refine k pb ?_
    rw [lineOf_get (q := q) (by rw [← hb]; exact hq)]
    exact hpb
theorem line_d {pcs : List Pc} {i : Int} (D : DOk pcs) : 1 ≤ (lineOf pcs i).2.2 ∧ (lineOf pcs i).2.2 ≤ 2000000 := by
  obtain ⟨q, hq⟩ : ∃ q, pcs[lineIx pcs i]? = some q := ⟨_, List.getElem?_eq_getElem (lineIx_lt D.1)⟩
  rw [lineOf_get hq]
  exact D.2.2 _ _ hq
theorem rd_Coded_value_at (T : TK K) (vs : List V) (H : Hp) (Q : VK) (E : XK) (h : sp_Coded_value_at K vs H Q E) : t_Coded_value_at K ⟨fun _ H' => Q .non H', Q, fun _ _ => False, fun _ _ => False⟩ (start N_Coded_value_at vs) H := by
  obtain ⟨p, pcs, cors, i, c, rfl, CA, D, hc, hi, k⟩ := h
  obtain ⟨dx, lp, lc, hp, hps, hlc⟩ := id CA
  unfold IntsAt at hlc
  have hd := line_d (i := (i : Int)) D
  unfold t_Coded_value_at
  walk_at "go"
  refine ⟨⟨p, dx, _, rfl, hp, rfl⟩, ?_⟩
  walk_at "go"
  refine ⟨p, pcs, cors, i, rfl, CA, D, fun b hb => ?_⟩
  walk_at "go"
  refine ⟨b, _, _, _, _, rfl, hb, by omega, hd.2, ⟨by omega, by omega⟩, ?_⟩
  walk_at "go"
  refine r_ixL hlc (atI_nat (map_int_get hc)) ?_
  walk_at "go"
  exact k
theorem rd_Coded_decoded (T : TK K) (vs : List V) (H : Hp) (Q : VK) (E : XK) (h : sp_Coded_decoded K vs H Q E) : t_Coded_decoded K ⟨fun _ H' => Q .non H', Q, fun _ _ => False, fun _ _ => False⟩ (start N_Coded_decoded vs) H := by
  obtain ⟨p, pcs, cors, ns, rfl, CA, D, ⟨cl, co⟩, hn, k⟩ := h
  obtain ⟨dx, lp, lc, hp, hps, hlc⟩ := id CA
  unfold IntsAt at hlc
  unfold t_Coded_decoded
  walk_at "go"
  refine r_len hlc ?_
  walk_at "go"
  rw [List.length_map]
  refine i_rng1K (by omega) ?_
  refine lcR (ds := ns) (fun _ v n => v = .int n) (fun _ _ _ _ _ h => h) cl.symm (by omega) ?_ gm_name ?_
  · intro i z H' Q' s1 hi hz kq
    obtain ⟨c, hc⟩ : ∃ c, cors[i]? = some c := ⟨cors[i], List.getElem?_eq_getElem hi⟩
    walk_at "go"
    refine ⟨rfl, ?_⟩
    walk_at "go"
    refine ⟨⟨p, dx, _, rfl, s1 _ _ hp, rfl⟩, ?_⟩
    walk_at "go"
    rw [Int.zero_add]
    refine ⟨p, pcs, cors, i, c, rfl, ⟨dx, lp, lc, s1 _ _ hp, hps.mono s1 fun _ _ h => h.mono (same_tp s1), s1 _ _ hlc⟩, D, hc, by omega, ?_⟩
    refine kq _ _ (Same.refl _) ?_
    rw [co i c z hc hz]
    congr 1
    omega
  · intro D1 H1 ys nD s1 hD hy
    rw [lr_int hy] at hD
    walk_at "go"
    exact k D1 H1 s1 hD
theorem rd_Coded_init (T : TK K) (vs : List V) (H : Hp) (Q : VK) (E : XK) (h : sp_Coded_init K vs H Q E) : t_Coded_init K ⟨fun _ H' => Q .non H', Q, fun _ _ => False, fun _ _ => False⟩ (start N_Coded_init vs) H := by
  obtain ⟨p, a, e, ns, rfl, ⟨dx, hp⟩, ha, hn0, hn1, he, k⟩ := h
  unfold IntsAt at ha
  unfold t_Coded_init
  walk_at "go"
  refine r_lenum ha (by omega) fun l H1 n1 s1 hl => ?_
  walk_at "go"
  refine ⟨l, e, rows ns, rfl, hl, rows_ok hn0 hn1, he, fun c H2 pcs rs s2 ⟨dc, pa, pb, hc, ⟨ps, hpa, hps⟩, _⟩ R => ?_⟩
  have s02 : Same H H2 := s1.trans s2
  have hp2 := s02 _ _ hp
  walk_at "go"
  have tA : Tp H2 (upd H2 p (.ins (He.ga K "Coded") dx (putF "pieces" (.ref pa) []))) := Tp.mutI hp2
  refine newL fun lc H3 n3 s3 e3 => ?_
  have hp3 := s3 p _ upd_same
  walk_at "go"
  have tB : Tp H3 (upd H3 p (.ins (He.ga K "Coded") dx (putF "corrections" (.ref lc) (putF "pieces" (.ref pa) [])))) := Tp.mutI hp3
  generalize hH4 : upd H3 p (.ins (He.ga K "Coded") dx (putF "corrections" (.ref lc) (putF "pieces" (.ref pa) []))) = H4 at tB
  have hp4 : H4 p = some (.ins (He.ga K "Coded") dx (flds2 "pieces" "corrections" pa lc)) := by rw [← hH4]; exact upd_same
  have keep : ∀ b o, b ≠ p → H2 b = some o → H4 b = some o := fun b o hb hbo => by
    rw [← hH4, upd_ne hb]
    exact s3 _ _ (by rw [upd_ne hb]; exact hbo)
  have fr4 : Frm [p] H H4 := fun b o hb hm => keep b o (fun z => hm (by rw [z]; exact List.mem_singleton.mpr rfl)) (s02 _ _ hb)
  have t24 : Tp H2 H4 := (tA.trans (same_tp s3)).trans tB
  have pap : pa ≠ p := ne_of hpa hp2 (by intro z; cases z)
  have hpa4 := keep pa _ pap hpa
  have lcp : lc ≠ p := fun z => by rw [z, upd_same] at n3; cases n3
  have hlc4 : H4 lc = some (.lst []) := by rw [← hH4, upd_ne lcp]; exact e3
  have lcN : H lc = none := by
    have h2 : H2 lc = none := by rw [upd_ne lcp] at n3; exact n3
    exact s02.free h2
  have hap : a ≠ p := ne_of ha hp (by intro z; cases z)
  have lcpa : lc ≠ pa := fun z => by
    rw [z, upd_ne pap, hpa] at n3
    cases n3
  have hd : ∀ (k : Nat) (q : Pc), pcs[k]? = some q → 1 ≤ q.2.2.2 ∧ q.2.2.2 ≤ 2000000 := fun j q hq => ⟨(R.d j q hq).1, (R.d j q hq).2.1⟩
  have hpl : pcs.length ≤ 10000 := by
    have := starts_len R.ok
    rw [rows_len] at this
    omega
  have D : DOk pcs := ⟨by have := R.len; omega, hpl, hd⟩
  walk_at "go"
  refine i_enumK (fr4 _ _ ha (by simpa using hap)) ?_
  refine forE (fun i σ H' => ∃ (v3 v4 : Option V) (cors : List Int), σ = [some (.ref p), some (.ref a), some (.int e), v3, v4] ∧ H' p = some (.ins (He.ga K "Coded") dx (flds2 "pieces" "corrections" pa lc)) ∧ H' pa = some (.lst ps) ∧ LR (PcR H') ps pcs ∧ IntsAt H' lc cors ∧ cors.length = i ∧ (∀ (j : Nat) (c z : Int), cors[j]? = some c → ns[j]? = some z → c = z - floorOf pcs (j : Int)) ∧ Frm [p] H H')
    ⟨none, none, [], rfl, hp4, hpa4, hps.mono fun _ _ h => h.mono t24, hlc4, rfl, fun j c z h => by simp at h, fr4⟩ (fun i σ H' _ ⟨_, _, _, _, _, _, _, _, _, _, fr⟩ => fr _ _ ha (by simpa using hap)) ?_ ?_
  · rintro i x σ H5 Tt H6 hi ⟨v3, v4, cors, rfl, hp5, hpa5, hps5, hlc5, hcl, hcor, fr5⟩ nT s6 eT
    obtain ⟨z, hz, rfl⟩ : ∃ z, ns[i]? = some z ∧ x = .int z := by
      rw [List.getElem?_map] at hi
      cases h1 : ns[i]? with
      | none => rw [h1] at hi; cases hi
      | some z => rw [h1] at hi; exact ⟨z, rfl, (Option.some.inj hi).symm⟩
    have hin : i < ns.length := (List.getElem?_eq_some_iff.mp hz).1
    have hlc6 := s6 _ _ hlc5
    have ld := line_d (i := (i : Int)) D
    walk_at "go"
    refine ⟨tyL hlc6, ?_⟩
    walk_at "go"
    refine ⟨⟨p, dx, _, rfl, s6 _ _ hp5, rfl⟩, ?_⟩
    walk_at "go"
    refine ⟨p, pcs, cors, i, rfl, ⟨dx, pa, lc, s6 _ _ hp5, ⟨ps, s6 _ _ hpa5, hps5.mono fun _ _ h => h.mono (same_tp s6)⟩, s6 _ _ hlc5⟩, D, fun b hb => ?_⟩
    walk_at "go"
    refine ⟨b, _, _, _, _, rfl, hb, by omega, ld.2, ⟨by omega, by omega⟩, ?_⟩
    walk_at "go"
    refine r_app hlc6 (by rw [List.length_map]; omega) ?_
    have tC : Tp H6 (upd H6 lc (.lst (cors.map V.int ++ [.int (z - floorOf pcs (i : Int))]))) := Tp.mutL hlc6
    have lcp' : p ≠ lc := lcp.symm
    walk_at "go"
    refine ⟨_, _, cors ++ [z - floorOf pcs (i : Int)], rfl, ?_, ?_, hps5.mono fun _ _ h => h.mono ((same_tp s6).trans tC), ?_, ?_, ?_, frm_mut (fr5.same s6) lcN⟩
    · rw [upd_ne lcp']
      exact s6 _ _ hp5
    · rw [upd_ne lcpa.symm]
      exact s6 _ _ hpa5
    · unfold IntsAt
      rw [List.map_append]
      exact upd_same
    · rw [List.length_append, hcl]
      rfl
    · intro j c z2 hc hz2
      by_cases hj : j < cors.length
      · rw [List.getElem?_append_left hj] at hc
        exact hcor j c z2 hc hz2
      · have hj2 := (List.getElem?_eq_some_iff.mp hc).1
        rw [List.length_append, List.length_singleton] at hj2
        have ej : j = i := by omega
        subst ej
        rw [List.getElem?_append_right (by omega), hcl, Nat.sub_self] at hc
        cases Option.some.inj hc
        rw [hz] at hz2
        cases Option.some.inj hz2
        rfl
  · rintro σ H5 ⟨v3, v4, cors, rfl, hp5, hpa5, hps5, hlc5, hcl, hcor, fr5⟩
    refine k H5 pcs cors ⟨dx, pa, lc, hp5, ⟨ps, hpa5, hps5⟩, hlc5⟩ D ⟨by rw [hcl, List.length_map], hcor⟩ fr5
end
/-! ### readings: flat.py -/
/-- how far the flat cutting has come: g values seen, the piece that is open begins at s -/
structure FlS (H0 : Hp) (lp lr : Addr) (e : Int) (Y : Nat → Int) (g s : Nat) (H' : Hp) : Prop where
  ex : ∃ (cs : List Nat) (pcs rs : List Pt) (vs1 vs2 : List V), H' lp = some (.lst vs1) ∧ LR (PtR H') vs1 pcs ∧ H' lr = some (.lst vs2) ∧ LR (PtR H') vs2 rs ∧ Gr (SegF e Y) g cs s ∧
    CutOk (LnF e Y) (RsF e Y) (s : Int) pcs rs ∧ rs.length = pcs.length ∧ (pcs = [] → s = 0) ∧ pcs.map (·.1) = intsOf cs ∧ pcs.length ≤ s
  sm : Same H0 H'
/-- the least and the greatest of the open piece -/
structure LoHi (e : Int) (Y : Nat → Int) (s i lo hi : Nat) : Prop where
  lo1 : s ≤ lo
  lo2 : lo < i
  hi1 : s ≤ hi
  hi2 : hi < i
  all : ∀ j, s ≤ j → j < i → Y lo ≤ Y j ∧ Y j ≤ Y hi
  near : Y hi - Y lo ≤ 2 * e
theorem LoHi.ln {e : Int} {Y : Nat → Int} {s i lo hi : Nat} (B : LoHi e Y s i lo hi) (j : Nat) (h1 : (s : Int) ≤ (j : Int)) (h2 : (j : Int) < (i : Int)) : LnF e Y (Y hi - e) j := by
  obtain ⟨a, b⟩ := B.all j (by omega) (by omega)
  have := B.near
  unfold LnF
  omega
section
variable {K : PySem.W.Frag}
theorem ix_v {H : Hp} {Q : VK} {a : Addr} {ns : List Int} {i : Nat} (ha : H a = some (.lst (ns.map V.int))) (hi : i < ns.length) (q : Q (.int (vOf ns i)) H) : rIxL K (.ref a) (.int (i : Int)) H Q :=
  r_ixL ha (atI_nat (map_int_get (vOf_get hi))) q
theorem rd_flat_cut (T : TK K) (vs : List V) (H : Hp) (Q : VK) (E : XK) (h : sp_flat_cut K vs H Q E) : t_flat_cut K ⟨fun _ H' => Q .non H', Q, fun _ _ => False, fun _ _ => False⟩ (start N_flat_cut vs) H := by
  obtain ⟨a, e, ns, rfl, ha, hn0, hn1, he, k⟩ := h
  unfold IntsAt at ha
  generalize hY : vOf ns = Y at k
  have ixY : ∀ {H' : Hp} {Q' : VK} {i : Nat}, Same H H' → i < ns.length → Q' (.int (Y i)) H' → rIxL K (.ref a) (.int (i : Int)) H' Q' := fun s hi q => ix_v (s _ _ ha) hi (by rw [hY]; exact q)
  unfold t_flat_cut
  walk_at "go"
  refine newL fun lp H1 n1 s1 e1 => ?_
  walk_at "go"
  refine newL fun lr H2 n2 s2 e2 => ?_
  walk_at "go"
  have s02 : Same H H2 := s1.trans s2
  have lrN : H lr = none := s1.free n2
  have lplr : lp ≠ lr := ne_of_none e1 n2
  refine i_enumK (s02 _ _ ha) ?_
  refine forE (fun i σ H' => ∃ (s lo hi : Nat) (v7 v8 v9 : Option V), σ = [some (.ref a), some (.int e), some (.ref lp), some (.ref lr), some (.int (s : Int)), some (.int (lo : Int)), some (.int (hi : Int)), v7, v8, v9] ∧ FlS H lp lr e Y i s H' ∧ (0 < i → LoHi e Y s i lo hi))
    ⟨0, 0, 0, none, none, none, rfl, ⟨⟨[], [], [], [], [], s2 _ _ e1, LR.nil, e2, LR.nil, .zero, CutOk.nil, rfl, fun _ => rfl, rfl, Nat.le_refl _⟩, s02⟩, fun h => absurd h (Nat.lt_irrefl _)⟩
    (fun i σ H' _ ⟨_, _, _, _, _, _, _, F, _⟩ => F.sm _ _ ha) ?_ ?_
  · rintro i x σ H5 Tt H6 hx ⟨s, lo, hi, v7, v8, v9, rfl, F, B⟩ nT s6 e6
    have hil : i < ns.length := by have := (List.getElem?_eq_some_iff.mp hx).1; rw [List.length_map] at this; exact this
    have ex : x = .int (Y i) := by
      rw [map_int_get (vOf_get hil), hY] at hx
      exact (Option.some.inj hx).symm
    subst ex
    have sm6 := F.sm.trans s6
    have F6 : FlS H lp lr e Y i s H6 := by
      obtain ⟨⟨cs, pcs, rs, vs1, vs2, h1, r1, h2, r2, q⟩, sm⟩ := F
      exact ⟨⟨cs, pcs, rs, vs1, vs2, s6 _ _ h1, r1.mono fun _ _ h => h.mono (same_tp s6), s6 _ _ h2, r2.mono fun _ _ h => h.mono (same_tp s6), q⟩, sm.trans s6⟩
    have hsi : s ≤ i := by
      obtain ⟨cs, pcs, rs, vs1, vs2, h1, r1, h2, r2, G, _⟩ := F.ex
      exact G.le
    have hs0 : i = 0 → s = 0 := fun z => by omega
    have hsp : 0 < i → s < i := fun z => by
      have := B z
      have := this.lo1
      have := (B z).lo2
      omega
    clear F
    walk_at "go"
    -- the first look
    refine st_cut (fun σ' H' => H' = H6 ∧ ∃ w : V, σ' = [some (.ref a), some (.int e), some (.ref lp), some (.ref lr), some (.int (s : Int)), some (.int (lo : Int)), some (.int (hi : Int)), some (.int (i : Int)), some (.int (Y i)), some w] ∧
      ((w = .non ∧ (0 < i → Y i - Y lo ≤ 2 * e)) ∨ (w = .int (lo : Int) ∧ 0 < i ∧ 2 * e < Y i - Y lo))) ?_ ?_
    · walk_at "go"
      refine ite_d (fun h1 => ?_) (fun h1 => ?_)
      · walk_at "go"
        have hi0 : 0 < i := by omega
        refine ixY sm6 (by have := (B hi0).lo2; omega) ?_
        walk_at "go"
        refine ite_d (fun h2 => ?_) (fun h2 => ?_)
        · walk_at "go"
          exact ⟨rfl, _, rfl, .inr ⟨rfl, hi0, h2⟩⟩
        · walk_at "go"
          exact ⟨rfl, _, rfl, .inl ⟨rfl, fun _ => by omega⟩⟩
      · refine ite_f rfl ?_
        walk_at "go"
        exact ⟨rfl, _, rfl, .inl ⟨rfl, fun z => by have := hsp z; omega⟩⟩
    rintro σ1 H' ⟨rfl, w1, rfl, W1⟩
    -- the second look
    refine st_cut (fun σ' H2' => H2' = H' ∧ ∃ w : V, σ' = [some (.ref a), some (.int e), some (.ref lp), some (.ref lr), some (.int (s : Int)), some (.int (lo : Int)), some (.int (hi : Int)), some (.int (i : Int)), some (.int (Y i)), some w] ∧
      ((w = .non ∧ SegF e Y s (i + 1)) ∨ ∃ f : Nat, w = .int (f : Int) ∧ s ≤ f ∧ f < i ∧ RsF e Y ((f : Int), (i : Int)) s i)) ?_ ?_
    · have early : 0 < i → w1 = .int (lo : Int) ∧ 2 * e < Y i - Y lo → (∃ f : Nat, w1 = .int (f : Int) ∧ s ≤ f ∧ f < i ∧ RsF e Y ((f : Int), (i : Int)) s i) := fun z ⟨h1, h2⟩ => by
        have b := B z
        refine ⟨lo, h1, b.lo1, b.lo2, by have := b.lo1; show (s : Int) ≤ (lo : Int); omega, by have := b.lo2; show (lo : Int) < (i : Int); omega, Int.le_refl _, ?_⟩
        show 2 * e < ((Y (i : Int).toNat - Y (lo : Int).toNat).natAbs : Int)
        rw [Int.toNat_natCast, Int.toNat_natCast]
        omega
      walk_at "go"
      refine ite_d (fun h1 => ?_) (fun h1 => ?_)
      · walk_at "go"
        have hi0 : 0 < i := by omega
        have b := B hi0
        have bl1 := b.hi1
        have bl2 := b.hi2
        refine ixY sm6 (by omega) ?_
        walk_at "go"
        refine ite_d (fun h2 => ?_) (fun h2 => ?_)
        · walk_at "go"
          refine ⟨rfl, _, rfl, .inr ⟨hi, rfl, bl1, bl2, by show (s : Int) ≤ (hi : Int); omega, by show (hi : Int) < (i : Int); omega, Int.le_refl _, ?_⟩⟩
          show 2 * e < ((Y (i : Int).toNat - Y (hi : Int).toNat).natAbs : Int)
          rw [Int.toNat_natCast, Int.toNat_natCast]
          omega
        · walk_at "go"
          refine ⟨rfl, _, rfl, ?_⟩
          rcases W1 with ⟨w, q⟩ | ⟨w, q, q2⟩
          · refine .inl ⟨w, fun c d hc hc2 hd hd2 => ?_⟩
            have q := q hi0
            have nr := b.near
            have vc : c = i ∨ (Y lo ≤ Y c ∧ Y c ≤ Y hi) := by
              by_cases z : c = i
              · exact .inl z
              · exact .inr (b.all c hc (by omega))
            have vd : d = i ∨ (Y lo ≤ Y d ∧ Y d ≤ Y hi) := by
              by_cases z : d = i
              · exact .inl z
              · exact .inr (b.all d hd (by omega))
            rcases vc with rfl | vc <;> rcases vd with rfl | vd <;> omega
          · exact .inr (early hi0 ⟨w, q2⟩)
      · refine ite_f rfl ?_
        walk_at "go"
        have hi0 : i = 0 := by
          rcases Nat.eq_zero_or_pos i with z | z
          · exact z
          · have := hsp z
            omega
        refine ⟨rfl, _, rfl, ?_⟩
        rcases W1 with ⟨w, q⟩ | ⟨w, q, q2⟩
        · refine .inl ⟨w, fun c d hc hc2 hd hd2 => ?_⟩
          have e1 : c = d := by omega
          rw [e1]
          omega
        · omega
    rintro σ2 H3 ⟨rfl, w2, rfl, W2⟩
    clear W1 w1
    -- a piece may close
    refine st_cut (fun σ' H' => ∃ (s' : Nat) (w : Option V), σ' = [some (.ref a), some (.int e), some (.ref lp), some (.ref lr), some (.int (s' : Int)), some (.int (lo : Int)), some (.int (hi : Int)), some (.int (i : Int)), some (.int (Y i)), w] ∧ FlS H lp lr e Y (i + 1) s' H' ∧ s' ≤ i ∧ (s' < i → LoHi e Y s' i lo hi ∧ SegF e Y s' (i + 1))) ?_ ?_
    · rcases W2 with ⟨rfl, sg⟩ | ⟨f, rfl, f1, f2, R⟩
      · walk_at "go"
        refine ite_f rfl ?_
        walk_at "go"
        refine ⟨s, _, rfl, ?_, hsi, fun z => ⟨B (by omega), sg⟩⟩
        obtain ⟨⟨cs, pcs, rs, vs1, vs2, h1, r1, h2, r2, G, q⟩, sm⟩ := F6
        exact ⟨⟨cs, pcs, rs, vs1, vs2, h1, r1, h2, r2, .take G sg, q⟩, sm⟩
      · have b := B (by omega)
        have bl2 := b.hi2
        walk_at "go"
        refine ite_t rfl ?_
        walk_at "go"
        obtain ⟨⟨cs, pcs, rs, vs1, vs2, h1, r1, h2, r2, G, C, hrl, h0, hst, hpl⟩, sm⟩ := F6
        have hvs1 : vs1.length = pcs.length := r1.len
        have hvs2 : vs2.length = rs.length := r2.len
        refine ⟨tyL h1, ?_⟩
        walk_at "go"
        refine ixY sm6 (by omega) ?_
        walk_at "go"
        refine newT fun t1 H7 n7 s7 e7 => ?_
        walk_at "go"
        refine r_app (s7 _ _ h1) (by omega) ?_
        have ta : Tp H7 (upd H7 lp (.lst (vs1 ++ [.ref t1]))) := Tp.mutL (s7 _ _ h1)
        have h27 : upd H7 lp (.lst (vs1 ++ [.ref t1])) lr = some (.lst vs2) := by rw [upd_ne lplr.symm]; exact s7 _ _ h2
        walk_at "go"
        refine ⟨tyL h27, ?_⟩
        walk_at "go"
        refine newT fun t2 H8 n8 s8 e8 => ?_
        walk_at "go"
        have h28 := s8 _ _ h27
        refine r_app h28 (by omega) ?_
        have tb : Tp H8 (upd H8 lr (.lst (vs2 ++ [.ref t2]))) := Tp.mutL h28
        walk_at "go"
        have t79 : Tp H7 (upd H8 lr (.lst (vs2 ++ [.ref t2]))) := (ta.trans (same_tp s8)).trans tb
        have C2 := C.push (l := Y hi - e) (m' := (i : Int)) hrl (fun z => by rw [h0 z]; rfl) (by omega) (by omega) b.ln
        have hl2 : rs.length + 1 = (pcs ++ [((s : Int), Y hi - e)]).length := by rw [List.length_append, List.length_singleton, hrl]
        have C3 := C2.why (r := ((f : Int), (i : Int))) hl2 (fun q hq => by
          rw [hrl, List.getElem?_append_right (Nat.le_refl _), Nat.sub_self] at hq
          cases Option.some.inj hq
          exact R)
        refine ⟨i, _, rfl, ⟨⟨cs ++ [s], _, _, vs1 ++ [.ref t1], vs2 ++ [.ref t2], ?_, (r1.mono fun _ _ h => h.mono ((same_tp s7).trans t79)).app ⟨t1, rfl, t79 _ _ e7⟩, upd_same, (r2.mono fun _ _ h => h.mono ((same_tp s7).trans t79)).app ⟨t2, rfl, tb _ _ e8⟩, .close G ?_, C3, ?_, ?_, ?_, ?_⟩, same_mut ((same_mut (sm.trans s7) n1).trans s8) lrN⟩, Nat.le_refl _, fun z => absurd z (Nat.lt_irrefl _)⟩
        · rw [upd_ne lplr]
          exact s8 _ _ upd_same
        · intro sg
          obtain ⟨_, _, _, q⟩ := R
          dsimp only at q
          rw [Int.toNat_natCast, Int.toNat_natCast] at q
          have q1 := sg i f (by omega) (by omega) f1 (by omega)
          have q2 := sg f i f1 (by omega) (by omega) (by omega)
          omega
        · rw [List.length_append, List.length_append, hrl]
          rfl
        · intro z
          exact absurd z (by simp)
        · rw [List.map_append, hst, intsOf_app]
          rfl
        · rw [List.length_append, List.length_singleton]
          omega
    rintro σ3 H4 ⟨s', w, rfl, F7, hsi', B7⟩
    clear W2 F6 B
    have sm7 := F7.sm
    -- the least
    refine st_cut (fun σ' H' => H' = H4 ∧ ∃ lo' : Nat, σ' = [some (.ref a), some (.int e), some (.ref lp), some (.ref lr), some (.int (s' : Int)), some (.int (lo' : Int)), some (.int (hi : Int)), some (.int (i : Int)), some (.int (Y i)), w] ∧ s' ≤ lo' ∧ lo' < i + 1 ∧ ∀ j, s' ≤ j → j < i + 1 → Y lo' ≤ Y j) ?_ ?_
    · walk_at "go"
      refine ite_d (fun h1 => ?_) (fun h1 => ?_)
      · refine ite_t rfl ?_
        walk_at "go"
        refine ⟨rfl, i, rfl, hsi', by omega, fun j h2 h3 => ?_⟩
        have e1 : j = i := by omega
        rw [e1]
        exact Int.le_refl _
      · have b := (B7 (by omega)).1
        have b1 := b.lo1
        have b2 := b.lo2
        walk_at "go"
        refine ixY sm7 (by omega) ?_
        walk_at "go"
        refine ite_d (fun h2 => ?_) (fun h2 => ?_)
        · walk_at "go"
          refine ⟨rfl, i, rfl, hsi', by omega, fun j h3 h4 => ?_⟩
          by_cases z : j = i
          · rw [z]
            exact Int.le_refl _
          · have := (b.all j h3 (by omega)).1
            omega
        · walk_at "go"
          refine ⟨rfl, lo, rfl, b1, by omega, fun j h3 h4 => ?_⟩
          by_cases z : j = i
          · rw [z]
            omega
          · exact (b.all j h3 (by omega)).1
    rintro σ4 H' ⟨rfl, lo', rfl, l1, l2, l3⟩
    -- the greatest
    have fin : ∀ hi' : Nat, s' ≤ hi' → hi' < i + 1 → (∀ j, s' ≤ j → j < i + 1 → Y j ≤ Y hi') → LoHi e Y s' (i + 1) lo' hi' := fun hi' h1 h2 h3 => by
      refine ⟨l1, l2, h1, h2, fun j h4 h5 => ⟨l3 j h4 h5, h3 j h4 h5⟩, ?_⟩
      by_cases z : s' < i
      · exact (B7 z).2 hi' lo' h1 h2 l1 l2
      · have e1 : hi' = lo' := by omega
        rw [e1]
        omega
    walk_at "go"
    refine ite_d (fun h1 => ?_) (fun h1 => ?_)
    · refine ite_t rfl ?_
      walk_at "go"
      refine ⟨s', lo', i, _, _, _, rfl, F7, fun _ => fin i hsi' (by omega) fun j h2 h3 => ?_⟩
      have e1 : j = i := by omega
      rw [e1]
      exact Int.le_refl _
    · have b := (B7 (by omega)).1
      have b1 := b.hi1
      have b2 := b.hi2
      walk_at "go"
      refine ixY sm7 (by omega) ?_
      walk_at "go"
      refine ite_d (fun h2 => ?_) (fun h2 => ?_)
      · walk_at "go"
        refine ⟨s', lo', i, _, _, _, rfl, F7, fun _ => fin i hsi' (by omega) fun j h3 h4 => ?_⟩
        by_cases z : j = i
        · rw [z]
          exact Int.le_refl _
        · have := (b.all j h3 (by omega)).2
          omega
      · walk_at "go"
        refine ⟨s', lo', hi, _, _, _, rfl, F7, fun _ => fin hi b1 (by omega) fun j h3 h4 => ?_⟩
        by_cases z : j = i
        · rw [z]
          omega
        · exact (b.all j h3 (by omega)).2
  · rw [List.length_map]
    rintro σ H5 ⟨s, lo, hi, v7, v8, v9, rfl, ⟨⟨cs, pcs, rs, vs1, vs2, h1, r1, h2, r2, G, C, hrl, h0, hst, hpl⟩, sm⟩, B⟩
    have b := B hn0
    have bs1 := b.hi1
    have bs2 := b.hi2
    have hsn : s < ns.length := by omega
    have hvs1 : vs1.length = pcs.length := r1.len
    walk_at "go"
    refine st_cut (fun σ' H' => ∃ (vs1' : List V), σ' = [some (.ref a), some (.int e), some (.ref lp), some (.ref lr), some (.int (s : Int)), some (.int (lo : Int)), some (.int (hi : Int)), v7, v8, v9] ∧ Same H H' ∧
      H' lp = some (.lst vs1') ∧ LR (PtR H') vs1' (pcs ++ [((s : Int), Y hi - e)]) ∧ H' lr = some (.lst vs2) ∧ LR (PtR H') vs2 rs) ?_ ?_
    · walk_at "go"
      refine x_truL (sm _ _ ha) ?_
      refine ite_t (by rw [isEmpty_of_pos (by rw [List.length_map]; exact hn0)]; rfl) ?_
      walk_at "go"
      refine ⟨tyL h1, ?_⟩
      walk_at "go"
      refine ixY sm (by omega) ?_
      walk_at "go"
      refine newT fun t1 H7 n7 s7 e7 => ?_
      walk_at "go"
      have h17 := s7 _ _ h1
      refine r_app h17 (by omega) ?_
      walk_at "go"
      have ta : Tp H7 (upd H7 lp (.lst (vs1 ++ [.ref t1]))) := Tp.mutL h17
      refine ⟨vs1 ++ [.ref t1], rfl, same_mut (sm.trans s7) n1, upd_same, (r1.mono fun _ _ h => h.mono ((same_tp s7).trans ta)).app ⟨t1, rfl, ta _ _ e7⟩, ?_, r2.mono fun _ _ h => h.mono ((same_tp s7).trans ta)⟩
      rw [upd_ne lplr.symm]
      exact s7 _ _ h2
    · rintro σ' H6 ⟨vs1', rfl, sm6, h16, r16, h26, r26⟩
      walk_at "go"
      refine mkK fun c H7 n7 s7 hc => ?_
      refine ⟨c, lp, lr, vs1', vs2, rfl, hc, s7 _ _ h16, s7 _ _ h26, fun H8 a' b' dx e8 ea eb fr8 t8 => ⟨rfl, ?_⟩⟩
      have cN : H c = none := sm6.free n7
      have sm8 : Same H H8 := fr8.out (sm6.trans s7) fun b hb => by rw [List.mem_singleton.mp hb]; exact cN
      have t68 : Tp H6 H8 := (same_tp s7).trans t8
      refine k c H8 (pcs ++ [((s : Int), Y hi - e)]) rs sm8 ⟨dx, a', b', e8, ⟨vs1', ea, r16.mono fun _ _ h => h.mono t68⟩, vs2, eb, r26.mono fun _ _ h => h.mono t68⟩ ⟨C.push hrl (fun z => by rw [h0 z]; rfl) (by omega) (by omega) b.ln, by rw [List.length_append, List.length_singleton, hrl], ⟨cs, s, G, ?_⟩⟩
      rw [List.map_append, hst, intsOf_app]
      rfl
end
/-! ### readings: flat.py, the judge -/
section
variable {K : PySem.W.Frag}
theorem rd_FlatCutting_init (T : TK K) (vs : List V) (H : Hp) (Q : VK) (E : XK) (h : sp_FlatCutting_init K vs H Q E) : t_FlatCutting_init K ⟨fun _ H' => Q .non H', Q, fun _ _ => False, fun _ _ => False⟩ (start N_FlatCutting_init vs) H := rd_two T.c_FlatCutting T.n_FlatCutting_pieces T.n_FlatCutting_reasons rfl vs H Q E h
theorem rd_SpanCutting_init (T : TK K) (vs : List V) (H : Hp) (Q : VK) (E : XK) (h : sp_SpanCutting_init K vs H Q E) : t_SpanCutting_init K ⟨fun _ H' => Q .non H', Q, fun _ _ => False, fun _ _ => False⟩ (start N_SpanCutting_init vs) H := rd_two T.c_SpanCutting T.n_SpanCutting_pieces T.n_SpanCutting_reasons rfl vs H Q E h
theorem all_true (n : Nat) : (List.replicate n true).all id = true := by
  rw [List.all_eq_true]
  intro x hx
  rw [List.eq_of_mem_replicate hx]
  rfl
theorem map_int_get' {ns : List Int} {i : Nat} {x : V} (h : (ns.map V.int)[i]? = some x) : ∃ z, ns[i]? = some z ∧ x = .int z := by
  rw [List.getElem?_map] at h
  cases h1 : ns[i]? with
  | none => rw [h1] at h; cases h
  | some z => rw [h1] at h; exact ⟨z, rfl, (Option.some.inj h).symm⟩
theorem rd_is_flat (vs : List V) (H : Hp) (Q : VK) (E : XK) (h : sp_is_flat K vs H Q E) : t_is_flat K ⟨fun _ H' => Q .non H', Q, fun _ _ => False, fun _ _ => False⟩ (start N_is_flat vs) H := by
  obtain ⟨a, hh, e, ns, rfl, ha, hn, hall, k⟩ := h
  unfold IntsAt at ha
  unfold t_is_flat
  walk_at "go"
  refine i_listK ha ?_
  refine lcL (ds := List.replicate ns.length true) (fun _ v b => v = .bl b) (fun _ _ _ _ _ h => h) ha (by rw [List.length_replicate, List.length_map]) (by rw [List.length_replicate]; omega) ?_ gm_name ?_
  · intro i x d H' Q' s1 hi hd kq
    have ed : d = true := List.eq_of_mem_replicate (List.mem_of_getElem? hd)
    subst ed
    obtain ⟨z, hz, rfl⟩ := map_int_get' hi
    walk_at "go"
    refine ⟨rfl, ?_⟩
    walk_at "go"
    exact kq _ _ (Same.refl _) (by rw [decide_eq_true (hall z (List.mem_of_getElem? hz))])
  · intro D H1 ys nD s1 hD hy
    rw [lr_bl hy] at hD
    walk_at "go"
    refine r_all hD ?_
    rw [all_true]
    exact k H1 s1
theorem rd_is_flat_reason (vs : List V) (H : Hp) (Q : VK) (E : XK) (h : sp_is_flat_reason K vs H Q E) : t_is_flat_reason K ⟨fun _ H' => Q .non H', Q, fun _ _ => False, fun _ _ => False⟩ (start N_is_flat_reason vs) H := by
  obtain ⟨a, r, e, s, t, ns, w, rfl, ha, hr, ⟨w1, w2, w3, w4⟩, hs, ht, k⟩ := h
  unfold IntsAt at ha
  unfold t_is_flat_reason
  walk_at "go"
  refine x_chK (decide_eq_true w1) ?_
  walk_at "go"
  refine x_chK (decide_eq_true w2) ?_
  walk_at "go"
  rw [decide_eq_true w3]
  refine ite_f rfl ?_
  walk_at "go"
  refine r_ixL ha (at_i (by omega) (map_int_get (vOf_get (by omega)))) ?_
  walk_at "go"
  refine r_ixL ha (at_i (by omega) (map_int_get (vOf_get (by omega)))) ?_
  walk_at "go"
  rw [decide_eq_true w4]
  exact k
theorem rd_judge_flat (T : TK K) (vs : List V) (H : Hp) (Q : VK) (E : XK) (h : sp_judge_flat K vs H Q E) : t_judge_flat K ⟨fun _ H' => Q .non H', Q, fun _ _ => False, fun _ _ => False⟩ (start N_judge_flat vs) H := by
  obtain ⟨a, c, e, ns, pcs, rs, rfl, ha, hN, hNl, ⟨dx, la, lb, hc, ⟨ps, hla, hps⟩, ⟨qs, hlb, hqs⟩⟩, ⟨C, hlen, hgr⟩, k⟩ := h
  unfold IntsAt at ha
  have hxl : (ns.map V.int).length = ns.length := List.length_map _
  have hpl := starts_len C
  have hpl2 : ps.length = pcs.length := hps.len
  have hql : qs.length = rs.length := hqs.len
  unfold t_judge_flat
  walk_at "go"
  refine i_listK hla ?_
  refine lcL (ds := pcs.map (·.1)) (fun _ v n => v = .int n) (fun _ _ _ _ _ h => h) hla (by rw [List.length_map, hpl2]) (by rw [List.length_map]; omega) ?_ gm_tup2 ?_
  · intro i x n H' Q' s1 hi hn kq
    obtain ⟨q, hq, pa, rfl, hpa⟩ := hps.get' hi
    rw [starts_get hq] at hn
    cases Option.some.inj hn
    walk_at "go"
    refine ⟨rfl, ?_⟩
    walk_at "go"
    exact kq _ _ (Same.refl _) rfl
  · intro D H1 ys nD s1 hD hy
    rw [lr_int hy] at hD
    have hDl : ((pcs.map (·.1)).map V.int).length = pcs.length := by rw [List.length_map, List.length_map]
    obtain ⟨z, hz⟩ : ∃ z, (pcs.map (·.1))[pcs.length - 1]? = some z := ⟨(pcs.map (·.1))[pcs.length - 1]'(by rw [List.length_map]; omega), List.getElem?_eq_getElem _⟩
    have hzm := (C.in' _ _ hz).2
    walk_at "go"
    refine x_truL (s1 _ _ ha) ?_
    refine ite_f (by rw [isEmpty_of_pos (by omega)]; rfl) ?_
    walk_at "go"
    refine x_truL hD ?_
    refine ite_f (by rw [isEmpty_of_pos (by omega)]; rfl) ?_
    walk_at "go"
    refine r_ixL hD (atI_nat (j := 0) (map_int_get (C.first' (by omega)))) ?_
    walk_at "go"
    refine ite_f rfl ?_
    walk_at "go"
    refine r_ixL hD (at_m (map_int_get hz) (by rw [hDl]; omega)) ?_
    walk_at "go"
    refine r_len (s1 _ _ ha) ?_
    walk_at "go"
    refine ite_f (decide_eq_false (by omega)) ?_
    walk_at "go"
    refine r_len (s1 _ _ hlb) ?_
    walk_at "go"
    refine r_len hD ?_
    walk_at "go"
    refine ite_f (by rw [decide_eq_true (show (qs.length : Int) = (((pcs.map (·.1)).map V.int).length : Int) - 1 by rw [hDl]; omega)]; rfl) ?_
    walk_at "go"
    refine r_len hD ?_
    walk_at "go"
    refine i_rng2K ⟨by decide, by decide⟩ (by rw [hDl]; omega) ?_
    have e1 : ((((pcs.map (·.1)).map V.int).length : Nat) - 1 : Int).toNat = pcs.length - 1 := by rw [hDl]; omega
    rw [e1]
    refine lcR (ds := List.replicate (pcs.length - 1) true) (fun _ v b => v = .bl b) (fun _ _ _ _ _ h => h) List.length_replicate (by rw [List.length_replicate]; omega) ?_ gm_name ?_
    · intro i d H' Q' s2 hi hd kq
      have ed : d = true := List.eq_of_mem_replicate (List.mem_of_getElem? hd)
      subst ed
      obtain ⟨x, hx⟩ : ∃ x, (pcs.map (·.1))[i]? = some x := ⟨(pcs.map (·.1))[i]'(by rw [List.length_map]; omega), List.getElem?_eq_getElem _⟩
      obtain ⟨y, hy⟩ : ∃ y, (pcs.map (·.1))[i + 1]? = some y := ⟨(pcs.map (·.1))[i + 1]'(by rw [List.length_map]; omega), List.getElem?_eq_getElem _⟩
      walk_at "go"
      refine ⟨rfl, ?_⟩
      walk_at "go"
      refine r_ixL (s2 _ _ hD) (at_of (j := i) (by omega) (map_int_get hx)) ?_
      walk_at "go"
      refine r_ixL (s2 _ _ hD) (at_of (j := i + 1) (by omega) (map_int_get hy)) ?_
      walk_at "go"
      exact kq _ _ (Same.refl _) (by rw [decide_eq_true (C.asc' i x y hx hy)])
    intro D2 H2 ys2 nD2 s2 hD2 hy2
    rw [lr_bl hy2] at hD2
    have s02 := s1.trans s2
    walk_at "go"
    refine r_all hD2 ?_
    rw [all_true]
    walk_at "go"
    refine ite_f rfl ?_
    walk_at "go"
    refine r_slL (s2 _ _ hD) fun b H3 n3 s3 e3 => ?_
    rw [cutV_1] at e3
    walk_at "go"
    refine r_len (s3 _ _ (s02 _ _ ha)) ?_
    walk_at "go"
    refine newL fun b2 H4 n4 s4 e4 => ?_
    refine r_catL (s4 _ _ e3) e4 (by rw [List.length_drop, hDl, List.length_singleton]; omega) fun en H5 n5 s5 e5 => ?_
    have s05 : Same H H5 := ((s02.trans s3).trans s4).trans s5
    have hD5 : H5 D = some (.lst ((pcs.map (·.1)).map V.int)) := s5 _ _ (s4 _ _ (s3 _ _ (s2 _ _ hD)))
    have ee : ((pcs.map (·.1)).map V.int).drop 1 ++ [V.int ((ns.map V.int).length : Int)] = (((pcs.map (·.1)).drop 1) ++ [(ns.length : Int)]).map V.int := by
      rw [List.map_append, List.map_drop, hxl]
      rfl
    rw [ee] at e5
    walk_at "go"
    refine i_enumK (s05 _ _ hla) ?_
    refine forE (fun i σ H' => ∃ v5 v6 v7 v8 v9 v10 : Option V, σ = [some (.ref a), some (.int e), some (.ref c), some (.ref D), some (.ref en), v5, v6, v7, v8, v9, v10] ∧ Same H5 H') ⟨_, _, _, _, _, _, rfl, Same.refl _⟩ (fun i σ H' _ ⟨_, _, _, _, _, _, _, s⟩ => s _ _ (s05 _ _ hla)) ?_ ?_
    · rintro i x σ H6 Tt H7 hi ⟨v5, v6, v7, v8, v9, v10, rfl, s6⟩ nT s7 eT
      obtain ⟨q, hq, pa, rfl, hpa⟩ := hps.get' hi
      have s07 : Same H H7 := (s05.trans s6).trans s7
      have hik : i < pcs.length := by rw [← hpl2]; exact (List.getElem?_eq_some_iff.mp hi).1
      obtain ⟨q0, q1, q2⟩ := C.asc i q hq
      have hpa7 := s07 _ _ hpa
      walk_at "go"
      refine r_ixL (s7 _ _ (s6 _ _ e5)) (atI_nat (j := i) (map_int_get (ends_get i hik))) ?_
      walk_at "go"
      have es : q.1 = ((q.1.toNat : Nat) : Int) := by omega
      have et : nxt pcs (ns.length : Int) i = (((nxt pcs (ns.length : Int) i).toNat : Nat) : Int) := by omega
      refine r_slL (s07 _ _ ha) fun sl H8 n8 s8 e8 => ?_
      rw [es, et, cutV_nat (ns.map V.int) _ _ (by omega) (by omega), ← List.map_drop, ← List.map_take] at e8
      have hpa8 := s8 _ _ hpa7
      walk_at "go"
      refine ⟨sl, q.2, e, (ns.drop q.1.toNat).take ((nxt pcs (ns.length : Int) i).toNat - q.1.toNat), rfl, e8, by rw [List.length_take, List.length_drop]; omega, fun z hz => ?_, fun H9 s9 => ?_⟩
      · obtain ⟨j, hj⟩ := List.mem_iff_getElem?.mp hz
        rw [List.getElem?_take] at hj
        split at hj
        · rename_i hlt
          rw [List.getElem?_drop] at hj
          have h1 := C.line i q hq (q.1.toNat + j) (by omega) (by omega)
          unfold LnF at h1
          rw [vOf_of hj] at h1
          exact h1
        · cases hj
      · walk_at "go"
        refine ite_f rfl ?_
        walk_at "go"
        exact ⟨_, _, _, _, _, _, rfl, ((s6.trans s7).trans s8).trans s9⟩
    · rintro σ H6 ⟨v5, v6, v7, v8, v9, v10, rfl, s6⟩
      have s06 := s05.trans s6
      walk_at "go"
      refine i_enumK (s06 _ _ hlb) ?_
      refine forE (fun i σ H' => ∃ v5 v6 v7 v8 v9 v10 : Option V, σ = [some (.ref a), some (.int e), some (.ref c), some (.ref D), some (.ref en), v5, v6, v7, v8, v9, v10] ∧ Same H6 H') ⟨_, _, _, _, _, _, rfl, Same.refl _⟩ (fun i σ H' _ ⟨_, _, _, _, _, _, _, s⟩ => s _ _ (s06 _ _ hlb)) ?_ ?_
      · rintro i x σ H7 Tt H8 hi ⟨v5, v6, v7, v8, v9, v10, rfl, s7⟩ nT s8 eT
        obtain ⟨w, hw, wa, rfl, hwa⟩ := hqs.get' hi
        have s08 : Same H H8 := (s06.trans s7).trans s8
        have hir : i < rs.length := (List.getElem?_eq_some_iff.mp hw).1
        obtain ⟨q, hq⟩ : ∃ q, pcs[i]? = some q := ⟨pcs[i], List.getElem?_eq_getElem (by omega)⟩
        have hR := C.reason i w q hw hq
        obtain ⟨q0, q1, q2⟩ := C.asc i q hq
        have hn1 : (pcs.map (·.1))[i + 1]? = some (nxt pcs (ns.length : Int) i) := starts_nxt (by omega)
        have hn2 := C.in' _ _ hn1
        have hD8 := s8 _ _ (s7 _ _ (s6 _ _ hD5))
        walk_at "go"
        refine r_ixL hD8 (atI_nat (j := i) (map_int_get (starts_get hq))) ?_
        walk_at "go"
        refine r_ixL hD8 (at_of (j := i + 1) (by omega) (map_int_get hn1)) ?_
        walk_at "go"
        refine ⟨a, wa, e, q.1, _, ns, w, rfl, s08 _ _ ha, s08 _ _ hwa, hR, q0, hn2.2, ?_⟩
        walk_at "go"
        refine ite_f rfl ?_
        walk_at "go"
        exact ⟨_, _, _, _, _, _, rfl, s7.trans s8⟩
      · rintro σ H7 ⟨v5, v6, v7, v8, v9, v10, rfl, s7⟩
        walk_at "go"
        exact k H7 (s06.trans s7)
end
/-! ### readings: spans.py -/
/-- the best lower slope among the pairs of the first n, and of the first i with the n-th -/
def LowR (X lo hi : Nat → Int) (n i : Nat) (H : Hp) (v : V) : Prop := (n < 2 ∧ i = 0 ∧ v = .non) ∨ ∃ (r : Addr) (a b : Nat), v = .ref r ∧ H r = some (.tup [.int (lo b - hi a), .int (X b - X a)]) ∧ a < b ∧ b < n + 1 ∧
  ∀ i' j', i' < j' → (j' < n ∨ (j' = n ∧ i' < i)) → (lo j' - hi i') * (X b - X a) ≤ (lo b - hi a) * (X j' - X i')
def UppR (X lo hi : Nat → Int) (n i : Nat) (H : Hp) (v : V) : Prop := (n < 2 ∧ i = 0 ∧ v = .non) ∨ ∃ (r : Addr) (c d : Nat), v = .ref r ∧ H r = some (.tup [.int (hi d - lo c), .int (X d - X c)]) ∧ c < d ∧ d < n + 1 ∧
  ∀ i' j', i' < j' → (j' < n ∨ (j' = n ∧ i' < i)) → (hi d - lo c) * (X j' - X i') ≤ (hi j' - lo i') * (X d - X c)
theorem LowR.mono {X lo hi : Nat → Int} {n i : Nat} {H H' : Hp} {v : V} (t : Tp H H') (h : LowR X lo hi n i H v) : LowR X lo hi n i H' v := by
  rcases h with h | ⟨r, a, b, e, h, q⟩
  · exact .inl h
  · exact .inr ⟨r, a, b, e, t _ _ h, q⟩
theorem UppR.mono {X lo hi : Nat → Int} {n i : Nat} {H H' : Hp} {v : V} (t : Tp H H') (h : UppR X lo hi n i H v) : UppR X lo hi n i H' v := by
  rcases h with h | ⟨r, a, b, e, h, q⟩
  · exact .inl h
  · exact .inr ⟨r, a, b, e, t _ _ h, q⟩
/-- the i-th is better, or there was none -/
theorem LowR.new {X lo hi : Nat → Int} {n i : Nat} {H H' : Hp} {v : V} {r : Addr} (A : AscN X (n + 1)) (hi' : i < n) (h : LowR X lo hi n i H v) (e : H' r = some (.tup [.int (lo n - hi i), .int (X n - X i)]))
    (better : ∀ (r' : Addr) (a b : Nat), v = .ref r' → H r' = some (.tup [.int (lo b - hi a), .int (X b - X a)]) → (lo b - hi a) * (X n - X i) ≤ (lo n - hi i) * (X b - X a)) : LowR X lo hi n (i + 1) H' (.ref r) := by
  refine .inr ⟨r, i, n, rfl, e, hi', Nat.lt_succ_self n, fun i' j' hij hj => ?_⟩
  have xin := A.pos hi' (Nat.lt_succ_self n)
  by_cases z : j' = n ∧ i' = i
  · rw [z.1, z.2]
    exact Int.le_refl _
  · rcases h with ⟨h1, h2, _⟩ | ⟨r', a, b, ev, hr, ab, bn, best⟩
    · omega
    · have h3 := best i' j' hij (by omega)
      have h4 := better r' a b ev hr
      have xij := A.pos hij (by omega)
      have xab := A.pos ab bn
      exact fr_trans xab xij xin h3 h4
theorem LowR.keep {X lo hi : Nat → Int} {n i : Nat} {H : Hp} {r : Addr} {a b : Nat} (e : H r = some (.tup [.int (lo b - hi a), .int (X b - X a)])) (ab : a < b) (bn : b < n + 1)
    (best : ∀ i' j', i' < j' → (j' < n ∨ (j' = n ∧ i' < i)) → (lo j' - hi i') * (X b - X a) ≤ (lo b - hi a) * (X j' - X i')) (h : (lo n - hi i) * (X b - X a) ≤ (lo b - hi a) * (X n - X i)) : LowR X lo hi n (i + 1) H (.ref r) := by
  refine .inr ⟨r, a, b, rfl, e, ab, bn, fun i' j' hij hj => ?_⟩
  by_cases z : j' = n ∧ i' = i
  · rw [z.1, z.2]
    exact h
  · exact best i' j' hij (by omega)
theorem UppR.new {X lo hi : Nat → Int} {n i : Nat} {H H' : Hp} {v : V} {r : Addr} (A : AscN X (n + 1)) (hi' : i < n) (h : UppR X lo hi n i H v) (e : H' r = some (.tup [.int (hi n - lo i), .int (X n - X i)]))
    (better : ∀ (r' : Addr) (c d : Nat), v = .ref r' → H r' = some (.tup [.int (hi d - lo c), .int (X d - X c)]) → (hi n - lo i) * (X d - X c) ≤ (hi d - lo c) * (X n - X i)) : UppR X lo hi n (i + 1) H' (.ref r) := by
  refine .inr ⟨r, i, n, rfl, e, hi', Nat.lt_succ_self n, fun i' j' hij hj => ?_⟩
  have xin := A.pos hi' (Nat.lt_succ_self n)
  by_cases z : j' = n ∧ i' = i
  · rw [z.1, z.2]
    exact Int.le_refl _
  · rcases h with ⟨h1, h2, _⟩ | ⟨r', c, d, ev, hr, cd, dn, best⟩
    · omega
    · have h3 := best i' j' hij (by omega)
      have h4 := better r' c d ev hr
      have xij := A.pos hij (by omega)
      have xcd := A.pos cd dn
      exact fr_trans xcd xin xij h4 h3
theorem UppR.keep {X lo hi : Nat → Int} {n i : Nat} {H : Hp} {r : Addr} {c d : Nat} (e : H r = some (.tup [.int (hi d - lo c), .int (X d - X c)])) (cd : c < d) (dn : d < n + 1)
    (best : ∀ i' j', i' < j' → (j' < n ∨ (j' = n ∧ i' < i)) → (hi d - lo c) * (X j' - X i') ≤ (hi j' - lo i') * (X d - X c)) (h : (hi d - lo c) * (X n - X i) ≤ (hi n - lo i) * (X d - X c)) : UppR X lo hi n (i + 1) H (.ref r) := by
  refine .inr ⟨r, c, d, rfl, e, cd, dn, fun i' j' hij hj => ?_⟩
  by_cases z : j' = n ∧ i' = i
  · rw [z.1, z.2]
    exact h
  · exact best i' j' hij (by omega)
theorem spansOf_len (X lo hi : Nat → Int) (n : Nat) : (spansOf X lo hi n).length = n := by
  unfold spansOf
  rw [List.length_map, List.length_range]
theorem spansOf_get (X lo hi : Nat → Int) {n i : Nat} (h : i < n) : (spansOf X lo hi n)[i]? = some (X i, lo i, hi i) := by
  unfold spansOf
  rw [List.getElem?_map, List.getElem?_range h]
  rfl
section
variable {K : PySem.W.Frag}
theorem rd_three_meet (vs : List V) (H : Hp) (Q : VK) (E : XK) (h : sp_three_meet K vs H Q E) : t_three_meet K ⟨fun _ H' => Q .non H', Q, fun _ _ => False, fun _ _ => False⟩ (start N_three_meet vs) H := by
  obtain ⟨a, b, c, p1, p2, p3, rfl, ha, hb, hc, ⟨_, _⟩, ⟨_, _⟩, ⟨_, _⟩, k1, k2⟩ := h
  unfold t_three_meet
  walk_at "go"
  refine ite_d (fun h1 => ?_) (fun h1 => ?_)
  · walk_at "go"
    by_cases h2 : p2.2.1 * (p3.1 - p1.1) ≤ p1.2.2 * (p3.1 - p2.1) + p3.2.2 * (p2.1 - p1.1)
    · rw [decide_eq_true h2]
      exact k1 ⟨h1, h2⟩
    · rw [decide_eq_false h2]
      exact k2 fun m => h2 m.2
  · exact k2 fun m => h1 m.1
theorem rd_meets (vs : List V) (H : Hp) (Q : VK) (E : XK) (h : sp_meets K vs H Q E) : t_meets K ⟨fun _ H' => Q .non H', Q, fun _ _ => False, fun _ _ => False⟩ (start N_meets vs) H := by
  obtain ⟨a, b, l, s, rfl, ha, hb, ⟨_, _⟩, d1, d2, h1, h2, k⟩ := h
  unfold t_meets
  walk_at "go"
  refine x_ch2 (fun _ => ?_) (fun z => absurd h1 (of_decide_eq_false z))
  walk_at "go"
  rw [decide_eq_true h2]
  exact k
theorem rd_bounds_with (T : TK K) (vs : List V) (H : Hp) (Q : VK) (E : XK) (h : sp_bounds_with K vs H Q E) : t_bounds_with K ⟨fun _ H' => Q .non H', Q, fun _ _ => False, fun _ _ => False⟩ (start N_bounds_with vs) H := by
  obtain ⟨a, s, vb, X, lo, hi, n, rfl, ⟨xs, ha, hx⟩, ⟨t, rfl, hB⟩, hs, A, bd, hn, k⟩ := h
  have hxl : xs.length = n := by rw [hx.len, spansOf_len]
  obtain ⟨_, _⟩ := bd n (Nat.le_refl n)
  obtain ⟨v1, v2, ht, L0, U0⟩ : ∃ v1 v2, H t = some (.tup [v1, v2]) ∧ LowR X lo hi n 0 H v1 ∧ UppR X lo hi n 0 H v2 := by
    rcases hB with ⟨h1, h2⟩ | ⟨h1, r1, r2, c, d, g, w, h2, h3, h4, P, S⟩
    · exact ⟨_, _, h2, .inl ⟨h1, rfl, rfl⟩, .inl ⟨h1, rfl, rfl⟩⟩
    · exact ⟨_, _, h2, .inr ⟨r1, c, d, rfl, h3, P.lt, Nat.lt_succ_of_lt P.ltn, fun i j hij hj => P.best i j hij (by omega)⟩, .inr ⟨r2, g, w, rfl, h4, S.lt, Nat.lt_succ_of_lt S.ltn, fun i j hij hj => S.best i j hij (by omega)⟩⟩
  unfold t_bounds_with
  walk_at "go"
  refine i_listK ha ?_
  refine forL (fun i σ H' => ∃ (v3 v4 : V) (v5 v6 v7 v8 : Option V), σ = [some (.ref a), some (.ref t), some (.ref s), some v3, some v4, v5, v6, v7, v8] ∧ Same H H' ∧ LowR X lo hi n i H' v3 ∧ UppR X lo hi n i H' v4)
    ⟨_, _, _, _, _, _, rfl, Same.refl _, L0, U0⟩ (fun i σ H' _ ⟨_, _, _, _, _, _, _, s1, _⟩ => s1 _ _ ha) ?_ ?_
  · rintro i x σ H1 hxi ⟨v3, v4, v5, v6, v7, v8, rfl, s1, L1, U1⟩
    have hin : i < n := by rw [← hxl]; exact (List.getElem?_eq_some_iff.mp hxi).1
    obtain ⟨w, hw, pa, rfl, hpa⟩ := hx.get' hxi
    rw [spansOf_get X lo hi hin] at hw
    cases Option.some.inj hw
    dsimp only at hpa
    obtain ⟨_, _⟩ := bd i (Nat.le_of_lt hin)
    have hpa1 := s1 _ _ hpa
    have hs1 := s1 _ _ hs
    walk_at "go"
    refine st_cut (fun σ' H' => ∃ v3' : V, σ' = [some (.ref a), some (.ref t), some (.ref s), some v3', some v4, some (.int (X i)), some (.int (lo i)), some (.int (hi i)), some (.int (X n - X i))] ∧ Same H1 H' ∧ LowR X lo hi n (i + 1) H' v3') ?_ ?_
    · rcases id L1 with ⟨h1, h2, rfl⟩ | ⟨r, c, d, rfl, hr, cd, dn, best⟩
      · walk_at "go"
        refine ite_t rfl (ite_t rfl ?_)
        walk_at "go"
        refine newT fun r H2 n2 s2 e2 => ?_
        walk_at "go"
        exact ⟨_, rfl, s2, L1.new A hin e2 fun r' a b ev _ => by cases ev⟩
      · obtain ⟨_, _⟩ := bd c (by omega)
        obtain ⟨_, _⟩ := bd d (by omega)
        walk_at "go"
        refine ite_f rfl ?_
        walk_at "go"
        refine newT fun r2 H2 n2 s2 e2 => ?_
        walk_at "go"
        refine ⟨r, r2, _, _, _, _, rfl, s2 _ _ hr, e2, ⟨by omega, by omega⟩, ⟨by omega, by omega⟩, ?_⟩
        walk_at "go"
        refine ite_d (fun h1 => ?_) (fun h1 => ?_)
        · walk_at "go"
          refine newT fun r3 H3 n3 s3 e3 => ?_
          walk_at "go"
          refine ⟨_, rfl, s2.trans s3, L1.new A hin e3 fun r' a' b' ev hr' => ?_⟩
          cases ev
          rw [hr] at hr'
          injection hr' with q1
          injection q1 with q1
          injection q1 with q2 q3
          injection q3 with q3 _
          injection q2 with q2
          injection q3 with q3
          rw [← q2, ← q3]
          omega
        · walk_at "go"
          exact ⟨_, rfl, s2, LowR.keep (s2 _ _ hr) cd dn best (by omega)⟩
    · rintro σ' H2 ⟨v3', rfl, s2, L2⟩
      have U2 := U1.mono (same_tp s2)
      have s12 := s1.trans s2
      have hs2 := s2 _ _ hs1
      walk_at "go"
      rcases id U2 with ⟨h1, h2, rfl⟩ | ⟨r, c, d, rfl, hr, cd, dn, best⟩
      · walk_at "go"
        refine ite_t rfl (ite_t rfl ?_)
        walk_at "go"
        refine newT fun r H3 n3 s3 e3 => ?_
        walk_at "go"
        exact ⟨_, _, _, _, _, _, rfl, s12.trans s3, L2.mono (same_tp s3), U2.new A hin e3 fun r' a b ev _ => by cases ev⟩
      · obtain ⟨_, _⟩ := bd c (by omega)
        obtain ⟨_, _⟩ := bd d (by omega)
        walk_at "go"
        refine ite_f rfl ?_
        walk_at "go"
        refine newT fun r2 H3 n3 s3 e3 => ?_
        walk_at "go"
        refine ⟨r2, r, _, _, _, _, rfl, e3, s3 _ _ hr, ⟨by omega, by omega⟩, ⟨by omega, by omega⟩, ?_⟩
        walk_at "go"
        refine ite_d (fun h1 => ?_) (fun h1 => ?_)
        · walk_at "go"
          refine newT fun r3 H4 n4 s4 e4 => ?_
          walk_at "go"
          refine ⟨_, _, _, _, _, _, rfl, (s12.trans s3).trans s4, L2.mono ((same_tp s3).trans (same_tp s4)), U2.new A hin e4 fun r' a' b' ev hr' => ?_⟩
          cases ev
          rw [hr] at hr'
          injection hr' with q1
          injection q1 with q1
          injection q1 with q2 q3
          injection q3 with q3 _
          injection q2 with q2
          injection q3 with q3
          rw [← q2, ← q3]
          omega
        · walk_at "go"
          exact ⟨_, _, _, _, _, _, rfl, s12.trans s3, L2.mono (same_tp s3), UppR.keep (s3 _ _ hr) cd dn best (by omega)⟩
  · rw [hxl]
    rintro σ H1 ⟨v3, v4, v5, v6, v7, v8, rfl, s1, L1, U1⟩
    walk_at "go"
    refine newT fun p H2 n2 s2 e2 => k _ H2 (s1.trans s2) ⟨p, rfl, ?_⟩
    rcases L1 with ⟨h1, h2, rfl⟩ | ⟨r, c, d, rfl, hr, cd, dn, best⟩
    · rcases U1 with ⟨_, _, rfl⟩ | ⟨r', c', d', rfl, hr', cd', dn', best'⟩
      · exact .inl ⟨by omega, e2⟩
      · omega
    · rcases U1 with ⟨_, _, rfl⟩ | ⟨r', c', d', rfl, hr', cd', dn', best'⟩
      · omega
      · exact .inr ⟨by omega, r, r', c, d, c', d', e2, s2 _ _ hr, s2 _ _ hr', ⟨cd, dn, fun i j hij hj => best i j hij (by omega)⟩, ⟨cd', dn', fun i j hij hj => best' i j hij (by omega)⟩⟩
end
/-! ### readings: spans.py, lines and reasons -/
section
variable {K : PySem.W.Frag}
theorem rd_line_through (T : TK K) (vs : List V) (H : Hp) (Q : VK) (E : XK) (h : sp_line_through K vs H Q E) : t_line_through K ⟨fun _ H' => Q .non H', Q, fun _ _ => False, fun _ _ => False⟩ (start N_line_through vs) H := by
  obtain ⟨a, vb, X, lo, hi, n, rfl, ⟨xs, ha, hx⟩, ⟨t, rfl, hB⟩, A, bd, L, hn0, hn, fit, k⟩ := h
  have hxl : xs.length = n := by rw [hx.len, spansOf_len]
  unfold t_line_through
  walk_at "go"
  refine newT fun sl H1 n1 s1 e1 => ?_
  walk_at "go"
  refine st_cut (fun σ' H' => ∃ (rs : Addr) (p w : Int), σ' = [some (.ref a), some (.ref t), some (.ref rs), none, none, none, none, none] ∧ Same H H' ∧ H' rs = some (.tup [.int p, .int w]) ∧ 0 < w ∧ w ≤ 2000000 ∧
    ∀ (q : Int) (j : Nat), j < n → q = lo j * w - p * X j → (∀ i, i < n → lo i * w - p * X i ≤ q) → ∀ i, i < n → LnS X lo hi (p, q, w) i) ?_ ?_
  · rcases hB with ⟨h1, h2⟩ | ⟨h1, r1, r2, c, d, g, u, h2, h3, h4, P, S⟩
    · have e : n = 1 := by omega
      subst e
      have h2' := s1 _ _ h2
      walk_at "go"
      refine ite_f rfl ?_
      walk_at "go"
      refine ⟨sl, 0, 1, rfl, s1, e1, by decide, by decide, fun q j hj hq _ i hi' => ?_⟩
      have ei : i = 0 := by omega
      have ej : j = 0 := by omega
      subst ei ej
      have := L 0 hi'
      refine ⟨?_, ?_⟩
      · show lo 0 * 1 ≤ 0 * X 0 + q
        omega
      · show 0 * X 0 + q ≤ hi 0 * 1
        omega
    · have bc := bd c (by have := P.lt; have := P.ltn; omega)
      have bd' := bd d P.ltn
      have bg := bd g (by have := S.lt; have := S.ltn; omega)
      have bu := bd u S.ltn
      obtain ⟨_, _⟩ := bc
      obtain ⟨_, _⟩ := bd'
      obtain ⟨_, _⟩ := bg
      obtain ⟨_, _⟩ := bu
      have xcd := A.pos P.lt P.ltn
      have xgu := A.pos S.lt S.ltn
      have LU := fit c d g u P.lt P.ltn S.lt S.ltn
      have h2' := s1 _ _ h2
      have h3' := s1 _ _ h3
      have h4' := s1 _ _ h4
      walk_at "go"
      refine ite_t rfl ?_
      walk_at "go"
      refine ⟨_, _, rfl, xcd, by omega, fun g1 p1 w1 f1 H3 hg1 ep1 ew1 s3 e3 => ?_⟩
      have h2'' := s3 _ _ h2'
      have h4'' := s3 _ _ h4'
      walk_at "go"
      refine ⟨_, _, rfl, xgu, by omega, fun g2 p2 w2 f2 H4 hg2 ep2 ew2 s4 e4 => ?_⟩
      obtain ⟨w1p, w1l⟩ := red_pos hg1 ew1 xcd
      obtain ⟨w2p, w2l⟩ := red_pos hg2 ew2 xgu
      have s04 : Same H H4 := (s1.trans s3).trans s4
      have lm : ∀ {p w : Int}, 0 < w → (lo d - hi c) * w ≤ p * (X d - X c) → p * (X u - X g) ≤ (hi u - lo g) * w → ∀ (q : Int) (j : Nat), j < n → q = lo j * w - p * X j → (∀ i, i < n → lo i * w - p * X i ≤ q) → ∀ i, i < n → LnS X lo hi (p, q, w) i := fun hw hl hu q j hj hq hm i hi' => line_meets A L P S hw hl hu hj hq hm hi'
      walk_at "go"
      refine ⟨f1, f2, p1, w1, p2, w2, rfl, s4 _ _ e3, e4, fun hp1 => ?_, fun hp1 hp2 => ?_, fun hp1 hp2 r H5 s5 e5 => ?_⟩
      · walk_at "go"
        exact ⟨f1, p1, w1, rfl, s04, s4 _ _ e3, w1p, by omega, lm w1p (red_ge hg1 ep1 ew1 (Int.le_refl _)) (red_le hg1 ep1 ew1 LU)⟩
      · walk_at "go"
        exact ⟨f2, p2, w2, rfl, s04, e4, w2p, by omega, lm w2p (red_ge hg2 ep2 ew2 LU) (red_le hg2 ep2 ew2 (Int.le_refl _))⟩
      · walk_at "go"
        refine ⟨r, 0, 1, rfl, s04.trans s5, e5, by decide, by decide, lm (by decide) ?_ ?_⟩
        · have := (red_sign hg1 ep1).1 hp1
          omega
        · have := (red_sign hg2 ep2).2.1 hp2
          omega
  · rintro σ' H2 ⟨rs, p, w, rfl, s2, e2, hw, hw2, lm⟩
    walk_at "go"
    refine i_listK (s2 _ _ ha) ?_
    refine lcL (ds := (List.range n).map fun i => lo i * w - p * X i) (fun _ v n => v = .int n) (fun _ _ _ _ _ h => h) (s2 _ _ ha) (by rw [List.length_map, List.length_range, hxl]) (by rw [List.length_map, List.length_range]; omega) ?_ gm_tup3 ?_
    · intro i x z H' Q' s3 hi' hz kq
      obtain ⟨v, hv, pa, rfl, hpa⟩ := hx.get' hi'
      have hin : i < n := by rw [← hxl]; exact (List.getElem?_eq_some_iff.mp hi').1
      rw [spansOf_get X lo hi hin] at hv
      cases Option.some.inj hv
      rw [List.getElem?_map, List.getElem?_range hin] at hz
      cases Option.some.inj hz
      dsimp only at hpa
      have hpa' := s3 _ _ (s2 _ _ hpa)
      obtain ⟨_, _⟩ := bd i hin
      walk_at "go"
      refine ⟨rfl, ?_⟩
      walk_at "go"
      exact kq _ _ (Same.refl _) rfl
    · intro D H3 ys nD s3 hD hy
      rw [lr_int hy] at hD
      walk_at "go"
      refine r_max hD (by rw [List.length_map, List.length_range]; exact hn0) fun m hm hmax => ?_
      walk_at "go"
      refine newT fun r H4 nr s4 hr => ?_
      obtain ⟨j, hj, ej⟩ := List.mem_map.mp hm
      refine k (p, m, w) r H4 ((s2.trans s3).trans s4) hr (by show 1 ≤ w; omega) hw2 (lm m j (List.mem_range.mp hj) ej.symm fun i hi' => hmax _ (List.mem_map.mpr ⟨i, List.mem_range.mpr hi', rfl⟩))
theorem span_get {sp : List Tr} {H : Hp} {xs : List V} (hx : LR (TrR H) xs sp) {i : Nat} (hi : i < sp.length) : ∃ v, xs[i]? = some (.ref v) ∧ H v = some (.tup [.int (sx sp i), .int (sl sp i), .int (sh sp i)]) := by
  have h1 : sp[i]? = some sp[i] := List.getElem?_eq_getElem hi
  obtain ⟨v, hv, a, rfl, ha⟩ := hx.get h1
  obtain ⟨e1, e2, e3⟩ := sx_of h1
  exact ⟨a, hv, by rw [e1, e2, e3]; exact ha⟩
theorem rd_reason_with (T : TK K) (vs : List V) (H : Hp) (Q : VK) (E : XK) (h : sp_reason_with K vs H Q E) : t_reason_with K ⟨fun _ H' => Q .non H', Q, fun _ _ => False, fun _ _ => False⟩ (start N_reason_with vs) H := by
  obtain ⟨a, sp, s, p, rfl, ⟨xs, ha, hx⟩, SO, hsp, hp, hex, k⟩ := h
  have hlen := SO.len
  obtain ⟨vp, gp, ep⟩ := span_get hx hp
  have bp := SO.bd p hp
  unfold t_reason_with
  walk_at "go"
  refine i_rng2K ⟨by omega, by omega⟩ ⟨by omega, by omega⟩ ?_
  refine forR (fun i σ H' => ∃ v3 v4 : Option V, σ = [some (.ref a), some (.int (s : Int)), some (.int (p : Int)), v3, v4] ∧ H' = H ∧ ∀ f g : Nat, s ≤ f → f < g → g < s + 1 + i → Meet3 (sx sp f, sl sp f, sh sp f) (sx sp g, sl sp g, sh sp g) (sx sp p, sl sp p, sh sp p))
    ⟨_, _, rfl, rfl, fun f g h1 h2 h3 => by omega⟩ ?_ ?_
  · rintro i σ H' hi ⟨v3, v4, rfl, rfl, all⟩
    have eg : (s : Int) + 1 + (i : Int) = ((s + 1 + i : Nat) : Int) := by omega
    have hgp : s + 1 + i < p := by omega
    obtain ⟨vg, gg, eg2⟩ := span_get hx (show s + 1 + i < sp.length by omega)
    rw [eg]
    walk_at "go"
    refine i_rng2K ⟨by omega, by omega⟩ ⟨by omega, by omega⟩ ?_
    refine forR (fun j σ H'' => ∃ v4 : Option V, σ = [some (.ref a), some (.int (s : Int)), some (.int (p : Int)), some (.int ((s + 1 + i : Nat) : Int)), v4] ∧ H'' = H' ∧ ∀ f : Nat, s ≤ f → f < s + j → Meet3 (sx sp f, sl sp f, sh sp f) (sx sp (s + 1 + i), sl sp (s + 1 + i), sh sp (s + 1 + i)) (sx sp p, sl sp p, sh sp p))
      ⟨_, rfl, rfl, fun f h1 h2 => by omega⟩ ?_ ?_
    · rintro j σ H'' hj ⟨v4, rfl, rfl, all2⟩
      have ef : (s : Int) + (j : Int) = ((s + j : Nat) : Int) := by omega
      have hfg : s + j < s + 1 + i := by omega
      obtain ⟨vf, gf, ef2⟩ := span_get hx (show s + j < sp.length by omega)
      rw [ef]
      walk_at "go"
      refine r_ixL ha (atI_nat gf) ?_
      walk_at "go"
      refine r_ixL ha (atI_nat gg) ?_
      walk_at "go"
      refine r_ixL ha (atI_nat gp) ?_
      walk_at "go"
      refine ⟨vf, vg, vp, _, _, _, rfl, ef2, eg2, ep, SO.bd _ (by omega), SO.bd _ (by omega), bp, fun m => ?_, fun m => ?_⟩
      · walk_at "go"
        refine ite_f rfl ?_
        walk_at "go"
        refine ⟨_, rfl, rfl, fun f h1 h2 => ?_⟩
        by_cases z : f = s + j
        · rw [z]
          exact m
        · exact all2 f h1 (by omega)
      · walk_at "go"
        refine ite_t rfl ?_
        walk_at "go"
        refine newT fun r H1 n1 s1 e1 => k (s + j) (s + 1 + i) r H1 (by omega) hfg hgp m s1 e1
    · rintro σ H'' ⟨v4, rfl, rfl, all2⟩
      refine ⟨_, _, rfl, rfl, fun f g h1 h2 h3 => ?_⟩
      by_cases z : g = s + 1 + i
      · rw [z]
        exact all2 f h1 (by omega)
      · exact all f g h1 h2 (by omega)
  · rintro σ H' ⟨v3, v4, rfl, rfl, all⟩
    obtain ⟨f, g, h1, h2, h3, h4⟩ := hex
    exact absurd (all f g h1 h2 (by omega)) h4
end
/-! ### readings: span_cut -/
theorem cutV_from (xs : List V) (s : Nat) (h : s ≤ xs.length) : cutV xs (some (s : Int)) none = xs.drop s := by
  unfold cutV
  rw [HT.sIx_nat, HT.sIx_none, show min s xs.length = s by omega]
  exact List.take_of_length_le (by rw [List.length_drop]; omega)
theorem slice_spans (sp : List Tr) (s t : Nat) (h : s ≤ t) (ht : t ≤ sp.length) : (sp.drop s).take (t - s) = spansOf (fun k => sx sp (s + k)) (fun k => sl sp (s + k)) (fun k => sh sp (s + k)) (t - s) := by
  refine List.ext_getElem? fun i => ?_
  rw [List.getElem?_take, List.getElem?_drop]
  by_cases hi : i < t - s
  · rw [if_pos hi, spansOf_get _ _ _ hi]
    have h1 : sp[s + i]? = some sp[s + i] := List.getElem?_eq_getElem (by omega)
    obtain ⟨e1, e2, e3⟩ := sx_of h1
    rw [e1, e2, e3]
    exact h1
  · rw [if_neg hi, List.getElem?_eq_none (by rw [spansOf_len]; omega)]
/-- how far the cutting of spans has come -/
structure SpS (H0 : Hp) (lp lr : Addr) (X lo hi : Nat → Int) (g s : Nat) (H' : Hp) : Prop where
  ex : ∃ (cs : List Nat) (pcs : List Pc) (rs : List Tr) (vs1 vs2 : List V), H' lp = some (.lst vs1) ∧ LR (PcR H') vs1 pcs ∧ H' lr = some (.lst vs2) ∧ LR (TrR H') vs2 rs ∧ Gr (FitS X lo hi) g cs s ∧
    CutOk (LnS X lo hi) (RsS X lo hi) (s : Int) pcs rs ∧ rs.length = pcs.length ∧ (pcs = [] → s = 0) ∧ pcs.map (·.1) = intsOf cs ∧ pcs.length ≤ s ∧ ∀ (k : Nat) (q : Pc), pcs[k]? = some q → 1 ≤ q.2.2.2 ∧ q.2.2.2 ≤ 2000000
  sm : Same H0 H'
theorem SpS.same {H0 H1 H2 : Hp} {lp lr : Addr} {X lo hi : Nat → Int} {g s : Nat} (F : SpS H0 lp lr X lo hi g s H1) (s6 : Same H1 H2) : SpS H0 lp lr X lo hi g s H2 := by
  obtain ⟨⟨cs, pcs, rs, vs1, vs2, h1, r1, h2, r2, q⟩, sm⟩ := F
  exact ⟨⟨cs, pcs, rs, vs1, vs2, s6 _ _ h1, r1.mono fun _ _ h => h.mono (same_tp s6), s6 _ _ h2, r2.mono fun _ _ h => h.mono (same_tp s6), q⟩, sm.trans s6⟩
theorem LnS.of_shift {X lo hi : Nat → Int} {l : Tr} {s n : Nat} (h : ∀ i, i < n → LnS (fun k => X (s + k)) (fun k => lo (s + k)) (fun k => hi (s + k)) l i) (j : Nat) (h1 : (s : Int) ≤ (j : Int)) (h2 : (j : Int) < ((s + n : Nat) : Int)) : LnS X lo hi l j := by
  have h3 := h (j - s) (by omega)
  unfold LnS at h3 ⊢
  dsimp only at h3
  rw [show s + (j - s) = j by omega] at h3
  exact h3
section
variable {K : PySem.W.Frag}
theorem rd_span_cut (T : TK K) (vs : List V) (H : Hp) (Q : VK) (E : XK) (h : sp_span_cut K vs H Q E) : t_span_cut K ⟨fun _ H' => Q .non H', Q, fun _ _ => False, fun _ _ => False⟩ (start N_span_cut vs) H := by
  obtain ⟨a, sp, rfl, ⟨xs, ha, hx⟩, SO, k⟩ := h
  have hN := SO.pos
  have hlen := SO.len
  have hxl : xs.length = sp.length := hx.len
  -- what the slices are
  have slice : ∀ {H1 : Hp} (s t : Nat), Same H H1 → s ≤ t → t ≤ sp.length → LR (TrR H1) ((xs.drop s).take (t - s)) (spansOf (fun k => sx sp (s + k)) (fun k => sl sp (s + k)) (fun k => sh sp (s + k)) (t - s)) := fun s t sm h1 h2 => by
    rw [← slice_spans sp s t h1 h2]
    exact ((hx.mono fun _ _ h => h.mono (same_tp sm)).drop _).take _
  unfold t_span_cut
  walk_at "go"
  refine newL fun lp H1 n1 s1 e1 => ?_
  walk_at "go"
  refine newL fun lr H2 n2 s2 e2 => ?_
  walk_at "go"
  refine newT fun tb H3 n3 s3 e3 => ?_
  walk_at "go"
  have s03 : Same H H3 := (s1.trans s2).trans s3
  have lrN : H lr = none := s1.free n2
  have lplr : lp ≠ lr := ne_of_none e1 n2
  refine i_enumK (s03 _ _ ha) ?_
  refine forE (fun i σ H' => ∃ (s : Nat) (vb : V) (v5 v6 v7 : Option V), σ = [some (.ref a), some (.ref lp), some (.ref lr), some (.int (s : Int)), some vb, v5, v6, v7] ∧ SpS H lp lr (sx sp) (sl sp) (sh sp) i s H' ∧
      BndR (fun k => sx sp (s + k)) (fun k => sl sp (s + k)) (fun k => sh sp (s + k)) (i - s) H' vb ∧ FitS (sx sp) (sl sp) (sh sp) s i ∧ s ≤ i ∧ (0 < i → s < i))
    ⟨0, _, none, none, none, rfl, ⟨⟨[], [], [], [], [], s3 _ _ (s2 _ _ e1), LR.nil, s3 _ _ e2, LR.nil, .zero, CutOk.nil, rfl, fun _ => rfl, rfl, Nat.le_refl _, fun k q h => by simp at h⟩, s03⟩, ⟨tb, rfl, .inl ⟨by decide, e3⟩⟩, fun i j k m _ hj => absurd hj (Nat.not_lt_zero j), Nat.le_refl _, fun h => absurd h (Nat.lt_irrefl _)⟩
    (fun i σ H' _ ⟨_, _, _, _, _, _, F, _⟩ => F.sm _ _ ha) ?_ ?_
  · rintro i x σ H5 Tt H6 hxi ⟨s, vb, v5, v6, v7, rfl, F, B, fit, hsi, hsp⟩ nT s6 e6
    have hin : i < sp.length := by rw [← hxl]; exact (List.getElem?_eq_some_iff.mp hxi).1
    obtain ⟨va, gv, ev⟩ := span_get hx hin
    rw [gv] at hxi
    cases Option.some.inj hxi
    have F6 := F.same s6
    have B6 := B.mono (same_tp s6)
    have sm6 := F6.sm
    have es : s + (i - s) = i := by omega
    have es1 : i + 1 - s = i - s + 1 := by omega
    have ash : AscN (fun k => sx sp (s + k)) (i - s + 1) := ascN_shift SO.asc (by omega)
    have bsh : ∀ j, j ≤ i - s → Bd (sx sp (s + j)) := fun j hj => SO.bd _ (by omega)
    have lsh : ∀ j, j < i - s + 1 → sl sp (s + j) ≤ sh sp (s + j) := fun j hj => SO.lh _ (by omega)
    walk_at "go"
    refine r_slL (sm6 _ _ ha) fun sa H7 n7 s7 e7 => ?_
    rw [cutV_nat xs _ _ hsi (by omega)] at e7
    have sm7 := sm6.trans s7
    walk_at "go"
    refine ⟨sa, va, vb, fun k => sx sp (s + k), fun k => sl sp (s + k), fun k => sh sp (s + k), i - s, rfl, ⟨_, e7, slice s i sm7 hsi (by omega)⟩, B6.mono (same_tp s7), ?_, ash, bsh, by omega, fun vl H8 s8 B8 => ?_⟩
    · dsimp only
      rw [es]
      exact sm7 _ _ ev
    have F8 := (F6.same s7).same s8
    have B6' := (B6.mono (same_tp s7)).mono (same_tp s8)
    have sm8 := F8.sm
    walk_at "go"
    refine st_cut (fun σ' H' => ∃ (s' : Nat) (vl' : V), σ' = [some (.ref a), some (.ref lp), some (.ref lr), some (.int (s' : Int)), some vb, some (.int (i : Int)), some (.ref va), some vl'] ∧ SpS H lp lr (sx sp) (sl sp) (sh sp) (i + 1) s' H' ∧
      BndR (fun k => sx sp (s' + k)) (fun k => sl sp (s' + k)) (fun k => sh sp (s' + k)) (i + 1 - s') H' vl' ∧ FitS (sx sp) (sl sp) (sh sp) s' (i + 1) ∧ s' ≤ i) ?_ ?_
    · -- the piece goes on
      have goes : FitN (fun k => sx sp (s + k)) (fun k => sl sp (s + k)) (fun k => sh sp (s + k)) (i - s + 1) → ∃ (s' : Nat) (vl' : V), [some (.ref a), some (.ref lp), some (.ref lr), some (.int (s : Int)), some vb, some (.int (i : Int)), some (.ref va), some vl] = [some (.ref a), some (.ref lp), some (.ref lr), some (.int (s' : Int)), some vb, some (.int (i : Int)), some (.ref va), some vl'] ∧ SpS H lp lr (sx sp) (sl sp) (sh sp) (i + 1) s' H8 ∧
          BndR (fun k => sx sp (s' + k)) (fun k => sl sp (s' + k)) (fun k => sh sp (s' + k)) (i + 1 - s') H8 vl' ∧ FitS (sx sp) (sl sp) (sh sp) s' (i + 1) ∧ s' ≤ i := fun hF => by
        have hseg : FitS (sx sp) (sl sp) (sh sp) s (i + 1) := by
          show FitN _ _ _ (i + 1 - s)
          rw [es1]
          exact hF
        refine ⟨s, vl, rfl, ?_, by rw [es1]; exact B8, hseg, hsi⟩
        obtain ⟨⟨cs, pcs, rs, vs1, vs2, h1, r1, h2, r2, G, q⟩, sm⟩ := F8
        exact ⟨⟨cs, pcs, rs, vs1, vs2, h1, r1, h2, r2, .take G hseg, q⟩, sm⟩
      walk_at "go"
      refine ite_d (fun h1 => ?_) (fun h1 => ?_)
      · have hsi2 : s < i := by omega
        obtain ⟨tl, rfl, hB8⟩ := id B8
        rcases hB8 with ⟨h3, _⟩ | ⟨_, r1, r2, c, d, g, u, h3, h4, h5, P, S⟩
        · omega
        dsimp only at h4 h5
        have bc := bsh c (by have := P.lt; have := P.ltn; omega)
        have bd' := bsh d (by have := P.ltn; omega)
        have bg := bsh g (by have := S.lt; have := S.ltn; omega)
        have bu := bsh u (by have := S.ltn; omega)
        obtain ⟨_, _⟩ := bc
        obtain ⟨_, _⟩ := bd'
        obtain ⟨_, _⟩ := bg
        obtain ⟨_, _⟩ := bu
        walk_at "go"
        refine ⟨r2, r1, _, _, _, _, rfl, h5, h4, ⟨by omega, by omega⟩, ⟨by omega, by omega⟩, ?_⟩
        walk_at "go"
        refine ite_d (fun h6 => ?_) (fun h6 => ?_)
        · -- it closes
          have nF : ¬ FitN (fun k => sx sp (s + k)) (fun k => sl sp (s + k)) (fun k => sh sp (s + k)) (i - s + 1) := fun hF => by
            have := hF c d g u P.lt P.ltn S.lt S.ltn
            dsimp only at this
            omega
          have n2' : 2 ≤ i - s := by
            rcases Nat.lt_or_ge (i - s) 2 with z | z
            · exact absurd (fitN_two (by omega) ash lsh) nF
            · exact z
          obtain ⟨i', j', hij, hjn, nM⟩ := three_of ash lsh fit n2' nF
          rw [es] at nM
          obtain ⟨⟨cs, pcs, rs, vs1, vs2, h18, r1', h28, r2', G, C, hrl, h0, hst, hpl, hd⟩, _⟩ := id F8
          have hvs1 : vs1.length = pcs.length := r1'.len
          have hvs2 : vs2.length = rs.length := r2'.len
          walk_at "go"
          refine ⟨tyL h18, ?_⟩
          walk_at "go"
          refine r_slL (sm8 _ _ ha) fun sb H9 n9 s9 e9 => ?_
          rw [cutV_nat xs _ _ hsi (by omega)] at e9
          walk_at "go"
          refine ⟨sb, vb, fun k => sx sp (s + k), fun k => sl sp (s + k), fun k => sh sp (s + k), i - s, rfl, ⟨_, e9, slice s i (sm8.trans s9) hsi (by omega)⟩, B6'.mono (same_tp s9), fun p q hpq hq => ash p q hpq (by omega), fun j hj => bsh j (by omega), fun j hj => lsh j (by omega), by omega, by omega, fit, fun l rl H10 s10 e10 l1 l2 lm => ?_⟩
          walk_at "go"
          refine newT fun tp H11 n11 s11 e11 => ?_
          walk_at "go"
          have s811 : Same H8 H11 := (s9.trans s10).trans s11
          have h111 := s811 _ _ h18
          have h211 := s811 _ _ h28
          refine r_app h111 (by omega) ?_
          have ta : Tp H11 (upd H11 lp (.lst (vs1 ++ [.ref tp]))) := Tp.mutL h111
          have h2a : upd H11 lp (.lst (vs1 ++ [.ref tp])) lr = some (.lst vs2) := by rw [upd_ne lplr.symm]; exact h211
          have sma : Same H (upd H11 lp (.lst (vs1 ++ [.ref tp]))) := same_mut (sm8.trans s811) n1
          walk_at "go"
          refine ⟨tyL h2a, ?_⟩
          walk_at "go"
          refine ⟨a, sp, s, i, rfl, ⟨xs, sma _ _ ha, hx.mono fun _ _ h => h.mono (same_tp sma)⟩, SO, hsi, hin, ⟨s + i', s + j', by omega, by omega, by omega, nM⟩, fun i2 j2 r H12 h7 h8 h9 nM2 s12 e12 => ?_⟩
          walk_at "go"
          have h212 := s12 _ _ h2a
          refine r_app h212 (by omega) ?_
          have tb2 : Tp H12 (upd H12 lr (.lst (vs2 ++ [.ref r]))) := Tp.mutL h212
          walk_at "go"
          refine newT fun tn H13 n13 s13 e13 => ?_
          walk_at "go"
          have t1113 : Tp H11 H13 := ((ta.trans (same_tp s12)).trans tb2).trans (same_tp s13)
          have C2 := C.push (l := l) (m' := (i : Int)) hrl (fun z => by rw [h0 z]; rfl) (by omega) (by omega) (fun j h1 h2 => LnS.of_shift lm j h1 (by omega))
          have hl2 : rs.length + 1 = (pcs ++ [((s : Int), l)]).length := by rw [List.length_append, List.length_singleton, hrl]
          have C3 := C2.why (r := ((i2 : Int), (j2 : Int), (i : Int))) hl2 (fun q hq => by
            rw [hrl, List.getElem?_append_right (Nat.le_refl _), Nat.sub_self] at hq
            cases Option.some.inj hq
            refine ⟨by show (s : Int) ≤ (i2 : Int); omega, by show (i2 : Int) < (j2 : Int); omega, by show (j2 : Int) < (i : Int); omega, Int.le_refl _, ?_⟩
            dsimp only
            rw [Int.toNat_natCast, Int.toNat_natCast, Int.toNat_natCast]
            exact nM2)
          refine ⟨i, _, rfl, ⟨⟨cs ++ [s], _, _, vs1 ++ [.ref tp], vs2 ++ [.ref r], ?_, (r1'.mono fun _ _ h => h.mono ((same_tp s811).trans t1113)).app ⟨tp, rl, rfl, t1113 _ _ e11, t1113 _ _ (s11 _ _ e10)⟩, s13 _ _ upd_same, (r2'.mono fun _ _ h => h.mono ((same_tp s811).trans t1113)).app ⟨r, rfl, s13 _ _ (tb2 _ _ e12)⟩, .close G ?_, C3, ?_, ?_, ?_, ?_, ?_⟩, (same_mut (sma.trans s12) lrN).trans s13⟩, ⟨tn, rfl, .inl ⟨by omega, e13⟩⟩, ?_, Nat.le_refl _⟩
          · refine s13 _ _ ?_
            rw [upd_ne lplr]
            exact s12 _ _ upd_same
          · intro sg
            refine nF ?_
            have : FitN (fun k => sx sp (s + k)) (fun k => sl sp (s + k)) (fun k => sh sp (s + k)) (i + 1 - s) := sg
            rw [es1] at this
            exact this
          · rw [List.length_append, List.length_append, hrl]
            rfl
          · intro z
            exact absurd z (by simp)
          · rw [List.map_append, hst, intsOf_app]
            rfl
          · rw [List.length_append, List.length_singleton]
            omega
          · intro k q hq
            by_cases hk : k < pcs.length
            · rw [List.getElem?_append_left hk] at hq
              exact hd k q hq
            · have hkl := (List.getElem?_eq_some_iff.mp hq).1
              rw [List.length_append, List.length_singleton] at hkl
              have ek : k = pcs.length := by omega
              subst ek
              rw [List.getElem?_append_right (Nat.le_refl _), Nat.sub_self] at hq
              cases Option.some.inj hq
              exact ⟨l1, l2⟩
          · have e1 : i + 1 - i = 1 := by omega
            show FitN _ _ _ (i + 1 - i)
            rw [e1]
            exact fitN_two (by decide) (ascN_shift SO.asc (by omega)) (fun j hj => SO.lh _ (by omega))
        · walk_at "go"
          exact goes (fit_of ash P S (by omega))
      · refine ite_f rfl ?_
        walk_at "go"
        exact goes (fitN_two (by omega) ash lsh)
    · rintro σ' H9 ⟨s', vl', rfl, F9, B9, fit9, hsi'⟩
      walk_at "go"
      exact ⟨s', vl', _, _, _, rfl, F9, B9, fit9, by omega, fun _ => by omega⟩
  · rw [hxl]
    rintro σ H5 ⟨s, vb, v5, v6, v7, rfl, F, B, fit, hsi, hsp⟩
    have hsn := hsp hN
    obtain ⟨⟨cs, pcs, rs, vs1, vs2, h1, r1, h2, r2, G, C, hrl, h0, hst, hpl, hd⟩, sm⟩ := F
    have hvs1 : vs1.length = pcs.length := r1.len
    walk_at "go"
    refine st_cut (fun σ' H' => ∃ (vs1' : List V) (l : Tr), σ' = [some (.ref a), some (.ref lp), some (.ref lr), some (.int (s : Int)), some vb, v5, v6, v7] ∧ Same H H' ∧ 1 ≤ l.2.2 ∧ l.2.2 ≤ 2000000 ∧ (∀ j : Nat, (s : Int) ≤ (j : Int) → (j : Int) < (sp.length : Int) → LnS (sx sp) (sl sp) (sh sp) l j) ∧
      H' lp = some (.lst vs1') ∧ LR (PcR H') vs1' (pcs ++ [((s : Int), l)]) ∧ H' lr = some (.lst vs2) ∧ LR (TrR H') vs2 rs) ?_ ?_
    · walk_at "go"
      refine x_truL (sm _ _ ha) ?_
      refine ite_t (by rw [isEmpty_of_pos (by omega)]; rfl) ?_
      walk_at "go"
      refine ⟨tyL h1, ?_⟩
      walk_at "go"
      refine r_slL (sm _ _ ha) fun sa H7 n7 s7 e7 => ?_
      rw [cutV_from xs s (by omega), ← List.take_of_length_le (l := xs.drop s) (i := sp.length - s) (by rw [List.length_drop]; omega)] at e7
      walk_at "go"
      refine ⟨sa, vb, fun k => sx sp (s + k), fun k => sl sp (s + k), fun k => sh sp (s + k), sp.length - s, rfl, ⟨_, e7, slice s sp.length (sm.trans s7) hsi (Nat.le_refl _)⟩, B.mono (same_tp s7), ascN_shift SO.asc (by omega), fun j hj => SO.bd _ (by omega), fun j hj => SO.lh _ (by omega), by omega, by omega, fit, fun l rl H8 s8 e8 l1 l2 lm => ?_⟩
      walk_at "go"
      refine newT fun tp H9 n9 s9 e9 => ?_
      walk_at "go"
      have s59 : Same H5 H9 := (s7.trans s8).trans s9
      have h19 := s59 _ _ h1
      refine r_app h19 (by omega) ?_
      walk_at "go"
      have ta : Tp H9 (upd H9 lp (.lst (vs1 ++ [.ref tp]))) := Tp.mutL h19
      refine ⟨vs1 ++ [.ref tp], l, rfl, same_mut (sm.trans s59) n1, l1, l2, fun j h1 h2 => LnS.of_shift lm j h1 (by omega), upd_same, (r1.mono fun _ _ h => h.mono ((same_tp s59).trans ta)).app ⟨tp, rl, rfl, ta _ _ e9, ta _ _ (s9 _ _ e8)⟩, ?_, r2.mono fun _ _ h => h.mono ((same_tp s59).trans ta)⟩
      rw [upd_ne lplr.symm]
      exact s59 _ _ h2
    · rintro σ' H6 ⟨vs1', l, rfl, sm6, l1, l2, lm, h16, r16, h26, r26⟩
      walk_at "go"
      refine mkK fun c H7 n7 s7 hc => ?_
      refine ⟨c, lp, lr, vs1', vs2, rfl, hc, s7 _ _ h16, s7 _ _ h26, fun H8 a' b' dx e8 ea eb fr8 t8 => ⟨rfl, ?_⟩⟩
      have cN : H c = none := sm6.free n7
      have sm8 : Same H H8 := fr8.out (sm6.trans s7) fun b hb => by rw [List.mem_singleton.mp hb]; exact cN
      have t68 : Tp H6 H8 := (same_tp s7).trans t8
      refine k c H8 (pcs ++ [((s : Int), l)]) rs sm8 ⟨dx, a', b', e8, ⟨vs1', ea, r16.mono fun _ _ h => h.mono t68⟩, vs2, eb, r26.mono fun _ _ h => h.mono t68⟩ ⟨C.push hrl (fun z => by rw [h0 z]; rfl) (by omega) (by omega) lm, by rw [List.length_append, List.length_singleton, hrl], ⟨cs, s, G, ?_⟩, fun k q hq => ?_⟩
      · rw [List.map_append, hst, intsOf_app]
        rfl
      · by_cases hk : k < pcs.length
        · rw [List.getElem?_append_left hk] at hq
          exact hd k q hq
        · have hkl := (List.getElem?_eq_some_iff.mp hq).1
          rw [List.length_append, List.length_singleton] at hkl
          have ek : k = pcs.length := by omega
          subst ek
          rw [List.getElem?_append_right (Nat.le_refl _), Nat.sub_self] at hq
          cases Option.some.inj hq
          exact ⟨l1, l2⟩
end
/-! ### readings: the judge of spans -/
section
variable {K : PySem.W.Frag}
theorem rd_is_span_piece (vs : List V) (H : Hp) (Q : VK) (E : XK) (h : sp_is_span_piece K vs H Q E) : t_is_span_piece K ⟨fun _ H' => Q .non H', Q, fun _ _ => False, fun _ _ => False⟩ (start N_is_span_piece vs) H := by
  obtain ⟨l, a, t, sp, rfl, hl, ⟨xs, ha, hx⟩, hn, d1, d2, hall, k⟩ := h
  have hxl : xs.length = sp.length := hx.len
  unfold t_is_span_piece
  walk_at "go"
  refine ite_t (decide_eq_true d1) ?_
  walk_at "go"
  refine i_listK ha ?_
  refine lcL (ds := List.replicate sp.length true) (fun _ v b => v = .bl b) (fun _ _ _ _ _ h => h) ha (by rw [List.length_replicate, hxl]) (by rw [List.length_replicate]; omega) ?_ gm_name ?_
  · intro i x d H' Q' s1 hi hd kq
    have ed : d = true := List.eq_of_mem_replicate (List.mem_of_getElem? hd)
    subst ed
    obtain ⟨s, hs, pa, rfl, hpa⟩ := hx.get' hi
    obtain ⟨b, m1, m2⟩ := hall i s hs
    walk_at "go"
    refine ⟨rfl, ?_⟩
    walk_at "go"
    exact ⟨l, pa, t, s, rfl, s1 _ _ hl, s1 _ _ hpa, b, d1, d2, m1, m2, kq _ _ (Same.refl _) rfl⟩
  · intro D H1 ys nD s1 hD hy
    rw [lr_bl hy] at hD
    walk_at "go"
    refine r_all hD ?_
    rw [all_true]
    exact k H1 s1
theorem rd_is_span_reason (vs : List V) (H : Hp) (Q : VK) (E : XK) (h : sp_is_span_reason K vs H Q E) : t_is_span_reason K ⟨fun _ H' => Q .non H', Q, fun _ _ => False, fun _ _ => False⟩ (start N_is_span_reason vs) H := by
  obtain ⟨a, r, s, t, sp, w, rfl, ⟨xs, ha, hx⟩, SO, hr, ⟨w1, w2, w3, w4, w5⟩, hs, ht, k⟩ := h
  obtain ⟨a1, g1, r1⟩ := span_get hx (show w.1.toNat < sp.length by omega)
  obtain ⟨a2, g2, r2⟩ := span_get hx (show w.2.1.toNat < sp.length by omega)
  obtain ⟨a3, g3, r3⟩ := span_get hx (show w.2.2.toNat < sp.length by omega)
  unfold t_is_span_reason
  walk_at "go"
  refine x_chK (decide_eq_true w1) ?_
  walk_at "go"
  refine x_chK (decide_eq_true w2) ?_
  walk_at "go"
  refine x_chK (decide_eq_true w3) ?_
  walk_at "go"
  rw [decide_eq_true w4]
  refine ite_f rfl ?_
  walk_at "go"
  refine r_ixL ha (at_i (by omega) g1) ?_
  walk_at "go"
  refine r_ixL ha (at_i (by omega) g2) ?_
  walk_at "go"
  refine r_ixL ha (at_i (by omega) g3) ?_
  walk_at "go"
  refine ⟨a1, a2, a3, _, _, _, rfl, r1, r2, r3, SO.bd _ (by omega), SO.bd _ (by omega), SO.bd _ (by omega), fun z => absurd z w5, fun _ => ?_⟩
  walk_at "go"
  exact k
theorem rd_judge_spans (T : TK K) (vs : List V) (H : Hp) (Q : VK) (E : XK) (h : sp_judge_spans K vs H Q E) : t_judge_spans K ⟨fun _ H' => Q .non H', Q, fun _ _ => False, fun _ _ => False⟩ (start N_judge_spans vs) H := by
  obtain ⟨a, c, sp, pcs, rs, rfl, ⟨xs, ha, hx⟩, SO, ⟨dx, la, lb, hc, ⟨ps, hla, hps⟩, ⟨qs, hlb, hqs⟩⟩, ⟨C, hlen, hgr, hd⟩, k⟩ := h
  have hN := SO.pos
  have hNl := SO.len
  have hxl : xs.length = sp.length := hx.len
  have hpl := starts_len C
  have hpl2 : ps.length = pcs.length := hps.len
  have hql : qs.length = rs.length := hqs.len
  unfold t_judge_spans
  walk_at "go"
  refine i_listK hla ?_
  refine lcL (ds := pcs.map (·.1)) (fun _ v n => v = .int n) (fun _ _ _ _ _ h => h) hla (by rw [List.length_map, hpl2]) (by rw [List.length_map]; omega) ?_ gm_tup2 ?_
  · intro i x n H' Q' s1 hi hn kq
    obtain ⟨q, hq, pa, pb, rfl, hpa, hpb⟩ := hps.get' hi
    rw [starts_get hq] at hn
    cases Option.some.inj hn
    walk_at "go"
    refine ⟨rfl, ?_⟩
    walk_at "go"
    exact kq _ _ (Same.refl _) rfl
  · intro D H1 ys nD s1 hD hy
    rw [lr_int hy] at hD
    have hDl : ((pcs.map (·.1)).map V.int).length = pcs.length := by rw [List.length_map, List.length_map]
    obtain ⟨z, hz⟩ : ∃ z, (pcs.map (·.1))[pcs.length - 1]? = some z := ⟨(pcs.map (·.1))[pcs.length - 1]'(by rw [List.length_map]; omega), List.getElem?_eq_getElem _⟩
    have hzm := (C.in' _ _ hz).2
    walk_at "go"
    refine x_truL (s1 _ _ ha) ?_
    refine ite_f (by rw [isEmpty_of_pos (by omega)]; rfl) ?_
    walk_at "go"
    refine x_truL hD ?_
    refine ite_f (by rw [isEmpty_of_pos (by omega)]; rfl) ?_
    walk_at "go"
    refine r_ixL hD (atI_nat (j := 0) (map_int_get (C.first' (by omega)))) ?_
    walk_at "go"
    refine ite_f rfl ?_
    walk_at "go"
    refine r_ixL hD (at_m (map_int_get hz) (by rw [hDl]; omega)) ?_
    walk_at "go"
    refine r_len (s1 _ _ ha) ?_
    walk_at "go"
    refine ite_f (decide_eq_false (by omega)) ?_
    walk_at "go"
    refine r_len (s1 _ _ hlb) ?_
    walk_at "go"
    refine r_len hD ?_
    walk_at "go"
    refine ite_f (by rw [decide_eq_true (show (qs.length : Int) = (((pcs.map (·.1)).map V.int).length : Int) - 1 by rw [hDl]; omega)]; rfl) ?_
    walk_at "go"
    refine r_len hD ?_
    walk_at "go"
    refine i_rng2K ⟨by decide, by decide⟩ (by rw [hDl]; omega) ?_
    have e1 : ((((pcs.map (·.1)).map V.int).length : Nat) - 1 : Int).toNat = pcs.length - 1 := by rw [hDl]; omega
    rw [e1]
    refine lcR (ds := List.replicate (pcs.length - 1) true) (fun _ v b => v = .bl b) (fun _ _ _ _ _ h => h) List.length_replicate (by rw [List.length_replicate]; omega) ?_ gm_name ?_
    · intro i d H' Q' s2 hi hd kq
      have ed : d = true := List.eq_of_mem_replicate (List.mem_of_getElem? hd)
      subst ed
      obtain ⟨x, hx⟩ : ∃ x, (pcs.map (·.1))[i]? = some x := ⟨(pcs.map (·.1))[i]'(by rw [List.length_map]; omega), List.getElem?_eq_getElem _⟩
      obtain ⟨y, hy⟩ : ∃ y, (pcs.map (·.1))[i + 1]? = some y := ⟨(pcs.map (·.1))[i + 1]'(by rw [List.length_map]; omega), List.getElem?_eq_getElem _⟩
      walk_at "go"
      refine ⟨rfl, ?_⟩
      walk_at "go"
      refine r_ixL (s2 _ _ hD) (at_of (j := i) (by omega) (map_int_get hx)) ?_
      walk_at "go"
      refine r_ixL (s2 _ _ hD) (at_of (j := i + 1) (by omega) (map_int_get hy)) ?_
      walk_at "go"
      exact kq _ _ (Same.refl _) (by rw [decide_eq_true (C.asc' i x y hx hy)])
    intro D2 H2 ys2 nD2 s2 hD2 hy2
    rw [lr_bl hy2] at hD2
    have s02 := s1.trans s2
    walk_at "go"
    refine r_all hD2 ?_
    rw [all_true]
    walk_at "go"
    refine ite_f rfl ?_
    walk_at "go"
    refine r_slL (s2 _ _ hD) fun b H3 n3 s3 e3 => ?_
    rw [cutV_1] at e3
    walk_at "go"
    refine r_len (s3 _ _ (s02 _ _ ha)) ?_
    walk_at "go"
    refine newL fun b2 H4 n4 s4 e4 => ?_
    refine r_catL (s4 _ _ e3) e4 (by rw [List.length_drop, hDl, List.length_singleton]; omega) fun en H5 n5 s5 e5 => ?_
    have s05 : Same H H5 := ((s02.trans s3).trans s4).trans s5
    have hD5 : H5 D = some (.lst ((pcs.map (·.1)).map V.int)) := s5 _ _ (s4 _ _ (s3 _ _ (s2 _ _ hD)))
    have ee : ((pcs.map (·.1)).map V.int).drop 1 ++ [V.int (xs.length : Int)] = (((pcs.map (·.1)).drop 1) ++ [(sp.length : Int)]).map V.int := by
      rw [List.map_append, List.map_drop, hxl]
      rfl
    rw [ee] at e5
    walk_at "go"
    refine i_enumK (s05 _ _ hla) ?_
    refine forE (fun i σ H' => ∃ v4 v5 v6 v7 v8 v9 : Option V, σ = [some (.ref a), some (.ref c), some (.ref D), some (.ref en), v4, v5, v6, v7, v8, v9] ∧ Same H5 H') ⟨_, _, _, _, _, _, rfl, Same.refl _⟩ (fun i σ H' _ ⟨_, _, _, _, _, _, _, s⟩ => s _ _ (s05 _ _ hla)) ?_ ?_
    · rintro i x σ H6 Tt H7 hi ⟨v4, v5, v6, v7, v8, v9, rfl, s6⟩ nT s7 eT
      obtain ⟨q, hq, pa, pb, rfl, hpa, hpb⟩ := hps.get' hi
      have s07 : Same H H7 := (s05.trans s6).trans s7
      have hik : i < pcs.length := by rw [← hpl2]; exact (List.getElem?_eq_some_iff.mp hi).1
      obtain ⟨q0, q1, q2⟩ := C.asc i q hq
      obtain ⟨d1, d2⟩ := hd i q hq
      have hpa7 := s07 _ _ hpa
      have hpb7 := s07 _ _ hpb
      walk_at "go"
      refine r_ixL (s7 _ _ (s6 _ _ e5)) (atI_nat (j := i) (map_int_get (ends_get i hik))) ?_
      walk_at "go"
      have es : q.1 = ((q.1.toNat : Nat) : Int) := by omega
      have et : nxt pcs (sp.length : Int) i = (((nxt pcs (sp.length : Int) i).toNat : Nat) : Int) := by omega
      refine r_slL (s07 _ _ ha) fun sl H8 n8 s8 e8 => ?_
      rw [es, et, cutV_nat xs _ _ (by omega) (by omega)] at e8
      have hpb8 := s8 _ _ hpb7
      walk_at "go"
      refine ⟨pb, sl, q.2, (sp.drop q.1.toNat).take ((nxt pcs (sp.length : Int) i).toNat - q.1.toNat), rfl, hpb8, ⟨_, e8, ((hx.mono fun _ _ h => h.mono ((same_tp s07).trans (same_tp s8))).drop _).take _⟩, by rw [List.length_take, List.length_drop]; omega, d1, d2, fun j s hj => ?_, fun H9 s9 => ?_⟩
      · rw [List.getElem?_take] at hj
        split at hj
        · rename_i hlt
          rw [List.getElem?_drop] at hj
          have hjn := (List.getElem?_eq_some_iff.mp hj).1
          obtain ⟨e1, e2, e3⟩ := sx_of hj
          have h1 := C.line i q hq (q.1.toNat + j) (by omega) (by omega)
          unfold LnS at h1
          rw [e1, e2, e3] at h1
          have h2 := SO.bd _ hjn
          rw [e1] at h2
          exact ⟨h2, h1⟩
        · cases hj
      · walk_at "go"
        refine ite_f rfl ?_
        walk_at "go"
        exact ⟨_, _, _, _, _, _, rfl, ((s6.trans s7).trans s8).trans s9⟩
    · rintro σ H6 ⟨v4, v5, v6, v7, v8, v9, rfl, s6⟩
      have s06 := s05.trans s6
      walk_at "go"
      refine i_enumK (s06 _ _ hlb) ?_
      refine forE (fun i σ H' => ∃ v4 v5 v6 v7 v8 v9 : Option V, σ = [some (.ref a), some (.ref c), some (.ref D), some (.ref en), v4, v5, v6, v7, v8, v9] ∧ Same H6 H') ⟨_, _, _, _, _, _, rfl, Same.refl _⟩ (fun i σ H' _ ⟨_, _, _, _, _, _, _, s⟩ => s _ _ (s06 _ _ hlb)) ?_ ?_
      · rintro i x σ H7 Tt H8 hi ⟨v4, v5, v6, v7, v8, v9, rfl, s7⟩ nT s8 eT
        obtain ⟨w, hw, wa, rfl, hwa⟩ := hqs.get' hi
        have s08 : Same H H8 := (s06.trans s7).trans s8
        have hir : i < rs.length := (List.getElem?_eq_some_iff.mp hw).1
        obtain ⟨q, hq⟩ : ∃ q, pcs[i]? = some q := ⟨pcs[i], List.getElem?_eq_getElem (by omega)⟩
        have hR := C.reason i w q hw hq
        obtain ⟨q0, q1, q2⟩ := C.asc i q hq
        have hn1 : (pcs.map (·.1))[i + 1]? = some (nxt pcs (sp.length : Int) i) := starts_nxt (by omega)
        have hn2 := C.in' _ _ hn1
        have hD8 := s8 _ _ (s7 _ _ (s6 _ _ hD5))
        walk_at "go"
        refine r_ixL hD8 (atI_nat (j := i) (map_int_get (starts_get hq))) ?_
        walk_at "go"
        refine r_ixL hD8 (at_of (j := i + 1) (by omega) (map_int_get hn1)) ?_
        walk_at "go"
        refine ⟨a, wa, q.1, _, sp, w, rfl, ⟨xs, s08 _ _ ha, hx.mono fun _ _ h => h.mono (same_tp s08)⟩, SO, s08 _ _ hwa, hR, q0, hn2.2, ?_⟩
        walk_at "go"
        refine ite_f rfl ?_
        walk_at "go"
        exact ⟨_, _, _, _, _, _, rfl, s7.trans s8⟩
      · rintro σ H7 ⟨v4, v5, v6, v7, v8, v9, rfl, s7⟩
        walk_at "go"
        exact k H7 (s06.trans s7)
end
/-! ### readings: Level -/
theorem LvAt.same {K : PySem.W.Frag} {H H' : Hp} {v : V} {d : LvD} (h : LvAt K H v d) (s : Same H H') : LvAt K H' v d := by
  obtain ⟨p, dx, la, lp, e, hp, hm, hps⟩ := h
  exact ⟨p, dx, la, lp, e, s _ _ hp, s _ _ hm, hps.mono s fun _ _ h => h.mono (same_tp s)⟩
section
variable {K : PySem.W.Frag}
theorem rd_Level_init (T : TK K) (vs : List V) (H : Hp) (Q : VK) (E : XK) (h : sp_Level_init K vs H Q E) : t_Level_init K ⟨fun _ H' => Q .non H', Q, fun _ _ => False, fun _ _ => False⟩ (start N_Level_init vs) H := by
  obtain ⟨p, a, e, ms, rfl, ⟨dx, hp⟩, ha, MO, he0, he1, k⟩ := h
  unfold IntsAt at ha
  have hap : a ≠ p := ne_of ha hp (by intro z; cases z)
  have hml := MO.len
  have hm0 := MO.pos
  unfold t_Level_init
  walk_at "go"
  have t1 : Tp H (upd H p (.ins (He.ga K "Level") dx (putF "marks" (.ref a) []))) := Tp.mutI hp
  have tb : Tp H (upd (upd H p (.ins (He.ga K "Level") dx (putF "marks" (.ref a) []))) p (.ins (He.ga K "Level") dx (putF "error" (.int e) (putF "marks" (.ref a) [])))) := t1.trans (Tp.mutI upd_same)
  have frb : Frm [p] H (upd (upd H p (.ins (He.ga K "Level") dx (putF "marks" (.ref a) []))) p (.ins (He.ga K "Level") dx (putF "error" (.int e) (putF "marks" (.ref a) [])))) := (frm_upd (List.mem_singleton.mpr rfl)).trans (frm_upd (List.mem_singleton.mpr rfl))
  have hpb : upd (upd H p (.ins (He.ga K "Level") dx (putF "marks" (.ref a) []))) p (.ins (He.ga K "Level") dx (putF "error" (.int e) (putF "marks" (.ref a) []))) p = some (.ins (He.ga K "Level") dx (putF "error" (.int e) (putF "marks" (.ref a) []))) := upd_same
  generalize upd (upd H p (.ins (He.ga K "Level") dx (putF "marks" (.ref a) []))) p (.ins (He.ga K "Level") dx (putF "error" (.int e) (putF "marks" (.ref a) []))) = Hb at tb frb hpb ⊢
  have hab := frb _ _ ha (by simpa using hap)
  refine i_enumK hab ?_
  refine lcE (ds := keyRows ms) PtR (fun _ _ _ _ t h => h.mono t) hab (by rw [keyRows_len, List.length_map]) (by rw [keyRows_len]; omega) ?_ gm_tup2 ?_
  · intro i x d Tt H' Q' s1 hi hd eT kq
    obtain ⟨z, hz, rfl⟩ := map_int_get' hi
    rw [keyRows_get (List.getElem?_eq_some_iff.mp hz).1, vOf_of hz] at hd
    cases Option.some.inj hd
    walk_at "go"
    refine ⟨rfl, ?_⟩
    walk_at "go"
    exact newT fun r H2 n2 s2 e2 => kq _ _ s2 ⟨r, rfl, e2⟩
  · intro D H1 ys nD s1 hD hy
    walk_at "go"
    refine ⟨D, e, keyRows ms, rfl, ⟨ys, hD, hy⟩, keyRows_ok hm0 hml MO.asc MO.bd, he0, fun c H2 pcs rs s2 ⟨dc, pa, pb, hc, ⟨ps, hpa, hps⟩, _⟩ R => ?_⟩
    rw [keyRows_len] at R
    walk_at "go"
    have hp2 : H2 p = some (.ins (He.ga K "Level") dx (putF "error" (.int e) (putF "marks" (.ref a) []))) := s2 _ _ (s1 _ _ hpb)
    have t3 : Tp H2 (upd H2 p (.ins (He.ga K "Level") dx (putF "pieces" (.ref pa) (putF "error" (.int e) (putF "marks" (.ref a) []))))) := Tp.mutI hp2
    have pap : pa ≠ p := ne_of hpa hp2 (by intro z; cases z)
    refine k _ pcs ⟨p, dx, a, pa, rfl, upd_same, ?_, ⟨ps, ?_, hps.mono fun _ _ h => h.mono t3⟩⟩ ⟨MO, he0, he1, rs, R⟩ (((frb.same s1).same s2).trans (frm_upd (List.mem_singleton.mpr rfl))) (((tb.trans (same_tp s1)).trans (same_tp s2)).trans t3)
    · show upd _ _ _ a = _
      rw [upd_ne hap]
      exact s2 _ _ (s1 _ _ hab)
    · rw [upd_ne pap]
      exact hpa
theorem rd_Level_end_of (T : TK K) (vs : List V) (H : Hp) (Q : VK) (E : XK) (h : sp_Level_end_of K vs H Q E) : t_Level_end_of K ⟨fun _ H' => Q .non H', Q, fun _ _ => False, fun _ _ => False⟩ (start N_Level_end_of vs) H := by
  obtain ⟨p, d, i, rfl, ⟨p', dx, la, lp, ep, hp, hm, ⟨ps, hlp, hps⟩⟩, hi, k⟩ := h
  cases ep
  unfold IntsAt at hm
  have hpl : ps.length = d.pcs.length := hps.len
  unfold t_Level_end_of
  walk_at "go"
  refine r_len hlp ?_
  walk_at "go"
  refine ite_d (fun h => ?_) (fun h => ?_)
  · obtain ⟨q, hq⟩ : ∃ q, d.pcs[i + 1]? = some q := ⟨_, List.getElem?_eq_getElem (show i + 1 < d.pcs.length by omega)⟩
    obtain ⟨v, hv, pa, pb, rfl, hpa, hpb⟩ := hps.get hq
    walk_at "go"
    refine r_ixL hlp (at_i (by omega) (show ps[((i : Int) + 1).toNat]? = _ by rw [show ((i : Int) + 1).toNat = i + 1 by omega]; exact hv)) ?_
    walk_at "go"
    unfold nxt at k
    rw [hq] at k
    exact k
  · walk_at "go"
    refine r_len hm ?_
    rw [List.length_map]
    unfold nxt at k
    rw [List.getElem?_eq_none (by omega)] at k
    exact k
theorem rd_Level_find (T : TK K) (vs : List V) (H : Hp) (Q : VK) (E : XK) (h : sp_Level_find K vs H Q E) : t_Level_find K ⟨fun _ H' => Q .non H', Q, fun _ _ => False, fun _ _ => False⟩ (start N_Level_find vs) H := by
  obtain ⟨H0, p, lk, d, kk, x, dep, ws, rfl, LA, s0, nlk, ⟨MO, he0, he1, rs, R⟩, hk, bx, hx, hlk, hws, k⟩ := h
  obtain ⟨p', dx, la, lp, ep, hp, hm, ⟨ps, hlp, hps⟩⟩ := id LA
  cases ep
  unfold IntsAt at hm
  obtain ⟨q, hq⟩ : ∃ q, d.pcs[kk]? = some q := ⟨_, List.getElem?_eq_getElem hk⟩
  obtain ⟨v, hv, pa, pb, rfl, hpa, hpb⟩ := hps.get hq
  obtain ⟨q0, q1, q2⟩ := R.ok.asc kk q hq
  obtain ⟨d1, d2, _⟩ := R.d kk q hq
  have hml := MO.len
  obtain ⟨r, r1, r2, r3, r4, r5, r6, r7⟩ := find_bounds MO.asc R hq (hx q hq)
  have hp' := s0 _ _ hp
  have hpa' := s0 _ _ hpa
  have hpb' := s0 _ _ hpb
  unfold t_Level_find
  walk_at "go"
  refine r_ixL (s0 _ _ hlp) (atI_nat hv) ?_
  walk_at "go"
  refine ⟨⟨p, dx, _, rfl, hp', rfl⟩, ?_⟩
  walk_at "go"
  refine ⟨p, d, kk, rfl, LA.same s0, hk, ?_⟩
  walk_at "go"
  refine ⟨pb, _, _, _, _, rfl, hpb', by omega, d2, bx, ?_⟩
  walk_at "go"
  refine ⟨pb, _, _, _, _, rfl, hpb', by omega, d2, bx, ?_⟩
  walk_at "go"
  have hl0 : 0 ≤ min (nxt d.pcs (d.marks.length : Int) kk - 1) (max q.1 (-(-(q.2.1 * x + q.2.2.1) / q.2.2.2) - 1 - d.err)) := by omega
  have hh0 : min (nxt d.pcs (d.marks.length : Int) kk - 1) ((q.2.1 * x + q.2.2.1) / q.2.2.2 + d.err) ≤ nxt d.pcs (d.marks.length : Int) kk - 1 := by omega
  generalize min (nxt d.pcs (d.marks.length : Int) kk - 1) (max q.1 (-(-(q.2.1 * x + q.2.2.1) / q.2.2.2) - 1 - d.err)) = low0 at r5 r7 hl0 ⊢
  generalize min (nxt d.pcs (d.marks.length : Int) kk - 1) ((q.2.1 * x + q.2.2.1) / q.2.2.2 + d.err) = high0 at r6 r7 hh0 ⊢
  have el : low0 = ((low0.toNat : Nat) : Int) := by omega
  have eh : high0 = ((high0.toNat : Nat) : Int) := by omega
  rw [el, eh]
  refine s_while (fun m σ H' => ∃ (low high : Nat) (v10 : Option V) (us : List V) (zs : List Int), σ = [some (.ref p), some (.int (kk : Int)), some (.int x), some (.int dep), some (.ref lk), some (.int (nxt d.pcs (d.marks.length : Int) kk - 1)), some (.int (low : Int)), some (.int (high : Int)), some (.int q.1), some (.ref pb), v10] ∧
      low ≤ r ∧ r ≤ high ∧ (high : Int) < nxt d.pcs (d.marks.length : Int) kk ∧ m = high - low ∧ H' lk = some (.lst (ws ++ us)) ∧ LR (PtR H') us (zs.map fun z => (dep, z)) ∧ (∀ z, z ∈ zs → 0 ≤ z ∧ z < (d.marks.length : Int)) ∧
      (∀ L : Nat, 2 * d.err + 2 < 2 ^ L → zs.length ≤ L ∧ high - low + 1 ≤ 2 ^ (L - zs.length)) ∧ Same H0 H' ∧ Tp H H') (high0.toNat - low0.toNat)
    ⟨low0.toNat, high0.toNat, none, [], [], rfl, by omega, by omega, by omega, rfl, by rw [List.append_nil]; exact hlk, LR.nil, fun z h => by simp at h, fun L hL => ⟨Nat.zero_le _, ?_⟩, s0, Tp.refl _⟩ ?_
  · show _ ≤ 2 ^ (L - 0)
    rw [Nat.sub_zero]
    have h2 : ((2 ^ L : Nat) : Int) = (2 : Int) ^ L := by push_cast; rfl
    omega
  rintro m σ H' ⟨low, high, v10, us, zs, rfl, lr, rh, hn, rfl, hlk', hus, hzs, hL, s0', t'⟩
  have hL6 := hL 6 (by have : (2 : Int) ^ 6 = 64 := by decide
                       omega)
  have hul : us.length = zs.length := by rw [hus.len, List.length_map]
  walk_at "go"
  refine whD (fun hlt => ?_) (fun hge => ?_)
  · have hlt' : low < high := by omega
    walk_at "go"
    refine r_fdiv ⟨by decide, by decide⟩ ?_
    have em : ((low : Int) + (high : Int) + 1) / 2 = (((low + high + 1) / 2 : Nat) : Int) := by omega
    rw [em]
    generalize hmid : (low + high + 1) / 2 = mid
    have m1 : low < mid := by omega
    have m2 : mid ≤ high := by omega
    have m3 : mid < d.marks.length := by omega
    walk_at "go"
    refine ⟨tyL hlk', ?_⟩
    walk_at "go"
    refine newT fun tt H1 n1 s1 e1 => ?_
    walk_at "go"
    have hlk1 := s1 _ _ hlk'
    refine r_app hlk1 (by rw [List.length_append]; omega) ?_
    have t1 : Tp H1 (upd H1 lk (.lst (ws ++ us ++ [.ref tt]))) := Tp.mutL hlk1
    have s2 : Same H0 (upd H1 lk (.lst (ws ++ us ++ [.ref tt]))) := same_mut (s0'.trans s1) nlk
    have hlk2 : upd H1 lk (.lst (ws ++ us ++ [.ref tt])) lk = some (.lst (ws ++ (us ++ [.ref tt]))) := by rw [upd_same, List.append_assoc]
    have hus2 : LR (PtR (upd H1 lk (.lst (ws ++ us ++ [.ref tt])))) (us ++ [.ref tt]) ((zs ++ [(mid : Int)]).map fun z => (dep, z)) := by
      rw [List.map_append]
      exact (hus.mono fun _ _ h => h.mono ((same_tp s1).trans t1)).app ⟨tt, rfl, t1 _ _ e1⟩
    have t2 : Tp H (upd H1 lk (.lst (ws ++ us ++ [.ref tt]))) := (t'.trans (same_tp s1)).trans t1
    generalize upd H1 lk (.lst (ws ++ us ++ [.ref tt])) = H2 at s2 hlk2 hus2 t2 ⊢
    have hzs2 : ∀ z, z ∈ zs ++ [(mid : Int)] → 0 ≤ z ∧ z < (d.marks.length : Int) := fun z hz => by
      rcases List.mem_append.mp hz with h | h
      · exact hzs z h
      · rw [List.mem_singleton.mp h]
        omega
    have hL2 : ∀ L : Nat, 2 * d.err + 2 < 2 ^ L → ∀ c : Nat, c ≤ (high - low + 1 + 1) / 2 → (zs ++ [(mid : Int)]).length ≤ L ∧ c ≤ 2 ^ (L - (zs ++ [(mid : Int)]).length) := fun L h c hc => by
      obtain ⟨h1, h2⟩ := hL L h
      obtain ⟨h3, h4⟩ := half_size (by omega) h1 h2
      rw [List.length_append, List.length_singleton]
      exact ⟨h3, by omega⟩
    walk_at "go"
    refine r_ixL (s2 _ _ hm) (atI_nat (map_int_get (vOf_get m3))) ?_
    walk_at "go"
    refine ite_d (fun hle => ?_) (fun hle => ?_)
    · walk_at "go"
      refine ⟨high - mid, by omega, mid, high, _, _, zs ++ [(mid : Int)], rfl, ?_, rh, hn, rfl, hlk2, hus2, hzs2, fun L h => hL2 L h _ (by omega), s2, t2⟩
      rcases Nat.lt_or_ge r mid with z | z
      · have := r4 mid z (by omega)
        omega
      · exact z
    · walk_at "go"
      have e2 : (mid : Int) - 1 = ((mid - 1 : Nat) : Int) := by omega
      rw [e2]
      refine ⟨mid - 1 - low, by omega, low, mid - 1, _, _, zs ++ [(mid : Int)], rfl, lr, ?_, by omega, rfl, hlk2, hus2, hzs2, fun L h => hL2 L h _ (by omega), s2, t2⟩
      rcases Nat.lt_or_ge r mid with z | z
      · omega
      · exfalso
        refine hle ?_
        rcases Nat.lt_or_ge mid r with z2 | z2
        · have := MO.asc mid r z2 (by omega)
          omega
        · have e3 : mid = r := by omega
          rw [e3]
          exact r3
  · have e1 : low = r := by omega
    subst e1
    walk_at "go"
    exact k low H' us zs (fun q' hq' => by rw [hq] at hq'; cases hq'; exact r1) r2 r3 (fun h => r4 (low + 1) (by omega) (by omega)) hlk' hus hzs (fun L h => (hL L h).1) s0' t'
end
/-! ### readings: Index.__init__, level_keys -/
theorem Frm.then {fp fp2 : List Addr} {H H1 H2 : Hp} (a : Frm fp H H1) (b : Frm fp2 H1 H2) (h : ∀ c, c ∈ fp2 → H c = none) : Frm fp H H2 := fun c o e n => b c o (a c o e n) fun m => by
  rw [h c m] at e
  cases e
theorem LvAt.mut {K : PySem.W.Frag} {H : Hp} {v : V} {d : LvD} {ll : Addr} {vs : List V} {o : HO} (h : LvAt K H v d) (hl : H ll = some (.lst vs)) {v0 : V} {d0 : LvD} (h0 : vs[0]? = some v0) (h1 : LvAt K H v0 d0) : LvAt K (upd H ll o) v d := by
  obtain ⟨p, dx, la, lp, e, hp, hm, ⟨ps, hlp, hps⟩⟩ := h
  obtain ⟨p0, dx0, la0, lp0, e0, hp0, _, _⟩ := h1
  have n1 : p ≠ ll := ne_of hp hl (by intro z; cases z)
  have n2 : la ≠ ll := fun z => by
    unfold IntsAt at hm
    rw [z, hl] at hm
    cases hm
    obtain ⟨z2, _, e2⟩ := map_int_get' h0
    rw [e0] at e2
    cases e2
  have n3 : lp ≠ ll := fun z => by
    rw [z, hl] at hlp
    cases hlp
    obtain ⟨q, hq, pa, pb, e2, hpa, _⟩ := hps.get' h0
    rw [e0] at e2
    cases e2
    rw [hp0] at hpa
    cases hpa
  refine ⟨p, dx, la, lp, e, by rw [upd_ne n1]; exact hp, ?_, ps, by rw [upd_ne n3]; exact hlp, hps.mono fun _ _ h => h.mono (Tp.mutL hl)⟩
  unfold IntsAt
  rw [upd_ne n2]
  exact hm
theorem LvAt.frm {K : PySem.W.Frag} {H H' : Hp} {v : V} {d : LvD} {p2 C dx2 : Addr} (h : LvAt K H v d) (f : Frm [p2] H H') (t : Tp H H') (h2 : H p2 = some (.ins C dx2 [])) : LvAt K H' v d := by
  obtain ⟨p, dx, la, lp, e, hp, hm, ⟨ps, hlp, hps⟩⟩ := h
  have n1 : p ≠ p2 := fun z => by
    rw [z, h2] at hp
    cases hp
  exact ⟨p, dx, la, lp, e, f _ _ hp (by simpa using n1), f _ _ hm (by simpa using ne_of hm h2 (by intro z; cases z)), ps, f _ _ hlp (by simpa using ne_of hlp h2 (by intro z; cases z)), hps.mono fun _ _ h => h.mono t⟩
/-- the keys of the next level -/
def upKeys (d : LvD) : List Int := d.pcs.map fun q => vOf d.marks q.1.toNat
theorem upKeys_len (d : LvD) : (upKeys d).length = d.pcs.length := by
  unfold upKeys
  rw [List.length_map]
theorem upKeys_get {d : LvD} {j : Nat} {q : Pc} (h : d.pcs[j]? = some q) : vOf (upKeys d) j = vOf d.marks q.1.toNat := by
  refine vOf_of ?_
  unfold upKeys
  rw [List.getElem?_map, h]
  rfl
theorem upKeys_ok {d : LvD} (ok : LvOk d) : MarksOk (upKeys d) := by
  obtain ⟨MO, _, _, rs, R⟩ := ok
  have g : ∀ j, j < d.pcs.length → ∃ q, d.pcs[j]? = some q := fun j hj => ⟨_, List.getElem?_eq_getElem hj⟩
  have hlen := pieces_half R
  have hm := MO.len
  have hl := R.len
  refine ⟨fun i j hij hj => ?_, fun i hi => ?_, by rw [upKeys_len]; omega, by rw [upKeys_len]; omega⟩
  · rw [upKeys_len] at hj
    obtain ⟨q, hq⟩ := g i (by omega)
    obtain ⟨q', hq'⟩ := g j hj
    rw [upKeys_get hq, upKeys_get hq']
    have h1 := R.ok.start_mono hq hij hq'
    have h2 := start_lt R.ok hq
    exact MO.asc _ _ (by omega) (start_lt R.ok hq').2
  · rw [upKeys_len] at hi
    obtain ⟨q, hq⟩ := g i hi
    rw [upKeys_get hq]
    exact MO.bd _ (start_lt R.ok hq).2
/-- the levels so far -/
structure IxPart (stored : List Int) (e u : Int) (lvs : List LvD) : Prop where
  first : ∀ d, lvs[0]? = some d → d.marks = stored ∧ d.err = e
  more : ∀ (k : Nat) (d d' : LvD), lvs[k]? = some d → lvs[k + 1]? = some d' → d'.err = u ∧ d'.marks.length = d.pcs.length ∧ ∀ (j : Nat) (q : Pc), d.pcs[j]? = some q → vOf d'.marks j = vOf d.marks q.1.toNat
  ok : ∀ (k : Nat) (d : LvD), lvs[k]? = some d → LvOk d
theorem IxPart.push {stored : List Int} {e u : Int} {lvs : List LvD} {last : LvD} {pcs : List Pc} (I : IxPart stored e u lvs) (hl : lvs[lvs.length - 1]? = some last) (ok : LvOk ⟨upKeys last, u, pcs⟩) : IxPart stored e u (lvs ++ [⟨upKeys last, u, pcs⟩]) := by
  have hpos : 0 < lvs.length := by have := (List.getElem?_eq_some_iff.mp hl).1; omega
  have split : ∀ (k : Nat) (d : LvD), (lvs ++ [(⟨upKeys last, u, pcs⟩ : LvD)])[k]? = some d → (k < lvs.length ∧ lvs[k]? = some d) ∨ (k = lvs.length ∧ d = ⟨upKeys last, u, pcs⟩) := fun k d h => by
    by_cases hk : k < lvs.length
    · rw [List.getElem?_append_left hk] at h
      exact .inl ⟨hk, h⟩
    · have h2 := (List.getElem?_eq_some_iff.mp h).1
      rw [List.length_append, List.length_singleton] at h2
      have ek : k = lvs.length := by omega
      subst ek
      rw [List.getElem?_append_right (Nat.le_refl _), Nat.sub_self] at h
      exact .inr ⟨rfl, (Option.some.inj h).symm⟩
  refine ⟨fun d h => ?_, fun k d d' h h' => ?_, fun k d h => ?_⟩
  · rcases split 0 d h with ⟨_, h⟩ | ⟨h, _⟩
    · exact I.first d h
    · omega
  · rcases split _ _ h' with ⟨h1, h2⟩ | ⟨h1, rfl⟩
    · rcases split _ _ h with ⟨_, h3⟩ | ⟨h3, _⟩
      · exact I.more k d d' h3 h2
      · omega
    · rcases split _ _ h with ⟨_, h3⟩ | ⟨h3, _⟩
      · have ek : k = lvs.length - 1 := by omega
        subst ek
        rw [hl] at h3
        cases Option.some.inj h3
        exact ⟨rfl, upKeys_len _, fun j q hq => upKeys_get hq⟩
      · omega
  · rcases split k d h with ⟨_, h⟩ | ⟨_, rfl⟩
    · exact I.ok k d h
    · exact ok
section
variable {K : PySem.W.Frag}
theorem rd_Index_init (T : TK K) (vs : List V) (H : Hp) (Q : VK) (E : XK) (h : sp_Index_init K vs H Q E) : t_Index_init K ⟨fun _ H' => Q .non H', Q, fun _ _ => False, fun _ _ => False⟩ (start N_Index_init vs) H := by
  obtain ⟨p, a, e, u, ms, rfl, ⟨dx, hp⟩, ha, MO, he0, he1, hu0, hu1, k⟩ := h
  unfold IntsAt at ha
  have hml := MO.len
  have hm0 := MO.pos
  unfold t_Index_init
  walk_at "go"
  refine r_list ha fun ls H1 n1 s1 e1 => ?_
  have hp1 := s1 _ _ hp
  walk_at "go"
  have fr2 : Frm [p] H (upd H1 p (.ins (He.ga K "Index") dx (putF "stored" (.ref ls) []))) := (frm_same s1).trans (frm_upd (List.mem_singleton.mpr rfl))
  have hp2 : upd H1 p (.ins (He.ga K "Index") dx (putF "stored" (.ref ls) [])) p = some (.ins (He.ga K "Index") dx (putF "stored" (.ref ls) [])) := upd_same
  have lsp : ls ≠ p := ne_of e1 hp1 (by intro z; cases z)
  have hls2 : upd H1 p (.ins (He.ga K "Index") dx (putF "stored" (.ref ls) [])) ls = some (.lst (ms.map V.int)) := by rw [upd_ne lsp]; exact e1
  generalize upd H1 p (.ins (He.ga K "Index") dx (putF "stored" (.ref ls) [])) = H2 at fr2 hp2 hls2 ⊢
  refine mkK fun p2 H3 n3 s3 hp3 => ?_
  refine ⟨p2, ls, e, ms, rfl, hp3, s3 _ _ hls2, MO, he0, he1, fun H4 pcs LA OK fr4 t4 => ⟨rfl, ?_⟩⟩
  have p2p : p2 ≠ p := fun z => by rw [z, hp2] at n3; cases n3
  have p2N : H p2 = none := by
    cases hz : H p2 with
    | none => rfl
    | some o => rw [fr2 _ _ hz (by simpa using p2p)] at n3; cases n3
  have hp4 := fr4 _ _ (s3 _ _ hp2) (by simpa using p2p.symm)
  have lsp2 : ls ≠ p2 := fun z => by rw [z, n3] at hls2; cases hls2
  have hls4 := fr4 _ _ (s3 _ _ hls2) (by simpa using lsp2)
  have frH4 : Frm [p] H H4 := (fr2.same s3).then fr4 fun c hc => by rw [List.mem_singleton.mp hc]; exact p2N
  walk_at "go"
  refine newL fun ll H5 n5 s5 e5 => ?_
  have hp5 := s5 _ _ hp4
  walk_at "go"
  have llp : ll ≠ p := ne_of e5 hp5 (by intro z; cases z)
  have fr6 : Frm [p] H (upd H5 p (.ins (He.ga K "Index") dx (putF "_levels" (.ref ll) (putF "stored" (.ref ls) [])))) := (frH4.same s5).trans (frm_upd (List.mem_singleton.mpr rfl))
  have hp6 : upd H5 p (.ins (He.ga K "Index") dx (putF "_levels" (.ref ll) (putF "stored" (.ref ls) []))) p = some (.ins (He.ga K "Index") dx [("stored", .ref ls), ("_levels", .ref ll)]) := upd_same
  have hls6 : IntsAt (upd H5 p (.ins (He.ga K "Index") dx (putF "_levels" (.ref ll) (putF "stored" (.ref ls) [])))) ls ms := by
    unfold IntsAt
    rw [upd_ne lsp]
    exact s5 _ _ hls4
  have hll6 : upd H5 p (.ins (He.ga K "Index") dx (putF "_levels" (.ref ll) (putF "stored" (.ref ls) []))) ll = some (.lst [.ref p2]) := by rw [upd_ne llp]; exact e5
  have LA6 : LvAt K (upd H5 p (.ins (He.ga K "Index") dx (putF "_levels" (.ref ll) (putF "stored" (.ref ls) [])))) (.ref p2) ⟨ms, e, pcs⟩ := by
    obtain ⟨q, dq, la, lp, eq, hq, hm, ⟨ps, hlp, hps⟩⟩ := LA.same s5
    cases eq
    refine ⟨p2, dq, la, lp, rfl, by rw [upd_ne p2p]; exact hq, ?_, ps, ?_, hps.mono fun _ _ h => h.mono (Tp.mutI hp5)⟩
    · unfold IntsAt
      rw [upd_ne (ne_of hm hp5 (by intro z; cases z))]
      exact hm
    · rw [upd_ne (ne_of hlp hp5 (by intro z; cases z))]
      exact hlp
  have llN : H ll = none := by
    cases hz : H ll with
    | none => rfl
    | some o => rw [frH4 _ _ hz (by simpa using llp)] at n5; cases n5
  generalize upd H5 p (.ins (He.ga K "Index") dx (putF "_levels" (.ref ll) (putF "stored" (.ref ls) []))) = H6 at fr6 hp6 hls6 hll6 LA6 ⊢
  clear fr2 hp2 hls2 n3 s3 hp3 LA fr4 t4 hp4 hls4 frH4 n5 s5 e5 hp5 hp1 e1 n1 s1
  have hpc : pcs.length ≤ ms.length := by
    obtain ⟨_, _, _, rs, R⟩ := OK
    exact starts_len R.ok
  have lsll : ls ≠ ll := fun z => by
    unfold IntsAt at hls6
    rw [z, hll6] at hls6
    cases ms with
    | nil => exact absurd hm0 (Nat.lt_irrefl 0)
    | cons a r =>
      injection hls6 with h1
      injection h1 with h1
      injection h1 with h1 _
      cases h1
  refine s_while (fun m σ H' => ∃ (lvs : List LvD) (vs : List V) (last : LvD) (v4 v5 v6 : Option V), σ = [some (.ref p), some (.ref a), some (.int e), some (.int u), v4, v5, v6] ∧ H' p = some (.ins (He.ga K "Index") dx [("stored", .ref ls), ("_levels", .ref ll)]) ∧ H' ll = some (.lst vs) ∧ LR (LvAt K H') vs lvs ∧ IntsAt H' ls ms ∧
      IxPart ms e u lvs ∧ lvs[lvs.length - 1]? = some last ∧ m = last.pcs.length ∧ lvs.length + last.pcs.length ≤ 10001 ∧ Frm [p] H H') pcs.length
    ⟨[⟨ms, e, pcs⟩], [.ref p2], ⟨ms, e, pcs⟩, none, none, none, rfl, hp6, hll6, LR.nil.app LA6, hls6, ⟨fun d h => by cases Option.some.inj h; exact ⟨rfl, rfl⟩, fun k d d' h h' => by
      have := (List.getElem?_eq_some_iff.mp h').1
      rw [List.length_singleton] at this
      omega, fun k d h => by
      have h2 := (List.getElem?_eq_some_iff.mp h).1
      rw [List.length_singleton] at h2
      have e0 : k = 0 := by omega
      subst e0
      cases Option.some.inj h
      exact OK⟩, rfl, rfl, by rw [List.length_singleton]; show 1 + pcs.length ≤ 10001; omega, fr6⟩ ?_
  rintro m σ H' ⟨lvs, ws, last, v4, v5, v6, rfl, hp', hll, hws, hls, IP, hlast, rfl, hcnt, fr⟩
  have hwl : ws.length = lvs.length := hws.len
  obtain ⟨vl, hvl, hLA⟩ := hws.get hlast
  obtain ⟨pl, dl, la, lp, rfl, hpl, hm, ⟨ps, hlp, hps⟩⟩ := id hLA
  have OKl := IP.ok _ _ hlast
  obtain ⟨MOl, _, _, rs, R⟩ := id OKl
  have hpsl : ps.length = last.pcs.length := hps.len
  have hlvp : 0 < lvs.length := by have := (List.getElem?_eq_some_iff.mp hlast).1; omega
  have hmll := MOl.len
  walk_at "go"
  refine r_ixL hll (at_m hvl (by omega)) ?_
  walk_at "go"
  refine r_len hlp ?_
  walk_at "go"
  refine whD (fun hgt => ?_) (fun hle => ?_)
  · walk_at "go"
    refine r_ixL hll (at_m hvl (by omega)) ?_
    walk_at "go"
    refine ⟨tyL hll, ?_⟩
    walk_at "go"
    refine i_listK hlp ?_
    refine lcL (ds := upKeys last) (fun _ v n => v = .int n) (fun _ _ _ _ _ h => h) hlp (by rw [upKeys_len, hpsl]) (by rw [upKeys_len]; have := pieces_half R; omega) ?_ gm_tup2 ?_
    · intro i x n H7 Q' s7 hi hn kq
      obtain ⟨q, hq, pa, pb, rfl, hpa, hpb⟩ := hps.get' hi
      unfold upKeys at hn
      rw [List.getElem?_map, hq] at hn
      cases Option.some.inj hn
      have hst := start_lt R.ok hq
      walk_at "go"
      refine ⟨rfl, ?_⟩
      walk_at "go"
      refine r_ixL (s7 _ _ hm) (at_i hst.1 (map_int_get (vOf_get hst.2))) ?_
      walk_at "go"
      exact kq _ _ (Same.refl _) rfl
    · intro D H7 ys nD s7 hD hy
      rw [lr_int hy] at hD
      walk_at "go"
      refine mkK fun p3 H8 n8 s8 hp8 => ?_
      refine ⟨p3, D, u, upKeys last, rfl, hp8, s8 _ _ hD, upKeys_ok OKl, hu0, hu1, fun H9 pcs' LA9 OK9 fr9 t9 => ⟨rfl, ?_⟩⟩
      have s78 := s7.trans s8
      have ne3 : ∀ {b : Addr} {o : HO}, H' b = some o → b ≠ p3 := fun h => ne_of_none (s7 _ _ h) n8
      have hll9 := fr9 _ _ (s78 _ _ hll) (by simpa using ne3 hll)
      have hp9 := fr9 _ _ (s78 _ _ hp') (by simpa using ne3 hp')
      have hls9 := fr9 _ _ (s78 _ _ hls) (by simpa using ne3 hls)
      have hws9 : LR (LvAt K H9) ws lvs := hws.mono fun _ _ h => by
        obtain ⟨d3, hp8⟩ := hp8
        exact (h.same s78).frm fr9 t9 hp8
      have p3N : H p3 = none := by
        cases hz : H p3 with
        | none => rfl
        | some o =>
          by_cases zp : p3 = p
          · exact absurd (ne3 hp') (fun z => z zp.symm)
          · exact absurd (ne3 (fr _ _ hz (by simpa using zp))) (fun z => z rfl)
      walk_at "go"
      refine r_app hll9 (by omega) ?_
      obtain ⟨d0, hd0⟩ : ∃ d0, lvs[0]? = some d0 := ⟨_, List.getElem?_eq_getElem hlvp⟩
      obtain ⟨v0, hv0, hLA0⟩ := hws9.get hd0
      have hpcs' : 2 * pcs'.length ≤ last.pcs.length + 1 := by
        obtain ⟨_, _, _, rs', R'⟩ := OK9
        have := pieces_half R'
        dsimp only at this
        rw [upKeys_len] at this
        exact this
      walk_at "go"
      refine ⟨pcs'.length, by omega, lvs ++ [⟨upKeys last, u, pcs'⟩], ws ++ [.ref p3], ⟨upKeys last, u, pcs'⟩, _, _, _, rfl, ?_, upd_same, (hws9.mono fun _ _ h => h.mut hll9 hv0 hLA0).app (LA9.mut hll9 hv0 hLA0), ?_, IP.push hlast OK9, ?_, rfl, ?_, ?_⟩
      · rw [upd_ne (ne_of hp9 hll9 (by intro z; cases z))]
        exact hp9
      · unfold IntsAt
        rw [upd_ne lsll]
        exact hls9
      · rw [List.length_append, List.length_singleton, List.getElem?_append_right (by omega), show lvs.length + 1 - 1 - lvs.length = 0 by omega]
        rfl
      · rw [List.length_append, List.length_singleton]
        show lvs.length + 1 + pcs'.length ≤ 10001
        omega
      · exact frm_mut (((fr.same s78)).then fr9 fun c hc => by rw [List.mem_singleton.mp hc]; exact p3N) llN
  · have h1 : last.pcs.length = 1 := by
      have := R.len
      omega
    exact k H' lvs ⟨dx, ls, ll, hp', hls, ⟨ws, hll, hws⟩⟩ ⟨IP.first, IP.more, IP.ok, fun d hd => by rw [hlast] at hd; cases Option.some.inj hd; exact h1, hlvp, by omega⟩ fr
end
/-! ### readings: Index.level_keys, Index.look_up -/
/-- [e for x in xs], what is made may not change but by the list itself -/
theorem lcLB {K : PySem.W.Frag} {α : Type} {g : TG} {te : TE} {σ : St} {H : Hp} {Q : VK} {a : Addr} {xs : List V} {ds : List α} {vs : List Nat} (Rel : Addr → Hp → V → α → Prop) (mono : ∀ D H H' y d, But D H H' → Rel D H y d → Rel D H' y d) (hx : H a = some (.lst xs)) (hlen : ds.length = xs.length) (small : ds.length ≤ 100000)
    (hs : ∀ (i : Nat) x d D H' (Q' : VK), Same H H' → (∃ zs, H' D = some (.lst zs)) → xs[i]? = some x → ds[i]? = some d → (∀ y H'', Same H' H'' → Rel D H'' y d → Q' y H'') → g x (wipe σ vs) H' fun σ2 H2 => wipe σ2 vs = wipe σ vs ∧ te σ2 H2 Q')
    (gm : ∀ x σ' H' Q1 Q2, (∀ σ2 H2, Q1 σ2 H2 → Q2 σ2 H2) → g x σ' H' Q1 → g x σ' H' Q2)
    (q : ∀ D H' ys, H D = none → Same H H' → H' D = some (.lst ys) → LR (Rel D H') ys ds → Q (.ref D) H') : LcK Q g tYes te vs σ (Itl K a) H := by
  intro D hD
  refine lc_list (K := K) (a := a) (xs := xs) (fun i H' => Same H H' ∧ ∃ ys, H' D = some (.lst ys) ∧ LR (Rel D H') ys (ds.take i)) ⟨same_new hD, [], upd_same, by rw [List.take_zero]; exact LR.nil⟩ (fun i H' _ I => SqL.of (I.1 _ _ hx)) (fun i x H' hx' I => ?_) (fun H' I => ?_)
  · obtain ⟨sm, ys, h1, h2⟩ := I
    obtain ⟨d, hd⟩ : ∃ d, ds[i]? = some d := ⟨ds[i]'(by rw [hlen]; exact (List.getElem?_eq_some_iff.mp hx').1), List.getElem?_eq_getElem _⟩
    have hi : i < ds.length := (List.getElem?_eq_some_iff.mp hd).1
    have hl : ys.length = i := by rw [h2.len, List.length_take]; omega
    refine gm _ _ _ _ _ (fun σ2 H2 p => p) (hs i x d D H' (fun y H'' => ∃ acc, H'' D = some (.lst acc) ∧ acc.length < sizeLine ∧ (Same H (upd H'' D (.lst (acc ++ [y]))) ∧ ∃ ys, upd H'' D (.lst (acc ++ [y])) D = some (.lst ys) ∧ LR (Rel D (upd H'' D (.lst (acc ++ [y])))) ys (ds.take (i + 1)))) sm ⟨ys, h1⟩ hx' hd fun y H'' s ry => ?_)
    have h1' := s _ _ h1
    refine ⟨ys, h1', Nat.lt_of_le_of_lt (m := 100000) (by omega) (by decide), same_mut (sm.trans s) hD, _, upd_same, ?_⟩
    rw [List.take_add_one, hd]
    exact (h2.mono fun v x q => mono D _ _ _ _ But.upd (mono D _ _ _ _ (fun b o _ e => s b o e) q)).app (mono D _ _ _ _ But.upd ry)
  · obtain ⟨sm, ys, h1, h2⟩ := I
    rw [List.take_of_length_le (by omega)] at h2
    exact q D H' ys hD sm h1 h2
theorem count_map (dep : Int) (k : Int) : ∀ zs : List Int, ((zs.map fun z => (dep, z)).filter fun q : Pt => q.1 == k).length = if dep = k then zs.length else 0
  | [] => by simp
  | z :: r => by
    have ih := count_map dep k r
    by_cases h : dep = k
    · subst h
      rw [if_pos rfl] at ih ⊢
      rw [List.map_cons, List.filter_cons_of_pos (by simp), List.length_cons, List.length_cons, ih]
    · rw [if_neg h] at ih ⊢
      rw [List.map_cons, List.filter_cons_of_neg (by simpa using h), ih]
/-- the looks before the j-th level from above -/
structure LooksI (sz : List Nat) (e u : Int) (j : Nat) (ls : List Pt) : Prop where
  inn : ∀ q, q ∈ ls → 0 ≤ q.1 ∧ q.1 < (sz.length : Int) ∧ 0 ≤ q.2 ∧ ∀ s : Nat, sz[q.1.toNat]? = some s → q.2 < (s : Int)
  desc : ls.Pairwise fun a b => b.1 ≤ a.1
  low : ∀ q, q ∈ ls → (sz.length : Int) - 1 - (j : Int) ≤ q.1
  c1 : ∀ k : Nat, k + j < sz.length → (ls.filter fun q => q.1 == (k : Int)).length ≤ if k + 1 = sz.length then 1 else 0
  few : ∀ (k : Nat), k < sz.length → ∀ L : Nat, 2 * (if k = 0 then e else u) + 2 < 2 ^ L → (ls.filter fun q => q.1 == (k : Int)).length ≤ L + (if k + 1 = sz.length then 1 else 0)
  len : ls.length ≤ 1 + 6 * j
theorem LooksI.ok {sz : List Nat} {e u : Int} {j : Nat} {ls : List Pt} (I : LooksI sz e u j ls) : LooksOk sz e u ls := ⟨I.inn, I.desc, I.few⟩
theorem LooksI.start {sz : List Nat} {e u : Int} {s : Nat} (h0 : 0 < sz.length) (hs : sz[sz.length - 1]? = some s) (hp : 0 < s) : LooksI sz e u 0 [((sz.length : Int) - 1, 0)] := by
  have c : ∀ k : Nat, (([((sz.length : Int) - 1, 0)] : List Pt).filter fun q => q.1 == (k : Int)).length ≤ if k + 1 = sz.length then 1 else 0 := fun k => by
    by_cases h : k + 1 = sz.length
    · rw [if_pos h]
      exact List.length_filter_le _ _
    · rw [if_neg h, List.filter_cons_of_neg (by simp; omega)]
      exact Nat.le_refl _
  refine ⟨fun q hq => ?_, List.pairwise_singleton _ _, fun q hq => ?_, fun k _ => c k, fun k _ L _ => Nat.le_trans (c k) (Nat.le_add_left _ _), Nat.le_refl _⟩
  · rw [List.mem_singleton.mp hq]
    refine ⟨by show 0 ≤ (sz.length : Int) - 1; omega, by show (sz.length : Int) - 1 < _; omega, Int.le_refl _, fun s' h => ?_⟩
    have e1 : ((sz.length : Int) - 1).toNat = sz.length - 1 := by omega
    dsimp only at h
    rw [e1, hs] at h
    cases Option.some.inj h
    show (0 : Int) < _
    omega
  · rw [List.mem_singleton.mp hq]
    show _ ≤ (sz.length : Int) - 1
    omega
theorem LooksI.step {sz : List Nat} {e u : Int} {j i0 s : Nat} {ls : List Pt} {zs : List Int} {err : Int} (I : LooksI sz e u j ls) (hi : i0 + j + 1 = sz.length) (hs : sz[i0]? = some s) (hz : ∀ z, z ∈ zs → 0 ≤ z ∧ z < (s : Int)) (he : err = if i0 = 0 then e else u) (h30 : err ≤ 30) (hL : ∀ L : Nat, 2 * err + 2 < 2 ^ L → zs.length ≤ L) :
    LooksI sz e u (j + 1) (ls ++ zs.map fun z => ((i0 : Int), z)) := by
  have c : ∀ k : Nat, ((ls ++ zs.map fun z => ((i0 : Int), z)).filter fun q : Pt => q.1 == (k : Int)).length = (ls.filter fun q => q.1 == (k : Int)).length + if i0 = k then zs.length else 0 := fun k => by
    rw [List.filter_append, List.length_append, count_map]
    congr 1
    by_cases h : i0 = k
    · rw [if_pos h, if_pos (by omega)]
    · rw [if_neg h, if_neg (by omega)]
  have mem : ∀ q, q ∈ (ls ++ zs.map fun z => ((i0 : Int), z)) → q ∈ ls ∨ ∃ z, z ∈ zs ∧ q = ((i0 : Int), z) := fun q hq => by
    rcases List.mem_append.mp hq with h | h
    · exact .inl h
    · obtain ⟨z, h1, h2⟩ := List.mem_map.mp h
      exact .inr ⟨z, h1, h2.symm⟩
  refine ⟨fun q hq => ?_, ?_, fun q hq => ?_, fun k hk => ?_, fun k hk L h => ?_, ?_⟩
  · rcases mem q hq with h | ⟨z, h1, rfl⟩
    · exact I.inn q h
    · obtain ⟨h2, h3⟩ := hz z h1
      refine ⟨by show 0 ≤ (i0 : Int); omega, by show (i0 : Int) < _; omega, h2, fun s' h => ?_⟩
      dsimp only at h
      rw [Int.toNat_natCast, hs] at h
      cases Option.some.inj h
      exact h3
  · rw [List.pairwise_append]
    refine ⟨I.desc, ?_, fun a ha b hb => ?_⟩
    · rw [List.pairwise_map]
      exact List.pairwise_of_forall fun _ _ => Int.le_refl _
    · obtain ⟨z, h1, rfl⟩ := List.mem_map.mp hb
      have := I.low a ha
      show (i0 : Int) ≤ _
      omega
  · rcases mem q hq with h | ⟨z, h1, rfl⟩
    · have := I.low q h
      omega
    · show _ ≤ (i0 : Int)
      omega
  · rw [c, if_neg (by omega)]
    exact I.c1 k (by omega)
  · rw [c]
    by_cases hik : i0 = k
    · subst hik
      rw [if_pos rfl]
      have h1 := I.c1 i0 (by omega)
      have h2 := hL L (by rw [he]; exact h)
      omega
    · rw [if_neg hik]
      exact I.few k hk L h
  · have h6 := hL 6 (by
      have : (2 : Int) ^ 6 = 64 := by decide
      omega)
    have := I.len
    rw [List.length_append, List.length_map]
    omega
theorem first_key {stored : List Int} {e u : Int} {lvs : List LvD} (I : IxOk stored e u lvs) : ∀ (k : Nat) (d : LvD), lvs[k]? = some d → vOf d.marks 0 = vOf stored 0
  | 0, d, h => by rw [(I.first d h).1]
  | k + 1, d, h => by
    have hk := (List.getElem?_eq_some_iff.mp h).1
    have h1 : lvs[k]? = some lvs[k] := List.getElem?_eq_getElem (by omega)
    obtain ⟨_, h2, h3⟩ := I.more k _ d h1 h
    obtain ⟨_, _, _, rs, R⟩ := I.ok k _ h1
    have hl := R.len
    have h4 : (lvs[k]).pcs[0]? = some ((lvs[k]).pcs[0]'(by omega)) := List.getElem?_eq_getElem _
    rw [h3 0 _ h4, R.ok.first _ h4]
    exact first_key I k _ h1
section
variable {K : PySem.W.Frag}
theorem rd_Index_level_keys (T : TK K) (vs : List V) (H : Hp) (Q : VK) (E : XK) (h : sp_Index_level_keys K vs H Q E) : t_Index_level_keys K ⟨fun _ H' => Q .non H', Q, fun _ _ => False, fun _ _ => False⟩ (start N_Index_level_keys vs) H := by
  obtain ⟨p, stored, lvs, rfl, ⟨dx, ls, ll, hp, hls, ⟨ws, hll, hws⟩⟩, hn, k⟩ := h
  have hwl : ws.length = lvs.length := hws.len
  unfold t_Index_level_keys
  walk_at "go"
  refine i_listK hll ?_
  refine lcLB (ds := lvs.map (·.marks)) (fun D H v ms => ∃ a, v = .ref a ∧ a ≠ D ∧ IntsAt H a ms) (fun D H H' y d b ⟨a, h1, h2, h3⟩ => ⟨a, h1, h2, b _ _ h2 h3⟩) hll (by rw [List.length_map, hwl]) (by rw [List.length_map]; omega) ?_ gm_name ?_
  · intro i x ms D H' Q' s1 hD hi hd kq
    obtain ⟨d, hd2, pl, dl, la, lp, rfl, hpl, hm, _⟩ := hws.get' hi
    rw [List.getElem?_map, hd2] at hd
    cases Option.some.inj hd
    have hpl' := s1 _ _ hpl
    walk_at "go"
    refine ⟨rfl, ?_⟩
    walk_at "go"
    refine r_list (s1 _ _ hm) fun l H2 n2 s2 e2 => ?_
    obtain ⟨zs, hD⟩ := hD
    exact kq _ _ s2 ⟨l, rfl, (by intro z; rw [z, hD] at n2; cases n2), e2⟩
  · intro D H1 ys nD s1 hD hy
    walk_at "go"
    exact k D H1 s1 ⟨ys, hD, hy.mono fun v ms ⟨a, h1, h2, h3⟩ => ⟨a, h1, h3⟩⟩
theorem rd_Index_look_up (T : TK K) (vs : List V) (H : Hp) (Q : VK) (E : XK) (h : sp_Index_look_up K vs H Q E) : t_Index_look_up K ⟨fun _ H' => Q .non H', Q, fun _ _ => False, fun _ _ => False⟩ (start N_Index_look_up vs) H := by
  obtain ⟨p, stored, lvs, e, u, x, rfl, ⟨dx, ls, ll, hp, hls, ⟨ws, hll, hws⟩⟩, IO, bx, k⟩ := h
  unfold IntsAt at hls
  have hwl : ws.length = lvs.length := hws.len
  have hn0 := IO.pos
  have hn1 := IO.len
  have g : ∀ i, i < lvs.length → ∃ d, lvs[i]? = some d := fun i hi => ⟨_, List.getElem?_eq_getElem hi⟩
  obtain ⟨d0, hd0⟩ := g 0 hn0
  obtain ⟨e0, e0'⟩ := IO.first d0 hd0
  have OK0 := IO.ok 0 d0 hd0
  have MO0 : MarksOk stored := by rw [← e0]; exact OK0.mo
  have hs0 := MO0.pos
  obtain ⟨dt, hdt⟩ := g (lvs.length - 1) (by omega)
  have hszl : (lvs.map (·.marks.length)).length = lvs.length := List.length_map _
  have hsz : ∀ {i : Nat} {d : LvD}, lvs[i]? = some d → (lvs.map (·.marks.length))[i]? = some d.marks.length := fun h => by rw [List.getElem?_map, h]; rfl
  have LS : LooksI (lvs.map (·.marks.length)) e u 0 [(((lvs.map (·.marks.length)).length : Int) - 1, 0)] := LooksI.start (by omega) (by rw [hszl]; exact hsz hdt) (IO.ok _ _ hdt).mo.pos
  unfold t_Index_look_up
  walk_at "go"
  refine x_truL hls ?_
  refine ite_f (by rw [isEmpty_of_pos (by rw [List.length_map]; exact hs0)]; rfl) ?_
  walk_at "go"
  refine r_len hll ?_
  walk_at "go"
  refine newT fun tt H1 n1 s1 e1 => ?_
  walk_at "go"
  refine newL fun lk H2 n2 s2 e2 => ?_
  walk_at "go"
  have s02 := s1.trans s2
  have lkN : H lk = none := s1.free n2
  have hlooks : LR (PtR H2) [.ref tt] [(((lvs.map (·.marks.length)).length : Int) - 1, 0)] := LR.nil.app ⟨tt, rfl, by
    rw [hszl, ← hwl]
    exact s2 _ _ e1⟩
  refine r_ixL (s02 _ _ hls) (atI_nat (j := 0) (map_int_get (vOf_get hs0))) ?_
  walk_at "go"
  refine ite_d (fun hlt => ?_) (fun hge => ?_)
  · walk_at "go"
    refine newT fun r H3 n3 s3 e3 => k r lk H3 0 _ (s02.trans s3) e3 ⟨_, s3 _ _ e2, hlooks.mono fun _ _ h => h.mono (same_tp s3)⟩ (rank_zero MO0.asc hlt) LS.ok (show 1 ≤ 70000 by decide) (fun _ => Nat.le_refl _)
  · walk_at "go"
    refine i_rngDown (k := lvs.length) (by omega) (by omega) ?_
    refine forC (fun j σ H' => ∃ (t : Nat) (v5 : Option V) (ks : List V) (qs : List Pt), σ = [some (.ref p), some (.int x), some (.int ((ws.length : Int) - 1)), some (.ref lk), some (.int (t : Int)), v5] ∧ Same H H' ∧ H' lk = some (.lst ks) ∧ LR (PtR H') ks qs ∧ LooksI (lvs.map (·.marks.length)) e u j qs ∧
        (j = 0 → t = 0) ∧ (0 < j → ∀ d, lvs[lvs.length - j]? = some d → LastK d.marks x t))
      ⟨0, none, _, _, rfl, s02, e2, hlooks, LS, fun _ => rfl, fun h => absurd h (Nat.lt_irrefl _)⟩ ?_ ?_
    · rintro j σ H' hj ⟨t, v5, ks, qs, rfl, s', hlk, hks, LI, ht0, htl⟩
      have hi0 : lvs.length - 1 - j + j + 1 = lvs.length := by omega
      generalize lvs.length - 1 - j = i0 at hi0
      obtain ⟨d, hd⟩ := g i0 (by omega)
      obtain ⟨v, hv, hLA⟩ := hws.get hd
      obtain ⟨pl, dl, la, lp, rfl, hpl, _, _⟩ := id hLA
      have OKd := IO.ok i0 d hd
      obtain ⟨MOd, de0, de1, rs, R⟩ := id OKd
      have hRl := R.len
      have ei : ((ws.length : Int) - 1) + (j : Int) * (-1) = (i0 : Int) := by omega
      have hqpos : ∀ i, i < d.pcs.length → ∃ q, d.pcs[i]? = some q := fun i hi => ⟨_, List.getElem?_eq_getElem hi⟩
      -- the piece that is asked
      have ask : t < d.pcs.length ∧ (∀ q, d.pcs[t]? = some q → vOf d.marks q.1.toNat ≤ x) ∧ ∀ q, d.pcs[t + 1]? = some q → x < vOf d.marks q.1.toNat := by
        by_cases hj0 : j = 0
        · have ht := ht0 hj0
          subst ht
          have hd' : lvs[lvs.length - 1]? = some d := by rw [show lvs.length - 1 = i0 by omega]; exact hd
          have h1 := IO.top d hd'
          refine ⟨by omega, fun q hq => ?_, fun q hq => ?_⟩
          · rw [R.ok.first q hq]
            show vOf d.marks 0 ≤ x
            rw [first_key IO i0 d hd]
            omega
          · have := (List.getElem?_eq_some_iff.mp hq).1
            omega
        · obtain ⟨d', hd'⟩ := g (i0 + 1) (by omega)
          obtain ⟨_, h2, h3⟩ := IO.more i0 d d' hd hd'
          have LK := htl (by omega) d' (by rw [show lvs.length - j = i0 + 1 by omega]; exact hd')
          refine ⟨by rw [← h2]; exact LK.lt, fun q hq => ?_, fun q hq => ?_⟩
          · rw [← h3 t q hq]
            exact LK.le
          · rw [← h3 (t + 1) q hq]
            exact LK.gt (by rw [h2]; exact (List.getElem?_eq_some_iff.mp hq).1)
      obtain ⟨a1, a2, a3⟩ := ask
      have hks2 : ks.length = qs.length := hks.len
      have hql := LI.len
      rw [ei]
      have hpl' := s' _ _ hpl
      walk_at "go"
      refine r_ixL (s' _ _ hll) (atI_nat hv) ?_
      refine ⟨⟨pl, dl, _, rfl, hpl', rfl⟩, ?_⟩
      walk_at "go"
      refine ⟨H, pl, lk, d, t, x, (i0 : Int), ks, rfl, hLA, s', lkN, OKd, a1, bx, a2, hlk, by omega, fun r H3 us zs h1 h2 h3 h4 hlk3 hus hzs hL s3 t3 => ?_⟩
      walk_at "go"
      have herr : d.err = if i0 = 0 then e else u := by
        by_cases hz : i0 = 0
        · rw [if_pos hz]
          subst hz
          exact (IO.first d hd).2
        · rw [if_neg hz]
          obtain ⟨d'', hd''⟩ := g (i0 - 1) (by omega)
          exact (IO.more (i0 - 1) d'' d hd'' (by rw [show i0 - 1 + 1 = i0 by omega]; exact hd)).1
      refine ⟨r, _, ks ++ us, qs ++ zs.map fun z => ((i0 : Int), z), rfl, s3, hlk3, ?_, LI.step (by rw [hszl]; omega) (hsz hd) hzs herr de1 hL, fun h => absurd h (Nat.succ_ne_zero j), fun _ d2 hd2 => ?_⟩
      · refine ⟨by rw [List.length_append, List.length_append, hks2, hus.len], fun i v q hv hq => ?_⟩
        by_cases hi : i < ks.length
        · rw [List.getElem?_append_left hi] at hv
          rw [List.getElem?_append_left (by omega)] at hq
          exact (hks.at_ i v q hv hq).mono t3
        · rw [List.getElem?_append_right (by omega)] at hv
          rw [List.getElem?_append_right (by omega), ← hks2] at hq
          exact hus.at_ _ v q hv hq
      · have e1 : lvs.length - (j + 1) = i0 := by omega
        rw [e1, hd] at hd2
        cases Option.some.inj hd2
        have hnx : nxt d.pcs (d.marks.length : Int) t ≤ (d.marks.length : Int) := by
          obtain ⟨q, hq⟩ := hqpos t a1
          exact (R.ok.asc t q hq).2.2
        refine ⟨by omega, h3, fun hr => ?_⟩
        by_cases hz : (r : Int) + 1 < nxt d.pcs (d.marks.length : Int) t
        · exact h4 hz
        · have e2 : (r : Int) + 1 = nxt d.pcs (d.marks.length : Int) t := by omega
          unfold nxt at e2 h2
          cases hq : d.pcs[t + 1]? with
          | none =>
            rw [hq] at e2
            dsimp only at e2
            omega
          | some q =>
            rw [hq] at e2
            dsimp only at e2
            have h5 := a3 q hq
            rw [← e2, show ((r : Int) + 1).toNat = r + 1 by omega] at h5
            exact h5
    · rintro σ H' ⟨t, v5, ks, qs, rfl, s', hlk, hks, LI, ht0, htl⟩
      have LK := htl hn0 d0 (by rw [Nat.sub_self]; exact hd0)
      rw [e0] at LK
      have hql := LI.len
      walk_at "go"
      refine newT fun r H3 n3 s3 e3 => k r lk H3 (t + 1) qs (s'.trans s3) e3 ⟨ks, s3 _ _ hlk, hks.mono fun _ _ h => h.mono (same_tp s3)⟩ (LK.rank MO0.asc) LI.ok (by omega) (fun h => absurd h (Nat.succ_ne_zero t))
end
/-! ### readings: Stream -/
theorem Frm.then' {fp fp2 : List Addr} {H H1 H2 : Hp} (a : Frm fp H H1) (b : Frm fp2 H1 H2) (h : ∀ c, c ∈ fp2 → c ∈ fp ∨ H c = none) : Frm fp H H2 := fun c o e n => b c o (a c o e n) fun m => by
  rcases h c m with h | h
  · exact n h
  · rw [h] at e
    cases e
theorem asc_idX (s n : Nat) : AscN (fun k => idX (s + k)) n := fun i j hij hj => by
  show ((s + i : Nat) : Int) < ((s + j : Nat) : Int)
  omega
theorem bd_idX {i : Nat} (h : i ≤ 20000) : Bd (idX i) := by
  show (-1000000 : Int) ≤ (i : Int) ∧ (i : Int) ≤ 1000000
  omega
theorem near_shift {e : Int} {X Y : Nat → Int} {s i : Nat} {l : Tr} (L : LineOk e (fun k => X (s + k)) (fun k => Y (s + k)) (i - s) l) (j : Nat) (h1 : (s : Int) ≤ (j : Int)) (h2 : (j : Int) < (i : Int)) : LnP e X Y l j := by
  have h3 := L.near (j - s) (by omega)
  have h4 : s + (j - s) = j := by omega
  rw [h4] at h3
  exact h3
section
variable {K : PySem.W.Frag}
theorem rd_Stream_init (T : TK K) (vs : List V) (H : Hp) (Q : VK) (E : XK) (h : sp_Stream_init K vs H Q E) : t_Stream_init K ⟨fun _ H' => Q .non H', Q, fun _ _ => False, fun _ _ => False⟩ (start N_Stream_init vs) H := by
  obtain ⟨p, e, rfl, ⟨dx, hp⟩, he, k⟩ := h
  unfold t_Stream_init
  walk_at "go"
  have fr2 : Frm [p] H (upd (upd H p (.ins (He.ga K "Stream") dx (putF "error" (.int e) []))) p (.ins (He.ga K "Stream") dx (putF "length" (.int 0) (putF "error" (.int e) [])))) := (frm_upd (List.mem_singleton.mpr rfl)).trans (frm_upd (List.mem_singleton.mpr rfl))
  have hp2 : upd (upd H p (.ins (He.ga K "Stream") dx (putF "error" (.int e) []))) p (.ins (He.ga K "Stream") dx (putF "length" (.int 0) (putF "error" (.int e) []))) p = some (.ins (He.ga K "Stream") dx (putF "length" (.int 0) (putF "error" (.int e) []))) := upd_same
  generalize upd (upd H p (.ins (He.ga K "Stream") dx (putF "error" (.int e) []))) p (.ins (He.ga K "Stream") dx (putF "length" (.int 0) (putF "error" (.int e) []))) = H2 at fr2 hp2 ⊢
  refine newL fun lc H3 n3 s3 e3 => ?_
  have hp3 := s3 _ _ hp2
  walk_at "go"
  have lcp : lc ≠ p := ne_of e3 hp3 (by intro z; cases z)
  have lcN : H lc = none := by
    cases hz : H lc with
    | none => rfl
    | some o => rw [fr2 _ _ hz (by simpa using lcp)] at n3; cases n3
  have fr5 : Frm [p] H (upd (upd H3 p (.ins (He.ga K "Stream") dx (putF "_closed" (.ref lc) (putF "length" (.int 0) (putF "error" (.int e) []))))) p (.ins (He.ga K "Stream") dx (putF "_start" (.int 0) (putF "_closed" (.ref lc) (putF "length" (.int 0) (putF "error" (.int e) [])))))) := ((fr2.same s3).trans (frm_upd (List.mem_singleton.mpr rfl))).trans (frm_upd (List.mem_singleton.mpr rfl))
  have hp5 : upd (upd H3 p (.ins (He.ga K "Stream") dx (putF "_closed" (.ref lc) (putF "length" (.int 0) (putF "error" (.int e) []))))) p (.ins (He.ga K "Stream") dx (putF "_start" (.int 0) (putF "_closed" (.ref lc) (putF "length" (.int 0) (putF "error" (.int e) []))))) p = some (.ins (He.ga K "Stream") dx (putF "_start" (.int 0) (putF "_closed" (.ref lc) (putF "length" (.int 0) (putF "error" (.int e) []))))) := upd_same
  have hlc5 : upd (upd H3 p (.ins (He.ga K "Stream") dx (putF "_closed" (.ref lc) (putF "length" (.int 0) (putF "error" (.int e) []))))) p (.ins (He.ga K "Stream") dx (putF "_start" (.int 0) (putF "_closed" (.ref lc) (putF "length" (.int 0) (putF "error" (.int e) []))))) lc = some (.lst []) := by rw [upd_ne lcp, upd_ne lcp]; exact e3
  generalize upd (upd H3 p (.ins (He.ga K "Stream") dx (putF "_closed" (.ref lc) (putF "length" (.int 0) (putF "error" (.int e) []))))) p (.ins (He.ga K "Stream") dx (putF "_start" (.int 0) (putF "_closed" (.ref lc) (putF "length" (.int 0) (putF "error" (.int e) []))))) = H5 at fr5 hp5 hlc5 ⊢
  refine mkK fun pf H6 n6 s6 hpf => ?_
  refine ⟨pf, e, rfl, hpf, he, fun H7 fp FA fr7 fp7 mp t7 => ⟨rfl, ?_⟩⟩
  have pfp : p ≠ pf := ne_of_none hp5 n6
  have lcpf : lc ≠ pf := ne_of_none hlc5 n6
  have hp7 := fr7 _ _ (s6 _ _ hp5) (by simpa using pfp)
  have hlc7 := fr7 _ _ (s6 _ _ hlc5) (by simpa using lcpf)
  have pfN : H pf = none := by
    cases hz : H pf with
    | none => rfl
    | some o => rw [fr5 _ _ hz (by simpa using pfp.symm)] at n6; cases n6
  have notin : ∀ {b : Addr} {o : HO}, H5 b = some o → b ∉ fp := fun hb hm => by
    rcases fp7 _ hm with h | h
    · exact ne_of_none hb n6 h
    · rw [s6 _ _ hb] at h
      cases h
  walk_at "go"
  have t8 : Tp H7 (upd H7 p (.ins (He.ga K "Stream") dx (putF "_fitter" (.ref pf) (putF "_start" (.int 0) (putF "_closed" (.ref lc) (putF "length" (.int 0) (putF "error" (.int e) []))))))) := Tp.mutI hp7
  refine k _ (p :: lc :: fp) (fun Y => ⟨dx, lc, pf, fp, 0, [], [], upd_same, ⟨[], by rw [upd_ne lcp]; exact hlc7, LR.nil⟩, (FA _ _).frm (fun b o hb h => by rw [upd_ne (fun z => notin hp5 (by rw [← z]; exact hb))]; exact h) t8, rfl, notin hp5, notin hlc5, .zero, Nat.le_refl _, fun h => absurd h (Nat.lt_irrefl _), CutOk.nil, rfl, fun _ => rfl, Nat.le_refl _, fun k q h => by simp at h⟩)
    (((fr5.same s6).then fr7 fun c hc => by rw [List.mem_singleton.mp hc]; exact pfN).trans (frm_upd (List.mem_singleton.mpr rfl))) fun b hb => ?_
  rcases List.mem_cons.mp hb with h | hb
  · exact .inl h
  rcases List.mem_cons.mp hb with h | hb
  · exact .inr (by rw [h]; exact lcN)
  · by_cases hbp : b = p
    · exact .inl hbp
    · refine .inr ?_
      rcases fp7 b hb with h | h
      · rw [h]
        exact pfN
      · cases hz : H b with
        | none => rfl
        | some o => rw [s6 _ _ (fr5 _ _ hz (by simpa using hbp))] at h; cases h
theorem rd_Stream_pieces (T : TK K) (vs : List V) (H : Hp) (Q : VK) (E : XK) (h : sp_Stream_pieces K vs H Q E) : t_Stream_pieces K ⟨fun _ H' => Q .non H', Q, fun _ _ => False, fun _ _ => False⟩ (start N_Stream_pieces vs) H := by
  obtain ⟨p, fps, e, Y, n, rfl, ⟨dx, lc, pf, fp, s, cs, pcs, hp, ⟨ws, hlc, hws⟩, F, efps, pfp, lcfp, G, hsn, hsp, C, hst, h0, hpl, hd⟩, hn0, hn, k⟩ := h
  have hs := hsp hn0
  have hwl : ws.length = pcs.length := hws.len
  unfold t_Stream_pieces
  walk_at "go"
  refine ite_f (decide_eq_false (by omega)) ?_
  walk_at "go"
  refine ⟨F.isI rfl, ?_⟩
  walk_at "go"
  refine ⟨pf, fp, e, _, _, n - s, rfl, F, by omega, fun l rl H1 L s1 e1 => ?_⟩
  walk_at "go"
  refine newT fun w H2 n2 s2 e2 => ?_
  walk_at "go"
  refine newL fun lw H3 n3 s3 e3 => ?_
  have s13 := (s1.trans s2).trans s3
  refine r_catL (s13 _ _ hlc) e3 (by rw [List.length_singleton]; omega) fun r H4 n4 s4 e4 => ?_
  have s04 := s13.trans s4
  refine k r H4 (pcs ++ [((s : Int), l)]) s04 ⟨ws ++ [.ref w], e4, (hws.mono fun _ _ h => h.mono (same_tp s04)).app ⟨w, rl, rfl, s4 _ _ (s3 _ _ e2), s4 _ _ (s3 _ _ (s2 _ _ e1))⟩⟩ ⟨C.push' (fun z => by rw [h0 z]; rfl) (by omega) (by omega) (near_shift L), ⟨cs, s, G, by rw [List.map_append, hst, intsOf_app]; rfl⟩, fun j q hq => ?_⟩
  by_cases hk : j < pcs.length
  · rw [List.getElem?_append_left hk] at hq
    exact hd j q hq
  · have hkl := (List.getElem?_eq_some_iff.mp hq).1
    rw [List.length_append, List.length_singleton] at hkl
    have ek : j = pcs.length := by omega
    subst ek
    rw [List.getElem?_append_right (Nat.le_refl _), Nat.sub_self] at hq
    cases Option.some.inj hq
    exact ⟨L.d1, L.d2⟩
theorem rd_Stream_push (T : TK K) (vs : List V) (H : Hp) (Q : VK) (E : XK) (h : sp_Stream_push K vs H Q E) : t_Stream_push K ⟨fun _ H' => Q .non H', Q, fun _ _ => False, fun _ _ => False⟩ (start N_Stream_push vs) H := by
  obtain ⟨p, fps, e, Y, n, rfl, ⟨dx, lc, pf, fp, s, cs, pcs, hp, ⟨ws, hlc, hws⟩, F, efps, pfp, lcfp, G, hsn, hsp, C, hst, h0, hpl, hd⟩, he, hn, k⟩ := h
  have hwl : ws.length = pcs.length := hws.len
  have es : s + (n - s) = n := by omega
  have es1 : n + 1 - s = n - s + 1 := by omega
  have mp : p ∈ fps := by rw [efps]; simp
  have mlc : lc ∈ fps := by rw [efps]; simp
  have mfp : ∀ b, b ∈ fp → b ∈ fps := fun b hb => by rw [efps]; simp [hb]
  have lcp : lc ≠ p := ne_of hlc hp (by intro z; cases z)
  unfold t_Stream_push
  walk_at "go"
  refine newT fun pt H1 n1 s1 e1 => ?_
  have hp1 := s1 _ _ hp
  have hlc1 := s1 _ _ hlc
  have F1 := F.same s1
  have ws1 : LR (PcR H1) ws pcs := hws.mono fun _ _ h => h.mono (same_tp s1)
  walk_at "go"
  refine st_cut (fun σ' H' => ∃ (s' : Nat) (cs' : List Nat) (pcs' : List Pc) (ws' : List V) (pf' : Addr) (fp' : List Addr) (v3 : V), σ' = [some (.ref p), some (.int (Y n)), some (.ref pt), some v3] ∧ H' p = some (.ins (He.ga K "Stream") dx (strF e n lc s' pf')) ∧ H' lc = some (.lst ws') ∧ LR (PcR H') ws' pcs' ∧
      FitAt K H' pf' fp' e (fun k => idX (s' + k)) (fun k => Y (s' + k)) (n - s') ∧ p ∉ fp' ∧ lc ∉ fp' ∧ Gr (SegP e idX Y) (n + 1) cs' s' ∧ s' ≤ n ∧ CutOk (LnP e idX Y) (RsP e idX Y) (s' : Int) pcs' [] ∧ pcs'.map (·.1) = intsOf cs' ∧ (pcs' = [] → s' = 0) ∧ pcs'.length ≤ n + 1 ∧
      (∀ (k : Nat) (q : Pc), pcs'[k]? = some q → 1 ≤ q.2.2.2 ∧ q.2.2.2 ≤ 2000000) ∧ SegP e idX Y s' (n + 1) ∧ H' pt = some (.tup [.int (idX n), .int (Y n)]) ∧ Frm fps H H' ∧ ∀ b, b ∈ fp' → b ∈ fps ∨ H b = none) ?_ ?_
  · walk_at "go"
    refine ⟨F1.isI rfl, ?_⟩
    walk_at "go"
    refine ⟨pf, pt, fp, e, fun k => idX (s + k), fun k => Y (s + k), n - s, rfl, F1, by dsimp only; rw [es]; exact e1, asc_idX s _, by dsimp only; rw [es]; exact bd_idX (by omega), fun hF H2 s2 => ?_, fun i j r H2 nF hij hjn nT3 s2 e2 => ?_⟩
    · walk_at "go"
      refine ite_f rfl ?_
      walk_at "go"
      have seg : SegP e idX Y s (n + 1) := by
        show FitN _ _ _ (n + 1 - s)
        rw [es1]
        exact hF
      exact ⟨s, cs, pcs, ws, pf, fp, _, rfl, s2 _ _ hp1, s2 _ _ hlc1, ws1.mono fun _ _ h => h.mono (same_tp s2), F1.same s2, pfp, lcfp, .take G seg, hsn, C, hst, h0, by omega, hd, seg, s2 _ _ e1, frm_same (s1.trans s2), fun b hb => .inl (mfp b hb)⟩
    · have hp2 := s2 _ _ hp1
      walk_at "go"
      refine ite_t rfl ?_
      walk_at "go"
      refine ⟨(F1.same s2).isI rfl, ?_⟩
      walk_at "go"
      refine ⟨pf, fp, e, _, _, n - s, rfl, F1.same s2, by omega, fun l rl H3 L s3 e3 => ?_⟩
      walk_at "go"
      refine newT fun w H4 n4 s4 e4 => ?_
      have s24 := s3.trans s4
      have hp4 := s24 _ _ hp2
      have hlc4 := s24 _ _ (s2 _ _ hlc1)
      walk_at "go"
      refine ⟨tyL hlc4, ?_⟩
      walk_at "go"
      refine r_app hlc4 (by omega) ?_
      have t5 : Tp H4 (upd H4 lc (.lst (ws ++ [.ref w]))) := Tp.mutL hlc4
      have hp5 : upd H4 lc (.lst (ws ++ [.ref w])) p = some (.ins (He.ga K "Stream") dx (strF e n lc s pf)) := by rw [upd_ne lcp.symm]; exact hp4
      have hlc5 : upd H4 lc (.lst (ws ++ [.ref w])) lc = some (.lst (ws ++ [.ref w])) := upd_same
      have fr5 : Frm fps H (upd H4 lc (.lst (ws ++ [.ref w]))) := (frm_same ((s1.trans s2).trans s24)).trans (frm_upd mlc)
      have pc5 : LR (PcR (upd H4 lc (.lst (ws ++ [.ref w])))) (ws ++ [.ref w]) (pcs ++ [((s : Int), l)]) := (ws1.mono fun _ _ h => h.mono (((same_tp s2).trans (same_tp s24)).trans t5)).app ⟨w, rl, rfl, t5 _ _ e4, t5 _ _ (s4 _ _ e3)⟩
      have pt5 := t5 _ _ (s24 _ _ (s2 _ _ e1))
      generalize upd H4 lc (.lst (ws ++ [.ref w])) = H5 at hp5 hlc5 fr5 pc5 pt5 ⊢
      walk_at "go"
      have t6 : Tp H5 (upd H5 p (.ins (He.ga K "Stream") dx (putF "_start" (.int (n : Int)) (strF e n lc s pf)))) := Tp.mutI hp5
      have hp6 : upd H5 p (.ins (He.ga K "Stream") dx (putF "_start" (.int (n : Int)) (strF e n lc s pf))) p = some (.ins (He.ga K "Stream") dx (strF e n lc n pf)) := upd_same
      have hlc6 : upd H5 p (.ins (He.ga K "Stream") dx (putF "_start" (.int (n : Int)) (strF e n lc s pf))) lc = some (.lst (ws ++ [.ref w])) := by rw [upd_ne lcp]; exact hlc5
      have fr6 : Frm fps H (upd H5 p (.ins (He.ga K "Stream") dx (putF "_start" (.int (n : Int)) (strF e n lc s pf)))) := fr5.trans (frm_upd mp)
      have pc6 := pc5.mono fun _ _ h => h.mono t6
      have pt6 := t6 _ _ pt5
      generalize upd H5 p (.ins (He.ga K "Stream") dx (putF "_start" (.int (n : Int)) (strF e n lc s pf))) = H6 at hp6 hlc6 fr6 pc6 pt6 ⊢
      refine mkK fun pf2 H7 n7 s7 hpf => ?_
      refine ⟨pf2, e, rfl, hpf, he, fun H8 fp2 FA fr8 fp8 mp2 t8 => ⟨rfl, ?_⟩⟩
      have pne : p ≠ pf2 := ne_of_none hp6 n7
      have lcne : lc ≠ pf2 := ne_of_none hlc6 n7
      have hp8 := fr8 _ _ (s7 _ _ hp6) (by simpa using pne)
      have hlc8 := fr8 _ _ (s7 _ _ hlc6) (by simpa using lcne)
      have notin : ∀ {b : Addr} {o : HO}, H6 b = some o → b ∉ fp2 := fun hb hm => by
        rcases fp8 _ hm with h | h
        · exact ne_of_none hb n7 h
        · rw [s7 _ _ hb] at h
          cases h
      have fp2N : ∀ b, b ∈ fp2 → b ∈ fps ∨ H b = none := fun b hb => by
        by_cases hbf : b ∈ fps
        · exact .inl hbf
        · refine .inr ?_
          cases hz : H b with
          | none => rfl
          | some o => exact absurd hb (notin (fr6 _ _ hz hbf))
      have t68 := (same_tp s7).trans t8
      walk_at "go"
      have t9 : Tp H8 (upd H8 p (.ins (He.ga K "Stream") dx (putF "_fitter" (.ref pf2) (strF e n lc n pf)))) := Tp.mutI hp8
      have ft : FitAt K (upd H8 p (.ins (He.ga K "Stream") dx (putF "_fitter" (.ref pf2) (strF e n lc n pf)))) pf2 fp2 e (fun k => idX (n + k)) (fun k => Y (n + k)) (n - n) := by
        rw [Nat.sub_self]
        exact (FA _ _).frm (fun b o hb h => by rw [upd_ne (fun z => notin hp6 (by rw [← z]; exact hb))]; exact h) t9
      have hjs : 0 < n - s := by omega
      refine ⟨n, cs ++ [s], pcs ++ [((s : Int), l)], ws ++ [.ref w], pf2, fp2, _, rfl, upd_same, by rw [upd_ne lcp]; exact hlc8, pc6.mono fun _ _ h => h.mono (t68.trans t9), ft, notin hp6, notin hlc6, .close G ?_, Nat.le_refl _, C.push' (fun z => by rw [h0 z]; rfl) (by omega) (by omega) (near_shift L), by rw [List.map_append, hst, intsOf_app]; rfl, fun z => absurd z (by simp), by rw [List.length_append, List.length_singleton]; omega, fun j q hq => ?_, ?_, t9 _ _ (t68 _ _ pt6), ?_, fp2N⟩
      · intro sg
        have h1 : FitN (fun k => idX (s + k)) (loF (fun k => Y (s + k)) e) (hiF (fun k => Y (s + k)) e) (n + 1 - s) := sg
        rw [es1] at h1
        exact nF h1
      · by_cases hk : j < pcs.length
        · rw [List.getElem?_append_left hk] at hq
          exact hd j q hq
        · have hkl := (List.getElem?_eq_some_iff.mp hq).1
          rw [List.length_append, List.length_singleton] at hkl
          have ek : j = pcs.length := by omega
          subst ek
          rw [List.getElem?_append_right (Nat.le_refl _), Nat.sub_self] at hq
          cases Option.some.inj hq
          exact ⟨L.d1, L.d2⟩
      · have e1 : n + 1 - n = 1 := by omega
        show FitN _ _ _ (n + 1 - n)
        rw [e1]
        exact fitN_small (Y := fun k => Y (n + k)) (by decide) (asc_idX n 1) he
      · refine ((fr6.same s7).then' fr8 fun c hc => ?_).trans (frm_upd mp)
        rw [List.mem_singleton.mp hc]
        exact fp2N pf2 mp2
  · rintro σ' H' ⟨s', cs', pcs', ws', pf', fp', v3, rfl, hp', hlc', hws', F', pfp', lcfp', G', hsn', C', hst', h0', hpl', hd', seg, hpt, fr', new⟩
    have es' : s' + (n - s') = n := by omega
    have es1' : n + 1 - s' = n - s' + 1 := by omega
    walk_at "go"
    refine ⟨F'.isI rfl, ?_⟩
    walk_at "go"
    refine ⟨pf', pt, fp', e, fun k => idX (s' + k), fun k => Y (s' + k), n - s', rfl, F', by dsimp only; rw [es']; exact hpt, asc_idX s' _, by dsimp only; rw [es']; exact bd_idX (by omega), by omega, ?_, fun H2 F2 fr2 t2 => ?_⟩
    · have h1 : FitN (fun k => idX (s' + k)) (loF (fun k => Y (s' + k)) e) (hiF (fun k => Y (s' + k)) e) (n + 1 - s') := seg
      rw [es1'] at h1
      exact h1
    · have hp2 := fr2 _ _ hp' pfp'
      have hlc2 := fr2 _ _ hlc' lcfp'
      walk_at "go"
      refine s_aug1 rfl hp2 T.c_Stream T.n_Stream_length (n := (n : Int)) rfl (by show 5 < 1000; decide) ?_
      walk_at "go"
      have t3 : Tp H2 (upd H2 p (.ins (He.ga K "Stream") dx (putF "length" (.int ((n : Int) + 1)) (strF e n lc s' pf')))) := Tp.mutI hp2
      have en : putF "length" (.int ((n : Int) + 1)) (strF e n lc s' pf') = strF e (n + 1) lc s' pf' := by
        rw [show (n : Int) + 1 = ((n + 1 : Nat) : Int) by omega]
        rfl
      rw [en] at t3 ⊢
      refine k v3 _ (p :: lc :: fp') ⟨dx, lc, pf', fp', s', cs', pcs', upd_same, ⟨ws', by rw [upd_ne lcp]; exact hlc2, hws'.mono fun _ _ h => h.mono (t2.trans t3)⟩, ?_, rfl, pfp', lcfp', G', by omega, fun _ => by omega, C', hst', h0', by omega, hd'⟩ ((fr'.then' fr2 new).trans (frm_upd mp)) fun b hb => ?_
      · rw [es1']
        exact F2.frm (fun b o hb h => by rw [upd_ne (fun z => pfp' (by rw [← z]; exact hb))]; exact h) t3
      · rcases List.mem_cons.mp hb with h | hb
        · exact .inl (by rw [h]; exact mp)
        rcases List.mem_cons.mp hb with h | hb
        · exact .inl (by rw [h]; exact mlc)
        · exact new b hb
end
/-! ### readings: the law's own helpers -/
theorem r_isiT {K : PySem.W.Frag} {H : Hp} {Q : VK} {a : Addr} {xs : List V} (h : H a = some (.tup xs)) (q : Q (.bl true) H) : rIsi K [.ref a, .ty "tuple"] H Q :=
  ⟨_, _, .type "tuple", .type "tuple", true, rfl, .ty _, .base (.tup h), by unfold PySem.W.kitOne; rw [if_pos (by decide)], q⟩
theorem r_isiL {K : PySem.W.Frag} {H : Hp} {Q : VK} {a : Addr} {xs : List V} (h : H a = some (.lst xs)) (q : Q (.bl true) H) : rIsi K [.ref a, .ty "list"] H Q :=
  ⟨_, _, .type "list", .type "list", true, rfl, .ty _, .base (.lst h), by unfold PySem.W.kitOne; rw [if_pos (by decide)], q⟩
section
variable {K : PySem.W.Frag}
theorem rd_law_cell (vs : List V) (H : Hp) (Q : VK) (E : XK) (h : sp_law_cell K vs H Q E) : t_law_cell K ⟨fun _ H' => Q .non H', Q, fun _ _ => False, fun _ _ => False⟩ (start N_law_cell vs) H := by
  obtain ⟨a, ns, i, rfl, ha, k⟩ := h
  unfold t_law_cell
  walk_at "go"
  refine ⟨a, _, rfl, .inl ha, ?_⟩
  walk_at "go"
  refine ite_d (fun h => ?_) (fun h => ?_)
  · walk_at "go"
    rw [List.length_map] at h
    exact ⟨a, _, _, _, rfl, rfl, ha, atI_nat (map_int_get (vOf_get (by omega))), k _⟩
  · walk_at "go"
    exact k 0
theorem rd_law_three (vs : List V) (H : Hp) (Q : VK) (E : XK) (h : sp_law_three K vs H Q E) : t_law_three K ⟨fun _ H' => Q .non H', Q, fun _ _ => False, fun _ _ => False⟩ (start N_law_three vs) H := by
  obtain ⟨a, b, c, p1, p2, p3, e, rfl, ha, hb, hc, ⟨a1, a2⟩, ⟨b1, b2⟩, ⟨c1, c2⟩, k1, k2⟩ := h
  unfold t_law_three
  walk_at "go"
  by_cases hn : T3 e p1 p2 p3
  · rw [decide_eq_true (show ((p2.2 * (p3.1 - p1.1) - p1.2 * (p3.1 - p2.1) - p3.2 * (p2.1 - p1.1)).natAbs : Int) ≤ 2 * e * (p3.1 - p1.1) from hn)]
    exact k1 hn
  · rw [decide_eq_false (show ¬ ((p2.2 * (p3.1 - p1.1) - p1.2 * (p3.1 - p2.1) - p3.2 * (p2.1 - p1.1)).natAbs : Int) ≤ 2 * e * (p3.1 - p1.1) from hn)]
    exact k2 hn
theorem rd_law_near (vs : List V) (H : Hp) (Q : VK) (E : XK) (h : sp_law_near K vs H Q E) : t_law_near K ⟨fun _ H' => Q .non H', Q, fun _ _ => False, fun _ _ => False⟩ (start N_law_near vs) H := by
  obtain ⟨l, a, t, pts, e, rfl, hl, ⟨xs, ha, hx⟩, h0, h1, hn, k⟩ := h
  unfold t_law_near
  walk_at "go"
  refine r_isiT hl ?_
  walk_at "go"
  refine ite_f rfl ?_
  walk_at "go"
  refine r_lenT hl ?_
  walk_at "go"
  refine ite_f rfl ?_
  walk_at "go"
  refine ite_f (decide_eq_false (by omega)) ?_
  walk_at "go"
  refine i_listK ha ?_
  refine forL (fun i σ H' => ∃ v, σ = [some (.ref l), some (.ref a), some (.int e), v] ∧ H' = H) ⟨none, rfl, rfl⟩ (fun i σ H' _ ⟨_, _, e⟩ => by rw [e]; exact ha) ?_ ?_
  · rintro i x σ H' hi ⟨v, rfl, rfl⟩
    obtain ⟨p, hp, pa, rfl, hpa⟩ := hx.get' hi
    obtain ⟨⟨b1, b2⟩, hnear⟩ := hn i p hp
    walk_at "go"
    refine ite_f (decide_eq_false ?_) ?_
    · have h3 : ((t.1 * p.1 + t.2.1 - p.2 * t.2.2).natAbs : Int) ≤ e * t.2.2 := hnear
      omega
    walk_at "go"
    exact ⟨_, rfl, rfl⟩
  · rintro σ H' ⟨v, rfl, rfl⟩
    walk_at "go"
    exact k
theorem rd_law_digits (vs : List V) (H : Hp) (Q : VK) (E : XK) (h : sp_law_digits K vs H Q E) : t_law_digits K ⟨fun _ H' => Q .non H', Q, fun _ _ => False, fun _ _ => False⟩ (start N_law_digits vs) H := by
  obtain ⟨c, m, n, rfl, hm0, hm1, hn, k⟩ := h
  unfold t_law_digits
  walk_at "go"
  refine newL fun lr H1 n1 s1 e1 => ?_
  walk_at "go"
  refine i_rng1K (by omega) ?_
  refine forR (fun i σ H' => ∃ (ds : List Int) (w : Int) (v5 v6 : Option V), σ = [some (.int c), some (.int m), some (.int (n : Int)), some (.ref lr), some (.int w), v5, v6] ∧ Same H H' ∧ IntsAt H' lr ds ∧ ds.length = i ∧ ∀ d, d ∈ ds → 0 ≤ d ∧ d < m)
    ⟨[], c, none, none, rfl, s1, e1, rfl, fun d h => by simp at h⟩ ?_ ?_
  · rintro i σ H' hi ⟨ds, w, v5, v6, rfl, s, hl, hdl, hd⟩
    unfold IntsAt at hl
    have push : ∀ z : Int, Same H (upd H' lr (.lst (ds.map V.int ++ [.int (z % m)]))) ∧ IntsAt (upd H' lr (.lst (ds.map V.int ++ [.int (z % m)]))) lr (ds ++ [z % m]) ∧ (ds ++ [z % m]).length = i + 1 ∧ ∀ d, d ∈ ds ++ [z % m] → 0 ≤ d ∧ d < m := fun z => by
      refine ⟨same_mut s n1, ?_, by rw [List.length_append, hdl]; rfl, fun d h => ?_⟩
      · unfold IntsAt
        rw [List.map_append]
        exact upd_same
      · rcases List.mem_append.mp h with h | h
        · exact hd d h
        · rw [List.mem_singleton.mp h]
          exact ⟨Int.emod_nonneg _ (by omega), Int.emod_lt_of_pos _ hm0⟩
    rw [Int.zero_add]
    walk_at "go"
    refine r_pow ⟨by decide, by decide, by decide⟩ ?_
    walk_at "go"
    refine ite_d (fun h => ?_) (fun h => ?_)
    · walk_at "go"
      refine ⟨tyL hl, ?_⟩
      walk_at "go"
      refine r_mod hm0 ?_
      walk_at "go"
      refine r_app hl (by rw [List.length_map]; omega) ?_
      walk_at "go"
      refine r_fdiv ⟨hm0, by omega⟩ ?_
      walk_at "go"
      exact ⟨_, _, _, _, rfl, push w⟩
    · walk_at "go"
      refine r_mod (by decide) ?_
      have g1 := Int.emod_nonneg (c * 48271 + (i : Int) * 69621 + 1013) (show (2147483647 : Int) ≠ 0 by decide)
      have g2 := Int.emod_lt_of_pos (c * 48271 + (i : Int) * 69621 + 1013) (show (0 : Int) < 2147483647 by decide)
      generalize (c * 48271 + (i : Int) * 69621 + 1013) % 2147483647 = x1 at g1 g2 ⊢
      walk_at "go"
      refine r_mod (by decide) ?_
      generalize (x1 * x1 + 7 * x1 + (i : Int)) % 2147483629 = x2
      walk_at "go"
      refine ⟨tyL hl, ?_⟩
      walk_at "go"
      refine r_fdiv ⟨by decide, by decide⟩ ?_
      walk_at "go"
      refine r_mod hm0 ?_
      walk_at "go"
      refine r_app hl (by rw [List.length_map]; omega) ?_
      walk_at "go"
      exact ⟨_, _, _, _, rfl, push _⟩
  · rintro σ H' ⟨ds, w, v5, v6, rfl, s, hl, hdl, hd⟩
    walk_at "go"
    exact k lr H' ds s hl hdl hd
theorem rd_law_digits_of (vs : List V) (H : Hp) (Q : VK) (E : XK) (h : sp_law_digits_of K vs H Q E) : t_law_digits_of K ⟨fun _ H' => Q .non H', Q, fun _ _ => False, fun _ _ => False⟩ (start N_law_digits_of vs) H := by
  obtain ⟨z, rfl, hz0, hz1, k⟩ := h
  unfold t_law_digits_of
  walk_at "go"
  refine i_rng1K (m := 60) (by decide) ?_
  refine forR (fun i σ H' => ∃ (c : Nat) (w : Int) (v3 : Option V), σ = [some (.int z), some (.int (c : Int)), some (.int w), v3] ∧ H' = H ∧ 0 ≤ w ∧ (0 < w → c = i) ∧ w * 2 ^ c ≤ z ∧ z < (w + 1) * 2 ^ c)
    ⟨0, z, none, rfl, rfl, hz0, fun _ => rfl, by rw [Int.pow_zero, Int.mul_one]; exact Int.le_refl _, by rw [Int.pow_zero, Int.mul_one]; omega⟩ ?_ ?_
  · rintro i σ H' hi ⟨c, w, v3, rfl, rfl, w0, wc, h1, h2⟩
    walk_at "go"
    refine ite_d (fun h => ?_) (fun h => ?_)
    · walk_at "go"
      refine r_fdiv ⟨by decide, by decide⟩ ?_
      walk_at "go"
      have ec : (c : Int) + 1 = ((c + 1 : Nat) : Int) := by omega
      rw [ec]
      have p : (0 : Int) < 2 ^ c := Int.pow_pos (by decide)
      refine ⟨c + 1, w / 2, _, rfl, rfl, by omega, fun _ => by rw [wc h], ?_, ?_⟩
      · have h3 : w / 2 * 2 ≤ w := by omega
        have h4 : w / 2 * 2 * 2 ^ c ≤ w * 2 ^ c := Int.mul_le_mul_of_nonneg_right h3 (Int.le_of_lt p)
        rw [Int.pow_succ]
        grind
      · have h3 : w + 1 ≤ (w / 2 + 1) * 2 := by omega
        have h4 : (w + 1) * 2 ^ c ≤ (w / 2 + 1) * 2 * 2 ^ c := Int.mul_le_mul_of_nonneg_right h3 (Int.le_of_lt p)
        rw [Int.pow_succ]
        grind
    · walk_at "go"
      have ew : w = 0 := by omega
      exact ⟨c, w, _, rfl, rfl, w0, fun z => absurd z h, h1, h2⟩
  · rintro σ H' ⟨c, w, v3, rfl, rfl, w0, wc, h1, h2⟩
    walk_at "go"
    have ew : w = 0 := by
      rcases Int.lt_or_le 0 w with h | h
      · exfalso
        have ec := wc h
        subst ec
        have h3 : (1 : Int) * 2 ^ 60 ≤ w * 2 ^ 60 := Int.mul_le_mul_of_nonneg_right (by omega) (by decide)
        have h4 : (2 : Int) ^ 50 < 1 * 2 ^ 60 := by decide
        omega
      · omega
    refine k c ?_
    rw [ew, Int.zero_add, Int.one_mul] at h2
    exact h2
end
/-! ### readings: the law's own helpers, more -/
theorem at_lit3 {x y z : Int} {i : Int} (h0 : 0 ≤ i) (h1 : i < 3) : ∃ v, atI [V.int x, V.int y, V.int z] i = some (.int v) ∧ (v = x ∨ v = y ∨ v = z) := by
  have e : i = 0 ∨ i = 1 ∨ i = 2 := by omega
  rcases e with rfl | rfl | rfl
  · exact ⟨x, rfl, .inl rfl⟩
  · exact ⟨y, rfl, .inr (.inl rfl)⟩
  · exact ⟨z, rfl, .inr (.inr rfl)⟩
theorem g_sub {to ti : TE} {t : TSet} {v : V} {σ : St} {H : Hp} {Q : St → Hp → Prop} (q : to σ H fun o H1 => ti σ H1 fun i H2 => t o i v H2 fun H3 => Q σ H3) : gSub to ti t v σ H Q := q
theorem r_setL {l : Addr} {xs : List V} {j : Nat} {i : Int} {v : V} {H : Hp} {Q : Hp → Prop} (h : H l = some (.lst xs)) (e : i = (j : Int)) (hj : j < xs.length) (q : Q (upd H l (.lst (xs.set j v)))) : rSetL (.ref l) (.int i) v H Q :=
  ⟨l, xs, i, j, rfl, rfl, h, by rw [e]; unfold ixN; rw [if_pos (by omega), if_pos (by omega)]; simp, q⟩
theorem px_append {pts : List Pt} {p : Pt} {i : Nat} (h : i < pts.length) : px (pts ++ [p]) i = px pts i := by
  have h1 : pts[i]? = some pts[i] := List.getElem?_eq_getElem h
  rw [px_of h1]
  exact px_of (by rw [List.getElem?_append_left h]; exact h1)
theorem px_last {pts : List Pt} {p : Pt} : px (pts ++ [p]) pts.length = p.1 := px_of (by rw [List.getElem?_append_right (Nat.le_refl _), Nat.sub_self]; rfl)
section
variable {K : PySem.W.Frag}
theorem rd_law_curve (vs : List V) (H : Hp) (Q : VK) (E : XK) (h : sp_law_curve K vs H Q E) : t_law_curve K ⟨fun _ H' => Q .non H', Q, fun _ _ => False, fun _ _ => False⟩ (start N_law_curve vs) H := by
  obtain ⟨c, n, rfl, hn0, hn1, k⟩ := h
  unfold t_law_curve
  walk_at "go"
  have e4 : (n : Int) + 4 = ((n + 4 : Nat) : Int) := by omega
  rw [e4]
  refine ⟨c, 840, n + 4, rfl, by decide, by decide, by omega, fun r H1 ds s1 hr hdl hd => ?_⟩
  unfold IntsAt at hr
  have g : ∀ i, i < n + 4 → (ds.map V.int)[i]? = some (.int (vOf ds i)) ∧ 0 ≤ vOf ds i ∧ vOf ds i < 840 := fun i hi => by
    have h1 := vOf_get (ns := ds) (i := i) (by omega)
    exact ⟨map_int_get h1, hd _ (List.mem_of_getElem? h1)⟩
  obtain ⟨g1, _, _⟩ := g n (by omega)
  obtain ⟨g2, _, _⟩ := g (n + 1) (by omega)
  obtain ⟨g3, _, _⟩ := g (n + 2) (by omega)
  obtain ⟨g4, p1, p2⟩ := g (n + 3) (by omega)
  walk_at "go"
  refine r_ixL hr (atI_nat g1) ?_
  walk_at "go"
  refine r_mod (by decide) ?_
  walk_at "go"
  refine newL fun l1 H2 n2 s2 e2 => ?_
  walk_at "go"
  refine r_ixL (s2 _ _ hr) (at_of (j := n + 1) (by omega) g2) ?_
  walk_at "go"
  refine r_mod (by decide) ?_
  obtain ⟨bend, hb, hbv⟩ := at_lit3 (x := 2) (y := 5) (z := 30) (Int.emod_nonneg (vOf ds (n + 1)) (by decide)) (Int.emod_lt_of_pos (vOf ds (n + 1)) (show (0 : Int) < 3 by decide))
  refine r_ixL e2 hb ?_
  walk_at "go"
  refine newL fun l2 H3 n3 s3 e3 => ?_
  have s13 := s2.trans s3
  walk_at "go"
  refine r_ixL (s13 _ _ hr) (at_of (j := n + 2) (by omega) g3) ?_
  walk_at "go"
  refine r_mod (by decide) ?_
  obtain ⟨noise, hz, hzv⟩ := at_lit3 (x := 0) (y := 1) (z := 3) (Int.emod_nonneg (vOf ds (n + 2)) (by decide)) (Int.emod_lt_of_pos (vOf ds (n + 2)) (show (0 : Int) < 3 by decide))
  refine r_ixL e3 hz ?_
  walk_at "go"
  refine newL fun lp H4 n4 s4 e4' => ?_
  have s14 := s13.trans s4
  walk_at "go"
  refine r_ixL (s14 _ _ hr) (at_of (j := n + 3) (by omega) g4) ?_
  walk_at "go"
  have s04 := s1.trans s14
  have lpN : H lp = none := (s1.trans s13).free n4
  have lpr : r ≠ lp := ne_of_none (s13 _ _ hr) n4
  refine i_rng1K (by omega) ?_
  refine forR (fun i σ H' => ∃ (slope place height : Int) (v9 : Option V) (ws : List V) (pts : List Pt), σ = [some (.int c), some (.int (n : Int)), some (.ref r), some (.int slope), some (.int bend), some (.int noise), some (.ref lp), some (.int place), some (.int height), v9] ∧ Same H H' ∧ H' r = some (.lst (ds.map V.int)) ∧ H' lp = some (.lst ws) ∧ LR (PtR H') ws pts ∧ pts.length = i ∧
      -400 ≤ place ∧ place ≤ 440 + 3 * (i : Int) ∧ (∀ j, j < i → -400 ≤ px pts j ∧ px pts j ≤ place) ∧ AscN (px pts) i)
    ⟨_, _, _, none, [], [], rfl, s04, s14 _ _ hr, e4', LR.nil, rfl, by omega, by omega, fun j h => absurd h (Nat.not_lt_zero j), fun a b _ h => absurd h (Nat.not_lt_zero b)⟩ ?_ ?_
  · rintro i σ H' hi ⟨slope, place, height, v9, ws, pts, rfl, s, hr', hlp, hws, hpl, b1, b2, hb, asc⟩
    obtain ⟨gi, _, _⟩ := g i (by omega)
    have hwl : ws.length = pts.length := hws.len
    rw [Int.zero_add]
    walk_at "go"
    refine st_cut (fun σ' H2 => H2 = H' ∧ ∃ slope' : Int, σ' = [some (.int c), some (.int (n : Int)), some (.ref r), some (.int slope'), some (.int bend), some (.int noise), some (.ref lp), some (.int place), some (.int height), some (.int (i : Int))]) ?_ ?_
    · walk_at "go"
      refine r_ixL hr' (atI_nat gi) ?_
      walk_at "go"
      refine r_mod (by omega) ?_
      walk_at "go"
      refine ite_d (fun h => ?_) (fun h => ?_)
      · walk_at "go"
        refine r_ixL hr' (atI_nat gi) ?_
        walk_at "go"
        refine r_fdiv ⟨by decide, by decide⟩ ?_
        walk_at "go"
        refine r_mod (by decide) ?_
        walk_at "go"
        exact ⟨rfl, _, rfl⟩
      · walk_at "go"
        exact ⟨rfl, _, rfl⟩
    · rintro σ' H2 ⟨rfl, slope', rfl⟩
      walk_at "go"
      refine r_ixL hr' (atI_nat gi) ?_
      walk_at "go"
      refine r_fdiv ⟨by decide, by decide⟩ ?_
      walk_at "go"
      refine r_mod (by decide) ?_
      have m1 := Int.emod_nonneg (vOf ds i / 90) (show (3 : Int) ≠ 0 by decide)
      have m2 := Int.emod_lt_of_pos (vOf ds i / 90) (show (0 : Int) < 3 by decide)
      generalize vOf ds i / 90 % 3 = step at m1 m2 ⊢
      walk_at "go"
      refine ⟨tyL hlp, ?_⟩
      walk_at "go"
      refine r_ixL hr' (atI_nat gi) ?_
      walk_at "go"
      refine r_fdiv ⟨by decide, by decide⟩ ?_
      walk_at "go"
      refine r_mod (by omega) ?_
      walk_at "go"
      refine newT fun tt H3 n3 s3 e3 => ?_
      walk_at "go"
      have hlp3 := s3 _ _ hlp
      refine r_app hlp3 (by omega) ?_
      have t4 : Tp H3 (upd H3 lp (.lst (ws ++ [.ref tt]))) := Tp.mutL hlp3
      walk_at "go"
      refine ⟨_, place + 1 + step, _, _, ws ++ [.ref tt], pts ++ [(place + 1 + step, _)], rfl, same_mut (s.trans s3) lpN, by rw [upd_ne lpr]; exact s3 _ _ hr', upd_same, (hws.mono fun _ _ h => h.mono ((same_tp s3).trans t4)).app ⟨tt, rfl, t4 _ _ e3⟩, by rw [List.length_append, hpl]; rfl, by omega, by omega, fun j hj => ?_, fun a b hab hbi => ?_⟩
      · by_cases z : j < i
        · rw [px_append (by omega)]
          have := hb j z
          omega
        · have e : j = pts.length := by omega
          rw [e, px_last]
          dsimp only
          omega
      · by_cases z : b < i
        · rw [px_append (by omega), px_append (by omega)]
          exact asc a b hab z
        · have e : b = pts.length := by omega
          rw [px_append (by omega), e, px_last]
          have := hb a (by omega)
          dsimp only
          omega
  · rintro σ H' ⟨slope, place, height, v9, ws, pts, rfl, s, hr', hlp, hws, hpl, b1, b2, hb, asc⟩
    walk_at "go"
    refine k lp H' pts s ⟨ws, hlp, hws⟩ ⟨by rw [hpl]; exact asc, fun i hi => ?_, by omega, by omega⟩ hpl fun i hi => ?_
    · have := hb i (by omega)
      omega
    · have := hb i hi
      omega
theorem rd_law_judged (T : TK K) (vs : List V) (H : Hp) (Q : VK) (E : XK) (h : sp_law_judged K vs H Q E) : t_law_judged K ⟨fun _ H' => Q .non H', Q, fun _ _ => False, fun _ _ => False⟩ (start N_law_judged vs) H := by
  obtain ⟨a, b, c, e, pts, pcs, rs, rfl, ⟨xs, ha, hx⟩, PO, ⟨ps, hlb, hps⟩, ⟨qs, hlc, hqs⟩, C, hlen, hd, k⟩ := h
  have hN := PO.pos
  have hNl := PO.len
  have hxl : xs.length = pts.length := hx.len
  have hpl := starts_len C
  have hpl2 : ps.length = pcs.length := hps.len
  have hql : qs.length = rs.length := hqs.len
  have gp : ∀ i : Int, 0 ≤ i → i < (pts.length : Int) → ∃ v, xs[i.toNat]? = some (.ref v) ∧ H v = some (.tup [.int (px pts i.toNat), .int (py pts i.toNat)]) := fun i h1 h2 => by
    have h3 : pts[i.toNat]? = some pts[i.toNat] := List.getElem?_eq_getElem (by omega)
    obtain ⟨v, hv, pa, rfl, r⟩ := hx.get h3
    exact ⟨pa, hv, by rw [px_of h3, py_of h3]; exact r⟩
  unfold t_law_judged
  walk_at "go"
  refine r_len ha ?_
  walk_at "go"
  refine ite_f (decide_eq_false (by omega)) ?_
  walk_at "go"
  refine i_listK hlb ?_
  refine lcL (ds := pcs.map (·.1)) (fun _ v n => v = .int n) (fun _ _ _ _ _ h => h) hlb (by rw [List.length_map, hpl2]) (by rw [List.length_map]; omega) ?_ gm_name ?_
  · intro i x n H' Q' s1 hi hn kq
    obtain ⟨q, hq, pa, pb, rfl, hpa, hpb⟩ := hps.get' hi
    rw [starts_get hq] at hn
    cases Option.some.inj hn
    have hpa' := s1 _ _ hpa
    walk_at "go"
    refine ⟨rfl, ?_⟩
    walk_at "go"
    exact kq _ _ (Same.refl _) rfl
  · intro D H1 ys nD s1 hD hy
    rw [lr_int hy] at hD
    have hDl : ((pcs.map (·.1)).map V.int).length = pcs.length := by rw [List.length_map, List.length_map]
    walk_at "go"
    refine r_len hD ?_
    walk_at "go"
    refine ite_f (decide_eq_false (by rw [hDl]; omega)) ?_
    walk_at "go"
    refine r_ixL hD (atI_nat (j := 0) (map_int_get (C.first' (by omega)))) ?_
    walk_at "go"
    refine ite_f rfl ?_
    walk_at "go"
    refine r_len (s1 _ _ hlc) ?_
    walk_at "go"
    refine r_len hD ?_
    walk_at "go"
    refine ite_f (by rw [decide_eq_true (show (qs.length : Int) = (((pcs.map (·.1)).map V.int).length : Int) - 1 by rw [hDl]; omega)]; rfl) ?_
    walk_at "go"
    refine r_slL hD fun b1 H3 n3 s3 e3 => ?_
    rw [cutV_1] at e3
    walk_at "go"
    refine r_len (s3 _ _ (s1 _ _ ha)) ?_
    walk_at "go"
    refine newL fun b2 H4 n4 s4 e4 => ?_
    refine r_catL (s4 _ _ e3) e4 (by rw [List.length_drop, hDl, List.length_singleton]; omega) fun en H5 n5 s5 e5 => ?_
    have s05 : Same H H5 := ((s1.trans s3).trans s4).trans s5
    have hD5 : H5 D = some (.lst ((pcs.map (·.1)).map V.int)) := s5 _ _ (s4 _ _ (s3 _ _ hD))
    have ee : ((pcs.map (·.1)).map V.int).drop 1 ++ [V.int (xs.length : Int)] = (((pcs.map (·.1)).drop 1) ++ [(pts.length : Int)]).map V.int := by
      rw [List.map_append, List.map_drop, hxl]
      rfl
    rw [ee] at e5
    walk_at "go"
    refine r_len (s05 _ _ hlb) ?_
    walk_at "go"
    refine i_rng1K (by omega) ?_
    rw [hpl2]
    refine forR (fun i σ H' => ∃ v6 v7 v8 v9 v10 : Option V, σ = [some (.ref a), some (.int e), some (.ref b), some (.ref c), some (.ref D), some (.ref en), v6, v7, v8, v9, v10] ∧ Same H5 H') ⟨_, _, _, _, _, rfl, Same.refl _⟩ ?_ ?_
    · rintro i σ H7 hi ⟨v6, v7, v8, v9, v10, rfl, s7⟩
      obtain ⟨q, hq⟩ : ∃ q, pcs[i]? = some q := ⟨_, List.getElem?_eq_getElem hi⟩
      obtain ⟨vq, gq, pa, pb, rfl, hpa, hpb⟩ := hps.get hq
      have s07 : Same H H7 := s05.trans s7
      obtain ⟨q0, q1, q2⟩ := C.asc i q hq
      obtain ⟨d1, d2⟩ := hd i q hq
      have hpa7 := s07 _ _ hpa
      have hpb7 := s07 _ _ hpb
      have hD7 := s7 _ _ hD5
      have gs := atI_nat (j := i) (map_int_get (starts_get hq))
      have ge := atI_nat (j := i) (map_int_get (ends_get (m := (pts.length : Int)) i hi))
      rw [Int.zero_add]
      walk_at "go"
      refine r_ixL hD7 gs ?_
      walk_at "go"
      refine x_chK (decide_eq_true q0) ?_
      walk_at "go"
      refine r_ixL (s7 _ _ e5) ge ?_
      walk_at "go"
      refine x_chK (decide_eq_true q1) ?_
      walk_at "go"
      refine r_len (s07 _ _ ha) ?_
      walk_at "go"
      rw [decide_eq_true (show nxt pcs (pts.length : Int) i ≤ (xs.length : Int) by omega)]
      refine ite_f rfl ?_
      walk_at "go"
      refine r_ixL (s07 _ _ hlb) (atI_nat gq) ?_
      walk_at "go"
      refine r_ixL hD7 gs ?_
      walk_at "go"
      refine r_ixL (s7 _ _ e5) ge ?_
      walk_at "go"
      have es : q.1 = ((q.1.toNat : Nat) : Int) := by omega
      have et : nxt pcs (pts.length : Int) i = (((nxt pcs (pts.length : Int) i).toNat : Nat) : Int) := by omega
      refine r_slL (s07 _ _ ha) fun sl H8 n8 s8 e8 => ?_
      rw [es, et, cutV_nat xs _ _ (by omega) (by omega)] at e8
      walk_at "go"
      have hpb8 := s8 _ _ hpb7
      refine ⟨pb, sl, q.2, (pts.drop q.1.toNat).take ((nxt pcs (pts.length : Int) i).toNat - q.1.toNat), e, rfl, hpb8, ⟨_, e8, ((hx.mono fun _ _ h => h.mono ((same_tp s07).trans (same_tp s8))).drop _).take _⟩, by omega, d2, fun j p hj => ?_, ?_⟩
      · rw [List.getElem?_take] at hj
        split at hj
        · rename_i hlt
          rw [List.getElem?_drop] at hj
          have hjn := (List.getElem?_eq_some_iff.mp hj).1
          have h1 := C.line i q hq (q.1.toNat + j) (by omega) (by omega)
          unfold LnP at h1
          rw [px_of hj, py_of hj] at h1
          have h2 := PO.bd _ hjn
          rw [px_of hj] at h2
          exact ⟨h2, h1⟩
        · cases hj
      · walk_at "go"
        refine ite_f rfl ?_
        walk_at "go"
        exact ⟨_, _, _, _, _, rfl, s7.trans s8⟩
    · rintro σ H6 ⟨v6, v7, v8, v9, v10, rfl, s6⟩
      have s06 := s05.trans s6
      walk_at "go"
      refine r_len (s06 _ _ hlc) ?_
      walk_at "go"
      refine i_rng1K (by omega) ?_
      rw [hql]
      refine forR (fun i σ H' => ∃ v6 v7 v8 v9 v10 : Option V, σ = [some (.ref a), some (.int e), some (.ref b), some (.ref c), some (.ref D), some (.ref en), v6, v7, v8, v9, v10] ∧ Same H6 H') ⟨_, _, _, _, _, rfl, Same.refl _⟩ ?_ ?_
      · rintro i σ H7 hi ⟨v6, v7, v8, v9, v10, rfl, s7⟩
        obtain ⟨w, hw⟩ : ∃ w, rs[i]? = some w := ⟨_, List.getElem?_eq_getElem hi⟩
        obtain ⟨vw, gw, wa, rfl, hwa⟩ := hqs.get hw
        have s07 : Same H H7 := s06.trans s7
        obtain ⟨q, hq⟩ : ∃ q, pcs[i]? = some q := ⟨pcs[i], List.getElem?_eq_getElem (by omega)⟩
        obtain ⟨w1, w2, w3, w4, w5⟩ := C.reason i w q hw hq
        obtain ⟨q0, q1, q2⟩ := C.asc i q hq
        have hn1 : (pcs.map (·.1))[i + 1]? = some (nxt pcs (pts.length : Int) i) := starts_nxt (by omega)
        have hn2 := C.in' _ _ hn1
        have hD7 := s7 _ _ (s6 _ _ hD5)
        have hwa7 := s07 _ _ hwa
        obtain ⟨a1, g1, r1⟩ := gp w.1 (by omega) (by omega)
        obtain ⟨a2, g2, r2⟩ := gp w.2.1 (by omega) (by omega)
        obtain ⟨a3, g3, r3⟩ := gp w.2.2 (by omega) (by omega)
        rw [Int.zero_add]
        walk_at "go"
        refine r_ixL (s07 _ _ hlc) (atI_nat gw) ?_
        walk_at "go"
        refine r_ixL hD7 (atI_nat (map_int_get (starts_get hq))) ?_
        walk_at "go"
        refine x_chK (decide_eq_true w1) ?_
        walk_at "go"
        refine x_chK (decide_eq_true w2) ?_
        walk_at "go"
        refine x_chK (decide_eq_true w3) ?_
        walk_at "go"
        refine r_ixL hD7 (at_of (j := i + 1) (by omega) (map_int_get hn1)) ?_
        walk_at "go"
        rw [decide_eq_true w4]
        refine ite_f rfl ?_
        walk_at "go"
        refine r_ixL (s07 _ _ ha) (at_i (by omega) g1) ?_
        walk_at "go"
        refine r_ixL (s07 _ _ ha) (at_i (by omega) g2) ?_
        walk_at "go"
        refine r_ixL (s07 _ _ ha) (at_i (by omega) g3) ?_
        walk_at "go"
        refine ⟨a1, a2, a3, _, _, _, e, rfl, s07 _ _ r1, s07 _ _ r2, s07 _ _ r3, PO.bd _ (by omega), PO.bd _ (by omega), PO.bd _ (by omega), fun z => absurd z w5, fun _ => ?_⟩
        walk_at "go"
        refine ite_f rfl ?_
        walk_at "go"
        exact ⟨_, _, _, _, _, rfl, s7⟩
      · rintro σ H7 ⟨v6, v7, v8, v9, v10, rfl, s7⟩
        walk_at "go"
        exact k H7 (s06.trans s7)
end
/-! ### readings: looks_right, flat_starts -/
/-- how many of the first i looks are at depth k -/
def cntAt (ls : List Pt) (i k : Nat) : Nat := ((ls.take i).filter fun q => q.1 == (k : Int)).length
theorem cntAt_step {ls : List Pt} {i : Nat} {q : Pt} (h : ls[i]? = some q) (k : Nat) : cntAt ls (i + 1) k = cntAt ls i k + if q.1 = (k : Int) then 1 else 0 := by
  unfold cntAt
  rw [List.take_add_one, h, List.filter_append, List.length_append]
  congr 1
  show ([q].filter _).length = _
  by_cases hq : q.1 = (k : Int)
  · rw [if_pos hq, List.filter_cons_of_pos (by simpa using hq)]
    rfl
  · rw [if_neg hq, List.filter_cons_of_neg (by simpa using hq)]
    rfl
/-- least and greatest of V from s on -/
structure MnMx (V : Nat → Int) (s i : Nat) (lo hi : Int) : Prop where
  lo1 : ∃ j, s ≤ j ∧ j < i ∧ V j = lo
  hi1 : ∃ j, s ≤ j ∧ j < i ∧ V j = hi
  all : ∀ j, s ≤ j → j < i → lo ≤ V j ∧ V j ≤ hi
theorem MnMx.one (V : Nat → Int) (i : Nat) : MnMx V i (i + 1) (V i) (V i) := by
  refine ⟨⟨i, Nat.le_refl _, Nat.lt_succ_self i, rfl⟩, ⟨i, Nat.le_refl _, Nat.lt_succ_self i, rfl⟩, fun j h1 h2 => ?_⟩
  have e : j = i := by omega
  rw [e]
  exact ⟨Int.le_refl _, Int.le_refl _⟩
theorem MnMx.step {V : Nat → Int} {s i : Nat} {lo hi : Int} (M : MnMx V s i lo hi) (hsi : s ≤ i) : MnMx V s (i + 1) (min lo (V i)) (max hi (V i)) := by
  obtain ⟨⟨a, a1, a2, a3⟩, ⟨b, b1, b2, b3⟩, all⟩ := M
  refine ⟨?_, ?_, fun j h1 h2 => ?_⟩
  · by_cases h : lo ≤ V i
    · exact ⟨a, a1, by omega, by omega⟩
    · exact ⟨i, hsi, by omega, by omega⟩
  · by_cases h : V i ≤ hi
    · exact ⟨b, b1, by omega, by omega⟩
    · exact ⟨i, hsi, by omega, by omega⟩
  · by_cases z : j = i
    · rw [z]
      omega
    · have := all j h1 (by omega)
      omega
theorem MnMx.seg {V : Nat → Int} {e : Int} {s i : Nat} {lo hi : Int} (M : MnMx V s i lo hi) : SegF e V s i ↔ hi - lo ≤ 2 * e := by
  obtain ⟨⟨a, a1, a2, a3⟩, ⟨b, b1, b2, b3⟩, all⟩ := M
  constructor
  · intro h
    have := h b a b1 b2 a1 a2
    omega
  · intro h c d c1 c2 d1 d2
    have h1 := all c c1 c2
    have h2 := all d d1 d2
    omega
section
variable {K : PySem.W.Frag}
theorem rd_law_flat_starts (vs : List V) (H : Hp) (Q : VK) (E : XK) (h : sp_law_flat_starts K vs H Q E) : t_law_flat_starts K ⟨fun _ H' => Q .non H', Q, fun _ _ => False, fun _ _ => False⟩ (start N_law_flat_starts vs) H := by
  obtain ⟨a, e, ns, rfl, ha, hn0, hn1, he, k⟩ := h
  unfold IntsAt at ha
  generalize hY : vOf ns = Y at k
  have ixY : ∀ {H' : Hp} {Q' : VK} {i : Nat}, Same H H' → i < ns.length → Q' (.int (Y i)) H' → rIxL K (.ref a) (.int (i : Int)) H' Q' := fun s hi q => ix_v (s _ _ ha) hi (by rw [hY]; exact q)
  unfold t_law_flat_starts
  walk_at "go"
  refine newL fun lr H1 n1 s1 e1 => ?_
  walk_at "go"
  refine r_len (s1 _ _ ha) ?_
  rw [List.length_map]
  walk_at "go"
  refine i_rng1K (by omega) ?_
  refine forR (fun i σ H' => ∃ (lo hi : Int) (v5 : Option V) (ss : List Int), σ = [some (.ref a), some (.int e), some (.ref lr), some (.int lo), some (.int hi), v5] ∧ Same H H' ∧ IntsAt H' lr ss ∧ ss.length ≤ i ∧ ((i = 0 ∧ ss = []) ∨ ∃ (cs : List Nat) (s : Nat), Gr (SegF e Y) i cs s ∧ ss = intsOf (cs ++ [s]) ∧ s < i ∧ MnMx Y s i lo hi))
    ⟨0, 0, none, [], rfl, s1, e1, Nat.le_refl _, .inl ⟨rfl, rfl⟩⟩ ?_ ?_
  · rintro i σ H' hi' ⟨lo, hi, v5, ss, rfl, s', hl, hsl, J⟩
    unfold IntsAt at hl
    have hssl : (ss.map V.int).length = ss.length := List.length_map _
    rw [Int.zero_add]
    walk_at "go"
    refine st_cut (fun σ' H2 => ∃ (lo' hi' : Int) (ss' : List Int) (cs : List Nat) (s : Nat), σ' = [some (.ref a), some (.int e), some (.ref lr), some (.int lo'), some (.int hi'), some (.int (i : Int))] ∧ Same H H2 ∧ IntsAt H2 lr ss' ∧ ss'.length ≤ i + 1 ∧ Gr (SegF e Y) (i + 1) cs s ∧ ss' = intsOf (cs ++ [s]) ∧ s < i + 1 ∧ MnMx Y s (i + 1) (min lo' (Y i)) (max hi' (Y i))) ?_ ?_
    · -- a new piece
      have news : ∀ cs : List Nat, Gr (SegF e Y) (i + 1) cs i → ss ++ [(i : Int)] = intsOf (cs ++ [i]) → ∃ (lo' hi' : Int) (ss' : List Int) (cs : List Nat) (s : Nat), ([some (.ref a), some (.int e), some (.ref lr), some (.int (Y i)), some (.int (Y i)), some (.int (i : Int))] : St) = [some (.ref a), some (.int e), some (.ref lr), some (.int lo'), some (.int hi'), some (.int (i : Int))] ∧ Same H (upd H' lr (.lst (ss.map V.int ++ [.int (i : Int)]))) ∧ IntsAt (upd H' lr (.lst (ss.map V.int ++ [.int (i : Int)]))) lr ss' ∧ ss'.length ≤ i + 1 ∧ Gr (SegF e Y) (i + 1) cs s ∧ ss' = intsOf (cs ++ [s]) ∧ s < i + 1 ∧ MnMx Y s (i + 1) (min lo' (Y i)) (max hi' (Y i)) := fun cs G hss => by
        refine ⟨Y i, Y i, ss ++ [(i : Int)], cs, i, rfl, same_mut s' n1, ?_, by rw [List.length_append, List.length_singleton]; omega, G, hss, Nat.lt_succ_self i, ?_⟩
        · unfold IntsAt
          rw [List.map_append]
          exact upd_same
        · have e1 : min (Y i) (Y i) = Y i := by omega
          have e2 : max (Y i) (Y i) = Y i := by omega
          rw [e1, e2]
          exact MnMx.one Y i
      have sa : Same H (upd H' lr (.lst (ss.map V.int ++ [.int (i : Int)]))) := same_mut s' n1
      walk_at "go"
      refine r_len hl ?_
      walk_at "go"
      refine ite_d (fun h => ?_) (fun h => ?_)
      · refine ite_t rfl ?_
        walk_at "go"
        refine ⟨tyL hl, ?_⟩
        walk_at "go"
        refine r_app hl (by omega) ?_
        walk_at "go"
        refine ixY sa hi' ?_
        walk_at "go"
        refine ixY sa hi' ?_
        walk_at "go"
        rcases J with ⟨rfl, rfl⟩ | ⟨cs, s, G, rfl, _⟩
        · exact news [] (.take .zero fun c d _ h1 _ h2 => by
            have e1 : c = d := by omega
            rw [e1]
            omega) rfl
        · exfalso
          rw [hssl] at h
          unfold intsOf at h
          rw [List.length_map, List.length_append, List.length_singleton] at h
          omega
      · rcases J with ⟨rfl, rfl⟩ | ⟨cs, s, G, hss, hsi, M⟩
        · exact absurd rfl h
        have M2 := M.step (Nat.le_of_lt hsi)
        walk_at "go"
        refine ixY s' hi' ?_
        walk_at "go"
        refine ixY s' hi' ?_
        walk_at "go"
        refine ite_d (fun h2 => ?_) (fun h2 => ?_)
        · walk_at "go"
          refine ⟨tyL hl, ?_⟩
          walk_at "go"
          refine r_app hl (by omega) ?_
          walk_at "go"
          refine ixY sa hi' ?_
          walk_at "go"
          refine ixY sa hi' ?_
          walk_at "go"
          refine news (cs ++ [s]) (.close G fun sg => ?_) (by rw [hss, intsOf_app (cs ++ [s])])
          have := M2.seg.mp sg
          omega
        · walk_at "go"
          exact ⟨lo, hi, ss, cs, s, rfl, s', hl, by omega, .take G (M2.seg.mpr (by omega)), hss, by omega, M2⟩
    · rintro σ' H2 ⟨lo', hi2, ss', cs, s, rfl, s2, hl2, hsl2, G, hss, hsi, M⟩
      walk_at "go"
      refine ixY s2 hi' ?_
      walk_at "go"
      refine ixY s2 hi' ?_
      walk_at "go"
      exact ⟨_, _, _, ss', rfl, s2, hl2, hsl2, .inr ⟨cs, s, G, hss, hsi, M⟩⟩
  · rintro σ H' ⟨lo, hi, v5, ss, rfl, s', hl, hsl, J⟩
    walk_at "go"
    rcases J with ⟨h, _⟩ | ⟨cs, s, G, hss, _, _⟩
    · omega
    · exact k lr H' ss s' hl ⟨cs, s, G, hss⟩
theorem rd_law_looks_right (T : TK K) (vs : List V) (H : Hp) (Q : VK) (E : XK) (h : sp_law_looks_right K vs H Q E) : t_law_looks_right K ⟨fun _ H' => Q .non H', Q, fun _ _ => False, fun _ _ => False⟩ (start N_law_looks_right vs) H := by
  obtain ⟨a, b, e, u, bl, ls, mss, rfl, ⟨xs, ha, hx⟩, ⟨ys, hb, hy⟩, ⟨inn, desc, few⟩, hll, hbl, hn0, hn1, he0, he1, hu0, hu1, k⟩ := h
  have hxl : xs.length = ls.length := hx.len
  have hyl : ys.length = mss.length := hy.len
  have hszl : (mss.map (·.length)).length = mss.length := List.length_map _
  rw [hszl] at few
  unfold t_law_looks_right
  walk_at "go"
  refine r_isiL ha ?_
  walk_at "go"
  refine ite_f rfl ?_
  walk_at "go"
  cases bl
  case' true =>
    refine ite_t rfl ?_
    walk_at "go"
    refine r_len ha ?_
    walk_at "go"
    refine ite_f (decide_eq_false (by have := hbl rfl; omega)) ?_
  case' false =>
    refine ite_f rfl (ite_f rfl ?_)
  all_goals
    walk_at "go"
    refine r_len hb ?_
    walk_at "go"
    refine i_listK hb ?_
    refine lcL (ds := List.replicate mss.length (0 : Int)) (fun _ v n => v = .int n) (fun _ _ _ _ _ h => h) hb (by rw [List.length_replicate, hyl]) (by rw [List.length_replicate]; omega) ?_ gm_name ?_
    · intro i x n H' Q' s1 hi hn kq
      have en : n = 0 := List.eq_of_mem_replicate (List.mem_of_getElem? hn)
      subst en
      walk_at "go"
      refine ⟨rfl, ?_⟩
      walk_at "go"
      exact kq _ _ (Same.refl _) rfl
    intro D H1 zs nD s1 hD hz
    rw [lr_int hz] at hD
    walk_at "go"
    refine i_listK (s1 _ _ ha) ?_
    refine forL (fun i σ H' => ∃ (bb : Bool) (last : Int) (v7 v8 v9 v10 : Option V) (cs : List Int), σ = [some (.ref a), some (.ref b), some (.int e), some (.int u), some (.bl bb), some (.int last), some (.ref D), v7, v8, v9, v10] ∧ Same H H' ∧ IntsAt H' D cs ∧ cs.length = mss.length ∧ (∀ (k : Nat) (c : Int), cs[k]? = some c → c = (cntAt ls i k : Int)) ∧ ∀ q, ls[i]? = some q → q.1 ≤ last)
      ⟨_, _, none, none, none, none, _, rfl, s1, hD, List.length_replicate, fun k c hc => ?_, fun q hq => ?_⟩ (fun i σ H' _ ⟨_, _, _, _, _, _, _, _, s, _⟩ => s _ _ ha) ?_ ?_
    · rw [List.eq_of_mem_replicate (List.mem_of_getElem? hc)]
      unfold cntAt
      rw [List.take_zero]
      rfl
    · have := (inn q (List.mem_of_getElem? hq)).2.1
      rw [hszl] at this
      omega
    · rintro i x σ H' hi ⟨bb, last, v7, v8, v9, v10, cs, rfl, s', hD', hcl, hc, hlast⟩
      unfold IntsAt at hD'
      obtain ⟨q, hq, pa, rfl, hpa⟩ := hx.get' hi
      obtain ⟨i1, i2, i3, i4⟩ := inn q (List.mem_of_getElem? hq)
      rw [hszl] at i2
      have eq1 : q.1 = ((q.1.toNat : Nat) : Int) := by omega
      obtain ⟨ms, hms⟩ : ∃ ms, mss[q.1.toNat]? = some ms := ⟨_, List.getElem?_eq_getElem (show q.1.toNat < mss.length by omega)⟩
      obtain ⟨w, hw, wa, rfl, hwa⟩ := hy.get hms
      unfold IntsAt at hwa
      have i5 := i4 ms.length (by rw [List.getElem?_map, hms]; rfl)
      have hpa' := s' _ _ hpa
      obtain ⟨c, hcq⟩ : ∃ c, cs[q.1.toNat]? = some c := ⟨_, List.getElem?_eq_getElem (show q.1.toNat < cs.length by omega)⟩
      walk_at "go"
      refine x_chK (decide_eq_true i1) ?_
      walk_at "go"
      rw [decide_eq_true (hlast q hq)]
      refine ite_f rfl ?_
      walk_at "go"
      refine x_chK (decide_eq_true i3) ?_
      walk_at "go"
      refine r_ixL (s' _ _ hb) (at_i i1 hw) ?_
      walk_at "go"
      refine r_len (s' _ _ hwa) ?_
      walk_at "go"
      rw [decide_eq_true (show q.2 < ((ms.map V.int).length : Int) by rw [List.length_map]; exact i5)]
      refine ite_f rfl ?_
      walk_at "go"
      refine r_ixL hD' (at_i i1 (map_int_get hcq)) ?_
      walk_at "go"
      refine g_sub ?_
      walk_at "go"
      refine r_setL hD' eq1 (by rw [List.length_map]; omega) ?_
      refine ⟨bb, _, _, _, _, _, cs.set q.1.toNat (c + 1), rfl, same_mut s' nD, ?_, by rw [List.length_set, hcl], fun k c' hc' => ?_, fun q' hq' => ?_⟩
      · unfold IntsAt
        rw [List.map_set]
        exact upd_same
      · rw [cntAt_step hq]
        by_cases hk : k = q.1.toNat
        · subst hk
          rw [List.getElem?_set_self (by omega)] at hc'
          cases Option.some.inj hc'
          rw [if_pos eq1, hc _ _ hcq]
          omega
        · rw [List.getElem?_set_ne (by omega)] at hc'
          rw [if_neg (by omega), hc _ _ hc']
          omega
      · rw [List.pairwise_iff_getElem] at desc
        obtain ⟨l1, e1⟩ := List.getElem?_eq_some_iff.mp hq
        obtain ⟨l2, e2⟩ := List.getElem?_eq_some_iff.mp hq'
        have := desc i (i + 1) l1 l2 (Nat.lt_succ_self i)
        rw [e1, e2] at this
        exact this
    · rw [hxl]
      rintro σ H2 ⟨bb, last, v7, v8, v9, v10, cs, rfl, s2, hD2, hcl, hc, _⟩
      unfold IntsAt at hD2
      walk_at "go"
      refine r_len (s2 _ _ hb) ?_
      walk_at "go"
      refine i_rng1K (by omega) ?_
      rw [hyl]
      refine forR (fun i σ H' => ∃ (v8 v9 : Option V), σ = [some (.ref a), some (.ref b), some (.int e), some (.int u), some (.bl bb), some (.int last), some (.ref D), v7, v8, v9, v10] ∧ H' = H2) ⟨_, _, rfl, rfl⟩ ?_ ?_
      · rintro i σ H' hi ⟨v8, v9, rfl, rfl⟩
        obtain ⟨c, hcq⟩ : ∃ c, cs[i]? = some c := ⟨_, List.getElem?_eq_getElem (show i < cs.length by omega)⟩
        have hcv := hc i c hcq
        unfold cntAt at hcv
        rw [List.take_of_length_le (Nat.le_refl _)] at hcv
        rw [Int.zero_add]
        -- behind the call
        have after : ∀ (w : Int), 0 ≤ w → w ≤ 30 → w = (if i = 0 then e else u) → ∀ (Qk : VK), (∀ L : Nat, 2 * w + 2 < 2 ^ L → Qk (.int (L : Int)) H') → sp_law_digits_of K [.int (2 * w + 2)] H' Qk E0 := fun w w0 w1 _ Qk hk => ⟨2 * w + 2, rfl, by omega, by
          have : (2 : Int) ^ 50 = 1125899906842624 := by decide
          omega, hk⟩
        have fin : ∀ (w : Int), w = (if i = 0 then e else u) → ∀ L : Nat, 2 * w + 2 < 2 ^ L → (decide ((L : Int) + (if decide ((i : Int) = (mss.length : Int) - 1) = true then 1 else 0) < c)) = false := fun w hw L hL => by
          have h1 := few i hi L (by rw [← hw]; exact hL)
          refine decide_eq_false ?_
          rw [hcv]
          by_cases hlast : i + 1 = mss.length
          · rw [if_pos hlast] at h1
            rw [if_pos (decide_eq_true (by omega))]
            omega
          · rw [if_neg hlast] at h1
            rw [if_neg (by rw [decide_eq_false (by omega)]; decide)]
            omega
        walk_at "go"
        refine ite_d (fun h => ?_) (fun h => ?_)
        all_goals
          walk_at "go"
          refine after _ (by omega) (by omega) (by first | rw [if_pos (by omega)] | rw [if_neg (by omega)]) _ fun L hL => ?_
          walk_at "go"
          refine r_ixL hD2 (atI_nat (map_int_get hcq)) ?_
          walk_at "go"
          refine r_len (s2 _ _ hb) ?_
          rw [hyl]
          walk_at "go"
          refine r_intB ?_
          walk_at "go"
          refine ite_f (fin _ (by first | rw [if_pos (by omega)] | rw [if_neg (by omega)]) L hL) ?_
          walk_at "go"
          exact ⟨_, _, rfl, rfl⟩
      · rintro σ H' ⟨v8, v9, rfl, rfl⟩
        walk_at "go"
        exact k H' s2
end
/-! ### for the law: lists of ints side by side, a filter, the same starts -/
theorem dp_ints {K : PySem.W.Frag} {H : Hp} : ∀ ns : List Int, DpAll K H (ns.map V.int) (ns.map PyData.int)
  | [] => .nil
  | z :: r => .cons (.int z) (dp_ints r)
theorem ints_lay : ∀ ns : List Int, PyData.canLayAll0 (ns.map PyData.int) = true
  | [] => rfl
  | z :: r => by
    show (PyData.canLay0 (PyData.int z) && PyData.canLayAll0 (r.map PyData.int)) = true
    rw [ints_lay r]
    rfl
theorem ints_depth : ∀ ns : List Int, PyData.depthAll (ns.map PyData.int) = 0
  | [] => rfl
  | z :: r => by
    show max (PyData.depth (PyData.int z)) (PyData.depthAll (r.map PyData.int)) = 0
    rw [ints_depth r]
    rfl
theorem ints_eqv : ∀ ns : List Int, PyData.eqvAll (ns.map PyData.int) (ns.map PyData.int) = true
  | [] => rfl
  | z :: r => by
    show (PyData.eqv (PyData.int z) (PyData.int z) && PyData.eqvAll (r.map PyData.int) (r.map PyData.int)) = true
    rw [ints_eqv r]
    show ((z == z) && true) = true
    rw [beq_self_eq_true]
    rfl
theorem ints_shaped (ns : List Int) : SeqAt.shaped (.list (ns.map PyData.int)) = true := by
  show (PyData.canLayAll0 (ns.map PyData.int) && decide (PyData.depthAll (ns.map PyData.int) + 1 ≤ 64)) = true
  rw [ints_lay, ints_depth]
  rfl
theorem r_neD {K : PySem.W.Frag} {H : Hp} {Q : VK} {a b : Addr} {ns : List Int} (ha : IntsAt H a ns) (hb : IntsAt H b ns) (q : Q (.bl false) H) : rNeD K (.ref a) (.ref b) H Q :=
  ⟨_, _, .lst (SqL.of ha) (dp_ints ns), .lst (SqL.of hb) (dp_ints ns), ints_shaped ns, ints_shaped ns, by
    rw [show PyData.eqv (.list (ns.map PyData.int)) (.list (ns.map PyData.int)) = true from ints_eqv ns]
    exact q⟩
/-- [x for x in xs if ..] of ints -/
theorem lcF {K : PySem.W.Frag} {g : TG} {te : TE} {tt : TT} {σ : St} {H : Hp} {Q : VK} {a : Addr} {ns : List Int} {vs : List Nat} (p : Int → Bool) (hx : IntsAt H a ns) (small : ns.length ≤ 100000)
    (hs : ∀ (z : Int) (H' : Hp) (Qy : VK) (N : Hp → Prop), Same H H' → (p z = true → Qy (.int z) H') → (p z = false → N H') → g (.int z) (wipe σ vs) H' fun σ2 H2 => wipe σ2 vs = wipe σ vs ∧ tt σ2 H2 fun b H3 => if b = true then te σ2 H3 Qy else N H3)
    (q : ∀ D H', H D = none → Same H H' → IntsAt H' D (ns.filter p) → Q (.ref D) H') : LcK Q g tt te vs σ (Itl K a) H := by
  intro D hD
  unfold IntsAt at hx
  refine lc_list (K := K) (a := a) (xs := ns.map V.int) (fun i H' => Same H H' ∧ IntsAt H' D ((ns.take i).filter p)) ⟨same_new hD, by unfold IntsAt; rw [List.take_zero]; exact upd_same⟩ (fun i H' _ I => SqL.of (I.1 _ _ hx)) (fun i x H' hx' I => ?_) (fun H' I => ?_)
  · obtain ⟨sm, hI⟩ := I
    obtain ⟨z, hz, rfl⟩ := map_int_get' hx'
    unfold IntsAt at hI
    refine hs z H' _ _ sm (fun hp => ⟨_, hI, ?_, same_mut sm hD, ?_⟩) fun hp => ⟨sm, ?_⟩
    · refine Nat.lt_of_le_of_lt (m := 100000) ?_ (by decide)
      rw [List.length_map]
      have h1 := List.length_filter_le p (ns.take i)
      rw [List.length_take] at h1
      omega
    · unfold IntsAt
      rw [List.take_add_one, hz, List.filter_append]
      show _ = some (HO.lst (((ns.take i).filter p ++ [z].filter p).map V.int))
      rw [List.filter_cons_of_pos hp, List.map_append]
      exact upd_same
    · unfold IntsAt
      rw [List.take_add_one, hz, List.filter_append]
      show _ = some (HO.lst (((ns.take i).filter p ++ [z].filter p).map V.int))
      rw [List.filter_cons_of_neg (by rw [hp]; decide)]
      rw [show ([] : List Int).filter p = [] from rfl, List.append_nil]
      exact hI
  · obtain ⟨sm, hI⟩ := I
    rw [List.length_map, List.take_of_length_le (Nat.le_refl _)] at hI
    exact q D H' hD sm hI
theorem at_lit5 {x y z u w : Int} {i : Int} (h0 : 0 ≤ i) (h1 : i < 5) : ∃ v, atI [V.int x, V.int y, V.int z, V.int u, V.int w] i = some (.int v) ∧ (v = x ∨ v = y ∨ v = z ∨ v = u ∨ v = w) := by
  have e : i = 0 ∨ i = 1 ∨ i = 2 ∨ i = 3 ∨ i = 4 := by omega
  rcases e with rfl | rfl | rfl | rfl | rfl
  · exact ⟨x, rfl, .inl rfl⟩
  · exact ⟨y, rfl, .inr (.inl rfl)⟩
  · exact ⟨z, rfl, .inr (.inr (.inl rfl))⟩
  · exact ⟨u, rfl, .inr (.inr (.inr (.inl rfl)))⟩
  · exact ⟨w, rfl, .inr (.inr (.inr (.inr rfl)))⟩
/-- what fits by X and lo and hi also fits by others that agree -/
theorem fitS_congr {X X' lo lo' hi hi' : Nat → Int} {n : Nat} (h1 : ∀ i, i < n → X i = X' i) (h2 : ∀ i, i < n → lo i = lo' i) (h3 : ∀ i, i < n → hi i = hi' i) (s t : Nat) (ht : t ≤ n) : FitS X lo hi s t ↔ FitS X' lo' hi' s t := by
  have key : ∀ {X X' lo lo' hi hi' : Nat → Int}, (∀ i, i < n → X i = X' i) → (∀ i, i < n → lo i = lo' i) → (∀ i, i < n → hi i = hi' i) → FitS X lo hi s t → FitS X' lo' hi' s t := fun h1 h2 h3 h i j k m hij hj hkm hm => by
    have h4 := h i j k m hij hj hkm hm
    dsimp only at h4 ⊢
    rw [h1 (s + m) (by omega), h1 (s + k) (by omega), h1 (s + j) (by omega), h1 (s + i) (by omega), h2 (s + j) (by omega), h2 (s + k) (by omega), h3 (s + i) (by omega), h3 (s + m) (by omega)] at h4
    exact h4
  exact ⟨key h1 h2 h3, key (fun i hi => (h1 i hi).symm) (fun i hi => (h2 i hi).symm) (fun i hi => (h3 i hi).symm)⟩
theorem starts_congr {Fs Gs : Nat → Nat → Prop} {n : Nat} {l : List Int} (h : ∀ s t, t ≤ n → (Fs s t ↔ Gs s t)) (g : ∃ cs s, Gr Fs n cs s ∧ l = intsOf (cs ++ [s])) : ∃ cs s, Gr Gs n cs s ∧ l = intsOf (cs ++ [s]) := by
  obtain ⟨cs, s, g, e⟩ := g
  exact ⟨cs, s, g.iff h (Nat.le_refl _), e⟩
theorem CutOk.lines {α β : Type} {Ln Ln' : α → Nat → Prop} {Rs Rs' : β → Int → Int → Prop} {n : Nat} {pcs : List (Int × α)} (C : CutOk Ln Rs (n : Int) pcs ([] : List β)) (h : ∀ l i, i < n → Ln l i → Ln' l i) : CutOk Ln' Rs' (n : Int) pcs ([] : List β) :=
  ⟨C.first, C.asc, fun k q hq i h1 h2 => h _ i (by have := (C.asc k q hq).2.2; omega) (C.line k q hq i h1 h2), C.len, fun k r q hr => by simp at hr⟩
/-- the second of each -/
def ysOf (pts : List Pt) : List Int := pts.map (·.2)
def xsOf (pts : List Pt) : List Int := pts.map (·.1)
theorem ysOf_len (pts : List Pt) : (ysOf pts).length = pts.length := List.length_map _
theorem xsOf_len (pts : List Pt) : (xsOf pts).length = pts.length := List.length_map _
theorem ysOf_v {pts : List Pt} {i : Nat} (h : i < pts.length) : vOf (ysOf pts) i = py pts i := by
  have h1 : pts[i]? = some pts[i] := List.getElem?_eq_getElem h
  rw [py_of h1]
  refine vOf_of ?_
  unfold ysOf
  rw [List.getElem?_map, h1]
  rfl
theorem xsOf_v {pts : List Pt} {i : Nat} (h : i < pts.length) : vOf (xsOf pts) i = px pts i := by
  have h1 : pts[i]? = some pts[i] := List.getElem?_eq_getElem h
  rw [px_of h1]
  refine vOf_of ?_
  unfold xsOf
  rw [List.getElem?_map, h1]
  rfl
theorem xsOf_ok {pts : List Pt} (P : PtsOk pts) : MarksOk (xsOf pts) := by
  have hl := xsOf_len pts
  refine ⟨fun i j hij hj => ?_, fun i hi => ?_, by rw [hl]; exact P.len, by rw [hl]; exact P.pos⟩
  · rw [hl] at hj
    rw [xsOf_v (by omega), xsOf_v hj]
    exact P.asc i j hij hj
  · rw [hl] at hi
    rw [xsOf_v hi]
    exact P.bd i hi
/-- the points as spans -/
def spOf (e : Int) (pts : List Pt) : List Tr := pts.map fun p => (p.1, p.2 - e, p.2 + e)
theorem spOf_len (e : Int) (pts : List Pt) : (spOf e pts).length = pts.length := List.length_map _
theorem spOf_get {e : Int} {pts : List Pt} {i : Nat} (h : i < pts.length) : sx (spOf e pts) i = px pts i ∧ sl (spOf e pts) i = loF (py pts) e i ∧ sh (spOf e pts) i = hiF (py pts) e i := by
  have h1 : pts[i]? = some pts[i] := List.getElem?_eq_getElem h
  have h2 : (spOf e pts)[i]? = some (pts[i].1, pts[i].2 - e, pts[i].2 + e) := by
    unfold spOf
    rw [List.getElem?_map, h1]
    rfl
  obtain ⟨a, b, c⟩ := sx_of h2
  unfold loF hiF
  rw [px_of h1, py_of h1]
  exact ⟨a, b, c⟩
theorem spOf_ok {e : Int} {pts : List Pt} (P : PtsOk pts) (he : 0 ≤ e) : SpOk (spOf e pts) := by
  have hl := spOf_len e pts
  refine ⟨fun i j hij hj => ?_, fun i hi => ?_, fun i hi => ?_, by rw [hl]; exact P.len, by rw [hl]; exact P.pos⟩
  · rw [hl] at hj
    rw [(spOf_get (by omega)).1, (spOf_get hj).1]
    exact P.asc i j hij hj
  · rw [hl] at hi
    rw [(spOf_get hi).1]
    exact P.bd i hi
  · rw [hl] at hi
    rw [(spOf_get hi).2.1, (spOf_get hi).2.2]
    unfold loF hiF
    omega
/-- the stream's starts and lines are those of the rows -/
theorem rows_v {ns : List Int} {i : Nat} (h : i < ns.length) : px (rows ns) i = idX i ∧ py (rows ns) i = vOf ns i := ⟨px_of (rows_get h), py_of (rows_get h)⟩
theorem segP_rows {ns : List Int} {e : Int} (s t : Nat) (ht : t ≤ ns.length) : SegP e idX (vOf ns) s t ↔ SegP e (px (rows ns)) (py (rows ns)) s t :=
  fitS_congr (n := ns.length) (fun i hi => (rows_v hi).1.symm) (fun i hi => by unfold loF; rw [(rows_v hi).2]) (fun i hi => by unfold hiF; rw [(rows_v hi).2]) s t ht
theorem segP_span {pts : List Pt} {e : Int} (s t : Nat) (ht : t ≤ pts.length) : FitS (sx (spOf e pts)) (sl (spOf e pts)) (sh (spOf e pts)) s t ↔ SegP e (px pts) (py pts) s t :=
  fitS_congr (n := pts.length) (fun i hi => (spOf_get hi).1) (fun i hi => (spOf_get hi).2.1) (fun i hi => (spOf_get hi).2.2) s t ht
theorem pcs_rows {ns : List Int} {e : Int} {pcs pcs' : List Pc} {rs' : List Tr} (P : PcsOk e (vOf ns) ns.length pcs) (R : CutR e (px (rows ns)) (py (rows ns)) ns.length pcs' rs') :
    pcs.map (·.1) = pcs'.map (·.1) ∧ CutOk (LnP e (px (rows ns)) (py (rows ns))) (RsP e (px (rows ns)) (py (rows ns))) (ns.length : Int) pcs rs' ∧ rs'.length + 1 = pcs.length := by
  have hs : pcs.map (·.1) = pcs'.map (·.1) := starts_eq (starts_congr (fun s t ht => segP_rows s t ht) P.gr) R.gr
  have hl : pcs.length = pcs'.length := by
    have := congrArg List.length hs
    rw [List.length_map, List.length_map] at this
    exact this
  refine ⟨hs, ?_, by rw [hl]; exact R.len⟩
  have C : CutOk (LnP e (px (rows ns)) (py (rows ns))) (RsP e (px (rows ns)) (py (rows ns))) (ns.length : Int) pcs ([] : List Tr) := P.ok.lines fun l i hi h => by
    unfold LnP at h ⊢
    rw [(rows_v hi).1, (rows_v hi).2]
    exact h
  exact C.mix R.ok hs
theorem StrAt.same {K : PySem.W.Frag} {H H' : Hp} {p : Addr} {fps : List Addr} {e : Int} {Y : Nat → Int} {n : Nat} (A : StrAt K H p fps e Y n) (s' : Same H H') : StrAt K H' p fps e Y n := by
  obtain ⟨dx, lc, pf, fp, s, cs, pcs, hp, hlc, F, q⟩ := A.ex
  exact ⟨dx, lc, pf, fp, s, cs, pcs, s' _ _ hp, hlc.mono s' fun _ _ h => h.mono (same_tp s'), F.same s', q⟩
theorem StrAt.isI {K : PySem.W.Frag} {H : Hp} {p : Addr} {fps : List Addr} {e : Int} {Y : Nat → Int} {n : Nat} {m : Str} (A : StrAt K H p fps e Y n) (hm : ∀ lc s pf, (strF e n lc s pf).lookup m = none) : IsI (He.ga K "Stream") m (.ref p) H := by
  obtain ⟨dx, lc, pf, fp, s, cs, pcs, hp, _⟩ := A.ex
  exact ⟨p, dx, _, rfl, hp, hm _ _ _⟩
theorem CutAt.same {α β : Type} {C : Addr} {R : Hp → V → α → Prop} {S : Hp → V → β → Prop} {H H' : Hp} {c : Addr} {pcs : List α} {rs : List β} (A : CutAt C R S H c pcs rs) (s : Same H H') (mR : ∀ v d, R H v d → R H' v d) (mS : ∀ v d, S H v d → S H' v d) : CutAt C R S H' c pcs rs := by
  obtain ⟨dx, a, b, h, h1, h2⟩ := A
  exact ⟨dx, a, b, s _ _ h, h1.mono s mR, h2.mono s mS⟩
theorem IxAt.same {K : PySem.W.Frag} {H H' : Hp} {p : Addr} {stored : List Int} {lvs : List LvD} (A : IxAt K H p stored lvs) (s : Same H H') : IxAt K H' p stored lvs := by
  obtain ⟨dx, ls, ll, h, h1, h2⟩ := A
  exact ⟨dx, ls, ll, s _ _ h, s _ _ h1, h2.mono s fun _ _ h => h.same s⟩
theorem CodedAt.isI {K : PySem.W.Frag} {H : Hp} {p : Addr} {pcs : List Pc} {cors : List Int} {m : Str} (A : CodedAt K H p pcs cors) (hm : ∀ a b, (flds2 "pieces" "corrections" a b).lookup m = none) : IsI (He.ga K "Coded") m (.ref p) H := by
  obtain ⟨dx, lp, lc, hp, _⟩ := A
  exact ⟨p, dx, _, rfl, hp, hm _ _⟩
theorem IxAt.isI {K : PySem.W.Frag} {H : Hp} {p : Addr} {stored : List Int} {lvs : List LvD} {m : Str} (A : IxAt K H p stored lvs) (hm : ∀ a b : Addr, ([("stored", V.ref a), ("_levels", .ref b)] : List (Str × V)).lookup m = none) : IsI (He.ga K "Index") m (.ref p) H := by
  obtain ⟨dx, ls, ll, hp, _⟩ := A
  exact ⟨p, dx, _, rfl, hp, hm _ _⟩
/-! ### the law -/
section
variable {K : PySem.W.Frag}
theorem rd_law (T : TK K) (vs : List V) (H : Hp) (Q : VK) (E : XK) (h : sp_law K vs H Q E) : t_law K ⟨fun _ H' => Q .non H', Q, fun _ _ => False, fun _ _ => False⟩ (start N_law vs) H := by
  obtain ⟨a, ns, rfl, ha, hns, k⟩ := h
  have cell : ∀ (i : Nat) {H' : Hp} {Q' : VK}, Same H H' → (∀ z : Int, Q' (.int z) H') → sp_law_cell K [.ref a, .int (i : Int)] H' Q' E0 := fun i H' Q' s q => ⟨a, ns, i, rfl, sqL_ext ha s, q⟩
  unfold t_law
  walk_at "go"
  refine cell 0 (Same.refl _) fun z0 => ?_
  walk_at "go"
  refine r_mod (by decide) ?_
  walk_at "go"
  refine st_cut (fun σ' H' => ∃ n : Nat, σ' = [some (.ref a), some (.int (n : Int)), none, none, none, none, none, none, none, none, none, none, none, none, none, none, none, none, none, none, none, none, none, none, none] ∧ H' = H ∧ 30 ≤ n ∧ n ≤ 1999) ?_ ?_
  · walk_at "go"
    refine cell 0 (Same.refl _) fun z1 => ?_
    walk_at "go"
    refine r_fdiv ⟨by decide, by decide⟩ ?_
    walk_at "go"
    refine r_mod (by decide) ?_
    walk_at "go"
    refine ite_d (fun _ => ?_) (fun _ => ?_)
    · walk_at "go"
      refine cell 0 (Same.refl _) fun z2 => ?_
      walk_at "go"
      refine r_fdiv ⟨by decide, by decide⟩ ?_
      walk_at "go"
      refine r_mod (by decide) ?_
      walk_at "go"
      obtain ⟨n, hn⟩ : ∃ n : Nat, 300 + z2 / 1920 % 1700 = (n : Int) := ⟨(300 + z2 / 1920 % 1700).toNat, by omega⟩
      rw [hn]
      exact ⟨n, rfl, rfl, by omega, by omega⟩
    · walk_at "go"
      obtain ⟨n, hn⟩ : ∃ n : Nat, 30 + z0 % 120 = (n : Int) := ⟨(30 + z0 % 120).toNat, by omega⟩
      rw [hn]
      exact ⟨n, rfl, rfl, by omega, by omega⟩
  rintro σ0 H' ⟨n, rfl, rfl, hn0, hn1⟩
  walk_at "go"
  refine cell 1 (Same.refl _) fun z3 => ?_
  walk_at "go"
  refine ⟨z3, n, rfl, by omega, by omega, fun pP H1 pts s1 ⟨xs, hP, hx⟩ PO hpl hpx => ?_⟩
  walk_at "go"
  refine newL fun l2 H2 n2 s2 e2 => ?_
  have s02 := s1.trans s2
  walk_at "go"
  refine cell 2 s02 fun z4 => ?_
  walk_at "go"
  refine r_mod (by decide) ?_
  obtain ⟨e, hel, hev⟩ := at_lit5 (x := 0) (y := 1) (z := 4) (u := 30) (w := 400) (Int.emod_nonneg z4 (by decide)) (Int.emod_lt_of_pos z4 (show (0 : Int) < 5 by decide))
  have he : 0 ≤ e := by omega
  refine r_ixL e2 hel ?_
  walk_at "go"
  refine r_list (s2 _ _ hP) fun l3 H3 n3 s3 e3 => ?_
  have s13 := s2.trans s3
  walk_at "go"
  refine ⟨l3, e, pts, rfl, ⟨xs, e3, hx.mono fun _ _ h => h.mono (same_tp s13)⟩, PO, he, fun c H4 pcs rs s4 CA R => ?_⟩
  have s14 := s13.trans s4
  have s04 := s1.trans s14
  obtain ⟨dc, pa, pb, hc, ⟨ps, hpa, hps⟩, ⟨qs, hpb, hqs⟩⟩ := id CA
  have hpcl := starts_len R.ok
  walk_at "go"
  refine i_listK hpa ?_
  refine lcL (ds := pcs.map (·.1)) (fun _ v n => v = .int n) (fun _ _ _ _ _ h => h) hpa (by rw [List.length_map, hps.len]) (by rw [List.length_map]; omega) ?_ gm_name ?_
  · intro i x n H' Q' s' hi hn kq
    obtain ⟨q, hq, pa, pb, rfl, hpa', hpb'⟩ := hps.get' hi
    rw [starts_get hq] at hn
    cases Option.some.inj hn
    have hpa'' := s' _ _ hpa'
    walk_at "go"
    refine ⟨rfl, ?_⟩
    walk_at "go"
    exact kq _ _ (Same.refl _) rfl
  intro D5 H5 ysD5 nD5 s5 hD5 hyD5
  rw [lr_int hyD5] at hD5
  walk_at "go"
  have s45 := s4
  have s05 := s04.trans s5
  have s15 := s14.trans s5
  have hpts5 : LsR PtR H5 pP pts := ⟨xs, s15 _ _ hP, hx.mono fun _ _ h => h.mono (same_tp s15)⟩
  have CA5 : CutAt (He.ga K "Cutting") PcR TrR H5 c pcs rs := ⟨dc, pa, pb, s5 _ _ hc, ⟨ps, s5 _ _ hpa, hps.mono fun _ _ h => h.mono (same_tp s5)⟩, ⟨qs, s5 _ _ hpb, hqs.mono fun _ _ h => h.mono (same_tp s5)⟩⟩
  have hc5 := s5 _ _ hc
  refine ⟨pP, pa, pb, e, pts, pcs, rs, rfl, hpts5, PO, ⟨ps, s5 _ _ hpa, hps.mono fun _ _ h => h.mono (same_tp s5)⟩, ⟨qs, s5 _ _ hpb, hqs.mono fun _ _ h => h.mono (same_tp s5)⟩, R.ok, R.len, fun j q hq => ⟨(R.d j q hq).1, (R.d j q hq).2.1⟩, fun H6 s6 => ?_⟩
  walk_at "go"
  refine ite_f rfl ?_
  walk_at "go"
  refine ⟨pP, c, e, pts, pcs, rs, rfl, ⟨xs, s6 _ _ (s15 _ _ hP), hx.mono fun _ _ h => h.mono ((same_tp s15).trans (same_tp s6))⟩, PO, ⟨dc, pa, pb, s6 _ _ hc5, ⟨ps, s6 _ _ (s5 _ _ hpa), hps.mono fun _ _ h => h.mono ((same_tp s5).trans (same_tp s6))⟩, ⟨qs, s6 _ _ (s5 _ _ hpb), hqs.mono fun _ _ h => h.mono ((same_tp s5).trans (same_tp s6))⟩⟩, R, fun H7 s7 => ?_⟩
  walk_at "go"
  refine r_notB ?_
  walk_at "go"
  refine ite_f rfl ?_
  walk_at "go"
  have s57 := s6.trans s7
  have s17 := s15.trans s57
  have s07 := s05.trans s57
  have hP7 := s17 _ _ hP
  have hx7 : LR (PtR H7) xs pts := hx.mono fun _ _ h => h.mono (same_tp s17)
  have hD7 : IntsAt H7 D5 (pcs.map (·.1)) := s57 _ _ hD5
  have hxl : xs.length = pts.length := hx.len
  clear hps hpa hqs hpb hc CA CA5 hc5 hpts5 s45 s5 s6 s4 s3 s2 s13 s14 s15 s05 s04 s57
  -- the values
  refine i_listK hP7 ?_
  refine lcL (ds := ysOf pts) (fun _ v n => v = .int n) (fun _ _ _ _ _ h => h) hP7 (by rw [ysOf_len, hxl]) (by rw [ysOf_len]; omega) ?_ gm_tup2 ?_
  · intro i x z H' Q' s' hi hz kq
    obtain ⟨q, hq, pa, rfl, hpa⟩ := hx7.get' hi
    unfold ysOf at hz
    rw [List.getElem?_map, hq] at hz
    cases Option.some.inj hz
    have hpa'' := s' _ _ hpa
    walk_at "go"
    refine ⟨rfl, ?_⟩
    walk_at "go"
    exact kq _ _ (Same.refl _) rfl
  intro vL H8 ysv nv s8 hvL hyv
  rw [lr_int hyv] at hvL
  walk_at "go"
  have s18 := s17.trans s8
  have s08 := s07.trans s8
  have hP8 := s18 _ _ hP
  have hx8 : LR (PtR H8) xs pts := hx.mono fun _ _ h => h.mono (same_tp s18)
  have hD8 : IntsAt H8 D5 (pcs.map (·.1)) := s8 _ _ hD7
  have hvl := ysOf_len pts
  generalize hvals : ysOf pts = vals at hvL hvl
  have hvn : vals.length = n := by omega
  -- the stream
  refine mkK fun p H9 n9 s9 hp9 => ?_
  refine ⟨p, e, rfl, hp9, he, fun H10 fps0 SA0 fr10 new10 => ⟨rfl, ?_⟩⟩
  have s810 : Same H8 H10 := fr10.out s9 fun b hb => by rw [List.mem_singleton.mp hb]; exact n9
  have fps0N : ∀ b, b ∈ fps0 → H8 b = none := fun b hb => by
    rcases new10 b hb with h | h
    · rw [h]
      exact n9
    · exact s9.free h
  walk_at "go"
  refine i_listK (s810 _ _ hvL) ?_
  refine forL (fun i σ H' => ∃ (v8 : Option V) (fps : List Addr), σ = [some (.ref a), some (.int (n : Int)), some (.ref pP), some (.int e), some (.ref c), some (.ref D5), some (.ref vL), some (.ref p), v8, none, none, none, none, none, none, none, none, none, none, none, none, none, none, none, none] ∧ StrAt K H' p fps e (vOf vals) i ∧ Same H8 H' ∧ ∀ b, b ∈ fps → H8 b = none)
    ⟨none, fps0, rfl, SA0 _, s810, fps0N⟩ (fun i σ H' _ ⟨_, _, _, _, s, _⟩ => s _ _ hvL) ?_ ?_
  · rintro i x σ H11 hi ⟨v8, fps, rfl, SA, s', fN⟩
    obtain ⟨z, hz, rfl⟩ := map_int_get' hi
    have hin := (List.getElem?_eq_some_iff.mp hz).1
    have ez : z = vOf vals i := (vOf_of hz).symm
    subst ez
    walk_at "go"
    refine ⟨?_, ?_⟩
    · obtain ⟨dx, lc, pf, fp, s, cs, pcs, hp, _⟩ := SA.ex
      exact ⟨p, dx, _, rfl, hp, rfl⟩
    walk_at "go"
    refine ⟨p, fps, e, vOf vals, i, rfl, SA, he, by omega, fun v H12 fps' SA' fr12 new12 => ?_⟩
    walk_at "go"
    refine ⟨_, fps', rfl, SA', fr12.out s' fN, fun b hb => ?_⟩
    rcases new12 b hb with h | h
    · exact fN b h
    · exact s'.free h
  rw [List.length_map]
  rintro σ H11 ⟨v8, fps, rfl, SA, s811, fN⟩
  rw [hvn] at SA
  clear SA0 fps0N new10 fr10 s810 hp9 n9 s9
  walk_at "go"
  -- the rows
  refine i_rng1K (by omega) ?_
  refine lcR (ds := rows vals) PtR (fun _ _ _ _ t h => h.mono t) (by rw [rows_len, hvn]) (by rw [rows_len]; omega) ?_ gm_name ?_
  · intro i d H' Q' s' hi hd kq
    rw [rows_get (by omega)] at hd
    cases Option.some.inj hd
    rw [Int.zero_add]
    walk_at "go"
    refine ⟨rfl, ?_⟩
    walk_at "go"
    refine r_ixL (s' _ _ (s811 _ _ hvL)) (atI_nat (map_int_get (vOf_get (by omega)))) ?_
    walk_at "go"
    exact newT fun r H2 n2 s2 e2 => kq _ _ s2 ⟨r, rfl, e2⟩
  intro rL H12 ysr nr s12 hrL hyr
  walk_at "go"
  have s812 := s811.trans s12
  have SA12 := SA.same s12
  have vpos : 0 < vals.length := by omega
  have vlen : vals.length ≤ 10000 := by omega
  have RO := rows_ok vpos vlen
  have hrows : LsR PtR H12 rL (rows vals) := ⟨ysr, hrL, hyr⟩
  -- the stream's starts and the cut's
  refine ⟨SA12.isI fun _ _ _ => rfl, ?_⟩
  walk_at "go"
  refine ⟨p, fps, e, vOf vals, n, rfl, SA12, by omega, by omega, fun r1 H13 pcs1 s13 ⟨ps1, hl1, hps1⟩ P1 => ?_⟩
  have P1' : PcsOk e (vOf vals) vals.length pcs1 := by rw [hvn]; exact P1
  have P1l := starts_len P1.ok
  refine i_listK hl1 ?_
  refine lcL (ds := pcs1.map (·.1)) (fun _ v n => v = .int n) (fun _ _ _ _ _ h => h) hl1 (by rw [List.length_map, hps1.len]) (by rw [List.length_map]; omega) ?_ gm_name ?_
  · intro i x n H' Q' s' hi hn kq
    obtain ⟨q, hq, pa, pb, rfl, hpa', hpb'⟩ := hps1.get' hi
    rw [starts_get hq] at hn
    cases Option.some.inj hn
    have hpa'' := s' _ _ hpa'
    walk_at "go"
    refine ⟨rfl, ?_⟩
    walk_at "go"
    exact kq _ _ (Same.refl _) rfl
  intro D14 H14 ysD14 nD14 s14 hD14 hyD14
  rw [lr_int hyD14] at hD14
  walk_at "go"
  have s1214 := s13.trans s14
  refine ⟨rL, e, rows vals, rfl, hrows.mono s1214 fun _ _ h => h.mono (same_tp s1214), RO, he, fun c2 H15 pcs2 rs2 s15 ⟨dc2, pa2, pb2, hc2, ⟨ps2, hpa2, hps2⟩, _⟩ R2 => ?_⟩
  rw [rows_len] at R2
  have P2l := starts_len R2.ok
  walk_at "go"
  refine i_listK hpa2 ?_
  refine lcL (ds := pcs2.map (·.1)) (fun _ v n => v = .int n) (fun _ _ _ _ _ h => h) hpa2 (by rw [List.length_map, hps2.len]) (by rw [List.length_map]; omega) ?_ gm_name ?_
  · intro i x n H' Q' s' hi hn kq
    obtain ⟨q, hq, pa, pb, rfl, hpa', hpb'⟩ := hps2.get' hi
    rw [starts_get hq] at hn
    cases Option.some.inj hn
    have hpa'' := s' _ _ hpa'
    walk_at "go"
    refine ⟨rfl, ?_⟩
    walk_at "go"
    exact kq _ _ (Same.refl _) rfl
  intro D16 H16 ysD16 nD16 s16 hD16 hyD16
  rw [lr_int hyD16] at hD16
  obtain ⟨q1, _, _⟩ := pcs_rows P1' R2
  refine r_neD (ns := pcs1.map (·.1)) (s16 _ _ (s15 _ _ hD14)) (by rw [q1]; exact hD16) ?_
  walk_at "go"
  refine ite_f rfl ?_
  walk_at "go"
  have s1216 := (s1214.trans s15).trans s16
  have SA16 := SA12.same s1216
  clear q1 hD16 hps2 hpa2 hc2 hD14 hps1 hl1 P1' P1l P1 P2l R2
  -- the judge of the stream's pieces
  refine ⟨SA16.isI fun _ _ _ => rfl, ?_⟩
  walk_at "go"
  refine ⟨p, fps, e, vOf vals, n, rfl, SA16, by omega, by omega, fun r3 H17 pcs3 s17 hr3 P3 => ?_⟩
  have P3' : PcsOk e (vOf vals) vals.length pcs3 := by rw [hvn]; exact P3
  walk_at "go"
  have s1217 := s1216.trans s17
  refine ⟨rL, e, rows vals, rfl, hrows.mono s1217 fun _ _ h => h.mono (same_tp s1217), RO, he, fun c4 H18 pcs4 rs4 s18 ⟨dc4, pa4, pb4, hc4, _, ⟨qs4, hpb4, hqs4⟩⟩ R4 => ?_⟩
  rw [rows_len] at R4
  walk_at "go"
  have s1218 := s1217.trans s18
  obtain ⟨_, C3, l3⟩ := pcs_rows P3' R4
  refine ⟨rL, r3, pb4, e, rows vals, pcs3, rs4, rfl, hrows.mono s1218 fun _ _ h => h.mono (same_tp s1218), RO, hr3.mono s18 fun _ _ h => h.mono (same_tp s18), ⟨qs4, hpb4, hqs4⟩, by rw [rows_len]; exact C3, l3, P3.d, fun H19 s19 => ?_⟩
  walk_at "go"
  refine ite_f rfl ?_
  walk_at "go"
  have s819 : Same H8 H19 := (s812.trans s1218).trans s19
  clear C3 l3 hqs4 hpb4 hc4 hr3 P3' P3 R4 SA16 SA12 SA hrows hrL hyr RO s19 s1218 s18 s1217 s17 s1216 s16 s15 s1214 s14 s13 s812 s12 s811 fN
  -- the spans
  have SO := spOf_ok (e := e) PO he
  refine st_cut (fun σ' H' => ∃ v17 v18 : Option V, σ' = [some (.ref a), some (.int (n : Int)), some (.ref pP), some (.int e), some (.ref c), some (.ref D5), some (.ref vL), some (.ref p), v8, some (.ref rL), none, none, none, none, none, none, none, v17, v18, none, none, none, none, none, none] ∧ Same H8 H') ?_ ?_
  · walk_at "go"
    refine ite_d (fun _ => ?_) (fun _ => ?_)
    · have hx19 : LR (PtR H19) xs pts := hx8.mono fun _ _ h => h.mono (same_tp s819)
      walk_at "go"
      refine i_listK (s819 _ _ hP8) ?_
      refine lcL (ds := spOf e pts) TrR (fun _ _ _ _ t h => h.mono t) (s819 _ _ hP8) (by rw [spOf_len, hxl]) (by rw [spOf_len]; omega) ?_ gm_tup2 ?_
      · intro i x z H' Q' s' hi hz kq
        obtain ⟨q, hq, pa, rfl, hpa⟩ := hx19.get' hi
        unfold spOf at hz
        rw [List.getElem?_map, hq] at hz
        cases Option.some.inj hz
        have hpa'' := s' _ _ hpa
        walk_at "go"
        refine ⟨rfl, ?_⟩
        walk_at "go"
        exact newT fun r H2 n2 s2 e2 => kq _ _ s2 ⟨r, rfl, e2⟩
      intro sL H20 yss ns2 s20 hsL hys
      walk_at "go"
      refine ⟨sL, spOf e pts, rfl, ⟨yss, hsL, hys⟩, SO, fun c5 H21 pcs5 rs5 s21 CA5 R5 => ?_⟩
      obtain ⟨dc5, pa5, pb5, hc5, ⟨ps5, hpa5, hps5⟩, _⟩ := id CA5
      have P5l := starts_len R5.ok
      rw [spOf_len] at P5l
      walk_at "go"
      refine i_listK hpa5 ?_
      refine lcL (ds := pcs5.map (·.1)) (fun _ v n => v = .int n) (fun _ _ _ _ _ h => h) hpa5 (by rw [List.length_map, hps5.len]) (by rw [List.length_map]; omega) ?_ gm_name ?_
      · intro i x n H' Q' s' hi hn kq
        obtain ⟨q, hq, pa, pb, rfl, hpa', hpb'⟩ := hps5.get' hi
        rw [starts_get hq] at hn
        cases Option.some.inj hn
        have hpa'' := s' _ _ hpa'
        walk_at "go"
        refine ⟨rfl, ?_⟩
        walk_at "go"
        exact kq _ _ (Same.refl _) rfl
      intro D22 H22 ysD22 nD22 s22 hD22 hyD22
      rw [lr_int hyD22] at hD22
      walk_at "go"
      have s2022 := s21.trans s22
      have s822 := (s819.trans s20).trans s2022
      have q5 : pcs5.map (·.1) = pcs.map (·.1) := by
        have g5 := R5.gr
        rw [spOf_len] at g5
        exact starts_eq (starts_congr (fun s t ht => segP_span s t ht) g5) R.gr
      refine r_neD (ns := pcs5.map (fun q : Pc => q.1)) hD22 (by rw [q5]; exact s822 _ _ hD8) ?_
      walk_at "go"
      refine ite_f rfl ?_
      walk_at "go"
      refine ⟨sL, c5, spOf e pts, pcs5, rs5, rfl, ⟨yss, s2022 _ _ hsL, hys.mono fun _ _ h => h.mono (same_tp s2022)⟩, SO, CA5.same s22 (fun _ _ h => h.mono (same_tp s22)) (fun _ _ h => h.mono (same_tp s22)), R5, fun H23 s23 => ?_⟩
      walk_at "go"
      refine r_notB ?_
      walk_at "go"
      refine ite_f rfl ?_
      walk_at "go"
      exact ⟨_, _, rfl, s822.trans s23⟩
    · walk_at "go"
      exact ⟨_, _, rfl, s819⟩
  rintro σ' H24 ⟨v17, v18, rfl, s824⟩
  clear s819
  -- flat pieces
  walk_at "go"
  refine r_list (s824 _ _ hvL) fun l6 H25 n25 s25 e25 => ?_
  walk_at "go"
  refine ⟨l6, e, vals, rfl, e25, vpos, vlen, he, fun c6 H26 pcs6 rs6 s26 CA6 R6 => ?_⟩
  obtain ⟨dc6, pa6, pb6, hc6, ⟨ps6, hpa6, hps6⟩, _⟩ := id CA6
  have P6l := starts_len R6.ok
  walk_at "go"
  refine i_listK hpa6 ?_
  refine lcL (ds := pcs6.map (·.1)) (fun _ v n => v = .int n) (fun _ _ _ _ _ h => h) hpa6 (by rw [List.length_map, hps6.len]) (by rw [List.length_map]; omega) ?_ gm_name ?_
  · intro i x n H' Q' s' hi hn kq
    obtain ⟨q, hq, pa, rfl, hpa'⟩ := hps6.get' hi
    rw [starts_get hq] at hn
    cases Option.some.inj hn
    have hpa'' := s' _ _ hpa'
    walk_at "go"
    refine ⟨rfl, ?_⟩
    walk_at "go"
    exact kq _ _ (Same.refl _) rfl
  intro D27 H27 ysD27 nD27 s27 hD27 hyD27
  rw [lr_int hyD27] at hD27
  walk_at "go"
  have s827 := ((s824.trans s25).trans s26).trans s27
  refine ⟨vL, e, vals, rfl, s827 _ _ hvL, vpos, vlen, he, fun r7 H28 ss s28 hss hgr => ?_⟩
  have q6 : pcs6.map (·.1) = ss := starts_eq R6.gr hgr
  refine r_neD (ns := pcs6.map (·.1)) (s28 _ _ hD27) (by rw [q6]; exact hss) ?_
  walk_at "go"
  refine ite_f rfl ?_
  walk_at "go"
  have s828 := s827.trans s28
  refine r_list (s828 _ _ hvL) fun l8 H29 n29 s29 e29 => ?_
  walk_at "go"
  have s2629 := (s27.trans s28).trans s29
  refine ⟨l8, c6, e, vals, pcs6, rs6, rfl, e29, vpos, vlen, CA6.same s2629 (fun _ _ h => h.mono (same_tp s2629)) (fun _ _ h => h.mono (same_tp s2629)), R6, fun H30 s30 => ?_⟩
  walk_at "go"
  refine r_notB ?_
  walk_at "go"
  refine ite_f rfl ?_
  walk_at "go"
  have s830 := (s828.trans s29).trans s30
  clear q6 hss hgr hD27 hps6 hpa6 hc6 CA6 R6 P6l s30 s2629 s29 s828 s28 s827 s27 s26 s25 s824 e25 e29
  -- coded
  refine r_list (s830 _ _ hvL) fun l9 H31 n31 s31 e31 => ?_
  walk_at "go"
  refine mkK fun pC H32 n32 s32 hpC => ?_
  refine ⟨pC, l9, e, vals, rfl, hpC, s32 _ _ e31, vpos, vlen, he, fun H33 pcs7 cors CD DK CO fr33 => ⟨rfl, ?_⟩⟩
  have s833 : Same H8 H33 := fr33.out ((s830.trans s31).trans s32) fun b hb => by rw [List.mem_singleton.mp hb]; exact (s830.trans s31).free n32
  walk_at "go"
  refine ⟨CD.isI fun _ _ => rfl, ?_⟩
  refine ⟨pC, pcs7, cors, vals, rfl, CD, DK, CO, vlen, fun r10 H34 s34 hr10 => ?_⟩
  walk_at "go"
  refine r_neD (ns := vals) hr10 (s34 _ _ (s833 _ _ hvL)) ?_
  walk_at "go"
  refine ite_f rfl ?_
  walk_at "go"
  have s834 := s833.trans s34
  clear hr10 s34 s833 fr33 CD DK CO hpC s32 n32 e31 s31 n31 s830
  -- the places
  have hx34 : LR (PtR H34) xs pts := hx8.mono fun _ _ h => h.mono (same_tp s834)
  refine i_listK (s834 _ _ hP8) ?_
  refine lcL (ds := xsOf pts) (fun _ v n => v = .int n) (fun _ _ _ _ _ h => h) (s834 _ _ hP8) (by rw [xsOf_len, hxl]) (by rw [xsOf_len]; omega) ?_ gm_tup2 ?_
  · intro i x z H' Q' s' hi hz kq
    obtain ⟨q, hq, pa, rfl, hpa⟩ := hx34.get' hi
    unfold xsOf at hz
    rw [List.getElem?_map, hq] at hz
    cases Option.some.inj hz
    have hpa'' := s' _ _ hpa
    walk_at "go"
    refine ⟨rfl, ?_⟩
    walk_at "go"
    exact kq _ _ (Same.refl _) rfl
  intro xL H35 ysx nx s35 hxL hyx
  rw [lr_int hyx] at hxL
  have s835 := s834.trans s35
  have s035 := s08.trans s835
  walk_at "go"
  refine cell 3 s035 fun z5 => ?_
  walk_at "go"
  refine r_mod (by decide) ?_
  have u0 := Int.emod_nonneg z5 (show (5 : Int) ≠ 0 by decide)
  have u1 := Int.emod_lt_of_pos z5 (show (0 : Int) < 5 by decide)
  generalize z5 % 5 = u at u0 u1 ⊢
  walk_at "go"
  refine r_list hxL fun l11 H36 n36 s36 e36 => ?_
  walk_at "go"
  have MO := xsOf_ok PO
  have hxn := xsOf_len pts
  have m0 : 0 ≤ min e 30 := by omega
  have m1 : min e 30 ≤ 30 := by omega
  refine mkK fun pI H37 n37 s37 hpI => ?_
  refine ⟨pI, l11, min e 30, u, xsOf pts, rfl, hpI, s37 _ _ e36, MO, m0, m1, u0, by omega, fun H38 lvs IA IO fr38 => ⟨rfl, ?_⟩⟩
  have s3538 : Same H35 H38 := fr38.out (s36.trans s37) fun b hb => by rw [List.mem_singleton.mp hb]; exact s36.free n37
  walk_at "go"
  refine ⟨IA.isI fun _ _ => rfl, ?_⟩
  refine ⟨pI, xsOf pts, lvs, rfl, IA, IO.len, fun kL H39 s39 hkL => ?_⟩
  walk_at "go"
  have s3539 := s3538.trans s39
  have IA39 := IA.same s39
  have hxL39 := s3539 _ _ hxL
  have s039 := s035.trans s3539
  clear hx34 hpI e36 fr38 IA
  -- the looks
  have p0 := hpx 0 (by omega)
  have p1 := hpx (n - 1) (by omega)
  have p01 := PO.asc 0 (n - 1) (by omega) (by omega)
  refine i_rng1K (m := 20) (by decide) ?_
  refine forR (fun i σ H' => ∃ v16 v19 v20 v21 : Option V, σ = [some (.ref a), some (.int (n : Int)), some (.ref pP), some (.int e), some (.ref c), some (.ref D5), some (.ref vL), some (.ref p), v8, some (.ref rL), some (.ref c6), some (.ref pC), some (.ref xL), some (.int u), some (.ref pI), some (.ref kL), v16, v17, v18, v19, v20, v21, none, none, none] ∧ Same H39 H')
    ⟨_, _, _, _, rfl, Same.refl _⟩ ?_ ?_
  · rintro i σ H' hi ⟨v16, v19, v20, v21, rfl, s'⟩
    have hxL' := s' _ _ hxL39
    have IA' := IA39.same s'
    have g0 := atI_nat (map_int_get (vOf_get (ns := xsOf pts) (i := 0) (by omega)))
    have g1 : atI ((xsOf pts).map V.int) ((n : Int) - 1) = some (.int (vOf (xsOf pts) (n - 1))) := at_of (j := n - 1) (by omega) (map_int_get (vOf_get (by omega)))
    rw [xsOf_v (by omega)] at g0 g1
    rw [Int.zero_add]
    walk_at "go"
    refine r_ixL hxL' g0 ?_
    walk_at "go"
    refine cell 4 (s039.trans s') fun z6 => ?_
    walk_at "go"
    refine r_fdiv ⟨by omega, by omega⟩ ?_
    walk_at "go"
    refine r_ixL hxL' g1 ?_
    walk_at "go"
    refine r_ixL hxL' g0 ?_
    walk_at "go"
    have hm : 0 < px pts (n - 1) - px pts 0 + 5 := by omega
    refine r_mod hm ?_
    have w0 := Int.emod_nonneg (z6 / ((i : Int) + 1) + (i : Int) * 37) (Int.ne_of_gt hm)
    have w1 := Int.emod_lt_of_pos (z6 / ((i : Int) + 1) + (i : Int) * 37) hm
    generalize (z6 / ((i : Int) + 1) + (i : Int) * 37) % (px pts (n - 1) - px pts 0 + 5) = w at w0 w1 ⊢
    walk_at "go"
    generalize hxx : px pts 0 - 2 + w = x
    refine ⟨IA'.isI fun _ _ => rfl, ?_⟩
    walk_at "go"
    refine ⟨pI, xsOf pts, lvs, min e 30, u, x, rfl, IA', IO, ⟨by omega, by omega⟩, fun r lk H40 t ls s40 hr hlk RK LO ll lz => ?_⟩
    walk_at "go"
    have hxL40 := s40 _ _ hxL'
    refine i_listK hxL40 ?_
    refine lcF (fun z => decide (z ≤ x)) hxL40 (by omega) (fun z H' Qy N s1 h1 h2 => ?_) fun D41 H41 n41 s41 hD41 => ?_
    · walk_at "go"
      refine ⟨rfl, ?_⟩
      walk_at "go"
      refine ite_d (fun h => ?_) (fun h => h2 (decide_eq_false h))
      walk_at "go"
      exact h1 (decide_eq_true h)
    have hdue : ((((xsOf pts).filter fun z => decide (z ≤ x)).map V.int).length : Int) = (t : Int) := by
      rw [List.length_map, rank_filter RK]
    walk_at "go"
    refine r_len hD41 ?_
    rw [hdue]
    have hr41 := s41 _ _ hr
    walk_at "go"
    refine ite_f (by rw [decide_eq_true rfl]; rfl) ?_
    walk_at "go"
    refine ⟨lk, kL, min e 30, u, _, ls, lvs.map (·.marks), rfl, hlk.mono s41 fun _ _ h => h.mono (same_tp s41), ?_, ?_, ll, fun h => lz ?_, ?_, ?_, m0, m1, u0, by omega, fun H42 s42 => ?_⟩
    · obtain ⟨ys, h1, h2⟩ := hkL
      have sk := (s'.trans s40).trans s41
      exact ⟨ys, sk _ _ h1, h2.mono fun v ms ⟨b, e1, e2⟩ => ⟨b, e1, sk _ _ e2⟩⟩
    · rw [List.map_map]
      exact LO
    · have := of_decide_eq_true h
      omega
    · rw [List.length_map]
      exact IO.pos
    · rw [List.length_map]
      exact IO.len
    · walk_at "go"
      refine ite_f rfl ?_
      walk_at "go"
      exact ⟨_, _, _, _, rfl, ((s'.trans s40).trans s41).trans s42⟩
  · rintro σ H' ⟨v16, v19, v20, v21, rfl, s'⟩
    walk_at "go"
    exact k H'
end
set_option maxHeartbeats 0
theorem tx_of {K : PySem.W.Frag} {h : Heap} {mg : Str → Option Value} (X : K.In h) (G : h.Ns mainGlobals mg) (c : He.SaysD fa fn K) : Tx K mg where
  c_Fitter := He.cls_ok (c.fact 41 (f := .cls "Fitter") rfl)
  n_Fitter__bottoms := He.noat_ok (c.fact 42 (f := .noat "Fitter" "_bottoms") rfl)
  n_Fitter__flat := He.noat_ok (c.fact 43 (f := .noat "Fitter" "_flat") rfl)
  n_Fitter__points := He.noat_ok (c.fact 44 (f := .noat "Fitter" "_points") rfl)
  n_Fitter__steep := He.noat_ok (c.fact 45 (f := .noat "Fitter" "_steep") rfl)
  n_Fitter__tops := He.noat_ok (c.fact 46 (f := .noat "Fitter" "_tops") rfl)
  n_Fitter_count := He.noat_ok (c.fact 47 (f := .noat "Fitter" "count") rfl)
  n_Fitter_error := He.noat_ok (c.fact 48 (f := .noat "Fitter" "error") rfl)
  c_Cutting := He.cls_ok (c.fact 57 (f := .cls "Cutting") rfl)
  n_Cutting_pieces := He.noat_ok (c.fact 58 (f := .noat "Cutting" "pieces") rfl)
  n_Cutting_reasons := He.noat_ok (c.fact 59 (f := .noat "Cutting" "reasons") rfl)
  c_Coded := He.cls_ok (c.fact 62 (f := .cls "Coded") rfl)
  n_Coded_corrections := He.noat_ok (c.fact 63 (f := .noat "Coded" "corrections") rfl)
  n_Coded_pieces := He.noat_ok (c.fact 64 (f := .noat "Coded" "pieces") rfl)
  c_FlatCutting := He.cls_ok (c.fact 70 (f := .cls "FlatCutting") rfl)
  n_FlatCutting_pieces := He.noat_ok (c.fact 71 (f := .noat "FlatCutting" "pieces") rfl)
  n_FlatCutting_reasons := He.noat_ok (c.fact 72 (f := .noat "FlatCutting" "reasons") rfl)
  c_Level := He.cls_ok (c.fact 75 (f := .cls "Level") rfl)
  n_Level_error := He.noat_ok (c.fact 76 (f := .noat "Level" "error") rfl)
  n_Level_marks := He.noat_ok (c.fact 77 (f := .noat "Level" "marks") rfl)
  n_Level_pieces := He.noat_ok (c.fact 78 (f := .noat "Level" "pieces") rfl)
  c_Index := He.cls_ok (c.fact 83 (f := .cls "Index") rfl)
  n_Index__levels := He.noat_ok (c.fact 84 (f := .noat "Index" "_levels") rfl)
  n_Index_stored := He.noat_ok (c.fact 85 (f := .noat "Index" "stored") rfl)
  c_SpanCutting := He.cls_ok (c.fact 90 (f := .cls "SpanCutting") rfl)
  n_SpanCutting_pieces := He.noat_ok (c.fact 91 (f := .noat "SpanCutting" "pieces") rfl)
  n_SpanCutting_reasons := He.noat_ok (c.fact 92 (f := .noat "SpanCutting" "reasons") rfl)
  c_Stream := He.cls_ok (c.fact 95 (f := .cls "Stream") rfl)
  n_Stream__closed := He.noat_ok (c.fact 96 (f := .noat "Stream" "_closed") rfl)
  n_Stream__fitter := He.noat_ok (c.fact 97 (f := .noat "Stream" "_fitter") rfl)
  n_Stream__start := He.noat_ok (c.fact 98 (f := .noat "Stream" "_start") rfl)
  n_Stream_error := He.noat_ok (c.fact 99 (f := .noat "Stream" "error") rfl)
  n_Stream_length := He.noat_ok (c.fact 100 (f := .noat "Stream" "length") rfl)
  b_len := He.free_ok X G (c.fact 104 (f := .free "len") rfl)
  b_abs := He.free_ok X G (c.fact 105 (f := .free "abs") rfl)
  b_max := He.free_ok X G (c.fact 106 (f := .free "max") rfl)
  b_min := He.free_ok X G (c.fact 107 (f := .free "min") rfl)
  b_enumerate := He.free_ok X G (c.fact 108 (f := .free "enumerate") rfl)
  b_range := He.free_ok X G (c.fact 109 (f := .free "range") rfl)
  b_list := He.free_ok X G (c.fact 110 (f := .free "list") rfl)
  b_all := He.free_ok X G (c.fact 111 (f := .free "all") rfl)
  b_int := He.free_ok X G (c.fact 112 (f := .free "int") rfl)
  b_isinstance := He.free_ok X G (c.fact 113 (f := .free "isinstance") rfl)
  b_tuple := He.free_ok X G (c.fact 114 (f := .free "tuple") rfl)
  g_Fitter := He.glo_ok X G (c.fact 40 (f := .glo "Fitter") rfl)
  k_Fitter := He.mkr_ok (c.fact 55 (f := .mkr "Fitter") rfl)
  m_Fitter_conflict := He.meth_ok (c.fact 49 (f := .meth "Fitter" "conflict") rfl)
  m_Fitter_add := He.meth_ok (c.fact 50 (f := .meth "Fitter" "add") rfl)
  m_Fitter_add_corners := He.meth_ok (c.fact 51 (f := .meth "Fitter" "add_corners") rfl)
  m_Fitter_lower_steep := He.meth_ok (c.fact 52 (f := .meth "Fitter" "lower_steep") rfl)
  m_Fitter_raise_flat := He.meth_ok (c.fact 53 (f := .meth "Fitter" "raise_flat") rfl)
  m_Fitter_line := He.meth_ok (c.fact 54 (f := .meth "Fitter" "line") rfl)
  g_Cutting := He.glo_ok X G (c.fact 56 (f := .glo "Cutting") rfl)
  k_Cutting := He.mkr_ok (c.fact 60 (f := .mkr "Cutting") rfl)
  g_Coded := He.glo_ok X G (c.fact 61 (f := .glo "Coded") rfl)
  k_Coded := He.mkr_ok (c.fact 68 (f := .mkr "Coded") rfl)
  m_Coded_line_at := He.meth_ok (c.fact 65 (f := .meth "Coded" "line_at") rfl)
  m_Coded_value_at := He.meth_ok (c.fact 66 (f := .meth "Coded" "value_at") rfl)
  m_Coded_decoded := He.meth_ok (c.fact 67 (f := .meth "Coded" "decoded") rfl)
  g_FlatCutting := He.glo_ok X G (c.fact 69 (f := .glo "FlatCutting") rfl)
  k_FlatCutting := He.mkr_ok (c.fact 73 (f := .mkr "FlatCutting") rfl)
  g_Level := He.glo_ok X G (c.fact 74 (f := .glo "Level") rfl)
  k_Level := He.mkr_ok (c.fact 81 (f := .mkr "Level") rfl)
  m_Level_end_of := He.meth_ok (c.fact 79 (f := .meth "Level" "end_of") rfl)
  m_Level_find := He.meth_ok (c.fact 80 (f := .meth "Level" "find") rfl)
  g_Index := He.glo_ok X G (c.fact 82 (f := .glo "Index") rfl)
  k_Index := He.mkr_ok (c.fact 88 (f := .mkr "Index") rfl)
  m_Index_level_keys := He.meth_ok (c.fact 86 (f := .meth "Index" "level_keys") rfl)
  m_Index_look_up := He.meth_ok (c.fact 87 (f := .meth "Index" "look_up") rfl)
  g_SpanCutting := He.glo_ok X G (c.fact 89 (f := .glo "SpanCutting") rfl)
  k_SpanCutting := He.mkr_ok (c.fact 93 (f := .mkr "SpanCutting") rfl)
  g_Stream := He.glo_ok X G (c.fact 94 (f := .glo "Stream") rfl)
  k_Stream := He.mkr_ok (c.fact 103 (f := .mkr "Stream") rfl)
  m_Stream_push := He.meth_ok (c.fact 101 (f := .meth "Stream" "push") rfl)
  m_Stream_pieces := He.meth_ok (c.fact 102 (f := .meth "Stream" "pieces") rfl)
  g_common_divisor := He.glo_ok X G (c.fact 0 (f := .glo "common_divisor") rfl)
  f_common_divisor := c.def_ 0 (d := d_common_divisor) rfl
  g_floor_at := He.glo_ok X G (c.fact 1 (f := .glo "floor_at") rfl)
  f_floor_at := c.def_ 1 (d := d_floor_at) rfl
  g_ceiling_at := He.glo_ok X G (c.fact 2 (f := .glo "ceiling_at") rfl)
  f_ceiling_at := c.def_ 2 (d := d_ceiling_at) rfl
  g_is_near := He.glo_ok X G (c.fact 3 (f := .glo "is_near") rfl)
  f_is_near := c.def_ 3 (d := d_is_near) rfl
  g_line_fits := He.glo_ok X G (c.fact 4 (f := .glo "line_fits") rfl)
  f_line_fits := c.def_ 4 (d := d_line_fits) rfl
  g_three_fit := He.glo_ok X G (c.fact 5 (f := .glo "three_fit") rfl)
  f_three_fit := c.def_ 5 (d := d_three_fit) rfl
  g_fraction := He.glo_ok X G (c.fact 6 (f := .glo "fraction") rfl)
  f_fraction := c.def_ 6 (d := d_fraction) rfl
  g_is_less := He.glo_ok X G (c.fact 7 (f := .glo "is_less") rfl)
  f_is_less := c.def_ 7 (d := d_is_less) rfl
  g_slope_between := He.glo_ok X G (c.fact 8 (f := .glo "slope_between") rfl)
  f_slope_between := c.def_ 8 (d := d_slope_between) rfl
  g_line_with_slope := He.glo_ok X G (c.fact 9 (f := .glo "line_with_slope") rfl)
  f_line_with_slope := c.def_ 9 (d := d_line_with_slope) rfl
  g_turn := He.glo_ok X G (c.fact 10 (f := .glo "turn") rfl)
  f_turn := c.def_ 10 (d := d_turn) rfl
  g_rise_over := He.glo_ok X G (c.fact 11 (f := .glo "rise_over") rfl)
  f_rise_over := c.def_ 11 (d := d_rise_over) rfl
  g_is_below := He.glo_ok X G (c.fact 12 (f := .glo "is_below") rfl)
  f_is_below := c.def_ 12 (d := d_is_below) rfl
  f_Fitter_init := c.def_ 13 (d := d_Fitter_init) rfl
  f_Fitter_conflict := c.def_ 14 (d := d_Fitter_conflict) rfl
  f_Fitter_add := c.def_ 15 (d := d_Fitter_add) rfl
  f_Fitter_add_corners := c.def_ 16 (d := d_Fitter_add_corners) rfl
  f_Fitter_lower_steep := c.def_ 17 (d := d_Fitter_lower_steep) rfl
  f_Fitter_raise_flat := c.def_ 18 (d := d_Fitter_raise_flat) rfl
  f_Fitter_line := c.def_ 19 (d := d_Fitter_line) rfl
  f_Cutting_init := c.def_ 20 (d := d_Cutting_init) rfl
  g_cut := He.glo_ok X G (c.fact 13 (f := .glo "cut") rfl)
  f_cut := c.def_ 21 (d := d_cut) rfl
  g_are_starts := He.glo_ok X G (c.fact 14 (f := .glo "are_starts") rfl)
  f_are_starts := c.def_ 22 (d := d_are_starts) rfl
  g_is_reason := He.glo_ok X G (c.fact 15 (f := .glo "is_reason") rfl)
  f_is_reason := c.def_ 23 (d := d_is_reason) rfl
  g_judge := He.glo_ok X G (c.fact 16 (f := .glo "judge") rfl)
  f_judge := c.def_ 24 (d := d_judge) rfl
  f_Coded_init := c.def_ 25 (d := d_Coded_init) rfl
  f_Coded_line_at := c.def_ 26 (d := d_Coded_line_at) rfl
  f_Coded_value_at := c.def_ 27 (d := d_Coded_value_at) rfl
  f_Coded_decoded := c.def_ 28 (d := d_Coded_decoded) rfl
  f_FlatCutting_init := c.def_ 29 (d := d_FlatCutting_init) rfl
  g_flat_cut := He.glo_ok X G (c.fact 17 (f := .glo "flat_cut") rfl)
  f_flat_cut := c.def_ 30 (d := d_flat_cut) rfl
  g_is_flat := He.glo_ok X G (c.fact 18 (f := .glo "is_flat") rfl)
  f_is_flat := c.def_ 31 (d := d_is_flat) rfl
  g_is_flat_reason := He.glo_ok X G (c.fact 19 (f := .glo "is_flat_reason") rfl)
  f_is_flat_reason := c.def_ 32 (d := d_is_flat_reason) rfl
  g_judge_flat := He.glo_ok X G (c.fact 20 (f := .glo "judge_flat") rfl)
  f_judge_flat := c.def_ 33 (d := d_judge_flat) rfl
  f_Level_init := c.def_ 34 (d := d_Level_init) rfl
  f_Level_end_of := c.def_ 35 (d := d_Level_end_of) rfl
  f_Level_find := c.def_ 36 (d := d_Level_find) rfl
  f_Index_init := c.def_ 37 (d := d_Index_init) rfl
  f_Index_level_keys := c.def_ 38 (d := d_Index_level_keys) rfl
  f_Index_look_up := c.def_ 39 (d := d_Index_look_up) rfl
  f_SpanCutting_init := c.def_ 40 (d := d_SpanCutting_init) rfl
  g_three_meet := He.glo_ok X G (c.fact 21 (f := .glo "three_meet") rfl)
  f_three_meet := c.def_ 41 (d := d_three_meet) rfl
  g_meets := He.glo_ok X G (c.fact 22 (f := .glo "meets") rfl)
  f_meets := c.def_ 42 (d := d_meets) rfl
  g_bounds_with := He.glo_ok X G (c.fact 23 (f := .glo "bounds_with") rfl)
  f_bounds_with := c.def_ 43 (d := d_bounds_with) rfl
  g_line_through := He.glo_ok X G (c.fact 24 (f := .glo "line_through") rfl)
  f_line_through := c.def_ 44 (d := d_line_through) rfl
  g_reason_with := He.glo_ok X G (c.fact 25 (f := .glo "reason_with") rfl)
  f_reason_with := c.def_ 45 (d := d_reason_with) rfl
  g_span_cut := He.glo_ok X G (c.fact 26 (f := .glo "span_cut") rfl)
  f_span_cut := c.def_ 46 (d := d_span_cut) rfl
  g_is_span_piece := He.glo_ok X G (c.fact 27 (f := .glo "is_span_piece") rfl)
  f_is_span_piece := c.def_ 47 (d := d_is_span_piece) rfl
  g_is_span_reason := He.glo_ok X G (c.fact 28 (f := .glo "is_span_reason") rfl)
  f_is_span_reason := c.def_ 48 (d := d_is_span_reason) rfl
  g_judge_spans := He.glo_ok X G (c.fact 29 (f := .glo "judge_spans") rfl)
  f_judge_spans := c.def_ 49 (d := d_judge_spans) rfl
  f_Stream_init := c.def_ 50 (d := d_Stream_init) rfl
  f_Stream_push := c.def_ 51 (d := d_Stream_push) rfl
  f_Stream_pieces := c.def_ 52 (d := d_Stream_pieces) rfl
  g_law_cell := He.glo_ok X G (c.fact 30 (f := .glo "_law_cell") rfl)
  f_law_cell := c.def_ 53 (d := d_law_cell) rfl
  g_law_digits := He.glo_ok X G (c.fact 31 (f := .glo "_law_digits") rfl)
  f_law_digits := c.def_ 54 (d := d_law_digits) rfl
  g_law_three := He.glo_ok X G (c.fact 32 (f := .glo "_law_three") rfl)
  f_law_three := c.def_ 55 (d := d_law_three) rfl
  g_law_near := He.glo_ok X G (c.fact 33 (f := .glo "_law_near") rfl)
  f_law_near := c.def_ 56 (d := d_law_near) rfl
  g_law_judged := He.glo_ok X G (c.fact 34 (f := .glo "_law_judged") rfl)
  f_law_judged := c.def_ 57 (d := d_law_judged) rfl
  g_law_digits_of := He.glo_ok X G (c.fact 35 (f := .glo "_law_digits_of") rfl)
  f_law_digits_of := c.def_ 58 (d := d_law_digits_of) rfl
  g_law_looks_right := He.glo_ok X G (c.fact 36 (f := .glo "_law_looks_right") rfl)
  f_law_looks_right := c.def_ 59 (d := d_law_looks_right) rfl
  g_law_curve := He.glo_ok X G (c.fact 37 (f := .glo "_law_curve") rfl)
  f_law_curve := c.def_ 60 (d := d_law_curve) rfl
  g_law_flat_starts := He.glo_ok X G (c.fact 38 (f := .glo "_law_flat_starts") rfl)
  f_law_flat_starts := c.def_ 61 (d := d_law_flat_starts) rfl
  g_law := He.glo_ok X G (c.fact 39 (f := .glo "law") rfl)
  f_law := c.def_ 62 (d := d_law) rfl
/-- all defs keep their promises, and the law does -/
theorem law_all {P : Program} {w : World} {K : PySem.W.Frag} {mg : Str → Option Value} {base : Heap} {f : Addr} {fd : FuncData} (T : Tx K mg) (F : FunD K "law" "law" (defArgs s_law) (defBody s_law) (defScope s_law) [] [] f fd) : FnOk P w K mg base CX0 9 f fd ["_law_script"] (sp_law K) := by
  have G_Cutting_init := gd_Cutting_init (P := P) (w := w) (base := base) T  (fun vs H Q E h => by obtain ⟨_, _, _, _, _, rfl, _⟩ := h; rfl) (fun vs H Q E h => rd_Cutting_init T.toTK vs H Q E h)
  have G_Fitter_init := gd_Fitter_init (P := P) (w := w) (base := base) T  (fun vs H Q E h => by obtain ⟨_, _, rfl, _⟩ := h; rfl) (fun vs H Q E h => rd_Fitter_init T.toTK vs H Q E h)
  have G_turn := gd_turn (P := P) (w := w) (base := base) T  (fun vs H Q E h => by obtain ⟨_, _, _, _, _, _, _, _, _, _, _, _, rfl, _⟩ := h; rfl) (fun vs H Q E h => rd_turn vs H Q E h)
  have G_Fitter_add_corners := gd_Fitter_add_corners (P := P) (w := w) (base := base) T G_turn (fun vs H Q E h => by obtain ⟨_, _, _, _, _, _, _, _, _, _, _, _, rfl, _⟩ := h; rfl) (fun vs H Q E h => rd_Fitter_add_corners T.toTK vs H Q E h)
  have G_is_below := gd_is_below (P := P) (w := w) (base := base) T  (fun vs H Q E h => by obtain ⟨_, _, _, _, _, _, rfl, _⟩ := h; rfl) (fun vs H Q E h => rd_is_below vs H Q E h)
  have G_rise_over := gd_rise_over (P := P) (w := w) (base := base) T  (fun vs H Q E h => by obtain ⟨_, _, _, _, _, _, _, _, rfl, _⟩ := h; rfl) (fun vs H Q E h => rd_rise_over vs H Q E h)
  have G_Fitter_conflict := gd_Fitter_conflict (P := P) (w := w) (base := base) T G_is_below G_rise_over (fun vs H Q E h => by obtain ⟨_, _, _, _, _, _, _, rfl, _⟩ := h; rfl) (fun vs H Q E h => rd_Fitter_conflict T.toTK vs H Q E h)
  have G_Fitter_lower_steep := gd_Fitter_lower_steep (P := P) (w := w) (base := base) T G_is_below G_rise_over (fun vs H Q E h => by obtain ⟨_, _, _, _, _, _, _, _, _, _, _, _, _, rfl, _⟩ := h; rfl) (fun vs H Q E h => rd_Fitter_lower_steep T.toTK vs H Q E h)
  have G_Fitter_raise_flat := gd_Fitter_raise_flat (P := P) (w := w) (base := base) T G_is_below G_rise_over (fun vs H Q E h => by obtain ⟨_, _, _, _, _, _, _, _, _, _, _, _, _, rfl, _⟩ := h; rfl) (fun vs H Q E h => rd_Fitter_raise_flat T.toTK vs H Q E h)
  have G_Fitter_add := gd_Fitter_add (P := P) (w := w) (base := base) T G_Fitter_add_corners G_Fitter_conflict G_Fitter_lower_steep G_Fitter_raise_flat (fun vs H Q E h => by obtain ⟨_, _, _, _, _, _, _, rfl, _⟩ := h; rfl) (fun vs H Q E h => rd_Fitter_add T.toTK vs H Q E h)
  have G_common_divisor := gd_common_divisor (P := P) (w := w) (base := base) T  (fun vs H Q E h => by obtain ⟨_, _, rfl, _⟩ := h; rfl) (fun vs H Q E h => rd_common_divisor vs H Q E h)
  have G_fraction := gd_fraction (P := P) (w := w) (base := base) T G_common_divisor (fun vs H Q E h => by obtain ⟨_, _, rfl, _⟩ := h; rfl) (fun vs H Q E h => rd_fraction vs H Q E h)
  have G_line_with_slope := gd_line_with_slope (P := P) (w := w) (base := base) T  (fun vs H Q E h => by obtain ⟨_, _, _, _, _, _, rfl, _⟩ := h; rfl) (fun vs H Q E h => rd_line_with_slope vs H Q E h)
  have G_slope_between := gd_slope_between (P := P) (w := w) (base := base) T  (fun vs H Q E h => by obtain ⟨_, _, _, _, _, _, rfl, _⟩ := h; rfl) (fun vs H Q E h => rd_slope_between vs H Q E h)
  have G_Fitter_line := gd_Fitter_line (P := P) (w := w) (base := base) T G_fraction G_line_with_slope G_rise_over G_slope_between (fun vs H Q E h => by obtain ⟨_, _, _, _, _, _, rfl, _⟩ := h; rfl) (fun vs H Q E h => rd_Fitter_line T.toTK vs H Q E h)
  have G_cut := gd_cut (P := P) (w := w) (base := base) T G_Cutting_init G_Fitter_init G_Fitter_add G_Fitter_conflict G_Fitter_line (fun vs H Q E h => by obtain ⟨_, _, _, rfl, _⟩ := h; rfl) (fun vs H Q E h => rd_cut T.toTK vs H Q E h)
  have G_FlatCutting_init := gd_FlatCutting_init (P := P) (w := w) (base := base) T  (fun vs H Q E h => by obtain ⟨_, _, _, _, _, rfl, _⟩ := h; rfl) (fun vs H Q E h => rd_FlatCutting_init T.toTK vs H Q E h)
  have G_flat_cut := gd_flat_cut (P := P) (w := w) (base := base) T G_FlatCutting_init (fun vs H Q E h => by obtain ⟨_, _, _, rfl, _⟩ := h; rfl) (fun vs H Q E h => rd_flat_cut T.toTK vs H Q E h)
  have G_are_starts := gd_are_starts (P := P) (w := w) (base := base) T  (fun vs H Q E h => by obtain ⟨_, _, _, rfl, _⟩ := h; rfl) (fun vs H Q E h => rd_are_starts vs H Q E h)
  have G_three_fit := gd_three_fit (P := P) (w := w) (base := base) T  (fun vs H Q E h => by obtain ⟨_, _, _, _, _, _, _, rfl, _⟩ := h; rfl) (fun vs H Q E h => rd_three_fit vs H Q E h)
  have G_is_reason := gd_is_reason (P := P) (w := w) (base := base) T G_three_fit (fun vs H Q E h => by obtain ⟨_, _, _, _, _, _, _, rfl, _⟩ := h; rfl) (fun vs H Q E h => rd_is_reason vs H Q E h)
  have G_is_near := gd_is_near (P := P) (w := w) (base := base) T  (fun vs H Q E h => by obtain ⟨_, _, _, _, _, rfl, _⟩ := h; rfl) (fun vs H Q E h => rd_is_near vs H Q E h)
  have G_line_fits := gd_line_fits (P := P) (w := w) (base := base) T G_is_near (fun vs H Q E h => by obtain ⟨_, _, _, _, _, rfl, _⟩ := h; rfl) (fun vs H Q E h => rd_line_fits vs H Q E h)
  have G_judge := gd_judge (P := P) (w := w) (base := base) T G_are_starts G_is_reason G_line_fits (fun vs H Q E h => by obtain ⟨_, _, _, _, _, _, rfl, _⟩ := h; rfl) (fun vs H Q E h => rd_judge T.toTK vs H Q E h)
  have G_is_flat := gd_is_flat (P := P) (w := w) (base := base) T  (fun vs H Q E h => by obtain ⟨_, _, _, _, rfl, _⟩ := h; rfl) (fun vs H Q E h => rd_is_flat vs H Q E h)
  have G_is_flat_reason := gd_is_flat_reason (P := P) (w := w) (base := base) T  (fun vs H Q E h => by obtain ⟨_, _, _, _, _, _, _, rfl, _⟩ := h; rfl) (fun vs H Q E h => rd_is_flat_reason vs H Q E h)
  have G_judge_flat := gd_judge_flat (P := P) (w := w) (base := base) T G_is_flat G_is_flat_reason (fun vs H Q E h => by obtain ⟨_, _, _, _, _, _, rfl, _⟩ := h; rfl) (fun vs H Q E h => rd_judge_flat T.toTK vs H Q E h)
  have G_meets := gd_meets (P := P) (w := w) (base := base) T  (fun vs H Q E h => by obtain ⟨_, _, _, _, rfl, _⟩ := h; rfl) (fun vs H Q E h => rd_meets vs H Q E h)
  have G_is_span_piece := gd_is_span_piece (P := P) (w := w) (base := base) T G_meets (fun vs H Q E h => by obtain ⟨_, _, _, _, rfl, _⟩ := h; rfl) (fun vs H Q E h => rd_is_span_piece vs H Q E h)
  have G_three_meet := gd_three_meet (P := P) (w := w) (base := base) T  (fun vs H Q E h => by obtain ⟨_, _, _, _, _, _, rfl, _⟩ := h; rfl) (fun vs H Q E h => rd_three_meet vs H Q E h)
  have G_is_span_reason := gd_is_span_reason (P := P) (w := w) (base := base) T G_three_meet (fun vs H Q E h => by obtain ⟨_, _, _, _, _, _, rfl, _⟩ := h; rfl) (fun vs H Q E h => rd_is_span_reason vs H Q E h)
  have G_judge_spans := gd_judge_spans (P := P) (w := w) (base := base) T G_is_span_piece G_is_span_reason (fun vs H Q E h => by obtain ⟨_, _, _, _, _, rfl, _⟩ := h; rfl) (fun vs H Q E h => rd_judge_spans T.toTK vs H Q E h)
  have G_law_cell := gd_law_cell (P := P) (w := w) (base := base) T  (fun vs H Q E h => by obtain ⟨_, _, _, rfl, _⟩ := h; rfl) (fun vs H Q E h => rd_law_cell vs H Q E h)
  have G_law_digits := gd_law_digits (P := P) (w := w) (base := base) T  (fun vs H Q E h => by obtain ⟨_, _, _, rfl, _⟩ := h; rfl) (fun vs H Q E h => rd_law_digits vs H Q E h)
  have G_law_curve := gd_law_curve (P := P) (w := w) (base := base) T G_law_digits (fun vs H Q E h => by obtain ⟨_, _, rfl, _⟩ := h; rfl) (fun vs H Q E h => rd_law_curve vs H Q E h)
  have G_law_flat_starts := gd_law_flat_starts (P := P) (w := w) (base := base) T  (fun vs H Q E h => by obtain ⟨_, _, _, rfl, _⟩ := h; rfl) (fun vs H Q E h => rd_law_flat_starts vs H Q E h)
  have G_law_near := gd_law_near (P := P) (w := w) (base := base) T  (fun vs H Q E h => by obtain ⟨_, _, _, _, _, rfl, _⟩ := h; rfl) (fun vs H Q E h => rd_law_near vs H Q E h)
  have G_law_three := gd_law_three (P := P) (w := w) (base := base) T  (fun vs H Q E h => by obtain ⟨_, _, _, _, _, _, _, rfl, _⟩ := h; rfl) (fun vs H Q E h => rd_law_three vs H Q E h)
  have G_law_judged := gd_law_judged (P := P) (w := w) (base := base) T G_law_near G_law_three (fun vs H Q E h => by obtain ⟨_, _, _, _, _, _, _, rfl, _⟩ := h; rfl) (fun vs H Q E h => rd_law_judged T.toTK vs H Q E h)
  have G_law_digits_of := gd_law_digits_of (P := P) (w := w) (base := base) T  (fun vs H Q E h => by obtain ⟨_, rfl, _⟩ := h; rfl) (fun vs H Q E h => rd_law_digits_of vs H Q E h)
  have G_law_looks_right := gd_law_looks_right (P := P) (w := w) (base := base) T G_law_digits_of (fun vs H Q E h => by obtain ⟨_, _, _, _, _, _, _, rfl, _⟩ := h; rfl) (fun vs H Q E h => rd_law_looks_right T.toTK vs H Q E h)
  have G_is_less := gd_is_less (P := P) (w := w) (base := base) T  (fun vs H Q E h => by obtain ⟨_, _, _, _, _, _, rfl, _⟩ := h; rfl) (fun vs H Q E h => rd_is_less vs H Q E h)
  have G_bounds_with := gd_bounds_with (P := P) (w := w) (base := base) T G_is_less (fun vs H Q E h => by obtain ⟨_, _, _, _, _, _, _, rfl, _⟩ := h; rfl) (fun vs H Q E h => rd_bounds_with T.toTK vs H Q E h)
  have G_line_through := gd_line_through (P := P) (w := w) (base := base) T G_fraction G_slope_between (fun vs H Q E h => by obtain ⟨_, _, _, _, _, _, rfl, _⟩ := h; rfl) (fun vs H Q E h => rd_line_through T.toTK vs H Q E h)
  have G_reason_with := gd_reason_with (P := P) (w := w) (base := base) T G_three_meet (fun vs H Q E h => by obtain ⟨_, _, _, _, rfl, _⟩ := h; rfl) (fun vs H Q E h => rd_reason_with T.toTK vs H Q E h)
  have G_SpanCutting_init := gd_SpanCutting_init (P := P) (w := w) (base := base) T  (fun vs H Q E h => by obtain ⟨_, _, _, _, _, rfl, _⟩ := h; rfl) (fun vs H Q E h => rd_SpanCutting_init T.toTK vs H Q E h)
  have G_span_cut := gd_span_cut (P := P) (w := w) (base := base) T G_bounds_with G_is_less G_line_through G_reason_with G_SpanCutting_init (fun vs H Q E h => by obtain ⟨_, _, rfl, _⟩ := h; rfl) (fun vs H Q E h => rd_span_cut T.toTK vs H Q E h)
  have G_floor_at := gd_floor_at (P := P) (w := w) (base := base) T  (fun vs H Q E h => by obtain ⟨_, _, _, _, _, rfl, _⟩ := h; rfl) (fun vs H Q E h => rd_floor_at vs H Q E h)
  have G_Coded_line_at := gd_Coded_line_at (P := P) (w := w) (base := base) T  (fun vs H Q E h => by obtain ⟨_, _, _, _, rfl, _⟩ := h; rfl) (fun vs H Q E h => rd_Coded_line_at T.toTK vs H Q E h)
  have G_Coded_init := gd_Coded_init (P := P) (w := w) (base := base) T G_cut G_floor_at G_Coded_line_at (fun vs H Q E h => by obtain ⟨_, _, _, _, rfl, _⟩ := h; rfl) (fun vs H Q E h => rd_Coded_init T.toTK vs H Q E h)
  have G_Level_init := gd_Level_init (P := P) (w := w) (base := base) T G_cut (fun vs H Q E h => by obtain ⟨_, _, _, _, rfl, _⟩ := h; rfl) (fun vs H Q E h => rd_Level_init T.toTK vs H Q E h)
  have G_Index_init := gd_Index_init (P := P) (w := w) (base := base) T G_Level_init (fun vs H Q E h => by obtain ⟨_, _, _, _, _, rfl, _⟩ := h; rfl) (fun vs H Q E h => rd_Index_init T.toTK vs H Q E h)
  have G_Stream_init := gd_Stream_init (P := P) (w := w) (base := base) T G_Fitter_init (fun vs H Q E h => by obtain ⟨_, _, rfl, _⟩ := h; rfl) (fun vs H Q E h => rd_Stream_init T.toTK vs H Q E h)
  have G_Coded_value_at := gd_Coded_value_at (P := P) (w := w) (base := base) T G_floor_at G_Coded_line_at (fun vs H Q E h => by obtain ⟨_, _, _, _, _, rfl, _⟩ := h; rfl) (fun vs H Q E h => rd_Coded_value_at T.toTK vs H Q E h)
  have G_Coded_decoded := gd_Coded_decoded (P := P) (w := w) (base := base) T G_Coded_value_at (fun vs H Q E h => by obtain ⟨_, _, _, _, rfl, _⟩ := h; rfl) (fun vs H Q E h => rd_Coded_decoded T.toTK vs H Q E h)
  have G_Index_level_keys := gd_Index_level_keys (P := P) (w := w) (base := base) T  (fun vs H Q E h => by obtain ⟨_, _, _, rfl, _⟩ := h; rfl) (fun vs H Q E h => rd_Index_level_keys T.toTK vs H Q E h)
  have G_ceiling_at := gd_ceiling_at (P := P) (w := w) (base := base) T  (fun vs H Q E h => by obtain ⟨_, _, _, _, _, rfl, _⟩ := h; rfl) (fun vs H Q E h => rd_ceiling_at vs H Q E h)
  have G_Level_end_of := gd_Level_end_of (P := P) (w := w) (base := base) T  (fun vs H Q E h => by obtain ⟨_, _, _, rfl, _⟩ := h; rfl) (fun vs H Q E h => rd_Level_end_of T.toTK vs H Q E h)
  have G_Level_find := gd_Level_find (P := P) (w := w) (base := base) T G_ceiling_at G_floor_at G_Level_end_of (fun vs H Q E h => by obtain ⟨_, _, _, _, _, _, _, _, rfl, _⟩ := h; rfl) (fun vs H Q E h => rd_Level_find T.toTK vs H Q E h)
  have G_Index_look_up := gd_Index_look_up (P := P) (w := w) (base := base) T G_Level_find (fun vs H Q E h => by obtain ⟨_, _, _, _, _, _, rfl, _⟩ := h; rfl) (fun vs H Q E h => rd_Index_look_up T.toTK vs H Q E h)
  have G_Stream_pieces := gd_Stream_pieces (P := P) (w := w) (base := base) T G_Fitter_line (fun vs H Q E h => by obtain ⟨_, _, _, _, _, rfl, _⟩ := h; rfl) (fun vs H Q E h => rd_Stream_pieces T.toTK vs H Q E h)
  have G_Stream_push := gd_Stream_push (P := P) (w := w) (base := base) T G_Fitter_init G_Fitter_add G_Fitter_conflict G_Fitter_line (fun vs H Q E h => by obtain ⟨_, _, _, _, _, rfl, _⟩ := h; rfl) (fun vs H Q E h => rd_Stream_push T.toTK vs H Q E h)
  exact F.ok sc_law (fun vs H Q E h => by obtain ⟨_, _, rfl, _⟩ := h; rfl) (fun cdv A outer s H vs Q E hr h => ⟨t_law K, PSs.nox (der_law T G_cut G_flat_cut G_judge G_judge_flat G_judge_spans G_law_cell G_law_curve G_law_flat_starts G_law_judged G_law_looks_right G_span_cut G_Coded_init G_Index_init G_Stream_init G_Coded_decoded G_Index_level_keys G_Index_look_up G_Stream_pieces G_Stream_push hr), rd_law T.toTK vs H Q E h⟩)
theorem facts {P : Program} {w : World} {K : PySem.W.Frag} {h : Heap} {mg : Str → Option Value} {f : Addr} (X : K.In h) (G : h.Ns mainGlobals mg) (hfa : mg ("law" : Str) = some (.ref f)) (c : He.SaysD fa fn K) :
    ∃ fd : FuncData, (∀ (s : Shared) (v : Value), BindsTo s fd ⟨[v], []⟩ [("_law_script", v)]) ∧ ∀ base : Heap, K.In base → base.Ns mainGlobals mg → FnOk P w K mg base CX0 9 f fd ["_law_script"] (sp_law K) := by
  obtain ⟨fd, F⟩ := c.def_ 62 (d := d_law) rfl
  have e := hfa.symm.trans (He.glo_ok X G (c.fact 39 (f := .glo "law") rfl))
  cases e
  have b := FunD.bindsA (ps := ["_law_script"]) F fun _ _ _ _ _ _ us hl => match us, hl with | [_], _ => rfl
  exact ⟨fd, fun s v => b s [v] rfl, fun base _ _ => law_all (tx_of X G c) F⟩
end FL
open PySem PySem.W PySem.Calls PyProof.Rows
theorem PySem.Challenge.cw_fewestlines_k60_whole_long_curves_holds : PySem.Challenge.rw_fewestlines_k60_whole_long_curves.Holds := by
  w_on; o_law
  refine HandSHeadRun.head_any (r := OpenLaw.row PySem.Challenge.rw_fewestlines_k60_whole_long_curves) (q := view (OpenLaw.row PySem.Challenge.rw_fewestlines_k60_whole_long_curves).prog [58]) (H := FL.hk) (ob := FL.ob) (M := 9000) (loose := FL.loose) (d := HandSHeadRun.topDef (OpenLaw.row PySem.Challenge.rw_fewestlines_k60_whole_long_curves).prog 58) (kwd := []) FL.ob_eq
    (by kernel_rfl) (fun s => by kernel_rfl) FL.run (by kernel_rfl) (by kernel_rfl) (by kernel_rfl) (by rfl) (by first | assumption | decide +kernel) (by decide +kernel) ⟨rfl, rfl, rfl, rfl, rfl, by decide +kernel⟩ ?hw ?hc
  case hw => w_witness2
  case hc =>
    refine L2.walk_ofE (l := PySem.Challenge.rw_fewestlines_k60_whole_long_curves) (n := 63) (k := 9) (x := "_law_script") (CX := L2.CX0) rfl (by decide) (by kernel_rfl) ⟨rfl, by decide, by decide⟩ ?F (fun _ _ _ _ z => z)
    intro w mg fa h Y G hmg0
    obtain ⟨K, KX, c⟩ := Y
    have hmg : mg ("law" : PySem.Str) = some (.ref fa) := by
      have e : (HandSHeadRun.topDef (OpenLaw.row PySem.Challenge.rw_fewestlines_k60_whole_long_curves).prog 58).name = ("law" : PySem.Str) := by kernel_rfl
      rw [← e]
      exact hmg0
    obtain ⟨fd, hb, hF⟩ := FL.facts (P := (PySem.Challenge.rw_fewestlines_k60_whole_long_curves).prog) (w := w) KX G hmg c
    exact ⟨K, fd, FL.sp_law K, KX, hb, fun H a ns hl hz hS => ⟨a, ns, rfl, hS, hl, fun _ => rfl⟩, hF⟩
