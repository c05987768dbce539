import PyProof.Rows.All
import Wide.All
import OpenK.AllK
import Wide.FinOn
import HandS.ForMost
import HandS.Evl
import HandS.Walk
import HandS.Wide
import HandS.IsInst
import HandS.Conv
import HandS.Flow
import HandS.Defaults
import KE.GoesNew
import KE.GoesEnum
import PyProof.ReprRoads
import KE.KStateDown
import HandS.Head0
import HandS.Head1
import HandS.Head2
import HandS.HeadEnd
import HandS.HeadHook1
import HandS.HeadHook2
import Lean
import PySem.Challenge.RW_hushduel_k37_whole_second_wishes

/-! text Det -/
set_option Elab.async false
set_option linter.all false
set_option maxHeartbeats 4000000
/-! A determinant of a list of integer vectors, by Laplace along the first place: alternating, linear in each vector, 1 at the units, bounded. -/
namespace Hd
/-- a vector of whole numbers -/
abbrev Vec := Nat → Int

def lapl (f : List Vec → Int) (c : Nat) : Int → List Vec → List Vec → Int
  | _, _, [] => 0
  | s, pre, x :: post => s * x c * f (pre ++ post) + lapl f c (-s) (pre ++ [x]) post

def det : Nat → Nat → List Vec → Int
  | 0, _, l => if l.isEmpty then 1 else 0
  | n + 1, c, l => lapl (det n (c + 1)) c 1 [] l

/-- two neighbours changed: the other sign -/
def Swp (f : List Vec → Int) : Prop := ∀ P x y Q, f (P ++ x :: y :: Q) = - f (P ++ y :: x :: Q)
def comb (a b : Int) (x y : Vec) : Vec := fun j => a * x j + b * y j
/-- linear at each place -/
def Lin (f : List Vec → Int) : Prop := ∀ P a b x y Q, f (P ++ comb a b x y :: Q) = a * f (P ++ x :: Q) + b * f (P ++ y :: Q)

theorem lapl_pre {f : List Vec → Int} (hf : Swp f) (c : Nat) (P : List Vec) (x y : Vec) : ∀ (Q R : List Vec) (s : Int),
    lapl f c s (P ++ x :: y :: R) Q = - lapl f c s (P ++ y :: x :: R) Q
  | [], R, s => by simp [lapl]
  | z :: Q, R, s => by
    have ih := lapl_pre hf c P x y Q (R ++ [z]) (-s)
    have h1 := hf P x y (R ++ Q)
    simp only [lapl, List.append_assoc, List.cons_append] at *
    rw [h1, ih]
    grind

theorem lapl_swp {f : List Vec → Int} (hf : Swp f) (c : Nat) (x y : Vec) (Q : List Vec) : ∀ (P : List Vec) (s : Int) (pre : List Vec),
    lapl f c s pre (P ++ x :: y :: Q) = - lapl f c s pre (P ++ y :: x :: Q)
  | [], s, pre => by
    have h := lapl_pre hf c pre x y Q [] s
    simp only [lapl, List.nil_append, List.append_assoc, List.cons_append, Int.neg_neg] at *
    rw [h]
    grind
  | p :: P, s, pre => by
    have ih := lapl_swp hf c x y Q P (-s) (pre ++ [p])
    have h1 := hf (pre ++ P) x y Q
    simp only [lapl, List.append_assoc, List.cons_append] at *
    rw [h1, ih]
    grind

theorem det_swp : ∀ (n c : Nat), Swp (det n c)
  | 0, c => fun P x y Q => by
    simp [det]
  | n + 1, c => fun P x y Q => lapl_swp (det_swp n (c + 1)) c x y Q P 1 []

theorem lapl_pre_lin {f : List Vec → Int} (hf : Lin f) (c : Nat) (P : List Vec) (a b : Int) (x y : Vec) : ∀ (Q R : List Vec) (s : Int),
    lapl f c s (P ++ comb a b x y :: R) Q = a * lapl f c s (P ++ x :: R) Q + b * lapl f c s (P ++ y :: R) Q
  | [], R, s => by simp [lapl]
  | z :: Q, R, s => by
    have ih := lapl_pre_lin hf c P a b x y Q (R ++ [z]) (-s)
    have h1 := hf P a b x y (R ++ Q)
    simp only [lapl, List.append_assoc, List.cons_append] at *
    rw [h1, ih]
    grind

theorem lapl_lin {f : List Vec → Int} (hf : Lin f) (c : Nat) (a b : Int) (x y : Vec) (Q : List Vec) : ∀ (P : List Vec) (s : Int) (pre : List Vec),
    lapl f c s pre (P ++ comb a b x y :: Q) = a * lapl f c s pre (P ++ x :: Q) + b * lapl f c s pre (P ++ y :: Q)
  | [], s, pre => by
    have h := lapl_pre_lin hf c pre a b x y Q [] (-s)
    simp only [lapl, List.nil_append, List.append_assoc, List.cons_append] at *
    rw [h]
    simp only [comb]
    grind
  | p :: P, s, pre => by
    have ih := lapl_lin hf c a b x y Q P (-s) (pre ++ [p])
    have h1 := hf (pre ++ P) a b x y Q
    simp only [lapl, List.append_assoc, List.cons_append] at *
    rw [h1, ih]
    grind

theorem det_lin : ∀ (n c : Nat), Lin (det n c)
  | 0, c => fun P a b x y Q => by
    simp [det]
  | n + 1, c => fun P a b x y Q => lapl_lin (det_lin n (c + 1)) c a b x y Q P 1 []

theorem swp_far {f : List Vec → Int} (hf : Swp f) (x : Vec) (Q : List Vec) : ∀ (M P : List Vec), f (P ++ x :: (M ++ x :: Q)) = 0
  | [], P => by
    have h := hf P x x Q
    simp only [List.nil_append]
    omega
  | z :: M, P => by
    have h := hf P x z (M ++ x :: Q)
    have ih := swp_far hf x Q M (P ++ [z])
    simp only [List.append_assoc, List.cons_append, List.nil_append] at *
    rw [h, ih]
    rfl

theorem lapl_zero {f : List Vec → Int} {c : Nat} : ∀ (post : List Vec) (s : Int) (pre : List Vec), (∀ x ∈ post, x c = 0) → lapl f c s pre post = 0
  | [], _, _, _ => rfl
  | x :: post, s, pre, h => by
    have h1 : x c = 0 := h x (by simp)
    simp only [lapl, h1, lapl_zero post (-s) (pre ++ [x]) fun y hy => h y (by simp [hy])]
    simp

/-- the unit vector at i -/
def unit (i : Nat) : Vec := fun j => if j = i then 1 else 0

theorem det_unit : ∀ (n c : Nat), det n c ((List.range' c n).map unit) = 1
  | 0, c => rfl
  | n + 1, c => by
    rw [List.range'_succ]
    simp only [List.map_cons, det, lapl, List.nil_append]
    rw [det_unit n (c + 1), lapl_zero]
    · simp [unit]
    · intro x hx
      obtain ⟨i, hi, rfl⟩ := List.mem_map.mp hx
      have := (List.mem_range'_1.mp hi).1
      simp only [unit]
      rw [if_neg (by omega)]

def fac : Nat → Int
  | 0 => 1
  | n + 1 => (n + 1 : Nat) * fac n
theorem fac_pos : ∀ n, 0 < fac n
  | 0 => by decide
  | n + 1 => by
    have := fac_pos n
    exact Int.mul_pos (by omega) this

theorem lapl_le {f : List Vec → Int} {c : Nat} {X F : Int} (hX : 0 ≤ X) (hF : 0 ≤ F) : ∀ (post : List Vec) (s : Int) (pre : List Vec), (s = 1 ∨ s = -1) →
    (∀ x ∈ post, -X ≤ x c ∧ x c ≤ X) → (∀ l : List Vec, (∀ x ∈ l, x ∈ pre ++ post) → -F ≤ f l ∧ f l ≤ F) →
    -((post.length : Int) * (X * F)) ≤ lapl f c s pre post ∧ lapl f c s pre post ≤ (post.length : Int) * (X * F)
  | [], s, pre, _, _, _ => by simp [lapl]
  | x :: post, s, pre, hs, hx, hf => by
    have h1 := hx x (by simp)
    have h2 := hf (pre ++ post) (by intro y hy; simp at hy ⊢; grind)
    have ih := lapl_le hX hF post (-s) (pre ++ [x]) (by omega) (fun y hy => hx y (by simp [hy])) (fun l hl => hf l (by intro y hy; have := hl y hy; simp at this ⊢; grind))
    have p1 : s * x c * f (pre ++ post) ≤ X * F ∧ -(X * F) ≤ s * x c * f (pre ++ post) := by
      have key : ∀ u v : Int, -X ≤ u → u ≤ X → -F ≤ v → v ≤ F → u * v ≤ X * F ∧ -(X * F) ≤ u * v := by
        intro u v a1 a2 b1 b2
        have q1 : 0 ≤ (X - u) * (F + v) := Int.mul_nonneg (by omega) (by omega)
        have q2 : 0 ≤ (X + u) * (F - v) := Int.mul_nonneg (by omega) (by omega)
        have q3 : 0 ≤ (X - u) * (F - v) := Int.mul_nonneg (by omega) (by omega)
        have q4 : 0 ≤ (X + u) * (F + v) := Int.mul_nonneg (by omega) (by omega)
        constructor <;> grind
      rcases hs with rfl | rfl
      · have := key (x c) (f (pre ++ post)) h1.1 h1.2 h2.1 h2.2
        constructor <;> grind
      · have := key (-(x c)) (f (pre ++ post)) (by omega) (by omega) h2.1 h2.2
        constructor <;> grind
    simp only [lapl, List.length_cons]
    have e : ((post.length + 1 : Nat) : Int) * (X * F) = (post.length : Int) * (X * F) + X * F := by
      push_cast; grind
    rw [e]
    constructor <;> omega

theorem det_le {X : Int} (hX : 1 ≤ X) : ∀ (n c : Nat) (l : List Vec), l.length = n → (∀ x ∈ l, ∀ j, -X ≤ x j ∧ x j ≤ X) → - (fac n * X ^ n) ≤ det n c l ∧ det n c l ≤ fac n * X ^ n := by
  have hb : ∀ (n c : Nat) (l : List Vec), (∀ x ∈ l, ∀ j, -X ≤ x j ∧ x j ≤ X) → l.length ≠ n → det n c l = 0 := by
    intro n
    induction n with
    | zero => intro c l _ hl; simp only [det]; cases l with
      | nil => simp at hl
      | cons x l => rfl
    | succ n ih =>
      intro c l hx hl
      simp only [det]
      have go : ∀ (post pre : List Vec) (s : Int), (∀ x ∈ pre ++ post, ∀ j, -X ≤ x j ∧ x j ≤ X) → (pre ++ post).length ≠ n + 1 → lapl (det n (c + 1)) c s pre post = 0 := by
        intro post
        induction post with
        | nil => intro pre s _ _; rfl
        | cons y post ihp =>
          intro pre s hx hl
          simp only [lapl]
          rw [ih (c + 1) (pre ++ post) (by intro z hz; apply hx; simp at hz ⊢; grind) (by simp at hl ⊢; omega), ihp (pre ++ [y]) (-s) (by intro z hz; apply hx; simp at hz ⊢; grind) (by simp at hl ⊢; omega)]
          simp
      exact go l [] 1 (by simpa using hx) (by simpa using hl)
  intro n
  induction n with
  | zero =>
    intro c l hl _
    simp only [det, fac]
    have : l = [] := List.eq_nil_of_length_eq_zero hl
    subst this
    simp
  | succ n ih =>
    intro c l hl hx
    simp only [det]
    have hF : 0 ≤ fac n * X ^ n := Int.mul_nonneg (by have := fac_pos n; omega) (Int.pow_nonneg (by omega))
    have h := lapl_le (f := det n (c + 1)) (c := c) (X := X) (by omega) hF l 1 [] (.inl rfl) (fun x hx' => hx x hx' c) (fun l' hl' => by
      have hx' : ∀ x ∈ l', ∀ j, -X ≤ x j ∧ x j ≤ X := fun x hm => hx x (by simpa using hl' x hm)
      by_cases e : l'.length = n
      · exact ih (c + 1) l' e hx'
      · rw [hb n (c + 1) l' hx' e]
        omega)
    have e : ((l.length : Nat) : Int) * (X * (fac n * X ^ n)) = fac (n + 1) * X ^ (n + 1) := by
      rw [hl, fac, Int.pow_succ]; grind
    rw [e] at h
    exact h
end Hd


/-! text Tab -/
set_option Elab.async false
set_option linter.all false
set_option maxHeartbeats 4000000
namespace Hd
/-! sums -/
def sumN : Nat → (Nat → Int) → Int
  | 0, _ => 0
  | n + 1, f => sumN n f + f n
theorem sumN_congr : ∀ {n : Nat} {f g : Nat → Int}, (∀ i, i < n → f i = g i) → sumN n f = sumN n g
  | 0, _, _, _ => rfl
  | n + 1, f, g, h => by
    simp only [sumN]
    rw [sumN_congr (n := n) (f := f) (g := g) fun i hi => h i (by omega), h n (by omega)]
theorem sumN_zero : ∀ {n : Nat} {f : Nat → Int}, (∀ i, i < n → f i = 0) → sumN n f = 0
  | 0, _, _ => rfl
  | n + 1, f, h => by
    simp only [sumN]
    rw [sumN_zero (n := n) fun i hi => h i (by omega), h n (by omega)]; rfl
theorem sumN_add : ∀ (n : Nat) (f g : Nat → Int), sumN n (fun i => f i + g i) = sumN n f + sumN n g
  | 0, _, _ => rfl
  | n + 1, f, g => by
    simp only [sumN]
    rw [sumN_add n]; omega
theorem sumN_mul : ∀ (n : Nat) (k : Int) (f : Nat → Int), sumN n (fun i => k * f i) = k * sumN n f
  | 0, _, _ => by simp [sumN]
  | n + 1, k, f => by
    simp only [sumN]
    rw [sumN_mul n]; grind
theorem sumN_one : ∀ {n : Nat} {f : Nat → Int} (k : Nat), k < n → (∀ i, i < n → i ≠ k → f i = 0) → sumN n f = f k
  | 0, _, _, h, _ => by omega
  | n + 1, f, k, hk, h => by
    simp only [sumN]
    by_cases e : k = n
    · subst e
      rw [sumN_zero fun i hi => h i (by omega) (by omega)]; omega
    · rw [sumN_one (n := n) k (by omega) fun i hi => h i (by omega), h n (by omega) (by omega)]; omega
theorem sumN_two {n : Nat} {f : Nat → Int} (k l : Nat) (hk : k < n) (hl : l < n) (hkl : k ≠ l) (h : ∀ i, i < n → i ≠ k → i ≠ l → f i = 0) : sumN n f = f k + f l := by
  have e : sumN n f = sumN n (fun i => (if i = k then f k else 0) + (if i = l then f l else 0)) := sumN_congr fun i hi => by
    by_cases e1 : i = k
    · subst e1; simp [hkl]
    · by_cases e2 : i = l
      · subst e2; simp [e1]
      · simp [e1, e2, h i hi e1 e2]
  rw [e, sumN_add, sumN_one (f := fun i => if i = k then f k else 0) k hk (fun i _ hi => by simp [hi]), sumN_one (f := fun i => if i = l then f l else 0) l hl (fun i _ hi => by simp [hi])]
  simp
theorem sumN_nonneg : ∀ {n : Nat} {f : Nat → Int}, (∀ i, i < n → 0 ≤ f i) → 0 ≤ sumN n f
  | 0, _, _ => by simp [sumN]
  | n + 1, f, h => by
    simp only [sumN]
    have := sumN_nonneg (n := n) (f := f) fun i hi => h i (by omega)
    have := h n (by omega)
    omega
theorem sumN_neg_ex {n : Nat} {f : Nat → Int} (h : sumN n f < 0) : ∃ i, i < n ∧ f i < 0 := by
  apply Classical.byContradiction
  intro hn
  have := sumN_nonneg (n := n) (f := f) fun i hi => by
    apply Classical.byContradiction
    intro hc
    exact hn ⟨i, hi, by omega⟩
  omega
theorem sumN_split (m : Nat) : ∀ (k : Nat) (f : Nat → Int), sumN (m + k) f = sumN m f + sumN k (fun i => f (m + i))
  | 0, f => by simp [sumN]
  | k + 1, f => by
    show sumN (m + k) f + f (m + k) = _
    rw [sumN_split m k f]
    simp only [sumN]
    omega

/-! the determinant of the first M of a row of vectors -/
def dF (M : Nat) (B : Nat → Vec) : Int := det M 0 ((List.range M).map B)
def put (B : Nat → Vec) (i : Nat) (v : Vec) : Nat → Vec := fun k => if k = i then v else B k
theorem put_self {B : Nat → Vec} {i : Nat} {v : Vec} : put B i v i = v := if_pos rfl
theorem put_ne {B : Nat → Vec} {i k : Nat} {v : Vec} (h : k ≠ i) : put B i v k = B k := if_neg h
theorem dF_congr {M : Nat} {B B' : Nat → Vec} (h : ∀ i, i < M → B i = B' i) : dF M B = dF M B' := by
  unfold dF
  congr 1
  exact List.map_congr_left fun i hi => h i (List.mem_range.mp hi)
theorem range_cut {M i : Nat} (h : i < M) : List.range M = List.range i ++ i :: List.range' (i + 1) (M - i - 1) := by
  have e : M = i + (1 + (M - i - 1)) := by omega
  conv => lhs; rw [e, List.range_eq_range', ← List.range'_append_1, ← List.range'_append_1]
  simp [List.range_eq_range']
theorem put_cut {M i : Nat} (h : i < M) (B : Nat → Vec) (v : Vec) : (List.range M).map (put B i v) = (List.range i).map B ++ v :: (List.range' (i + 1) (M - i - 1)).map B := by
  rw [range_cut h, List.map_append, List.map_cons, put_self]
  congr 1
  · exact List.map_congr_left fun k hk => put_ne (by have := List.mem_range.mp hk; omega)
  · congr 1
    exact List.map_congr_left fun k hk => put_ne (by have := (List.mem_range'_1.mp hk).1; omega)
theorem dF_comb {M i : Nat} (h : i < M) (B : Nat → Vec) (a b : Int) (x y : Vec) : dF M (put B i (comb a b x y)) = a * dF M (put B i x) + b * dF M (put B i y) := by
  unfold dF
  rw [put_cut h, put_cut h, put_cut h]
  exact det_lin M 0 _ a b x y _
theorem dF_same {M i j : Nat} (hij : i < j) (hj : j < M) {B : Nat → Vec} (h : B i = B j) : dF M B = 0 := by
  unfold dF
  have e : List.range M = List.range i ++ i :: (List.range' (i + 1) (j - i - 1) ++ j :: List.range' (j + 1) (M - j - 1)) := by
    rw [range_cut (show i < M by omega)]
    congr 2
    have e : M - i - 1 = (j - i - 1) + (1 + (M - j - 1)) := by omega
    rw [e, ← List.range'_append_1, ← List.range'_append_1]
    have e2 : i + 1 + (j - i - 1) = j := by omega
    rw [e2]
    simp
  rw [e]
  simp only [List.map_append, List.map_cons]
  rw [h]
  exact swp_far (det_swp M 0) _ _ _ _
theorem dF_same' {M i j : Nat} (hi : i < M) (hj : j < M) (hij : i ≠ j) {B : Nat → Vec} (h : B i = B j) : dF M B = 0 := by
  rcases Nat.lt_or_gt_of_ne hij with e | e
  · exact dF_same e hj h
  · exact dF_same e hi h.symm
theorem dF_unit (M : Nat) : dF M unit = 1 := by
  unfold dF
  rw [List.range_eq_range']
  exact det_unit M 0
theorem dF_le {M : Nat} {X : Int} (hX : 1 ≤ X) {B : Nat → Vec} (h : ∀ i, i < M → ∀ j, -X ≤ B i j ∧ B i j ≤ X) : - (fac M * X ^ M) ≤ dF M B ∧ dF M B ≤ fac M * X ^ M :=
  det_le hX M 0 _ (by simp) fun x hx j => by
    obtain ⟨i, hi, rfl⟩ := List.mem_map.mp hx
    exact h i (List.mem_range.mp hi) j
theorem dF_scale {M i : Nat} (h : i < M) (B : Nat → Vec) (a : Int) (x : Vec) : dF M (put B i (fun j => a * x j)) = a * dF M (put B i x) := by
  have e : (fun j => a * x j) = comb a 0 x x := by funext j; simp [comb]
  rw [e, dF_comb h]; simp
def lcomb (n : Nat) (c : Nat → Int) (v : Nat → Vec) : Vec := fun j => sumN n (fun k => c k * v k j)
theorem dF_lcomb {M i : Nat} (h : i < M) (B : Nat → Vec) (c : Nat → Int) (v : Nat → Vec) : ∀ n, dF M (put B i (lcomb n c v)) = sumN n (fun k => c k * dF M (put B i (v k)))
  | 0 => by
    have e : lcomb 0 c v = comb 0 0 (v 0) (v 0) := by funext j; simp [lcomb, comb, sumN]
    rw [e, dF_comb h]; simp [sumN]
  | n + 1 => by
    have e : lcomb (n + 1) c v = comb 1 (c n) (lcomb n c v) (v n) := by funext j; simp [lcomb, comb, sumN]
    rw [e, dF_comb h, dF_lcomb h B c v n]; simp [sumN]
/-- two places changed -/
theorem dF_swap {M r i : Nat} (hr : r < M) (hi : i < M) (hne : i ≠ r) (B : Nat → Vec) (u v : Vec) : dF M (put (put B r u) i v) = - dF M (put (put B r v) i u) := by
  have z : ∀ x, dF M (put (put B r x) i x) = 0 := fun x => dF_same' hi hr hne (by rw [put_self, put_ne (Ne.symm hne), put_self])
  have com : ∀ x y, put (put B r x) i y = put (put B i y) r x := fun x y => by
    funext k
    unfold put
    by_cases e1 : k = i
    · simp [e1, hne]
    · simp [e1]
  have h := z (comb 1 1 u v)
  rw [dF_comb hi, com, com, dF_comb hr, dF_comb hr, ← com, ← com, ← com, ← com, z, z] at h
  omega
/-- the Plücker rule: what makes the division by D come out -/
theorem plu {M : Nat} {B : Nat → Vec} {D : Int} {u v : Vec} {cv : Nat → Int} (hv : ∀ j, D * v j = sumN M (fun k => cv k * B k j)) {i r : Nat} (hi : i < M) (hr : r < M) (hne : i ≠ r) :
    D * dF M (put (put B r u) i v) = cv i * dF M (put B r u) - cv r * dF M (put B i u) := by
  rw [← dF_scale hi]
  have e : (fun j => D * v j) = lcomb M cv B := by funext j; rw [hv j]; rfl
  rw [e, dF_lcomb hi, sumN_two i r hi hr hne]
  · have e1 : dF M (put (put B r u) i (B i)) = dF M (put B r u) := dF_congr fun k _ => by
      by_cases e : k = i
      · subst e; rw [put_self, put_ne hne]
      · rw [put_ne e]
    have e2 : dF M (put (put B r u) i (B r)) = - dF M (put B i u) := by
      rw [dF_swap hr hi hne]
      congr 1
      exact dF_congr fun k _ => by
        by_cases e : k = i
        · subst e; rw [put_self, put_self]
        · rw [put_ne e, put_ne e]
          by_cases e : k = r
          · subst e; rw [put_self]
          · rw [put_ne e]
    rw [e1, e2]; grind
  · intro k hk h1 h2
    rw [dF_same' hi hk (Ne.symm h1) (by rw [put_self, put_ne h1, put_ne h2])]
    simp

/-! the sheet as a table: D over all, c, the numbers of columns and rows -/
structure Tab where
  D : Int
  c : Nat → Nat → Int
  ac : Nat → Nat
  dn : Nat → Nat
def Tab.col (T : Tab) (n : Nat) (a : Nat → Vec) (bv : Vec) (s : Nat) : Vec := if s < n then a (T.ac s) else bv
def Tab.B (T : Tab) (a : Nat → Vec) : Nat → Vec := fun i => a (T.dn i)
/-- what holds between two pivots: n columns, m rows, M rows with the wishes; a: the vector of each number, bv: of the bounds -/
structure Inv (n m M : Nat) (a : Nat → Vec) (bv : Vec) (T : Tab) : Prop where
  mM : m ≤ M
  un : ∀ i, i < M → a (n + i) = unit i
  pos : 0 < T.D
  hD : T.D = dF M (T.B a)
  hc : ∀ i, i < M → ∀ s, s ≤ n → T.c i s = dF M (put (T.B a) i (T.col n a bv s))
  rel : ∀ s, s ≤ n → ∀ j, T.D * T.col n a bv s j = sumN M (fun i => T.c i s * T.B a i j)
  dnw : ∀ i, m ≤ i → i < M → T.dn i = n + i
  dni : ∀ i j, i < M → j < M → T.dn i = T.dn j → i = j
  aci : ∀ s t, s < n → t < n → T.ac s = T.ac t → s = t
  dis : ∀ i s, i < M → s < n → T.dn i ≠ T.ac s
  dnl : ∀ i, i < M → T.dn i < n + M
  acl : ∀ s, s < n → T.ac s < n + m
  rhs : ∀ i, i < m → 0 ≤ T.c i n
  cov : ∀ j, j < n + M → (∃ i, i < M ∧ T.dn i = j) ∨ ∃ s, s < n ∧ T.ac s = j
def Tab.piv (T : Tab) (r s : Nat) : Tab where
  D := T.c r s
  c := fun i t => if i = r then (if t = s then T.D else T.c r t) else if t = s then - T.c i s else (T.c i t * T.c r s - T.c i s * T.c r t) / T.D
  ac := fun t => if t = s then T.dn r else T.ac t
  dn := fun i => if i = r then T.ac s else T.dn i
section
variable {n m M : Nat} {a : Nat → Vec} {bv : Vec} {T : Tab} {r s : Nat}
/-- the division comes out -/
theorem Inv.exact (I : Inv n m M a bv T) (hr : r < M) (hs : s ≤ n) {i t : Nat} (hi : i < M) (ht : t ≤ n) (hir : i ≠ r) :
    T.D * dF M (put (put (T.B a) r (T.col n a bv s)) i (T.col n a bv t)) = T.c i t * T.c r s - T.c i s * T.c r t := by
  rw [plu (I.rel t ht) hi hr hir, ← I.hc r hr s hs, ← I.hc i hi s hs]; grind
theorem Inv.div (I : Inv n m M a bv T) (hr : r < M) (hs : s ≤ n) {i t : Nat} (hi : i < M) (ht : t ≤ n) (hir : i ≠ r) :
    T.D * ((T.c i t * T.c r s - T.c i s * T.c r t) / T.D) = T.c i t * T.c r s - T.c i s * T.c r t := by
  rw [← I.exact hr hs hi ht hir, Int.mul_ediv_cancel_left _ (by have := I.pos; omega)]
theorem Inv.quot (I : Inv n m M a bv T) (hr : r < M) (hs : s ≤ n) {i t : Nat} (hi : i < M) (ht : t ≤ n) (hir : i ≠ r) :
    (T.c i t * T.c r s - T.c i s * T.c r t) / T.D = dF M (put (put (T.B a) r (T.col n a bv s)) i (T.col n a bv t)) := by
  rw [← I.exact hr hs hi ht hir, Int.mul_ediv_cancel_left _ (by have := I.pos; omega)]
theorem Inv.piv (I : Inv n m M a bv T) (hr : r < m) (hs : s < n) (hp : 0 < T.c r s) (hmin : ∀ i, i < m → 0 < T.c i s → T.c r n * T.c i s ≤ T.c i n * T.c r s) :
    Inv n m M a bv (T.piv r s) := by
  have hM := I.mM
  have hrM : r < M := by omega
  have hD := I.pos
  have B1 : ∀ i, (T.piv r s).B a i = put (T.B a) r (T.col n a bv s) i := fun i => by
    simp only [Tab.B, Tab.piv, put, Tab.col, if_pos hs]
    split <;> rfl
  have C1 : ∀ t, (T.piv r s).col n a bv t = if t = s then T.B a r else T.col n a bv t := fun t => by
    simp only [Tab.B, Tab.piv, Tab.col]
    by_cases e : t = s
    · subst e; simp [hs]
    · simp [e]
  have K : ∀ i, i < M → i ≠ r → ∀ t, t ≤ n → t ≠ s → T.D * (T.piv r s).c i t = T.c i t * T.c r s - T.c i s * T.c r t := fun i hi hir t ht hts => by
    simp only [Tab.piv, if_neg hir, if_neg hts]
    exact I.div hrM (by omega) hi ht hir
  refine ⟨I.mM, I.un, hp, ?_, ?_, ?_, ?_, ?_, ?_, ?_, ?_, ?_, ?_, ?_⟩
  · show T.c r s = _
    rw [I.hc r hrM s (by omega)]
    exact dF_congr fun i _ => (B1 i).symm
  · intro i hi t ht
    rw [C1 t]
    have eP : ∀ v, dF M (put ((T.piv r s).B a) i v) = dF M (put (put (T.B a) r (T.col n a bv s)) i v) := fun v => dF_congr fun k _ => by
      unfold put; split
      · rfl
      · exact B1 k
    rw [eP]
    by_cases hir : i = r
    · subst hir
      have e1 : ∀ v, dF M (put (put (T.B a) i (T.col n a bv s)) i v) = dF M (put (T.B a) i v) := fun v => dF_congr fun k _ => by
        unfold put; split <;> rfl
      rw [e1]
      by_cases hts : t = s
      · simp only [Tab.piv, if_pos hts, if_true]
        rw [I.hD]
        exact dF_congr fun k _ => by
          unfold put; split
          · rename_i e; rw [e]
          · rfl
      · simp only [Tab.piv, if_neg hts, if_true]
        exact I.hc i hi t ht
    · by_cases hts : t = s
      · simp only [Tab.piv, if_pos hts, if_neg hir]
        rw [dF_swap hrM hi hir, I.hc i hi s (by omega)]
        congr 1
        exact dF_congr fun k _ => by
          unfold put; split
          · rfl
          · split
            · rename_i e; rw [e]
            · rfl
      · simp only [Tab.piv, if_neg hts, if_neg hir]
        exact I.quot hrM (by omega) hi ht hir
  · intro t ht j
    rw [C1 t]
    have es : ∀ f : Nat → Int, sumN M f = f r + sumN M (fun i => if i = r then 0 else f i) := fun f => by
      have e : sumN M f = sumN M (fun i => (if i = r then f r else 0) + (if i = r then 0 else f i)) := sumN_congr fun i _ => by
        by_cases e : i = r
        · subst e; simp
        · simp [e]
      rw [e, sumN_add, sumN_one (f := fun i => if i = r then f r else 0) r hrM (fun i _ hi => by simp [hi])]
      simp
    rw [es]
    have eB : (T.piv r s).B a r = T.col n a bv s := by rw [B1, put_self]
    by_cases hts : t = s
    · subst hts
      have R := I.rel t ht j
      rw [es] at R
      simp only [if_true]
      rw [eB]
      have e2 : sumN M (fun i => if i = r then 0 else (T.piv r t).c i t * (T.piv r t).B a i j) = - sumN M (fun i => if i = r then 0 else T.c i t * T.B a i j) := by
        rw [show (- sumN M (fun i => if i = r then 0 else T.c i t * T.B a i j) : Int) = (-1) * sumN M (fun i => if i = r then 0 else T.c i t * T.B a i j) by omega, ← sumN_mul]
        exact sumN_congr fun i hi => by
          by_cases e : i = r
          · simp [e]
          · rw [B1, put_ne e]
            simp only [Tab.piv, if_neg e, if_true]
            grind
      rw [e2]
      simp only [Tab.piv, if_true]
      grind
    · simp only [if_neg hts]
      have R := I.rel t ht j
      have R2 := I.rel s (by omega) j
      rw [es] at R R2
      rw [eB]
      have e0 : (T.piv r s).c r t = T.c r t := by simp [Tab.piv, hts]
      have eD : (T.piv r s).D = T.c r s := rfl
      rw [e0, eD]
      have e2 : T.D * sumN M (fun i => if i = r then 0 else (T.piv r s).c i t * (T.piv r s).B a i j) =
          T.c r s * sumN M (fun i => if i = r then 0 else T.c i t * T.B a i j) - T.c r t * sumN M (fun i => if i = r then 0 else T.c i s * T.B a i j) := by
        rw [← sumN_mul, ← sumN_mul, ← sumN_mul, show ∀ x y : Int, x - y = x + (-1) * y by omega, ← sumN_mul, ← sumN_add]
        exact sumN_congr fun i hi => by
          by_cases e : i = r
          · simp [e]
          · simp only [if_neg e]
            rw [B1, put_ne e, ← Int.mul_assoc, K i hi e t ht hts]
            grind
      have hDn : T.D ≠ 0 := by omega
      apply Int.eq_of_mul_eq_mul_left hDn
      rw [Int.mul_add, e2]
      grind
  · intro i h1 h2
    simp only [Tab.piv]
    rw [if_neg (by omega)]
    exact I.dnw i h1 h2
  · intro i j hi hj h
    simp only [Tab.piv] at h
    by_cases e1 : i = r
    · by_cases e2 : j = r
      · omega
      · rw [if_pos e1, if_neg e2] at h
        exact absurd h.symm (I.dis j s hj hs)
    · by_cases e2 : j = r
      · rw [if_neg e1, if_pos e2] at h
        exact absurd h (I.dis i s hi hs)
      · rw [if_neg e1, if_neg e2] at h
        exact I.dni i j hi hj h
  · intro t u ht hu h
    simp only [Tab.piv] at h
    by_cases e1 : t = s
    · by_cases e2 : u = s
      · omega
      · rw [if_pos e1, if_neg e2] at h
        exact absurd h (I.dis r u hrM hu)
    · by_cases e2 : u = s
      · rw [if_neg e1, if_pos e2] at h
        exact absurd h.symm (I.dis r t hrM ht)
      · rw [if_neg e1, if_neg e2] at h
        exact I.aci t u ht hu h
  · intro i t hi ht h
    simp only [Tab.piv] at h
    by_cases e1 : i = r
    · by_cases e2 : t = s
      · rw [if_pos e1, if_pos e2] at h
        exact I.dis r s hrM hs h.symm
      · rw [if_pos e1, if_neg e2] at h
        exact e2 (I.aci s t hs ht h).symm
    · by_cases e2 : t = s
      · rw [if_neg e1, if_pos e2] at h
        exact e1 (I.dni i r hi hrM h)
      · rw [if_neg e1, if_neg e2] at h
        exact I.dis i t hi ht h
  · intro i hi
    simp only [Tab.piv]
    split
    · have := I.acl s hs; omega
    · exact I.dnl i hi
  · intro t ht
    simp only [Tab.piv]
    split
    · have h1 := I.dnl r hrM
      apply Classical.byContradiction
      intro hc
      have h2 := I.dni r (T.dn r - n) hrM (by omega) (by rw [I.dnw (T.dn r - n) (by omega) (by omega)]; omega)
      omega
    · exact I.acl t ht
  · intro i hi
    by_cases e : i = r
    · subst e
      simp only [Tab.piv, if_true]
      rw [if_neg (by omega)]
      exact I.rhs i hi
    · have k := K i (by omega) e n (Nat.le_refl _) (by omega)
      have h1 := I.rhs i hi
      have h2 := I.rhs r hr
      have h3 : 0 ≤ T.c i n * T.c r s - T.c i s * T.c r n := by
        by_cases h4 : 0 < T.c i s
        · have := hmin i hi h4
          grind
        · have p1 : 0 ≤ T.c i n * T.c r s := Int.mul_nonneg h1 (by omega)
          have p2 : 0 ≤ (- T.c i s) * T.c r n := Int.mul_nonneg (by omega) h2
          grind
      rw [← k] at h3
      apply Classical.byContradiction
      intro hc
      have : T.D * (T.piv r s).c i n < 0 := Int.mul_neg_of_pos_of_neg hD (by omega)
      omega
  · intro j hj
    simp only [Tab.piv]
    rcases I.cov j hj with ⟨i, hi, e⟩ | ⟨t, ht, e⟩
    · by_cases h : i = r
      · exact .inr ⟨s, hs, by rw [if_pos rfl, ← h]; exact e⟩
      · exact .inl ⟨i, hi, by rw [if_neg h]; exact e⟩
    · by_cases h : t = s
      · exact .inl ⟨r, hrM, by rw [if_pos rfl, ← h]; exact e⟩
      · exact .inr ⟨t, ht, by rw [if_neg h]; exact e⟩
/-- no number is greater than the bound -/
theorem Inv.le (I : Inv n m M a bv T) {X : Int} (hX : 1 ≤ X) (ha : ∀ v j, -X ≤ a v j ∧ a v j ≤ X) (hb : ∀ j, -X ≤ bv j ∧ bv j ≤ X) :
    T.D ≤ fac M * X ^ M ∧ ∀ i, i < M → ∀ t, t ≤ n → - (fac M * X ^ M) ≤ T.c i t ∧ T.c i t ≤ fac M * X ^ M := by
  have hcol : ∀ t j, -X ≤ T.col n a bv t j ∧ T.col n a bv t j ≤ X := fun t j => by
    unfold Tab.col; split
    · exact ha _ j
    · exact hb j
  refine ⟨?_, fun i hi t ht => ?_⟩
  · rw [I.hD]
    exact (dF_le hX fun i _ j => ha _ j).2
  · rw [I.hc i hi t ht]
    exact dF_le hX fun k _ j => by
      unfold put; split
      · exact hcol t j
      · exact ha _ j
/-- nor a quotient of a pivot -/
theorem Inv.quot_le (I : Inv n m M a bv T) {X : Int} (hX : 1 ≤ X) (ha : ∀ v j, -X ≤ a v j ∧ a v j ≤ X) (hb : ∀ j, -X ≤ bv j ∧ bv j ≤ X) (hr : r < M) (hs : s ≤ n) {i t : Nat} (hi : i < M) (ht : t ≤ n) (hir : i ≠ r) :
    ∃ q, T.D * q = T.c i t * T.c r s - T.c i s * T.c r t ∧ - (fac M * X ^ M) ≤ q ∧ q ≤ fac M * X ^ M := by
  have hcol : ∀ t j, -X ≤ T.col n a bv t j ∧ T.col n a bv t j ≤ X := fun t j => by
    unfold Tab.col; split
    · exact ha _ j
    · exact hb j
  refine ⟨_, I.exact hr hs hi ht hir, ?_⟩
  exact dF_le hX fun k _ j => by
    unfold put; split
    · exact hcol t j
    · split
      · exact hcol s j
      · exact ha _ j
end
end Hd


/-! text Bland -/
set_option Elab.async false
set_option linter.all false
set_option maxHeartbeats 4000000
namespace Hd
/-! the least-number rule comes to an end -/
structure Chosen (n m w : Nat) (bar : Nat → Prop) (T : Tab) (s r : Nat) : Prop where
  hs : s < n
  hr : r < m
  nb : ¬ bar s
  g : 0 < T.c w s
  least : ∀ t, t < n → 0 < T.c w t → ¬ bar t → T.ac s ≤ T.ac t
  p : 0 < T.c r s
  out : ∀ i, i < m → 0 < T.c i s → T.c r n * T.c i s < T.c i n * T.c r s ∨ (T.c r n * T.c i s = T.c i n * T.c r s ∧ T.dn r ≤ T.dn i)
theorem Chosen.min {n m w : Nat} {bar : Nat → Prop} {T : Tab} {s r : Nat} (C : Chosen n m w bar T s r) : ∀ i, i < m → 0 < T.c i s → T.c r n * T.c i s ≤ T.c i n * T.c r s := fun i hi h => by
  rcases C.out i hi h with h | ⟨h, _⟩ <;> omega

theorem still {f : Nat → Int} {b : Int} (h1 : ∀ k, f (k + 1) ≤ f k) (h2 : ∀ k, b ≤ f k) : ∃ N, ∀ k, N ≤ k → f (k + 1) = f k := by
  have mono : ∀ N k, N ≤ k → f k ≤ f N := fun N k h => by
    induction k with
    | zero => have : N = 0 := by omega
              subst this; exact Int.le_refl _
    | succ k ih =>
      by_cases e : N = k + 1
      · subst e; exact Int.le_refl _
      · have := ih (by omega); have := h1 k; omega
  have go : ∀ d N, (f N - b).toNat ≤ d → ∃ N', ∀ k, N' ≤ k → f (k + 1) = f k := by
    intro d
    induction d with
    | zero => intro N hd
              refine ⟨N, fun k hk => ?_⟩
              have := mono N k hk; have := mono N (k + 1) (by omega); have := h2 k; have := h2 (k + 1); omega
    | succ d ih =>
      intro N hd
      by_cases e : ∀ k, N ≤ k → f (k + 1) = f k
      · exact ⟨N, e⟩
      · have ⟨k, hk⟩ := Classical.not_forall.mp e
        have ⟨hk1, hk2⟩ := Classical.not_imp.mp hk
        have := mono N k hk1; have := h1 k
        exact ih (k + 1) (by omega)
  exact go _ 0 (Nat.le_refl _)

theorem dvd_fac : ∀ (N : Nat) (d : Nat), 0 < d → d ≤ N → (d : Int) ∣ fac N
  | 0, d, h, h' => by omega
  | N + 1, d, h, h' => by
    by_cases e : d = N + 1
    · subst e; exact ⟨fac N, rfl⟩
    · obtain ⟨q, hq⟩ := dvd_fac N d h (by omega)
      refine ⟨(N + 1 : Nat) * q, ?_⟩
      show ((N + 1 : Nat) : Int) * fac N = _
      rw [hq]; grind

section
variable {n m M w : Nat} {a : Nat → Vec} {bv : Vec} {bar : Nat → Prop} {X : Int}

/-- a run of pivots without end -/
structure Run (n m M w : Nat) (a : Nat → Vec) (bv : Vec) (bar : Nat → Prop) (T : Nat → Tab) (S R : Nat → Nat) : Prop where
  mw : m ≤ w
  wM : w < M
  inv : ∀ k, Inv n m M a bv (T k)
  ch : ∀ k, Chosen n m w bar (T k) (S k) (R k)
  nx : ∀ k, T (k + 1) = (T k).piv (R k) (S k)

variable {T : Nat → Tab} {S R : Nat → Nat}
/-- the number that comes in, that goes out -/
def ent (T : Nat → Tab) (S : Nat → Nat) (k : Nat) : Nat := (T k).ac (S k)
def lv (T : Nat → Tab) (R : Nat → Nat) (k : Nat) : Nat := (T k).dn (R k)
def bas (m : Nat) (T : Nat → Tab) (k j : Nat) : Prop := ∃ i, i < m ∧ (T k).dn i = j
theorem Run.bas_succ (r : Run n m M w a bv bar T S R) (k j : Nat) : bas m T (k + 1) j ↔ (bas m T k j ∧ j ≠ lv T R k) ∨ j = ent T S k := by
  have C := r.ch k
  have I := r.inv k
  have mM := I.mM
  unfold bas ent lv
  rw [r.nx k]
  simp only [Tab.piv]
  constructor
  · rintro ⟨i, hi, e⟩
    by_cases h : i = R k
    · rw [if_pos h] at e; exact .inr e.symm
    · rw [if_neg h] at e
      refine .inl ⟨⟨i, hi, e⟩, fun h' => h ?_⟩
      exact I.dni i (R k) (by omega) (by have := C.hr; omega) (e.trans h')
  · rintro (⟨⟨i, hi, e⟩, h⟩ | h)
    · refine ⟨i, hi, ?_⟩
      rw [if_neg]
      · exact e
      · rintro rfl; exact h e.symm
    · exact ⟨R k, C.hr, by rw [if_pos rfl]; exact h.symm⟩
theorem Run.lv_bas (r : Run n m M w a bv bar T S R) (k : Nat) : bas m T k (lv T R k) := ⟨R k, (r.ch k).hr, rfl⟩
theorem Run.ent_not (r : Run n m M w a bv bar T S R) (k : Nat) : ¬ bas m T k (ent T S k) := fun ⟨i, hi, e⟩ =>
  (r.inv k).dis i (S k) (by have := (r.inv k).mM; omega) (r.ch k).hs e
/-- one that stands at a barred place stays there -/
theorem Run.barred (r : Run n m M w a bv bar T S R) {s : Nat} (hb : bar s) (k : Nat) : (T k).ac s = (T 0).ac s := by
  induction k with
  | zero => rfl
  | succ k ih =>
    rw [r.nx k]
    simp only [Tab.piv]
    rw [if_neg]
    · exact ih
    · rintro rfl; exact (r.ch k).nb hb
/-- the worth stands still from some turn on -/
theorem Run.flat (r : Run n m M w a bv bar T S R) (hX : 1 ≤ X) (ha : ∀ v j, -X ≤ a v j ∧ a v j ≤ X) (hb : ∀ j, -X ≤ bv j ∧ bv j ≤ X) : ∃ N, ∀ k, N ≤ k → (T k).c (R k) n = 0 := by
  have hZ : ∃ Z : Int, ∀ k, (T k).D ≤ Z ∧ -Z ≤ (T k).c w n ∧ (T k).c w n ≤ Z := ⟨_, fun k => ⟨((r.inv k).le hX ha hb).1, ((r.inv k).le hX ha hb).2 w r.wM n (Nat.le_refl _)⟩⟩
  obtain ⟨Z, hZ⟩ := hZ
  have hL : ∃ L : Int, 0 < L ∧ ∀ k, ∃ q, L = (T k).D * q := by
    refine ⟨fac Z.toNat, fac_pos _, fun k => ?_⟩
    have h1 := (r.inv k).pos
    have h2 := (hZ k).1
    obtain ⟨q, hq⟩ := dvd_fac Z.toNat (T k).D.toNat (by omega) (by omega)
    exact ⟨q, by rw [hq, Int.toNat_of_nonneg (by omega)]⟩
  obtain ⟨L, hL0, hL⟩ := hL
  have hq := fun k => Classical.choose_spec (hL k)
  have hq0 : ∀ k, 0 < Classical.choose (hL k) := fun k => by
    have h := hq k
    have h1 := (r.inv k).pos
    apply Classical.byContradiction
    intro hc
    have : (T k).D * Classical.choose (hL k) ≤ 0 := Int.mul_nonpos_of_nonneg_of_nonpos (by omega) (by omega)
    omega
  generalize hqe : (fun k => Classical.choose (hL k)) = q at *
  have hq' : ∀ k, L = (T k).D * q k := fun k => by rw [← hqe]; exact hq k
  have hq0' : ∀ k, 0 < q k := fun k => by rw [← hqe]; exact hq0 k
  -- one turn
  have step : ∀ k, (T k).D * (T (k + 1)).D * ((T k).c w n * q k - (T (k + 1)).c w n * q (k + 1)) = L * ((T k).c w (S k) * (T k).c (R k) n) := fun k => by
    have C := r.ch k
    have I := r.inv k
    have mM := I.mM
    have hd := I.div (r := R k) (s := S k) (i := w) (t := n) (by have := C.hr; omega) (by have := C.hs; omega) r.wM (Nat.le_refl _) (by have := C.hr; have := r.mw; omega)
    have e1 := hq' k
    have e2 := hq' (k + 1)
    have e3 : (T (k + 1)).D = (T k).c (R k) (S k) := by rw [r.nx k]; rfl
    have e4 : (T k).D * (T (k + 1)).c w n = (T k).c w n * (T k).c (R k) (S k) - (T k).c w (S k) * (T k).c (R k) n := by
      rw [r.nx k]
      simp only [Tab.piv]
      rw [if_neg (by have := C.hr; have := r.mw; omega), if_neg (by have := C.hs; omega)]
      exact hd
    rw [← e3] at e4
    grind
  have hstep0 : ∀ k, 0 ≤ (T k).c w (S k) * (T k).c (R k) n := fun k =>
    Int.mul_nonneg (by have := (r.ch k).g; omega) ((r.inv k).rhs _ (r.ch k).hr)
  have hDD : ∀ k, 0 < (T k).D * (T (k + 1)).D := fun k => Int.mul_pos (r.inv k).pos (r.inv (k + 1)).pos
  obtain ⟨N, hN⟩ := still (f := fun k => (T k).c w n * q k) (b := -(Z * L)) (fun k => by
    have h := step k
    have h0 : 0 ≤ L * ((T k).c w (S k) * (T k).c (R k) n) := Int.mul_nonneg (by omega) (hstep0 k)
    have h1 := hDD k
    apply Classical.byContradiction
    intro hc
    have : (T k).D * (T (k + 1)).D * ((T k).c w n * q k - (T (k + 1)).c w n * q (k + 1)) < 0 := Int.mul_neg_of_pos_of_neg h1 (by omega)
    omega) (fun k => by
    have h1 := hZ k
    have h2 := hq0' k
    have h3 := hq' k
    have h4 := (r.inv k).pos
    have h5 : q k ≤ L := by
      rw [h3]
      have := Int.mul_le_mul_of_nonneg_right (show 1 ≤ (T k).D by omega) (show 0 ≤ q k by omega)
      omega
    have h6 : 0 ≤ ((T k).c w n + Z) * q k := Int.mul_nonneg (by omega) (by omega)
    have h7 : 0 ≤ Z * (L - q k) := Int.mul_nonneg (by omega) (by omega)
    show -(Z * L) ≤ (T k).c w n * q k
    grind)
  refine ⟨N, fun k hk => ?_⟩
  have h := step k
  rw [hN k hk, Int.sub_self, Int.mul_zero] at h
  have h1 := (r.ch k).g
  rcases Int.mul_eq_zero.mp h.symm with h2 | h2
  · omega
  · rcases Int.mul_eq_zero.mp h2 with h3 | h3
    · omega
    · exact h3
/-- a number that stands at nought -/
def nil (n m : Nat) (T : Nat → Tab) (k j : Nat) : Prop := ∀ i, i < m → (T k).dn i = j → (T k).c i n = 0
theorem Run.nil_succ (r : Run n m M w a bv bar T S R) {k : Nat} (h0 : (T k).c (R k) n = 0) (j : Nat) : nil n m T (k + 1) j ↔ nil n m T k j := by
  have C := r.ch k
  have I := r.inv k
  have mM := I.mM
  have K : ∀ i, i < m → i ≠ R k → ((T (k + 1)).c i n = 0 ↔ (T k).c i n = 0) := fun i hi hir => by
    have hd := I.div (r := R k) (s := S k) (i := i) (t := n) (by have := C.hr; omega) (by have := C.hs; omega) (by omega) (Nat.le_refl _) hir
    have e4 : (T k).D * (T (k + 1)).c i n = (T k).c i n * (T k).c (R k) (S k) := by
      rw [r.nx k]
      simp only [Tab.piv]
      rw [if_neg hir, if_neg (by have := C.hs; omega), hd, h0]
      grind
    have h1 := I.pos
    have h2 := C.p
    constructor
    · intro h
      rw [h, Int.mul_zero] at e4
      rcases Int.mul_eq_zero.mp e4.symm with h | h
      · exact h
      · omega
    · intro h
      rw [h, Int.zero_mul] at e4
      rcases Int.mul_eq_zero.mp e4 with h | h
      · omega
      · exact h
  have e0 : (T (k + 1)).c (R k) n = 0 := by
    rw [r.nx k]
    simp only [Tab.piv, if_true]
    rw [if_neg (by have := C.hs; omega)]
    exact h0
  have ed : ∀ i, i ≠ R k → (T (k + 1)).dn i = (T k).dn i := fun i hi => by
    rw [r.nx k]
    simp only [Tab.piv, if_neg hi]
  constructor
  · intro h i hi e
    by_cases hir : i = R k
    · rw [hir]; exact h0
    · exact (K i hi hir).mp (h i hi (by rw [ed i hir]; exact e))
  · intro h i hi e
    by_cases hir : i = R k
    · rw [hir]; exact e0
    · exact (K i hi hir).mpr (h i hi (by rw [← ed i hir]; exact e))
theorem Run.nil_all (r : Run n m M w a bv bar T S R) {N : Nat} (hN : ∀ k, N ≤ k → (T k).c (R k) n = 0) {p q : Nat} (hp : N ≤ p) (hq : N ≤ q) (j : Nat) : nil n m T p j → nil n m T q j := by
  have up : ∀ d k, N ≤ k → (nil n m T (k + d) j ↔ nil n m T k j) := by
    intro d
    induction d with
    | zero => intro k _; exact Iff.rfl
    | succ d ih =>
      intro k hk
      exact (r.nil_succ (hN (k + d) (by omega)) j).trans (ih k hk)
  intro h
  have h1 := (up (p - N) N (Nat.le_refl _)).mp (by rw [show N + (p - N) = p by omega]; exact h)
  have h2 := (up (q - N) N (Nat.le_refl _)).mpr h1
  rwa [show N + (q - N) = q by omega] at h2
/-- one that stands in at one turn and not at another comes in or goes out between -/
theorem Run.flips (r : Run n m M w a bv bar T S R) {N k : Nat} (hf : ∀ i, N ≤ i → ent T S i < k ∧ lv T R i < k) {p q : Nat} (hp : N ≤ p) (hq : N ≤ q) {j : Nat} (h1 : bas m T p j) (h2 : ¬ bas m T q j) : j < k := by
  apply Classical.byContradiction
  intro hj
  have up : ∀ d i, N ≤ i → (bas m T (i + d) j ↔ bas m T i j) := by
    intro d
    induction d with
    | zero => intro i _; exact Iff.rfl
    | succ d ih =>
      intro i hi
      have := hf (i + d) (by omega)
      refine (r.bas_succ (i + d) j).trans (Iff.trans ?_ (ih i hi))
      constructor
      · rintro (⟨h, _⟩ | h)
        · exact h
        · omega
      · intro h
        exact .inl ⟨h, by omega⟩
  have h3 := (up (p - N) N (Nat.le_refl _)).mp (by rw [show N + (p - N) = p by omega]; exact h1)
  have h4 := (up (q - N) N (Nat.le_refl _)).mpr h3
  rw [show N + (q - N) = q by omega] at h4
  exact h2 h4
/-- the greatest one that moves doesn't both come in and go out -/
theorem Run.once (r : Run n m M w a bv bar T S R) {N t : Nat} (hN : ∀ k, N ≤ k → (T k).c (R k) n = 0) (hf : ∀ i, N ≤ i → ent T S i < t + 1 ∧ lv T R i < t + 1) {p q : Nat} (hp : N ≤ p) (hq : N ≤ q)
    (ep : ent T S p = t) (eq : lv T R q = t) : False := by
  have Ip := r.inv p
  have Iq := r.inv q
  have Cp := r.ch p
  have Cq := r.ch q
  have mM := Ip.mM
  have mw := r.mw
  have wM := r.wM
  have hs := Cq.hs
  have hr := Cq.hr
  have hsp := Cp.hs
  -- the number that comes in at q is less than t
  have hbt : bas m T q t := eq ▸ r.lv_bas q
  have het : ent T S q ≠ t := fun h => r.ent_not q (h ▸ hbt)
  have he := (hf q hq).1
  have het' : ent T S q < t := by omega
  -- the functional of the wish at p
  have phi : (T q).D * dF M (put ((T p).B a) w (a ((T q).ac (S q)))) = sumN M (fun i => (T q).c i (S q) * dF M (put ((T p).B a) w (a ((T q).dn i)))) := by
    rw [← dF_scale wM, ← dF_lcomb wM]
    congr 1
    congr 1
    funext j
    have := Iq.rel (S q) (by omega) j
    rw [Tab.col, if_pos hs] at this
    rw [this]
    rfl
  have pbas : ∀ i, i < M → i ≠ w → dF M (put ((T p).B a) w (a ((T p).dn i))) = 0 := fun i hi hne =>
    dF_same' wM hi (Ne.symm hne) (by rw [put_self, put_ne hne]; rfl)
  have pnon : ∀ s, s < n → dF M (put ((T p).B a) w (a ((T p).ac s))) = (T p).c w s := fun s hs => by
    rw [Ip.hc w wM s (by omega), Tab.col, if_pos hs]
  have pw : dF M (put ((T p).B a) w (a ((T p).dn w))) = (T p).D := by
    rw [Ip.hD]
    exact dF_congr fun i _ => by
      unfold put; split
      · rename_i e; rw [e]; rfl
      · rfl
  have key : ∀ j, j < n + M → dF M (put ((T p).B a) w (a j)) = 0 ∨ (∃ s, s < n ∧ (T p).ac s = j ∧ dF M (put ((T p).B a) w (a j)) = (T p).c w s) ∨ (T p).dn w = j := fun j hj => by
    rcases Ip.cov j hj with ⟨i, hi, e⟩ | ⟨s, hs, e⟩
    · by_cases h : i = w
      · exact .inr (.inr (h ▸ e))
      · exact .inl (e ▸ pbas i hi h)
    · exact .inr (.inl ⟨s, hs, e, e ▸ pnon s hs⟩)
  have dnwp : (T p).dn w = n + w := Ip.dnw w mw wM
  -- at p the entering number of q does not better the wish
  have hle : dF M (put ((T p).B a) w (a ((T q).ac (S q)))) ≤ 0 := by
    have hlt := Iq.acl (S q) hs
    rcases key _ (show (T q).ac (S q) < n + M by omega) with h | ⟨s, hs', e, h⟩ | h
    · omega
    · rw [h]
      apply Classical.byContradiction
      intro hc
      by_cases hb : bar s
      · have e1 := r.barred hb p
        have e2 := r.barred hb q
        have e3 := Iq.aci s (S q) hs' hs (by rw [e2, ← e1, e])
        exact Cq.nb (e3 ▸ hb)
      · have h1 := Cp.least s hs' (by omega) hb
        have : (T p).ac (S p) = t := ep
        have : (T q).ac (S q) = ent T S q := rfl
        omega
    · omega
  -- so some row at q takes it below nought
  obtain ⟨i, hi, hneg⟩ : ∃ i, i < m ∧ (T q).c i (S q) * dF M (put ((T p).B a) w (a ((T q).dn i))) < 0 := by
    have e : M = m + (M - m) := by omega
    have rest : sumN (M - m) (fun i => (T q).c (m + i) (S q) * dF M (put ((T p).B a) w (a ((T q).dn (m + i))))) = (T q).c w (S q) * (T p).D := by
      rw [sumN_one (w - m) (by omega)]
      · show (T q).c (m + (w - m)) (S q) * _ = _
        rw [show m + (w - m) = w by omega, Iq.dnw w mw wM, ← dnwp, pw]
      · intro i hi hne
        rw [Iq.dnw (m + i) (by omega) (by omega), ← Ip.dnw (m + i) (by omega) (by omega), pbas (m + i) (by omega) (by omega)]
        simp
    have tot := phi
    rw [show sumN M (fun i => (T q).c i (S q) * dF M (put ((T p).B a) w (a ((T q).dn i)))) = sumN (m + (M - m)) (fun i => (T q).c i (S q) * dF M (put ((T p).B a) w (a ((T q).dn i)))) by rw [← e], sumN_split, rest] at tot
    apply sumN_neg_ex
    have h1 : (T q).D * dF M (put ((T p).B a) w (a ((T q).ac (S q)))) ≤ 0 := Int.mul_nonpos_of_nonneg_of_nonpos (by have := Iq.pos; omega) hle
    have h2 : 0 < (T q).c w (S q) * (T p).D := Int.mul_pos Cq.g Ip.pos
    omega
  have hj : bas m T q ((T q).dn i) := ⟨i, hi, rfl⟩
  have hjl : (T q).dn i < n + M := Iq.dnl i (by omega)
  rcases key _ hjl with h | ⟨s, hs', e, h⟩ | h
  · rw [h] at hneg; simp at hneg
  · -- it stands at a place at p: it moves
    have hnp : ¬ bas m T p ((T q).dn i) := fun ⟨i', hi', e'⟩ => Ip.dis i' s (by omega) hs' (e'.trans e.symm)
    have hlt := r.flips hf hq hp hj hnp
    have hbs : ¬ bar s := fun hb => by
      have e1 := r.barred hb p
      have e2 := r.barred hb q
      exact Iq.dis i s (by omega) hs' (by rw [e2, ← e1, e])
    rw [h] at hneg
    by_cases ht : (T q).dn i = t
    · have ei : i = R q := Iq.dni i (R q) (by omega) (by omega) (ht.trans eq.symm)
      have es : s = S p := Ip.aci s (S p) hs' hsp (by rw [e, ht]; exact ep.symm)
      subst es
      rw [ei] at hneg
      have := Int.mul_pos Cq.p Cp.g
      omega
    · have hg : (T p).c w s ≤ 0 := by
        apply Classical.byContradiction
        intro hc
        have h1 := Cp.least s hs' (by omega) hbs
        have : (T p).ac (S p) = t := ep
        omega
      have hci : 0 < (T q).c i (S q) := by
        apply Classical.byContradiction
        intro hc
        have : 0 ≤ (-(T q).c i (S q)) * (-(T p).c w s) := Int.mul_nonneg (by omega) (by omega)
        have e0 : (-(T q).c i (S q)) * (-(T p).c w s) = (T q).c i (S q) * (T p).c w s := by grind
        omega
      have hz : (T q).c i n = 0 := r.nil_all hN hp hq _ (fun i' hi' e' => absurd ⟨i', hi', e'⟩ hnp) i hi rfl
      have hrz := hN q hq
      rcases Cq.out i hi hci with h | ⟨_, h⟩
      · rw [hz, hrz] at h; simp at h
      · have : (T q).dn (R q) = t := eq
        omega
  · have : i = w := Iq.dni i w (by omega) wM (by rw [← h, dnwp, Iq.dnw w mw wM])
    omega
/-- there is no run without end -/
theorem Run.absurd (r : Run n m M w a bv bar T S R) (hX : 1 ≤ X) (ha : ∀ v j, -X ≤ a v j ∧ a v j ≤ X) (hb : ∀ j, -X ≤ bv j ∧ bv j ≤ X) : False := by
  obtain ⟨N0, hN0⟩ := r.flat hX ha hb
  have down : ∀ d k, k + d = n + M → ∃ N, N0 ≤ N ∧ ∀ i, N ≤ i → ent T S i < k ∧ lv T R i < k := by
    intro d
    induction d with
    | zero => intro k hk
              refine ⟨N0, Nat.le_refl _, fun i _ => ?_⟩
              have I := r.inv i
              have h1 := I.acl (S i) (r.ch i).hs
              have h2 := I.dnl (R i) (by have := (r.ch i).hr; have := I.mM; omega)
              have := I.mM
              unfold ent lv
              omega
    | succ d ih =>
      intro k hk
      obtain ⟨N, hN, hf⟩ := ih (k + 1) (by omega)
      have hone := fun p q hp hq => r.once (t := k) (fun i hi => hN0 i (Nat.le_trans hN hi)) hf (p := p) (q := q) hp hq
      by_cases he : ∃ p, N ≤ p ∧ ent T S p = k
      · obtain ⟨p, hp, ep⟩ := he
        have nol : ∀ q, N ≤ q → lv T R q ≠ k := fun q hq e => hone p q hp hq ep e
        -- k stays in
        have stay : ∀ d, bas m T (p + 1 + d) k := by
          intro d
          induction d with
          | zero => exact (r.bas_succ p k).mpr (.inr ep.symm)
          | succ d ih => exact (r.bas_succ (p + 1 + d) k).mpr (.inl ⟨ih, fun h => nol _ (by omega) h.symm⟩)
        refine ⟨p + 1, by omega, fun i hi => ?_⟩
        have h1 := hf i (by omega)
        have h2 := nol i (by omega)
        have h3 : ent T S i ≠ k := fun h => r.ent_not i (h ▸ (show i = p + 1 + (i - (p + 1)) by omega) ▸ stay (i - (p + 1)))
        omega
      · have noe : ∀ p, N ≤ p → ent T S p ≠ k := fun p hp e => he ⟨p, hp, e⟩
        by_cases hl : ∃ q, N ≤ q ∧ lv T R q = k
        · obtain ⟨q, hq, eq⟩ := hl
          have stay : ∀ d, ¬ bas m T (q + 1 + d) k := by
            intro d
            induction d with
            | zero => intro h
                      rcases (r.bas_succ q k).mp h with ⟨_, h⟩ | h
                      · exact h eq.symm
                      · exact noe q hq h.symm
            | succ d ih => intro h
                           rcases (r.bas_succ (q + 1 + d) k).mp h with ⟨h, _⟩ | h
                           · exact ih h
                           · exact noe _ (by omega) h.symm
          refine ⟨q + 1, by omega, fun i hi => ?_⟩
          have h1 := hf i (by omega)
          have h2 := noe i (by omega)
          have h3 : lv T R i ≠ k := fun h => by
            have hb := r.lv_bas i
            rw [h] at hb
            exact stay (i - (q + 1)) (by rw [show q + 1 + (i - (q + 1)) = i by omega]; exact hb)
          omega
        · refine ⟨N, hN, fun i hi => ?_⟩
          have h1 := hf i hi
          have h2 := noe i hi
          have h3 : lv T R i ≠ k := fun h => hl ⟨i, hi, h⟩
          omega
  obtain ⟨N, _, h⟩ := down (n + M) 0 (by omega)
  have := (h N (Nat.le_refl _)).1
  omega
end
end Hd


/-! text Mir -/
set_option Elab.async false
set_option linter.all false
set_option maxHeartbeats 4000000
/-! The mirror: what the program's defs reckon, as plain functions. -/
namespace Hd
/-- a fraction: top, bottom -/
abbrev Fr := Int × Int
def gcdI (a b : Int) : Int := ((Nat.gcd a.natAbs b.natAbs : Nat) : Int)
theorem gcdI_zero (a : Int) (h : 0 ≤ a) : gcdI a 0 = a := by
  unfold gcdI
  simp
  omega
theorem gcdI_step {a b : Int} (ha : 0 ≤ a) (hb : 0 < b) : gcdI b (a % b) = gcdI a b := by
  obtain ⟨n, rfl⟩ := Int.eq_ofNat_of_zero_le ha
  obtain ⟨m, rfl⟩ := Int.eq_ofNat_of_zero_le (show 0 ≤ b by omega)
  unfold gcdI
  congr 1
  rw [← Int.natCast_emod]
  simp only [Int.natAbs_natCast]
  rw [Nat.gcd_comm m, ← Nat.gcd_rec, Nat.gcd_comm]
theorem gcdI_abs (a b : Int) : gcdI (if a < 0 then -a else a) (if b < 0 then -b else b) = gcdI a b := by
  unfold gcdI
  have e : ∀ x : Int, (if x < 0 then -x else x).natAbs = x.natAbs := fun x => by split <;> omega
  rw [e, e]
theorem gcdI_pos {a b : Int} (hb : b ≠ 0) : 0 < gcdI a b := by
  unfold gcdI
  have : 0 < Nat.gcd a.natAbs b.natAbs := Nat.gcd_pos_of_pos_right _ (by omega)
  omega
theorem gcdI_le {a b : Int} (hb : 0 < b) : gcdI a b ≤ b := by
  unfold gcdI
  have := Nat.gcd_le_right (m := a.natAbs) (show 0 < b.natAbs by omega)
  omega
theorem gcdI_dvd_left (a b : Int) : gcdI a b ∣ a := by
  unfold gcdI
  rw [Int.ofNat_dvd_left]
  exact Nat.gcd_dvd_left _ _
theorem gcdI_dvd_right (a b : Int) : gcdI a b ∣ b := by
  unfold gcdI
  rw [Int.ofNat_dvd_left]
  exact Nat.gcd_dvd_right _ _
/-- the fraction of two numbers, the second above nought -/
def ratio (t b : Int) : Fr := (t / gcdI t b, b / gcdI t b)
theorem ratio_pos {t b : Int} (hb : 0 < b) : 0 < (ratio t b).2 := by
  have h1 := gcdI_pos (a := t) (b := b) (by omega)
  obtain ⟨q, hq⟩ := gcdI_dvd_right t b
  show 0 < b / gcdI t b
  generalize gcdI t b = g at *
  rw [hq, Int.mul_ediv_cancel_left _ (by omega)]
  apply Classical.byContradiction
  intro hc
  have : g * q ≤ 0 := Int.mul_nonpos_of_nonneg_of_nonpos (by omega) (by omega)
  omega
theorem ratio_cross {t b : Int} (hb : 0 < b) : (ratio t b).1 * b = t * (ratio t b).2 := by
  have h1 := gcdI_pos (a := t) (b := b) (by omega)
  obtain ⟨q, hq⟩ := gcdI_dvd_right t b
  obtain ⟨p, hp⟩ := gcdI_dvd_left t b
  show t / gcdI t b * b = t * (b / gcdI t b)
  generalize gcdI t b = g at *
  rw [hq, hp, Int.mul_ediv_cancel_left _ (by omega), Int.mul_ediv_cancel_left _ (by omega)]
  grind
theorem ratio_low {t b : Int} (hb : 0 < b) : gcdI (ratio t b).1 (ratio t b).2 = 1 := by
  have h0 := gcdI_pos (a := t) (b := b) (by omega)
  have e1 : (ratio t b).1.natAbs = t.natAbs / Nat.gcd t.natAbs b.natAbs := by
    show (t / gcdI t b).natAbs = _
    rw [Int.natAbs_ediv_of_dvd (gcdI_dvd_left t b)]
    rfl
  have e2 : (ratio t b).2.natAbs = b.natAbs / Nat.gcd t.natAbs b.natAbs := by
    show (b / gcdI t b).natAbs = _
    rw [Int.natAbs_ediv_of_dvd (gcdI_dvd_right t b)]
    rfl
  unfold gcdI
  rw [e1, e2, Nat.gcd_div (Nat.gcd_dvd_left _ _) (Nat.gcd_dvd_right _ _), Nat.div_self]
  · rfl
  · exact Nat.gcd_pos_of_pos_right _ (by omega)
theorem ratio_abs {t b : Int} (hb : 0 < b) : (ratio t b).1.natAbs ≤ t.natAbs ∧ (ratio t b).2 ≤ b := by
  have h0 := gcdI_pos (a := t) (b := b) (by omega)
  constructor
  · show (t / gcdI t b).natAbs ≤ _
    rw [Int.natAbs_ediv_of_dvd (gcdI_dvd_left t b)]
    exact Nat.div_le_self _ _
  · show b / gcdI t b ≤ b
    exact Int.ediv_le_self _ (by omega)
theorem ratio_nonneg {t b : Int} (hb : 0 < b) (ht : 0 ≤ t) : 0 ≤ (ratio t b).1 :=
  Int.ediv_nonneg ht (by have := gcdI_pos (a := t) (b := b) (by omega); omega)
/-- the least number that all bottoms divide -/
def sharedBottom (fs : List Fr) : Int := fs.foldl (fun w f => w * (ratio f.2 w).1) 1
def asWholes (fs : List Fr) (by_ : Int) : List Int := fs.map fun f => f.1 * (by_ / f.2)

/-! the law's own defs -/
def lawMenu : List Int := [0, 1, 0, -1, 0, 1]
def lawNumber (c : Int) (sort : Int) : Fr :=
  if sort = 0 then (c % 6 - 2, 1) else if sort = 1 then (lawMenu.getD (c % 6).toNat 0, 1)
  else if sort = 2 then ratio (c % 601 - 200) (1 + c / 601 % 30) else ratio (c % 2000000000 - 1000000000) (1 + c / 7 % 997)
def absI (i : Int) : Int := if i < 0 then -i else i
def lawBound (c sort zeros : Int) : Fr := if zeros = 1 ∧ c % 4 < 3 then (0, 1) else (absI (lawNumber (c / 4) sort).1, (lawNumber (c / 4) sort).2)
def lawPart (f : Fr) : Bool := decide (0 ≤ f.1) && decide (1 ≤ f.2) && decide (gcdI f.1 f.2 = 1)
def lawList (fs : List Fr) (many : Nat) : Bool := decide (fs.length = many) && fs.all lawPart
def dotStep (z : Fr) (p : Fr × Fr) : Fr := (z.1 * p.1.2 * p.2.2 + p.1.1 * p.2.1 * z.2, z.2 * p.1.2 * p.2.2)
def lawDot (fs gs : List Fr) : Fr := (fs.zip gs).foldl dotStep (0, 1)
def lawLess (f g : Fr) : Fr := (f.1 * g.2 - g.1 * f.2, f.2 * g.2)
def lawTimes (f g : Fr) : Fr := (f.1 * g.1, f.2 * g.2)
def lawFits (rows : List (List Fr)) (bounds fit : List Fr) : Bool := (rows.zip bounds).all fun p => !decide (0 < (lawLess (lawDot p.1 fit) p.2).1)
def lawIsWay (rows : List (List Fr)) (wish way : List Fr) : Bool := lawList way wish.length && rows.all fun r => !decide (0 < (lawDot r way).1)
def colOf (rows : List (List Fr)) (k : Nat) : List Fr := rows.map fun r => r.getD k (0, 1)
def lawIsBest (rows : List (List Fr)) (bounds wish fit prices : List Fr) : Bool :=
  lawList prices rows.length && ((List.range wish.length).all fun k => !decide ((lawLess (lawDot (colOf rows k) prices) (wish.getD k (0, 1))).1 < 0)) &&
    decide ((lawLess (lawDot bounds prices) (lawDot wish fit)).1 = 0)
def lawIsNext (rows : List (List Fr)) (bounds wish second fit others : List Fr) (lift : Fr) : Bool :=
  lawList others rows.length && lawList [lift] 1 &&
    ((List.range wish.length).all fun k => !decide ((lawLess (lawLess (lawDot (colOf rows k) others) (lawTimes lift (wish.getD k (0, 1)))) (second.getD k (0, 1))).1 < 0)) &&
    decide ((lawLess (lawLess (lawDot bounds others) (lawTimes lift (lawDot wish fit))) (lawDot second fit)).1 = 0)

/-! sizes -/
def Sm (n : Nat) (i : Int) : Prop := i.natAbs < 2 ^ n
theorem Sm.mono {n m : Nat} {i : Int} (h : Sm n i) (hm : n ≤ m) : Sm m i := Nat.lt_of_lt_of_le h (Nat.pow_le_pow_right (by omega) hm)
theorem Sm.mul {n m : Nat} {i j : Int} (h : Sm n i) (h2 : Sm m j) : Sm (n + m) (i * j) := by
  unfold Sm at *
  rw [Int.natAbs_mul, Nat.pow_add]
  exact Nat.mul_lt_mul'' h h2
theorem Sm.add {n : Nat} {i j : Int} (h : Sm n i) (h2 : Sm n j) : Sm (n + 1) (i + j) := by
  unfold Sm at *
  rw [Nat.pow_succ]
  omega
theorem Sm.sub {n : Nat} {i j : Int} (h : Sm n i) (h2 : Sm n j) : Sm (n + 1) (i - j) := by
  unfold Sm at *
  rw [Nat.pow_succ]
  omega
theorem Sm.zero {n : Nat} : Sm n 0 := Nat.two_pow_pos n
theorem Sm.one {n : Nat} (h : 0 < n) : Sm n 1 := by
  have : 2 ^ 1 ≤ 2 ^ n := Nat.pow_le_pow_right (by omega) h
  unfold Sm
  omega
theorem Sm.neg {n : Nat} {i : Int} (h : Sm n i) : Sm n (-i) := by unfold Sm at *; omega
/-- a fraction of small numbers, the bottom above nought -/
structure Bd (n : Nat) (f : Fr) : Prop where
  top : Sm n f.1
  bot : Sm n f.2
  pos : 0 < f.2
theorem Bd.mono {n m : Nat} {f : Fr} (h : Bd n f) (hm : n ≤ m) : Bd m f := ⟨h.top.mono hm, h.bot.mono hm, h.pos⟩
theorem Bd.less {n m : Nat} {f g : Fr} (h : Bd n f) (h2 : Bd m g) : Bd (n + m + 1) (lawLess f g) :=
  ⟨(h.top.mul h2.bot).sub (by have := h2.top.mul h.bot; rw [Nat.add_comm m n] at this; exact this), (h.bot.mul h2.bot).mono (by omega), Int.mul_pos h.pos h2.pos⟩
theorem Bd.times {n m : Nat} {f g : Fr} (h : Bd n f) (h2 : Bd m g) : Bd (n + m) (lawTimes f g) := ⟨h.top.mul h2.top, h.bot.mul h2.bot, Int.mul_pos h.pos h2.pos⟩
theorem Bd.step {z a b : Nat} {f : Fr} {p : Fr × Fr} (h : Bd z f) (h1 : Bd a p.1) (h2 : Bd b p.2) : Bd (z + a + b + 1) (dotStep f p) :=
  ⟨((h.top.mul h1.bot).mul h2.bot).add (((h1.top.mul h2.top).mul h.bot).mono (by omega)), ((h.bot.mul h1.bot).mul h2.bot).mono (by omega), Int.mul_pos (Int.mul_pos h.pos h1.pos) h2.pos⟩
theorem Bd.dots {a b : Nat} : ∀ (ps : List (Fr × Fr)) (z : Nat) (f : Fr), Bd z f → (∀ p ∈ ps, Bd a p.1 ∧ Bd b p.2) → Bd (z + ps.length * (a + b + 1)) (ps.foldl dotStep f)
  | [], z, f, h, _ => by simpa using h
  | p :: ps, z, f, h, hp => by
    have h1 := hp p (by simp)
    have := Bd.dots ps _ _ (h.step h1.1 h1.2) fun q hq => hp q (by simp [hq])
    rw [List.foldl_cons]
    refine this.mono ?_
    rw [List.length_cons, Nat.succ_mul]
    omega
theorem Bd.dot {a b : Nat} {fs gs : List Fr} (h1 : ∀ f ∈ fs, Bd a f) (h2 : ∀ g ∈ gs, Bd b g) : Bd (1 + fs.length * (a + b + 1)) (lawDot fs gs) := by
  have := Bd.dots (fs.zip gs) 1 (0, 1) ⟨Sm.zero, Sm.one (by omega), by decide⟩ fun p hp => ⟨h1 _ (List.of_mem_zip hp).1, h2 _ (List.of_mem_zip hp).2⟩
  refine this.mono ?_
  have : (fs.zip gs).length ≤ fs.length := by rw [List.length_zip]; omega
  have := Nat.mul_le_mul_right (a + b + 1) this
  omega
theorem Bd.ratio {n : Nat} {t b : Int} (ht : Sm n t) (hb : Sm n b) (h : 0 < b) : Bd n (ratio t b) := by
  have h1 := ratio_abs (t := t) (b := b) h
  have h2 := ratio_pos (t := t) (b := b) h
  unfold Sm at *
  exact ⟨Nat.lt_of_le_of_lt h1.1 ht, by unfold Sm; omega, h2⟩
theorem lawMenu_lt (k : Nat) : Sm 2 (lawMenu.getD k 0) := by
  unfold Sm lawMenu
  match k with
  | 0 => decide
  | 1 => decide
  | 2 => decide
  | 3 => decide
  | 4 => decide
  | 5 => decide
  | k + 6 => simp
theorem lawNumber_bd (c sort : Int) : Bd 31 (lawNumber c sort) ∧ (lawNumber c sort).2 ≤ 997 := by
  unfold lawNumber
  have h6 := Int.emod_nonneg c (show (6 : Int) ≠ 0 by decide)
  have h6' := Int.emod_lt_of_pos c (show (0 : Int) < 6 by decide)
  split
  · exact ⟨⟨by unfold Sm; omega, Sm.one (by decide), Int.one_pos⟩, show (1 : Int) ≤ 997 by decide⟩
  · split
    · exact ⟨⟨(lawMenu_lt _).mono (by decide), Sm.one (by decide), Int.one_pos⟩, show (1 : Int) ≤ 997 by decide⟩
    · split
      · have a1 := Int.emod_nonneg c (show (601 : Int) ≠ 0 by decide)
        have a2 := Int.emod_lt_of_pos c (show (0 : Int) < 601 by decide)
        have b1 := Int.emod_nonneg (c / 601) (show (30 : Int) ≠ 0 by decide)
        have b2 := Int.emod_lt_of_pos (c / 601) (show (0 : Int) < 30 by decide)
        have h0 : 0 < 1 + c / 601 % 30 := by omega
        exact ⟨Bd.ratio (by unfold Sm; omega) (by unfold Sm; omega) h0, by have := (ratio_abs (t := c % 601 - 200) h0).2; omega⟩
      · have a1 := Int.emod_nonneg c (show (2000000000 : Int) ≠ 0 by decide)
        have a2 := Int.emod_lt_of_pos c (show (0 : Int) < 2000000000 by decide)
        have b1 := Int.emod_nonneg (c / 7) (show (997 : Int) ≠ 0 by decide)
        have b2 := Int.emod_lt_of_pos (c / 7) (show (0 : Int) < 997 by decide)
        have h0 : 0 < 1 + c / 7 % 997 := by omega
        exact ⟨Bd.ratio (by unfold Sm; omega) (by unfold Sm; omega) h0, by have := (ratio_abs (t := c % 2000000000 - 1000000000) h0).2; omega⟩
theorem lawBound_bd (c sort zeros : Int) : Bd 31 (lawBound c sort zeros) ∧ (lawBound c sort zeros).2 ≤ 997 ∧ 0 ≤ (lawBound c sort zeros).1 := by
  unfold lawBound
  split
  · exact ⟨⟨Sm.zero, by unfold Sm; decide, by decide⟩, by decide, by decide⟩
  · have h := lawNumber_bd (c / 4) sort
    refine ⟨⟨?_, h.1.bot, h.1.pos⟩, h.2, ?_⟩
    · have := h.1.top
      unfold Sm absI at *
      show (if (lawNumber (c / 4) sort).1 < 0 then _ else _ : Int).natAbs < _
      split <;> omega
    · show 0 ≤ absI _
      unfold absI
      split <;> omega
end Hd


/-! text Sheet -/
set_option Elab.async false
set_option linter.all false
set_option maxHeartbeats 4000000
/-! The mirror of class Sheet, and what ties it to the table's theory. -/
namespace Hd
structure Sh where
  wide : Nat
  high : Nat
  scales : List Int
  wished : List Int
  cells : List (List Int)
  bottom : Int
  across : List Nat
  down : List Nat
/-- the number at row i, place s -/
def Sh.c (T : Sh) (i s : Nat) : Int := (T.cells.getD i []).getD s 0
def Sh.ac (T : Sh) (s : Nat) : Nat := T.across.getD s 0
def Sh.dn (T : Sh) (i : Nat) : Nat := T.down.getD i 0
/-- the lists are as long as they should -/
structure Wf (n m M : Nat) (T : Sh) : Prop where
  wide : T.wide = n
  high : T.high = m
  mM : m ≤ M
  cl : T.cells.length = M
  rl : ∀ row ∈ T.cells, row.length = n + 1
  al : T.across.length = n
  dl : T.down.length = m
  sl : T.scales.length = m
  wl : T.wished.length + m = M
def pivRow (row prow : List Int) (b bot : Int) (s : Nat) : List Int := (List.zipWith (fun x y => (x * b - row.getD s 0 * y) / bot) row prow).set s (0 - row.getD s 0)
def Sh.pivot (T : Sh) (r s : Nat) : Sh :=
  { T with
    cells := T.cells.mapIdx fun i row => if i = r then row.set s T.bottom else pivRow row (T.cells.getD r []) (T.c r s) T.bottom s
    bottom := T.c r s
    across := T.across.set s (T.dn r)
    down := T.down.set r (T.ac s) }
/-- of the places below n that p takes the best, by turns -/
def pick (p : Nat → Bool) (better : Nat → Nat → Bool) (n : Nat) : Option Nat :=
  (List.range n).foldl (fun best i => if p i && (match best with | none => true | some b => better i b) then some i else best) none
def Sh.comesIn (T : Sh) (w : Nat) (bar : Nat → Bool) : Option Nat := pick (fun s => decide (0 < T.c (T.high + w) s) && !bar s) (fun s b => decide (T.ac s < T.ac b)) T.wide
def Sh.sooner (T : Sh) (r o s : Nat) : Bool :=
  decide (T.c r T.wide * T.c o s < T.c o T.wide * T.c r s) || (decide (T.c r T.wide * T.c o s = T.c o T.wide * T.c r s) && decide (T.dn r < T.dn o))
def Sh.goesOut (T : Sh) (s : Nat) : Option Nat := pick (fun r => decide (0 < T.c r s)) (fun r o => T.sooner r o s) T.high
/-- one turn of seek -/
def Sh.move (T : Sh) (w : Nat) (bar : Nat → Bool) : Option Sh :=
  match T.comesIn w bar with
  | none => none
  | some s => match T.goesOut s with
    | none => none
    | some r => some (T.pivot r s)
def Sh.run (T : Sh) (w : Nat) (bar : Nat → Bool) : Nat → Sh
  | 0 => T
  | k + 1 => match (T.run w bar k).move w bar with
    | none => T.run w bar k
    | some T' => T'
open Classical in
/-- where seek ends -/
noncomputable def Sh.last (T : Sh) (w : Nat) (bar : Nat → Bool) : Sh := if h : ∃ k, (T.run w bar k).move w bar = none then T.run w bar h.choose else T
theorem Sh.run_stop {T : Sh} {w : Nat} {bar : Nat → Bool} {k : Nat} (h : (T.run w bar k).move w bar = none) : ∀ d, T.run w bar (k + d) = T.run w bar k
  | 0 => rfl
  | d + 1 => by
    show (match (T.run w bar (k + d)).move w bar with | none => T.run w bar (k + d) | some T' => T') = _
    rw [Sh.run_stop h d, h]
theorem Sh.last_eq {T : Sh} {w : Nat} {bar : Nat → Bool} {k : Nat} (h : (T.run w bar k).move w bar = none) : T.last w bar = T.run w bar k := by
  have hx : ∃ k, (T.run w bar k).move w bar = none := ⟨k, h⟩
  unfold Sh.last
  rw [dif_pos hx]
  have h1 := hx.choose_spec
  generalize hx.choose = j at *
  rcases Nat.le_total j k with e | e
  · have := Sh.run_stop h1 (k - j)
    rw [show j + (k - j) = k by omega] at this
    exact this.symm
  · have := Sh.run_stop h (j - k)
    rw [show k + (j - k) = j by omega] at this
    exact this

/-! ### pick -/
theorem pick_ok {p : Nat → Bool} {better : Nat → Nat → Bool} (ir : ∀ i, p i = true → better i i = false) (tr : ∀ i j k, p i = true → p j = true → p k = true → better i j = true → better j k = true → better i k = true) : ∀ n,
    (pick p better n = none → ∀ i, i < n → p i = false) ∧ ∀ b, pick p better n = some b → b < n ∧ p b = true ∧ ∀ i, i < n → p i = true → better i b = false
  | 0 => ⟨fun _ i hi => by omega, fun b h => by simp [pick] at h⟩
  | n + 1 => by
    obtain ⟨h1, h2⟩ := pick_ok ir tr n
    have e : pick p better (n + 1) = if p n && (match pick p better n with | none => true | some b => better n b) then some n else pick p better n := by
      unfold pick
      rw [List.range_succ, List.foldl_append]
      rfl
    rw [e]
    cases hp : pick p better n with
    | none =>
      have h1' := h1 hp
      by_cases hn : p n = true
      · rw [hn]
        refine ⟨fun h => by simp at h, fun b h => ?_⟩
        have hb : n = b := by simpa using h
        subst hb
        refine ⟨by omega, hn, fun i hi hpi => ?_⟩
        by_cases hin : i = n
        · rw [hin]; exact ir n hn
        · rw [h1' i (by omega)] at hpi; cases hpi
      · have hn' : p n = false := by simpa using hn
        rw [hn']
        refine ⟨fun _ i hi => ?_, fun b h => by simp at h⟩
        by_cases hin : i = n
        · rw [hin]; exact hn'
        · exact h1' i (by omega)
    | some b =>
      obtain ⟨hb1, hb2, hb3⟩ := h2 b hp
      by_cases hn : (p n && better n b) = true
      · obtain ⟨q1, q2⟩ := Bool.and_eq_true_iff.mp hn
        show (_ → _) ∧ _
        rw [if_pos hn]
        refine ⟨fun h => by simp at h, fun c h => ?_⟩
        have hc : n = c := by simpa using h
        subst hc
        refine ⟨by omega, q1, fun i hi hpi => ?_⟩
        by_cases hin : i = n
        · rw [hin]; exact ir n q1
        · cases hbi : better i n with
          | false => rfl
          | true =>
            have := tr i n b hpi q1 hb2 hbi q2
            rw [hb3 i (by omega) hpi] at this
            cases this
      · show (_ → _) ∧ _
        rw [if_neg hn]
        refine ⟨fun h => by simp at h, fun c h => ?_⟩
        have hc : b = c := by simpa using h
        subst hc
        refine ⟨by omega, hb2, fun i hi hpi => ?_⟩
        by_cases hin : i = n
        · subst hin
          rw [hpi, Bool.true_and] at hn
          simpa using hn
        · exact hb3 i (by omega) hpi
theorem Sh.comesIn_none {T : Sh} {w : Nat} {bar : Nat → Bool} (h : T.comesIn w bar = none) : ∀ s, s < T.wide → 0 < T.c (T.high + w) s → bar s = true := fun s hs hg => by
  have := (pick_ok (p := fun s => decide (0 < T.c (T.high + w) s) && !bar s) (better := fun s b => decide (T.ac s < T.ac b)) (by simp) (by simp; omega) T.wide).1 h s hs
  simp only [Bool.and_eq_false_iff, decide_eq_false_iff_not, Bool.not_eq_false'] at this
  rcases this with h | h
  · exact absurd hg h
  · exact h
theorem Sh.comesIn_some {T : Sh} {w : Nat} {bar : Nat → Bool} {s : Nat} (h : T.comesIn w bar = some s) : s < T.wide ∧ 0 < T.c (T.high + w) s ∧ bar s = false ∧ ∀ t, t < T.wide → 0 < T.c (T.high + w) t → bar t = false → T.ac s ≤ T.ac t := by
  obtain ⟨h1, h2, h3⟩ := (pick_ok (p := fun s => decide (0 < T.c (T.high + w) s) && !bar s) (better := fun s b => decide (T.ac s < T.ac b)) (by simp) (by simp; omega) T.wide).2 s h
  simp only [Bool.and_eq_true, decide_eq_true_eq, Bool.not_eq_true'] at h2
  refine ⟨h1, h2.1, h2.2, fun t ht hg hb => ?_⟩
  have := h3 t ht (by simp [hg, hb])
  simpa using this
theorem sooner_trans {a b c p q r : Int} {x y z : Nat} (hp : 0 < p) (hq : 0 < q) (hr : 0 < r) (h1 : a * q < b * p ∨ (a * q = b * p ∧ x < y)) (h2 : b * r < c * q ∨ (b * r = c * q ∧ y < z)) : a * r < c * p ∨ (a * r = c * p ∧ x < z) := by
  -- a / p before b / q before c / r
  have k : ∀ u v : Int, q * u < q * v → u < v := fun u v h => Int.lt_of_mul_lt_mul_left h (by omega)
  have ke : ∀ u v : Int, q * u = q * v → u = v := fun u v h => Int.eq_of_mul_eq_mul_left (by omega) h
  rcases h1 with h1 | ⟨h1, hx⟩
  · rcases h2 with h2 | ⟨h2, hy⟩
    · refine .inl (k _ _ ?_)
      have e1 := Int.mul_lt_mul_of_pos_right h1 hr
      have e2 := Int.mul_lt_mul_of_pos_right h2 hp
      grind
    · refine .inl (k _ _ ?_)
      have e1 := Int.mul_lt_mul_of_pos_right h1 hr
      have e2 : b * r * p = c * q * p := by rw [h2]
      grind
  · rcases h2 with h2 | ⟨h2, hy⟩
    · refine .inl (k _ _ ?_)
      have e1 : a * q * r = b * p * r := by rw [h1]
      have e2 := Int.mul_lt_mul_of_pos_right h2 hp
      grind
    · refine .inr ⟨ke _ _ ?_, by omega⟩
      have e1 : a * q * r = b * p * r := by rw [h1]
      have e2 : b * r * p = c * q * p := by rw [h2]
      grind
theorem Sh.sooner_iff {T : Sh} {r o s : Nat} : T.sooner r o s = true ↔ (T.c r T.wide * T.c o s < T.c o T.wide * T.c r s ∨ (T.c r T.wide * T.c o s = T.c o T.wide * T.c r s ∧ T.dn r < T.dn o)) := by
  unfold Sh.sooner
  simp only [Bool.or_eq_true, Bool.and_eq_true, decide_eq_true_eq]
theorem Sh.goesOut_none {T : Sh} {s : Nat} (h : T.goesOut s = none) : ∀ r, r < T.high → T.c r s ≤ 0 := fun r hr => by
  have := (pick_ok (p := fun r => decide (0 < T.c r s)) (better := fun r o => T.sooner r o s) (fun i hi => by
    cases h : T.sooner i i s
    · rfl
    · rcases Sh.sooner_iff.mp h with h | h <;> omega) (fun i j k hi hj hk h1 h2 => Sh.sooner_iff.mpr (sooner_trans (by simpa using hi) (by simpa using hj) (by simpa using hk) (Sh.sooner_iff.mp h1) (Sh.sooner_iff.mp h2))) T.high).1 h r hr
  simpa using this
theorem Sh.goesOut_some {T : Sh} {s r : Nat} (h : T.goesOut s = some r) : r < T.high ∧ 0 < T.c r s ∧
    ∀ i, i < T.high → 0 < T.c i s → T.c r T.wide * T.c i s < T.c i T.wide * T.c r s ∨ (T.c r T.wide * T.c i s = T.c i T.wide * T.c r s ∧ T.dn r ≤ T.dn i) := by
  obtain ⟨h1, h2, h3⟩ := (pick_ok (p := fun r => decide (0 < T.c r s)) (better := fun r o => T.sooner r o s) (fun i hi => by
    cases h : T.sooner i i s
    · rfl
    · rcases Sh.sooner_iff.mp h with h | h <;> omega) (fun i j k hi hj hk h1 h2 => Sh.sooner_iff.mpr (sooner_trans (by simpa using hi) (by simpa using hj) (by simpa using hk) (Sh.sooner_iff.mp h1) (Sh.sooner_iff.mp h2))) T.high).2 r h
  refine ⟨h1, by simpa using h2, fun i hi hp => ?_⟩
  have h4 := h3 i hi (by simpa using hp)
  have h5 : ¬ (T.c i T.wide * T.c r s < T.c r T.wide * T.c i s ∨ (T.c i T.wide * T.c r s = T.c r T.wide * T.c i s ∧ T.dn i < T.dn r)) := fun h => by
    rw [Sh.sooner_iff.mpr h] at h4; cases h4
  omega

/-! ### the sheet as a table -/
def Sh.tab (T : Sh) : Tab where
  D := T.bottom
  c := T.c
  ac := T.ac
  dn := fun i => if i < T.high then T.dn i else T.wide + i
/-- two tables alike where it matters -/
structure Agr (n M : Nat) (U V : Tab) : Prop where
  D : U.D = V.D
  c : ∀ i t, i < M → t ≤ n → U.c i t = V.c i t
  ac : ∀ s, s < n → U.ac s = V.ac s
  dn : ∀ i, i < M → U.dn i = V.dn i
theorem Agr.symm {n M : Nat} {U V : Tab} (h : Agr n M U V) : Agr n M V U := ⟨h.D.symm, fun i t a b => (h.c i t a b).symm, fun s a => (h.ac s a).symm, fun i a => (h.dn i a).symm⟩
theorem Agr.trans {n M : Nat} {U V W : Tab} (h : Agr n M U V) (k : Agr n M V W) : Agr n M U W := ⟨h.D.trans k.D, fun i t a b => (h.c i t a b).trans (k.c i t a b), fun s a => (h.ac s a).trans (k.ac s a), fun i a => (h.dn i a).trans (k.dn i a)⟩
theorem Agr.piv {n M r s : Nat} {U V : Tab} (h : Agr n M U V) (hr : r < M) (hs : s < n) : Agr n M (U.piv r s) (V.piv r s) := by
  refine ⟨h.c r s hr (by omega), fun i t hi ht => ?_, fun t ht => ?_, fun i hi => ?_⟩
  · simp only [Tab.piv]
    rw [h.D, h.c i t hi ht, h.c r t hr ht, h.c r s hr (by omega), h.c i s hi (by omega)]
  · simp only [Tab.piv]
    rw [h.dn r hr, h.ac t ht]
  · simp only [Tab.piv]
    rw [h.dn i hi, h.ac s hs]
theorem Agr.inv {n m M : Nat} {a : Nat → Vec} {bv : Vec} {U V : Tab} (h : Agr n M U V) (I : Inv n m M a bv U) : Inv n m M a bv V := by
  have hB : ∀ i, i < M → V.B a i = U.B a i := fun i hi => by unfold Tab.B; rw [h.dn i hi]
  have hC : ∀ s, V.col n a bv s = U.col n a bv s := fun s => by
    unfold Tab.col; split
    · rw [h.ac s (by assumption)]
    · rfl
  refine ⟨I.mM, I.un, h.D ▸ I.pos, ?_, ?_, ?_, ?_, ?_, ?_, ?_, ?_, ?_, ?_, ?_⟩
  · rw [← h.D, I.hD]
    exact dF_congr fun i hi => (hB i hi).symm
  · intro i hi s hs
    rw [← h.c i s hi hs, I.hc i hi s hs, hC]
    exact dF_congr fun k hk => by
      unfold put; split
      · rfl
      · exact (hB k hk).symm
  · intro s hs j
    rw [hC, ← h.D, I.rel s hs j]
    exact sumN_congr fun i hi => by rw [h.c i s hi hs, hB i hi]
  · intro i h1 h2
    rw [← h.dn i h2]; exact I.dnw i h1 h2
  · intro i j hi hj e
    rw [← h.dn i hi, ← h.dn j hj] at e
    exact I.dni i j hi hj e
  · intro s t hs ht e
    rw [← h.ac s hs, ← h.ac t ht] at e
    exact I.aci s t hs ht e
  · intro i s hi hs
    rw [← h.dn i hi, ← h.ac s hs]
    exact I.dis i s hi hs
  · intro i hi
    rw [← h.dn i hi]; exact I.dnl i hi
  · intro s hs
    rw [← h.ac s hs]; exact I.acl s hs
  · intro i hi
    rw [← h.c i n (by have := I.mM; omega) (Nat.le_refl _)]; exact I.rhs i hi
  · intro j hj
    rcases I.cov j hj with ⟨i, hi, e⟩ | ⟨s, hs, e⟩
    · exact .inl ⟨i, hi, by rw [← h.dn i hi]; exact e⟩
    · exact .inr ⟨s, hs, by rw [← h.ac s hs]; exact e⟩

theorem getD_set {α : Type} {xs : List α} {i j : Nat} {x z : α} (hi : i < xs.length) : (xs.set i x).getD j z = if j = i then x else xs.getD j z := by
  rw [List.getD_eq_getElem?_getD, List.getD_eq_getElem?_getD]
  by_cases e : j = i
  · subst e
    rw [if_pos rfl, List.getElem?_set_self hi]; rfl
  · rw [if_neg e, List.getElem?_set_ne (Ne.symm e)]
section
variable {n m M : Nat} {T : Sh} {r s : Nat}
theorem Wf.row_len (W : Wf n m M T) {i : Nat} (hi : i < M) : (T.cells.getD i []).length = n + 1 := by
  have h : i < T.cells.length := by rw [W.cl]; exact hi
  have e : T.cells.getD i [] = T.cells[i] := by rw [List.getD_eq_getElem?_getD, List.getElem?_eq_getElem h]; rfl
  rw [e]
  exact W.rl _ (List.getElem_mem h)
theorem pivRow_len {row prow : List Int} {b bot : Int} (h : row.length = prow.length) : (pivRow row prow b bot s).length = row.length := by
  unfold pivRow
  rw [List.length_set, List.length_zipWith, ← h, Nat.min_self]
theorem pivot_cells (W : Wf n m M T) (hr : r < M) {i : Nat} (hi : i < M) : (T.pivot r s).cells.getD i [] = if i = r then (T.cells.getD i []).set s T.bottom else pivRow (T.cells.getD i []) (T.cells.getD r []) (T.c r s) T.bottom s := by
  have h : i < T.cells.length := by rw [W.cl]; exact hi
  have e : T.cells.getD i [] = T.cells[i] := by rw [List.getD_eq_getElem?_getD, List.getElem?_eq_getElem h]; rfl
  rw [e]
  unfold Sh.pivot
  show (T.cells.mapIdx _).getD i [] = _
  rw [List.getD_eq_getElem?_getD, List.getElem?_mapIdx, List.getElem?_eq_getElem h]
  rfl
theorem Wf.pivot (W : Wf n m M T) (hr : r < m) (hs : s < n) : Wf n m M (T.pivot r s) := by
  have hrM : r < M := by have := W.mM; omega
  refine ⟨W.wide, W.high, W.mM, ?_, ?_, ?_, ?_, W.sl, W.wl⟩
  · simp [Sh.pivot, W.cl]
  · intro row hrow
    obtain ⟨i, hi, rfl⟩ := List.getElem_of_mem hrow
    have hiM : i < M := by simpa [Sh.pivot, W.cl] using hi
    have e : (T.pivot r s).cells[i] = (T.pivot r s).cells.getD i [] := by rw [List.getD_eq_getElem?_getD, List.getElem?_eq_getElem hi]; rfl
    rw [e, pivot_cells W hrM hiM]
    split
    · rw [List.length_set]; exact W.row_len hiM
    · rw [pivRow_len (by rw [W.row_len hiM, W.row_len hrM])]; exact W.row_len hiM
  · simp [Sh.pivot, W.al]
  · simp [Sh.pivot, W.dl]
theorem pivRow_get {row prow : List Int} {b bot : Int} {t : Nat} (h1 : row.length = n + 1) (h2 : prow.length = n + 1) (hs : s ≤ n) (ht : t ≤ n) :
    (pivRow row prow b bot s).getD t 0 = if t = s then - row.getD s 0 else (row.getD t 0 * b - row.getD s 0 * prow.getD t 0) / bot := by
  unfold pivRow
  rw [getD_set (by rw [List.length_zipWith]; omega)]
  split
  · omega
  · rw [List.getD_eq_getElem?_getD, List.getElem?_zipWith, List.getElem?_eq_getElem (show t < row.length by omega), List.getElem?_eq_getElem (show t < prow.length by omega)]
    have e1 : row.getD t 0 = row[t] := by rw [List.getD_eq_getElem?_getD, List.getElem?_eq_getElem (show t < row.length by omega)]; rfl
    have e2 : prow.getD t 0 = prow[t] := by rw [List.getD_eq_getElem?_getD, List.getElem?_eq_getElem (show t < prow.length by omega)]; rfl
    rw [e1, e2]
    rfl
/-- the mirror's pivot is the table's -/
theorem pivot_agr (W : Wf n m M T) (hr : r < m) (hs : s < n) : Agr n M (T.pivot r s).tab (T.tab.piv r s) := by
  have mM := W.mM
  refine ⟨rfl, fun i t hi ht => ?_, fun t ht => ?_, fun i hi => ?_⟩
  · show ((T.pivot r s).cells.getD i []).getD t 0 = _
    rw [pivot_cells W (by omega) hi]
    simp only [Tab.piv, Sh.tab]
    by_cases e : i = r
    · subst e
      rw [if_pos rfl, if_pos rfl, getD_set (by rw [W.row_len hi]; omega)]
      rfl
    · rw [if_neg e, if_neg e, pivRow_get (W.row_len hi) (W.row_len (by omega)) (by omega) ht]
      rfl
  · show (T.across.set s (T.dn r)).getD t 0 = _
    rw [getD_set (by rw [W.al]; exact hs)]
    simp only [Tab.piv, Sh.tab]
    rw [if_pos (show r < T.high by rw [W.high]; exact hr)]
    rfl
  · show (if i < T.high then (T.down.set r (T.ac s)).getD i 0 else T.wide + i) = if i = r then T.ac s else (if i < T.high then T.dn i else T.wide + i)
    have eh := W.high
    have ew := W.wide
    by_cases e : i < T.high
    · rw [if_pos e, if_pos e]
      rw [getD_set (by rw [W.dl]; exact hr)]
      by_cases e2 : i = r
      · rw [if_pos e2, if_pos e2]
      · rw [if_neg e2, if_neg e2]
        rfl
    · rw [if_neg e, if_neg e, if_neg (by omega)]

/-- what stands after each turn -/
theorem move_inv {a : Nat → Vec} {bv : Vec} {w : Nat} {bar : Nat → Bool} {T' : Sh} (W : Wf n m M T) (I : Inv n m M a bv T.tab) (hw : m + w < M) (h : T.move w bar = some T') :
    ∃ s r, T' = T.pivot r s ∧ Chosen n m (m + w) (fun s => bar s = true) T.tab s r ∧ Wf n m M T' ∧ Inv n m M a bv T'.tab := by
  unfold Sh.move at h
  cases hc : T.comesIn w bar with
  | none => rw [hc] at h; cases h
  | some s =>
    rw [hc] at h
    replace h : (match T.goesOut s with | none => none | some r => some (T.pivot r s)) = some T' := h
    cases hg : T.goesOut s with
    | none => rw [hg] at h; cases h
    | some r =>
      rw [hg] at h
      have hT : T.pivot r s = T' := Option.some.inj h
      obtain ⟨c1, c2, c3, c4⟩ := Sh.comesIn_some hc
      obtain ⟨g1, g2, g3⟩ := Sh.goesOut_some hg
      have ew := W.wide
      have eh := W.high
      have C : Chosen n m (m + w) (fun s => bar s = true) T.tab s r := by
        refine ⟨by omega, by omega, by rw [c3]; decide, by rw [eh] at c2; exact c2, fun t ht hgt hb => ?_, g2, fun i hi hp => ?_⟩
        · rw [eh] at c4
          exact c4 t (by omega) hgt (by simpa using hb)
        · have := g3 i (by omega) hp
          rw [ew] at this
          simp only [Sh.tab]
          rw [if_pos g1, if_pos (show i < T.high by omega)]
          exact this
      refine ⟨s, r, hT.symm, C, hT ▸ W.pivot C.hr C.hs, hT ▸ (pivot_agr W C.hr C.hs).symm.inv (I.piv C.hr C.hs C.p C.min)⟩
theorem run_inv {a : Nat → Vec} {bv : Vec} {w : Nat} {bar : Nat → Bool} (W : Wf n m M T) (I : Inv n m M a bv T.tab) (hw : m + w < M) : ∀ k, Wf n m M (T.run w bar k) ∧ Inv n m M a bv (T.run w bar k).tab
  | 0 => ⟨W, I⟩
  | k + 1 => by
    obtain ⟨W', I'⟩ := run_inv W I hw k
    show Wf n m M (match (T.run w bar k).move w bar with | none => T.run w bar k | some T' => T') ∧ Inv n m M a bv (match (T.run w bar k).move w bar with | none => T.run w bar k | some T' => T').tab
    cases h : (T.run w bar k).move w bar with
    | none => exact ⟨W', I'⟩
    | some T' =>
      obtain ⟨_, _, _, _, h1, h2⟩ := move_inv W' I' hw h
      exact ⟨h1, h2⟩
/-- seek comes to an end -/
theorem run_ends {a : Nat → Vec} {bv : Vec} {w : Nat} {bar : Nat → Bool} {X : Int} (W : Wf n m M T) (I : Inv n m M a bv T.tab) (hw : m + w < M) (hX : 1 ≤ X) (ha : ∀ v j, -X ≤ a v j ∧ a v j ≤ X) (hb : ∀ j, -X ≤ bv j ∧ bv j ≤ X) :
    ∃ k, (T.run w bar k).move w bar = none := by
  apply Classical.byContradiction
  intro hn
  have hs : ∀ k, ∃ T', (T.run w bar k).move w bar = some T' := fun k => by
    cases h : (T.run w bar k).move w bar with
    | none => exact absurd ⟨k, h⟩ hn
    | some T' => exact ⟨T', rfl⟩
  have hsr : ∀ k, ∃ p : Nat × Nat, Chosen n m (m + w) (fun s => bar s = true) (T.run w bar k).tab p.1 p.2 ∧ T.run w bar (k + 1) = (T.run w bar k).pivot p.2 p.1 := fun k => by
    obtain ⟨W', I'⟩ := run_inv (bar := bar) W I hw k
    obtain ⟨T', hT'⟩ := hs k
    obtain ⟨s, r, h1, h2, _, _⟩ := move_inv W' I' hw hT'
    refine ⟨(s, r), h2, ?_⟩
    show (match (T.run w bar k).move w bar with | none => T.run w bar k | some T' => T') = _
    rw [hT']
    exact h1
  have hp := fun k => Classical.choose_spec (hsr k)
  generalize hq : (fun k => Classical.choose (hsr k)) = p at *
  have hp' : ∀ k, Chosen n m (m + w) (fun s => bar s = true) (T.run w bar k).tab (p k).1 (p k).2 ∧ T.run w bar (k + 1) = (T.run w bar k).pivot (p k).2 (p k).1 := fun k => by
    rw [← hq]; exact hp k
  -- the tables, by the table's own pivots
  let U : Nat → Tab := fun k => Nat.rec T.tab (fun k V => V.piv (p k).2 (p k).1) k
  have hU : ∀ k, Agr n M (T.run w bar k).tab (U k) := fun k => by
    induction k with
    | zero => exact ⟨rfl, fun _ _ _ _ => rfl, fun _ _ => rfl, fun _ _ => rfl⟩
    | succ k ih =>
      have C := (hp' k).1
      have W' := (run_inv (bar := bar) W I hw k).1
      have h1 := pivot_agr W' C.hr C.hs
      rw [← (hp' k).2] at h1
      exact h1.trans (ih.piv (by have := C.hr; have := W.mM; omega) C.hs)
  have R : Run n m M (m + w) a bv (fun s => bar s = true) U (fun k => (p k).1) (fun k => (p k).2) := by
    refine ⟨by omega, hw, fun k => (hU k).inv (run_inv (bar := bar) W I hw k).2, fun k => ?_, fun k => rfl⟩
    have C := (hp' k).1
    have A := hU k
    have mM := W.mM
    have hs := C.hs
    have hr := C.hr
    refine ⟨hs, hr, C.nb, by rw [← A.c _ _ hw (by omega)]; exact C.g, fun t ht hg hb => ?_, by rw [← A.c _ _ (by omega) (by omega)]; exact C.p, fun i hi hp => ?_⟩
    · rw [← A.ac _ hs, ← A.ac _ ht]
      exact C.least t ht (by rw [A.c _ _ hw (by omega)]; exact hg) hb
    · have := C.out i hi (by rw [A.c _ _ (by omega) (by omega)]; exact hp)
      rw [A.c _ _ (by omega) (Nat.le_refl _), A.c i _ (by omega) (by omega), A.c i n (by omega) (Nat.le_refl _), A.c _ (p k).1 (by omega) (by omega), A.dn _ (by omega), A.dn i (by omega)] at this
      exact this
  exact R.absurd hX ha hb
/-- where it ends nothing moves, and all stands as ever -/
theorem last_ok {a : Nat → Vec} {bv : Vec} {w : Nat} {bar : Nat → Bool} {X : Int} (W : Wf n m M T) (I : Inv n m M a bv T.tab) (hw : m + w < M) (hX : 1 ≤ X) (ha : ∀ v j, -X ≤ a v j ∧ a v j ≤ X) (hb : ∀ j, -X ≤ bv j ∧ bv j ≤ X) :
    (T.last w bar).move w bar = none ∧ Wf n m M (T.last w bar) ∧ Inv n m M a bv (T.last w bar).tab := by
  obtain ⟨k, hk⟩ := run_ends (bar := bar) W I hw hX ha hb
  rw [Sh.last_eq hk]
  exact ⟨hk, run_inv W I hw k⟩
end
end Hd


/-! text Init -/
set_option Elab.async false
set_option linter.all false
set_option maxHeartbeats 4000000
/-! The sheet as it is made. -/
namespace Hd
def avec (n : Nat) (T : Sh) (j : Nat) : Vec := fun i => if j < n then T.c i j else unit (j - n) i
def bvec (n : Nat) (T : Sh) : Vec := fun i => T.c i n
section
variable {n m M : Nat} {T : Sh}
theorem Wf.out (W : Wf n m M T) {i : Nat} (hi : M ≤ i) (s : Nat) : T.c i s = 0 := by
  unfold Sh.c
  have e : T.cells.getD i [] = [] := by
    rw [List.getD_eq_getElem?_getD, List.getElem?_eq_none (by rw [W.cl]; exact hi)]; rfl
  rw [e]; rfl
theorem unit_self (i : Nat) : unit i i = 1 := if_pos rfl
theorem unit_ne {i j : Nat} (h : j ≠ i) : unit i j = 0 := if_neg h
theorem col_sum (W : Wf n m M T) (s j : Nat) : sumN M (fun i => T.c i s * unit i j) = T.c j s := by
  by_cases h : j < M
  · rw [sumN_one j h fun i _ hi => by rw [unit_ne (Ne.symm hi)]; omega, unit_self]; omega
  · rw [W.out (by omega), sumN_zero]
    intro i hi
    rw [unit_ne (by omega)]; omega
theorem init_inv (W : Wf n m M T) (hb : T.bottom = 1) (hac : ∀ s, s < n → T.ac s = s) (hdn : ∀ i, i < m → T.dn i = n + i) (hr : ∀ i, i < m → 0 ≤ T.c i n) : Inv n m M (avec n T) (bvec n T) T.tab := by
  have mM := W.mM
  have un : ∀ i, avec n T (n + i) = unit i := fun i => by
    funext j
    unfold avec
    rw [if_neg (by omega), show n + i - n = i by omega]
  have dn : ∀ i, T.tab.dn i = n + i := fun i => by
    show (if i < T.high then T.dn i else T.wide + i) = _
    have eh := W.high
    have ew := W.wide
    split
    · exact hdn i (by omega)
    · omega
  have B : ∀ i, T.tab.B (avec n T) i = unit i := fun i => by unfold Tab.B; rw [dn, un]
  have C : ∀ s, s ≤ n → T.tab.col n (avec n T) (bvec n T) s = fun i => T.c i s := fun s hs => by
    unfold Tab.col
    split
    · have e : T.tab.ac s = s := hac s (by assumption)
      rw [e]
      funext i
      unfold avec
      rw [if_pos (by assumption)]
    · obtain rfl : s = n := by omega
      rfl
  have L : ∀ s, (fun i => T.c i s) = lcomb M (fun i => T.c i s) unit := fun s => by
    funext j
    exact (col_sum W s j).symm
  refine ⟨mM, fun i _ => un i, ?_, ?_, ?_, ?_, ?_, ?_, ?_, ?_, ?_, ?_, ?_, ?_⟩
  · show 0 < T.bottom
    rw [hb]; decide
  · show T.bottom = _
    rw [hb, dF_congr fun i _ => B i, dF_unit]
  · intro i hi s hs
    rw [C s hs, dF_congr (B' := put unit i (fun j => T.c j s)) (fun k hk => by unfold put; split; rfl; exact B k), L s, dF_lcomb hi, sumN_one i hi]
    · have e : dF M (put unit i (unit i)) = 1 := by
        rw [dF_congr (B' := unit) fun k _ => by unfold put; split; rename_i h; rw [h]; rfl, dF_unit]
      rw [e]
      show T.c i s = _
      omega
    · intro k hk hne
      rw [dF_same' hi hk (Ne.symm hne) (by rw [put_self, put_ne hne])]; omega
  · intro s hs j
    rw [C s hs]
    show T.bottom * T.c j s = _
    rw [hb, Int.one_mul, ← col_sum W s j]
    exact sumN_congr fun i _ => by rw [B]; rfl
  · intro i _ _; exact dn i
  · intro i j _ _ h; rw [dn, dn] at h; omega
  · intro s t hs ht h
    have e1 : T.tab.ac s = s := hac s hs
    have e2 : T.tab.ac t = t := hac t ht
    omega
  · intro i s _ hs
    have e1 : T.tab.ac s = s := hac s hs
    rw [dn]; omega
  · intro i hi; rw [dn]; omega
  · intro s hs
    have e1 : T.tab.ac s = s := hac s hs
    omega
  · exact hr
  · intro j hj
    by_cases h : j < n
    · exact .inr ⟨j, h, hac j h⟩
    · exact .inl ⟨j - n, by omega, by rw [dn]; omega⟩
end

/-! ### shared bottoms -/
theorem sb_step {w b : Int} (hw : 0 < w) (hb : 0 < b) : 0 < w * (ratio b w).1 ∧ w ∣ w * (ratio b w).1 ∧ b ∣ w * (ratio b w).1 ∧ w * (ratio b w).1 ≤ w * b := by
  have h1 := gcdI_pos (a := b) (b := w) (by omega)
  obtain ⟨q, hq⟩ := gcdI_dvd_right b w
  obtain ⟨p, hp⟩ := gcdI_dvd_left b w
  show 0 < w * (b / gcdI b w) ∧ w ∣ w * (b / gcdI b w) ∧ b ∣ w * (b / gcdI b w) ∧ w * (b / gcdI b w) ≤ w * b
  generalize gcdI b w = g at *
  have e : b / g = p := by rw [hp, Int.mul_ediv_cancel_left _ (by omega)]
  rw [e]
  have hp0 : 0 < p := by
    apply Classical.byContradiction
    intro hc
    have : g * p ≤ 0 := Int.mul_nonpos_of_nonneg_of_nonpos (by omega) (by omega)
    omega
  refine ⟨Int.mul_pos hw hp0, Int.dvd_mul_right _ _, ⟨q, by rw [hp]; conv => lhs; rw [hq]
                                                            grind⟩, ?_⟩
  refine Int.mul_le_mul_of_nonneg_left ?_ (by omega)
  rw [hp]
  have := Int.mul_le_mul_of_nonneg_right (show (1 : Int) ≤ g by omega) (show 0 ≤ p by omega)
  omega
theorem sb_fold : ∀ (fs : List Fr) (w : Int), 0 < w → (∀ f ∈ fs, 0 < f.2 ∧ f.2 ≤ 997) →
    0 < fs.foldl (fun w f => w * (ratio f.2 w).1) w ∧ w ∣ fs.foldl (fun w f => w * (ratio f.2 w).1) w ∧ (∀ f ∈ fs, f.2 ∣ fs.foldl (fun w f => w * (ratio f.2 w).1) w) ∧ fs.foldl (fun w f => w * (ratio f.2 w).1) w ≤ w * 997 ^ fs.length
  | [], w, hw, _ => ⟨hw, Int.dvd_refl _, fun f hf => by simp at hf, by simp⟩
  | f :: fs, w, hw, h => by
    obtain ⟨s1, s2, s3, s4⟩ := sb_step hw (h f (by simp)).1
    obtain ⟨h1, h2, h3, h4⟩ := sb_fold fs _ s1 fun g hg => h g (by simp [hg])
    simp only [List.foldl_cons]
    refine ⟨h1, Int.dvd_trans s2 h2, fun g hg => ?_, Int.le_trans h4 ?_⟩
    · rcases List.mem_cons.mp hg with rfl | hg
      · exact Int.dvd_trans s3 h2
      · exact h3 g hg
    · have e := Int.mul_le_mul_of_nonneg_left (h f (by simp)).2 (show 0 ≤ w by omega)
      have p : (0 : Int) ≤ 997 ^ fs.length := Int.le_of_lt (Int.pow_pos (by decide))
      have := Int.mul_le_mul_of_nonneg_right (Int.le_trans s4 e) p
      rw [List.length_cons, Int.pow_succ]
      grind
theorem pow_le9 : ∀ {k : Nat}, k ≤ 9 → (997 : Int) ^ k ≤ 997 ^ 9 := fun {k} h => by
  have h1 : ∀ k : Fin 10, (997 : Int) ^ k.val ≤ 997 ^ 9 := by decide
  exact h1 ⟨k, by omega⟩
theorem sb_ok {fs : List Fr} (h : ∀ f ∈ fs, 0 < f.2 ∧ f.2 ≤ 997) (hl : fs.length ≤ 9) : 0 < sharedBottom fs ∧ (∀ f ∈ fs, f.2 ∣ sharedBottom fs) ∧ sharedBottom fs ≤ 997 ^ 9 := by
  obtain ⟨h1, _, h3, h4⟩ := sb_fold fs 1 (by decide) h
  refine ⟨h1, h3, Int.le_trans h4 ?_⟩
  rw [Int.one_mul]
  exact pow_le9 hl
/-- p / S is what the fraction says -/
structure Is (f : Fr) (p S : Int) : Prop where
  pos : 0 < f.2
  eq : f.1 * S = p * f.2
theorem whole_is {f : Fr} {S : Int} (h0 : 0 < f.2) (h : f.2 ∣ S) : Is f (f.1 * (S / f.2)) S := by
  obtain ⟨q, hq⟩ := h
  refine ⟨h0, ?_⟩
  have e : S / f.2 = q := by rw [hq, Int.mul_ediv_cancel_left _ (by omega)]
  rw [e]; conv => lhs; rw [hq]
  grind
theorem whole_le {f : Fr} {S : Int} (h0 : 0 < f.2) (h : f.2 ∣ S) (hS : 0 < S) (hS9 : S ≤ 997 ^ 9) (ht : Sm 31 f.1) : -(2 ^ 121) ≤ f.1 * (S / f.2) ∧ f.1 * (S / f.2) ≤ 2 ^ 121 := by
  have h1 : S / f.2 ≤ S := Int.ediv_le_self _ (by omega)
  have h2 : 0 ≤ S / f.2 := Int.ediv_nonneg (by omega) (by omega)
  have h3 : Sm 90 (S / f.2) := by
    have : (997 : Int) ^ 9 < 2 ^ 90 := by decide
    unfold Sm
    have e : ((2 ^ 90 : Nat) : Int) = 2 ^ 90 := by decide
    omega
  have h4 := ht.mul h3
  unfold Sm at h4
  have e : ((2 ^ (31 + 90) : Nat) : Int) = 2 ^ 121 := by decide
  omega

/-! ### the sheet of given rows -/
def mkSheet (rows : List (List Fr)) (bounds : List Fr) (wishes : List (List Fr)) : Sh where
  wide := (wishes.getD 0 []).length
  high := rows.length
  scales := List.zipWith (fun row b => sharedBottom (row ++ [b])) rows bounds
  wished := wishes.map sharedBottom
  cells := List.zipWith (fun row b => asWholes (row ++ [b]) (sharedBottom (row ++ [b]))) rows bounds ++ wishes.map (fun w => asWholes w (sharedBottom w) ++ [0])
  bottom := 1
  across := List.range (wishes.getD 0 []).length
  down := List.range' (wishes.getD 0 []).length rows.length
/-- a fraction as given -/
def Giv0 (f : Fr) : Prop := Bd 31 f ∧ f.2 ≤ 997
structure InOk (n : Nat) (rows : List (List Fr)) (bounds : List Fr) (wishes : List (List Fr)) : Prop where
  bl : bounds.length = rows.length
  hi : rows.length ≤ 8
  wi : n ≤ 8
  wl : 1 ≤ wishes.length ∧ wishes.length ≤ 2
  rn : ∀ r ∈ rows, r.length = n
  wn : ∀ r ∈ wishes, r.length = n
  rf : ∀ r ∈ rows, ∀ f ∈ r, Giv0 f
  bf : ∀ f ∈ bounds, Giv0 f ∧ 0 ≤ f.1
  wf : ∀ r ∈ wishes, ∀ f ∈ r, Giv0 f
section
variable {n : Nat} {rows : List (List Fr)} {bounds : List Fr} {wishes : List (List Fr)}
def frD (fs : List Fr) (k : Nat) : Fr := fs.getD k (0, 1)
theorem getD_lt {α : Type} {xs : List α} {i : Nat} (h : i < xs.length) (z : α) : xs.getD i z = xs[i] := by
  rw [List.getD_eq_getElem?_getD, List.getElem?_eq_getElem h]; rfl
theorem InOk.w0 (h : InOk n rows bounds wishes) : (wishes.getD 0 []).length = n := by
  rw [getD_lt (by have := h.wl; omega)]
  exact h.wn _ (List.getElem_mem _)
theorem asWholes_len (fs : List Fr) (b : Int) : (asWholes fs b).length = fs.length := List.length_map _
theorem InOk.wfm (h : InOk n rows bounds wishes) : Wf n rows.length (rows.length + wishes.length) (mkSheet rows bounds wishes) := by
  refine ⟨h.w0, rfl, by omega, ?_, ?_, ?_, ?_, ?_, ?_⟩
  · show (List.zipWith _ rows bounds ++ wishes.map _).length = _
    rw [List.length_append, List.length_zipWith, List.length_map, h.bl, Nat.min_self]
  · intro row hrow
    rcases List.mem_append.mp hrow with hrow | hrow
    · obtain ⟨i, hi, rfl⟩ := List.getElem_of_mem hrow
      rw [List.getElem_zipWith, asWholes_len, List.length_append, h.rn _ (List.getElem_mem _)]
      rfl
    · obtain ⟨w, hw, rfl⟩ := List.mem_map.mp hrow
      rw [List.length_append, asWholes_len, h.wn w hw]
      rfl
  · show (List.range _).length = _
    rw [List.length_range, h.w0]
  · show (List.range' _ _).length = _
    rw [List.length_range']
  · show (List.zipWith _ _ _).length = _
    rw [List.length_zipWith, h.bl, Nat.min_self]
  · show (wishes.map _).length + _ = _
    rw [List.length_map]; omega
theorem getD_map_lt {α β : Type} {f : α → β} {xs : List α} {i : Nat} (h : i < xs.length) (z : α) (y : β) : (xs.map f).getD i y = f (xs.getD i z) := by
  rw [getD_lt (by rw [List.length_map]; exact h), List.getElem_map, getD_lt h]
theorem asWholes_get {fs : List Fr} {b : Int} {k : Nat} (h : k < fs.length) : (asWholes fs b).getD k 0 = (frD fs k).1 * (b / (frD fs k).2) := getD_map_lt h _ _
theorem getD_app_l {α : Type} {xs ys : List α} {i : Nat} (h : i < xs.length) (z : α) : (xs ++ ys).getD i z = xs.getD i z := by
  rw [List.getD_eq_getElem?_getD, List.getElem?_append_left h, ← List.getD_eq_getElem?_getD]
theorem getD_app_r {α : Type} {xs ys : List α} {i : Nat} (z : α) : (xs ++ ys).getD (xs.length + i) z = ys.getD i z := by
  rw [List.getD_eq_getElem?_getD, List.getElem?_append_right (by omega), ← List.getD_eq_getElem?_getD]
  congr 1; omega
def scale (rows : List (List Fr)) (bounds : List Fr) (i : Nat) : Int := sharedBottom (rows.getD i [] ++ [frD bounds i])
def wscale (wishes : List (List Fr)) (w : Nat) : Int := sharedBottom (wishes.getD w [])
theorem InOk.frow (h : InOk n rows bounds wishes) {i : Nat} (hi : i < rows.length) : (rows.getD i [] ++ [frD bounds i]).length = n + 1 ∧ ∀ f ∈ rows.getD i [] ++ [frD bounds i], Giv0 f := by
  have e : rows.getD i [] ∈ rows := by rw [getD_lt hi]; exact List.getElem_mem _
  refine ⟨by rw [List.length_append, h.rn _ e]; rfl, fun f hf => ?_⟩
  rcases List.mem_append.mp hf with hf | hf
  · exact h.rf _ e f hf
  · rw [List.mem_singleton.mp hf]
    unfold frD
    rw [getD_lt (by rw [h.bl]; exact hi)]
    exact (h.bf _ (List.getElem_mem _)).1
theorem InOk.fwish (h : InOk n rows bounds wishes) {w : Nat} (hw : w < wishes.length) : (wishes.getD w []).length = n ∧ ∀ f ∈ wishes.getD w [], Giv0 f := by
  have e : wishes.getD w [] ∈ wishes := by rw [getD_lt hw]; exact List.getElem_mem _
  exact ⟨h.wn _ e, h.wf _ e⟩
theorem giv_sb {fs : List Fr} (h : ∀ f ∈ fs, Giv0 f) (hl : fs.length ≤ 9) : 0 < sharedBottom fs ∧ (∀ f ∈ fs, f.2 ∣ sharedBottom fs) ∧ sharedBottom fs ≤ 997 ^ 9 := sb_ok (fun f hf => ⟨(h f hf).1.pos, (h f hf).2⟩) hl
theorem InOk.scale (h : InOk n rows bounds wishes) {i : Nat} (hi : i < rows.length) : 0 < scale rows bounds i ∧ (∀ f ∈ rows.getD i [] ++ [frD bounds i], f.2 ∣ Hd.scale rows bounds i) ∧ Hd.scale rows bounds i ≤ 997 ^ 9 := by
  have h1 := h.frow hi
  exact giv_sb h1.2 (by rw [h1.1]; have := h.wi; omega)
theorem InOk.wscale (h : InOk n rows bounds wishes) {w : Nat} (hw : w < wishes.length) : 0 < wscale wishes w ∧ (∀ f ∈ wishes.getD w [], f.2 ∣ Hd.wscale wishes w) ∧ Hd.wscale wishes w ≤ 997 ^ 9 := by
  have h1 := h.fwish hw
  exact giv_sb h1.2 (by rw [h1.1]; have := h.wi; omega)
theorem InOk.scales (h : InOk n rows bounds wishes) {i : Nat} (hi : i < rows.length) : (mkSheet rows bounds wishes).scales.getD i 0 = Hd.scale rows bounds i := by
  show (List.zipWith _ rows bounds).getD i 0 = _
  rw [getD_lt (by rw [List.length_zipWith, h.bl, Nat.min_self]; exact hi), List.getElem_zipWith]
  unfold Hd.scale frD
  rw [getD_lt hi, getD_lt (by rw [h.bl]; exact hi)]
theorem InOk.wisheds (h : InOk n rows bounds wishes) {w : Nat} (hw : w < wishes.length) : (mkSheet rows bounds wishes).wished.getD w 0 = Hd.wscale wishes w := getD_map_lt hw _ _
theorem InOk.crow (h : InOk n rows bounds wishes) {i : Nat} (hi : i < rows.length) : (mkSheet rows bounds wishes).cells.getD i [] = asWholes (rows.getD i [] ++ [frD bounds i]) (Hd.scale rows bounds i) := by
  have e : (List.zipWith (fun row b => asWholes (row ++ [b]) (sharedBottom (row ++ [b]))) rows bounds).length = rows.length := by rw [List.length_zipWith, h.bl, Nat.min_self]
  show (List.zipWith _ rows bounds ++ _).getD i [] = _
  rw [getD_app_l (by rw [e]; exact hi), getD_lt (by rw [e]; exact hi), List.getElem_zipWith]
  unfold Hd.scale frD
  rw [getD_lt hi, getD_lt (by rw [h.bl]; exact hi)]
theorem InOk.cwish (h : InOk n rows bounds wishes) {w : Nat} (hw : w < wishes.length) : (mkSheet rows bounds wishes).cells.getD (rows.length + w) [] = asWholes (wishes.getD w []) (Hd.wscale wishes w) ++ [0] := by
  have e : (List.zipWith (fun row b => asWholes (row ++ [b]) (sharedBottom (row ++ [b]))) rows bounds).length = rows.length := by rw [List.length_zipWith, h.bl, Nat.min_self]
  show (List.zipWith _ rows bounds ++ _).getD (rows.length + w) [] = _
  rw [show rows.length + w = (List.zipWith (fun row b => asWholes (row ++ [b]) (sharedBottom (row ++ [b]))) rows bounds).length + w by rw [e], getD_app_r, getD_map_lt hw []]
  rfl
/-- the numbers of the rows -/
theorem InOk.isRow (h : InOk n rows bounds wishes) {i k : Nat} (hi : i < rows.length) (hk : k < n) : Is (frD (rows.getD i []) k) ((mkSheet rows bounds wishes).c i k) (Hd.scale rows bounds i) := by
  have h1 := h.frow hi
  have h2 := h.scale hi
  unfold Sh.c
  have hrl : k < (rows.getD i []).length := by have := h1.1; rw [List.length_append] at this; simp at this; simp; omega
  have e0 : frD (rows.getD i [] ++ [frD bounds i]) k = frD (rows.getD i []) k := getD_app_l hrl _
  have e1 : frD (rows.getD i []) k ∈ rows.getD i [] ++ [frD bounds i] := List.mem_append_left _ (by unfold frD; rw [getD_lt hrl]; exact List.getElem_mem _)
  rw [h.crow hi, asWholes_get (by rw [h1.1]; omega), e0]
  exact whole_is (h1.2 _ e1).1.pos (h2.2.1 _ e1)
theorem InOk.isBound (h : InOk n rows bounds wishes) {i : Nat} (hi : i < rows.length) : Is (frD bounds i) ((mkSheet rows bounds wishes).c i n) (Hd.scale rows bounds i) ∧ 0 ≤ (mkSheet rows bounds wishes).c i n := by
  have h1 := h.frow hi
  have h2 := h.scale hi
  unfold Sh.c
  have hrl : (rows.getD i []).length = n := by have := h1.1; rw [List.length_append] at this; simp at this; simp; omega
  have e0 : frD (rows.getD i [] ++ [frD bounds i]) n = frD bounds i := by
    unfold frD
    conv => lhs; rw [← hrl, ← Nat.add_zero (rows.getD i []).length]
    rw [getD_app_r]; rfl
  have e1 : frD bounds i ∈ rows.getD i [] ++ [frD bounds i] := List.mem_append_right _ (by simp)
  rw [h.crow hi, asWholes_get (by rw [h1.1]; omega), e0]
  refine ⟨whole_is (h1.2 _ e1).1.pos (h2.2.1 _ e1), ?_⟩
  have hb : 0 ≤ (frD bounds i).1 := by
    unfold frD
    rw [getD_lt (by rw [h.bl]; exact hi)]
    exact (h.bf _ (List.getElem_mem _)).2
  exact Int.mul_nonneg hb (Int.ediv_nonneg (by omega) (by have := (h1.2 _ e1).1.pos; omega))
theorem InOk.isWish (h : InOk n rows bounds wishes) {w k : Nat} (hw : w < wishes.length) (hk : k < n) : Is (frD (wishes.getD w []) k) ((mkSheet rows bounds wishes).c (rows.length + w) k) (Hd.wscale wishes w) := by
  have h1 := h.fwish hw
  have h2 := h.wscale hw
  unfold Sh.c
  have e1 : frD (wishes.getD w []) k ∈ wishes.getD w [] := by unfold frD; rw [getD_lt (xs := wishes.getD w []) (by rw [h1.1]; exact hk)]; exact List.getElem_mem _
  rw [h.cwish hw, getD_app_l (xs := asWholes (wishes.getD w []) (Hd.wscale wishes w)) (by rw [asWholes_len, h1.1]; exact hk), asWholes_get (fs := wishes.getD w []) (by rw [h1.1]; exact hk)]
  exact whole_is (h1.2 _ e1).1.pos (h2.2.1 _ e1)
theorem InOk.wish0 (h : InOk n rows bounds wishes) {w : Nat} (hw : w < wishes.length) : (mkSheet rows bounds wishes).c (rows.length + w) n = 0 := by
  have h1 := h.fwish hw
  unfold Sh.c
  rw [h.cwish hw]
  conv => lhs; rw [show n = (asWholes (wishes.getD w []) (Hd.wscale wishes w)).length + 0 by rw [asWholes_len, h1.1]; rfl]
  rw [getD_app_r]; rfl
theorem as_le {fs : List Fr} {S : Int} (h : ∀ f ∈ fs, Giv0 f) (hS : 0 < S ∧ (∀ f ∈ fs, f.2 ∣ S) ∧ S ≤ 997 ^ 9) : ∀ x ∈ asWholes fs S, -(2 ^ 121) ≤ x ∧ x ≤ 2 ^ 121 := fun x hx => by
  obtain ⟨f, hf, rfl⟩ := List.mem_map.mp hx
  exact whole_le (h f hf).1.pos (hS.2.1 f hf) hS.1 hS.2.2 (h f hf).1.top
theorem getD_le {xs : List Int} (h : ∀ x ∈ xs, -(2 ^ 121) ≤ x ∧ x ≤ 2 ^ 121) (k : Nat) : -(2 ^ 121) ≤ xs.getD k 0 ∧ xs.getD k 0 ≤ 2 ^ 121 := by
  by_cases hk : k < xs.length
  · rw [getD_lt hk]; exact h _ (List.getElem_mem _)
  · rw [List.getD_eq_getElem?_getD, List.getElem?_eq_none (by omega)]
    decide
theorem InOk.le (h : InOk n rows bounds wishes) (i k : Nat) : -(2 ^ 121) ≤ (mkSheet rows bounds wishes).c i k ∧ (mkSheet rows bounds wishes).c i k ≤ 2 ^ 121 := by
  by_cases hi : i < rows.length
  · unfold Sh.c
    rw [h.crow hi]
    exact getD_le (as_le (h.frow hi).2 (h.scale hi)) k
  · by_cases hi2 : i < rows.length + wishes.length
    · obtain ⟨w, rfl⟩ : ∃ w, i = rows.length + w := ⟨i - rows.length, by omega⟩
      unfold Sh.c
      rw [h.cwish (by omega)]
      refine getD_le (fun x hx => ?_) k
      rcases List.mem_append.mp hx with hx | hx
      · exact as_le (h.fwish (by omega)).2 (h.wscale (by omega)) x hx
      · rw [List.mem_singleton.mp hx]; decide
    · rw [h.wfm.out (by omega)]; decide
theorem InOk.inv (h : InOk n rows bounds wishes) : Inv n rows.length (rows.length + wishes.length) (avec n (mkSheet rows bounds wishes)) (bvec n (mkSheet rows bounds wishes)) (mkSheet rows bounds wishes).tab := by
  refine init_inv h.wfm rfl (fun s hs => ?_) (fun i hi => ?_) fun i hi => (h.isBound hi).2
  · show (List.range _).getD s 0 = s
    rw [h.w0, getD_lt (by rw [List.length_range]; exact hs), List.getElem_range]
  · show (List.range' _ _).getD i 0 = _
    rw [h.w0, getD_lt (by rw [List.length_range']; exact hi), List.getElem_range']
    omega
theorem InOk.ale (h : InOk n rows bounds wishes) (v j : Nat) : -(2 ^ 121) ≤ avec n (mkSheet rows bounds wishes) v j ∧ avec n (mkSheet rows bounds wishes) v j ≤ 2 ^ 121 := by
  unfold avec
  split
  · exact h.le j v
  · unfold unit; split <;> decide
theorem InOk.ble (h : InOk n rows bounds wishes) (j : Nat) : -(2 ^ 121) ≤ bvec n (mkSheet rows bounds wishes) j ∧ bvec n (mkSheet rows bounds wishes) j ≤ 2 ^ 121 := h.le j n
end
end Hd


/-! text Math -/
set_option Elab.async false
set_option linter.all false
set_option maxHeartbeats 4000000
/-! What a sheet's numbers say of the given rows. -/
namespace Hd
theorem sumN_swap : ∀ (m n : Nat) (f : Nat → Nat → Int), sumN m (fun i => sumN n (fun k => f i k)) = sumN n (fun k => sumN m (fun i => f i k))
  | 0, n, f => by
    show 0 = _
    exact (sumN_zero fun i _ => rfl).symm
  | m + 1, n, f => by
    show sumN m (fun i => sumN n (fun k => f i k)) + sumN n (fun k => f m k) = _
    rw [sumN_swap m n f, ← sumN_add]
    rfl
theorem sumN_le : ∀ {n : Nat} {f g : Nat → Int}, (∀ i, i < n → f i ≤ g i) → sumN n f ≤ sumN n g
  | 0, _, _, _ => Int.le_refl _
  | n + 1, f, g, h => by
    simp only [sumN]
    have h1 := sumN_le (n := n) (f := f) (g := g) fun i hi => h i (by omega)
    have h2 := h n (by omega)
    omega
theorem sumN_neg (n : Nat) (f : Nat → Int) : sumN n (fun i => - f i) = - sumN n f := by
  have := sumN_mul n (-1) f
  rw [show (-1 : Int) * sumN n f = - sumN n f by omega] at this
  rw [← this]
  exact sumN_congr fun i _ => by omega
section
variable {n m M : Nat} {T0 T : Sh}
/-- column s, told by numbers of columns and rows -/
def Xs (M : Nat) (T : Sh) (s k : Nat) : Int := sumN M fun i => if T.tab.dn i = k then T.c i s else 0
/-- what row i reckons of the vector of number k -/
def Ph (n M : Nat) (T0 T : Sh) (i k : Nat) : Int := dF M (put (T.tab.B (avec n T0)) i (avec n T0 k))
variable (W0 : Wf n m M T0) (W : Wf n m M T) (I : Inv n m M (avec n T0) (bvec n T0) T.tab)
include I
theorem xs_dn {i : Nat} (hi : i < M) (s : Nat) : Xs M T s (T.tab.dn i) = T.c i s := by
  unfold Xs
  rw [sumN_one i hi fun k hk hne => if_neg fun e => hne (I.dni k i hk hi e), if_pos rfl]
theorem xs_no {s k : Nat} (h : ∀ i, i < M → T.tab.dn i ≠ k) : Xs M T s k = 0 := sumN_zero fun i hi => if_neg (h i hi)
theorem xs_small {i : Nat} (hi : i < M) (h : T.tab.dn i < n + m) : i < m := by
  apply Classical.byContradiction
  intro hc
  have := I.dnw i (by omega) hi
  omega
theorem xs_wish {w : Nat} (hw : m + w < M) (s : Nat) : Xs M T s (n + (m + w)) = T.c (m + w) s := by
  have e := I.dnw (m + w) (by omega) hw
  rw [← e]; exact xs_dn I hw s
theorem xs_nonneg {k : Nat} (hk : k < n + m) : 0 ≤ Xs M T n k := by
  unfold Xs
  refine sumN_nonneg fun i hi => ?_
  split
  · exact I.rhs i (xs_small I hi (by omega))
  · omega
theorem xs_nonpos {s k : Nat} (hk : k < n + m) (h : ∀ i, i < m → T.c i s ≤ 0) : Xs M T s k ≤ 0 := by
  have : 0 ≤ sumN M fun i => -(if T.tab.dn i = k then T.c i s else 0) := sumN_nonneg fun i hi => by
    split
    · have := h i (xs_small I hi (by omega)); omega
    · omega
  rw [sumN_neg] at this
  unfold Xs
  omega
theorem rel_xs {s : Nat} (hs : s ≤ n) (j : Nat) : T.bottom * T.tab.col n (avec n T0) (bvec n T0) s j = sumN n (fun k => T0.c j k * Xs M T s k) + Xs M T s (n + j) := by
  have h := I.rel s hs j
  rw [show T.bottom = T.tab.D from rfl, h]
  unfold Xs
  have e : ∀ i, i < M → T.tab.c i s * T.tab.B (avec n T0) i j = sumN n (fun k => T0.c j k * (if T.tab.dn i = k then T.c i s else 0)) + (if T.tab.dn i = n + j then T.c i s else 0) := fun i hi => by
    show T.c i s * avec n T0 (T.tab.dn i) j = _
    generalize T.tab.dn i = d
    unfold avec
    by_cases hd : d < n
    · rw [if_pos hd, if_neg (by omega), sumN_one d hd fun k _ hne => by rw [if_neg (Ne.symm hne)]; omega, if_pos rfl]
      grind
    · rw [if_neg hd, sumN_zero fun k hk => by rw [if_neg (by omega)]; omega]
      unfold unit
      by_cases hj : j = d - n
      · rw [if_pos hj, if_pos (by omega)]; omega
      · rw [if_neg hj, if_neg (by omega)]; omega
  rw [sumN_congr e, sumN_add, sumN_swap]
  congr 1
  exact sumN_congr fun k _ => by rw [sumN_mul]
theorem fit_row (j : Nat) : T.bottom * T0.c j n = sumN n (fun k => T0.c j k * Xs M T n k) + Xs M T n (n + j) := by
  have h := rel_xs I (Nat.le_refl n) j
  unfold Tab.col at h
  rw [if_neg (by omega)] at h
  exact h
/-- the way of column s -/
def Wy (M : Nat) (T : Sh) (s k : Nat) : Int := (if k = T.ac s then T.bottom else 0) - Xs M T s k
theorem way_row {s : Nat} (hs : s < n) (j : Nat) : sumN n (fun k => T0.c j k * Wy M T s k) = Xs M T s (n + j) - (if T.ac s = n + j then T.bottom else 0) := by
  have h := rel_xs I (Nat.le_of_lt hs) j
  unfold Tab.col at h
  rw [if_pos hs] at h
  have e : sumN n (fun k => T0.c j k * Wy M T s k) = sumN n (fun k => T0.c j k * (if k = T.ac s then T.bottom else 0)) - sumN n (fun k => T0.c j k * Xs M T s k) := by
    rw [show ∀ x y : Int, x - y = x + -y by omega, ← sumN_neg, ← sumN_add]
    exact sumN_congr fun k _ => by unfold Wy; grind
  rw [e]
  have e2 : sumN n (fun k => T0.c j k * (if k = T.ac s then T.bottom else 0)) = T.bottom * avec n T0 (T.ac s) j - (if T.ac s = n + j then T.bottom else 0) := by
    generalize T.ac s = d
    unfold avec
    by_cases hd : d < n
    · rw [sumN_one d hd fun k _ hne => by rw [if_neg hne]; omega, if_pos rfl, if_pos hd, if_neg (by omega)]; grind
    · rw [sumN_zero fun k hk => by rw [if_neg (by omega)]; omega, if_neg hd]
      unfold unit
      by_cases hj : j = d - n
      · rw [if_pos hj, if_pos (by omega)]; omega
      · rw [if_neg hj, if_neg (by omega)]; omega
  rw [e2]
  have e3 : T.tab.ac s = T.ac s := rfl
  rw [e3] at h
  omega
theorem way_nonneg {s : Nat} (hs : s < n) (h : ∀ i, i < m → T.c i s ≤ 0) {k : Nat} (hk : k < n) : 0 ≤ Wy M T s k := by
  have h1 := xs_nonpos I (k := k) (by omega) h
  have h2 : 0 < T.bottom := I.pos
  unfold Wy
  split <;> omega
/-- what a row reckons -/
theorem ph_ac {i s : Nat} (hi : i < M) (hs : s < n) : Ph n M T0 T i (T.ac s) = T.c i s := by
  have h := I.hc i hi s (Nat.le_of_lt hs)
  unfold Tab.col at h
  rw [if_pos hs] at h
  exact h.symm
theorem ph_dn {i k : Nat} (hi : i < M) (hk : k < M) : Ph n M T0 T i (T.tab.dn k) = if k = i then T.bottom else 0 := by
  unfold Ph
  by_cases e : k = i
  · subst e
    rw [if_pos rfl, show T.bottom = T.tab.D from rfl, I.hD]
    exact dF_congr fun j _ => by
      unfold put; split
      · rename_i h; rw [h]; rfl
      · rfl
  · rw [if_neg e]
    exact dF_same' hi hk (Ne.symm e) (by rw [put_self, put_ne e]; rfl)
theorem ph_wish {w w' : Nat} (hw : m + w < M) (hw' : m + w' < M) : Ph n M T0 T (m + w) (n + (m + w')) = if w' = w then T.bottom else 0 := by
  have e := I.dnw (m + w') (by omega) hw'
  rw [← e, ph_dn I hw hw']
  by_cases h : w' = w
  · rw [if_pos h, if_pos (by omega)]
  · rw [if_neg h, if_neg (by omega)]
theorem ph_lin {i : Nat} (hi : i < M) {v : Vec} (hv : ∀ j, M ≤ j → v j = 0) : dF M (put (T.tab.B (avec n T0)) i v) = sumN M (fun j => v j * Ph n M T0 T i (n + j)) := by
  have e : v = lcomb M v unit := by
    funext j
    unfold lcomb
    by_cases h : j < M
    · rw [sumN_one j h fun i _ hi => by rw [unit_ne (Ne.symm hi)]; omega, unit_self]; omega
    · rw [hv j (by omega), sumN_zero]
      intro i hi
      rw [unit_ne (by omega)]; omega
  conv => lhs; rw [e]
  rw [dF_lcomb hi]
  refine sumN_congr fun j hj => ?_
  unfold Ph
  congr 2
  have h := I.un j hj
  rw [h]
include W0
theorem ph_col {i k : Nat} (hi : i < M) (hk : k < n) : Ph n M T0 T i k = sumN M (fun j => T0.c j k * Ph n M T0 T i (n + j)) := by
  have e : avec n T0 k = fun j => T0.c j k := by funext j; unfold avec; rw [if_pos hk]
  have h := ph_lin I hi (v := avec n T0 k) (fun j hj => by rw [e]; exact W0.out hj k)
  unfold Ph at *
  rw [h, e]
theorem ph_b {i : Nat} (hi : i < M) : T.c i n = sumN M (fun j => T0.c j n * Ph n M T0 T i (n + j)) := by
  have h := I.hc i hi n (Nat.le_refl n)
  unfold Tab.col at h
  rw [if_neg (by omega)] at h
  have h2 := ph_lin I hi (v := bvec n T0) (fun j hj => W0.out hj n)
  exact h.trans h2
theorem wish_sum {w : Nat} (hw : m + w < M) (k : Nat) : sumN M (fun j => T0.c j k * Ph n M T0 T (m + w) (n + j)) = sumN m (fun j => T0.c j k * Ph n M T0 T (m + w) (n + j)) + T.bottom * T0.c (m + w) k := by
  obtain ⟨d, hd⟩ : ∃ d, M = m + d := ⟨M - m, by have := I.mM; omega⟩
  have e : ∀ f, sumN M f = sumN m f + sumN d (fun i => f (m + i)) := fun f => by rw [hd]; exact sumN_split m d f
  rw [e]
  congr 1
  rw [sumN_one w (by omega) fun i hi hne => by rw [ph_wish I hw (by omega), if_neg hne]; omega, ph_wish I hw hw, if_pos rfl]
  grind
/-- prices: what row m + w reckons of the rows -/
theorem price_col {w k : Nat} (hw : m + w < M) (hk : k < n) : Ph n M T0 T (m + w) k = sumN m (fun j => T0.c j k * Ph n M T0 T (m + w) (n + j)) + T.bottom * T0.c (m + w) k := by
  rw [ph_col W0 I hw hk, wish_sum W0 I hw]
theorem price_b {w : Nat} (hw : m + w < M) : T.c (m + w) n = sumN m (fun j => T0.c j n * Ph n M T0 T (m + w) (n + j)) + T.bottom * T0.c (m + w) n := by
  rw [ph_b W0 I hw, wish_sum W0 I hw]
omit W0
/-- a number below n + m is of a column, or row m + w reckons nought of it -/
theorem ph_cases {w k : Nat} (hw : m + w < M) (hk : k < n + m) : (∃ s, s < n ∧ T.ac s = k) ∨ ∀ w, m + w < M → Ph n M T0 T (m + w) k = 0 := by
  rcases I.cov k (by have := I.mM; omega) with ⟨i, hi, e⟩ | ⟨s, hs, e⟩
  · refine .inr fun w hw => ?_
    have := xs_small I hi (by omega)
    rw [← e, ph_dn I hw hi, if_neg (by omega)]
  · exact .inl ⟨s, hs, e⟩
end

/-! ### what fractions say -/
theorem Is.less {f g : Fr} {p q S R : Int} (h : Is f p S) (k : Is g q R) : Is (lawLess f g) (p * R - q * S) (S * R) :=
  ⟨Int.mul_pos h.pos k.pos, by
    show (f.1 * g.2 - g.1 * f.2) * (S * R) = (p * R - q * S) * (f.2 * g.2)
    have h1 := h.eq
    have h2 := k.eq
    have e1 : (f.1 * S) * (g.2 * R) = (p * f.2) * (g.2 * R) := by rw [h1]
    have e2 : (g.1 * R) * (f.2 * S) = (q * g.2) * (f.2 * S) := by rw [h2]
    grind⟩
theorem Is.times {f g : Fr} {p q S R : Int} (h : Is f p S) (k : Is g q R) : Is (lawTimes f g) (p * q) (S * R) :=
  ⟨Int.mul_pos h.pos k.pos, by
    show (f.1 * g.1) * (S * R) = (p * q) * (f.2 * g.2)
    have e1 : (f.1 * S) * (g.1 * R) = (p * f.2) * (q * g.2) := by rw [h.eq, k.eq]
    grind⟩
theorem mul_sgn {a b p : Int} (hb : 0 < b) (hp : a * b = p) : (0 < a ↔ 0 < p) ∧ (a = 0 ↔ p = 0) ∧ (a < 0 ↔ p < 0) := by
  subst hp
  rcases Int.lt_trichotomy a 0 with h | h | h
  · have := Int.mul_neg_of_neg_of_pos h hb
    omega
  · subst h; simp
  · have := Int.mul_pos h hb
    omega
theorem Is.sgn {f : Fr} {p S : Int} (h : Is f p S) (hS : 0 < S) : (0 < f.1 ↔ 0 < p) ∧ (f.1 = 0 ↔ p = 0) ∧ (f.1 < 0 ↔ p < 0) := by
  have h1 := mul_sgn hS h.eq
  have h2 := mul_sgn h.pos (rfl : p * f.2 = _)
  exact ⟨h1.1.trans h2.1.symm, h1.2.1.trans h2.2.1.symm, h1.2.2.trans h2.2.2.symm⟩
theorem Is.cut {f : Fr} {p S k : Int} (hk : k ≠ 0) (h : Is f (k * p) (k * S)) : Is f p S :=
  ⟨h.pos, Int.eq_of_mul_eq_mul_left hk (by have := h.eq; grind)⟩
theorem ratio_is {t b : Int} (hb : 0 < b) : Is (ratio t b) t b := ⟨ratio_pos hb, ratio_cross hb⟩
theorem zero_is {S : Int} : Is (0, 1) 0 S := ⟨by decide, by show (0 : Int) * S = 0 * 1; omega⟩
/-- the parts of a dot -/
theorem dots_is {S : Int} : ∀ (ps : List (Fr × Fr)) (p : Nat → Int) (z : Fr) (v : Int), Is z v S → (∀ k (h : k < ps.length), 0 < ps[k].1.2 ∧ 0 < ps[k].2.2 ∧ ps[k].1.1 * ps[k].2.1 * S = p k * (ps[k].1.2 * ps[k].2.2)) →
    Is (ps.foldl dotStep z) (v + sumN ps.length p) S
  | [], p, z, v, h, _ => by simpa [sumN] using h
  | q :: ps, p, z, v, h, hp => by
    obtain ⟨h1, h2, h3⟩ := hp 0 (by simp)
    simp only [List.getElem_cons_zero] at h1 h2 h3
    have hz : Is (dotStep z q) (v + p 0) S := by
      refine ⟨Int.mul_pos (Int.mul_pos h.pos h1) h2, ?_⟩
      show (z.1 * q.1.2 * q.2.2 + q.1.1 * q.2.1 * z.2) * S = (v + p 0) * (z.2 * q.1.2 * q.2.2)
      have := h.eq
      have e1 : (z.1 * S) * (q.1.2 * q.2.2) = (v * z.2) * (q.1.2 * q.2.2) := by rw [this]
      have e2 : (q.1.1 * q.2.1 * S) * z.2 = (p 0 * (q.1.2 * q.2.2)) * z.2 := by rw [h3]
      grind
    have := dots_is ps (fun k => p (k + 1)) _ _ hz fun k hk => by
      have := hp (k + 1) (by simp; omega)
      simpa using this
    rw [List.foldl_cons]
    have e : v + sumN (q :: ps).length p = v + p 0 + sumN ps.length (fun k => p (k + 1)) := by
      rw [List.length_cons, show ps.length + 1 = 1 + ps.length by omega, sumN_split]
      simp only [sumN]
      have : sumN ps.length (fun i => p (1 + i)) = sumN ps.length (fun k => p (k + 1)) := sumN_congr fun i _ => by rw [Nat.add_comm]
      omega
    rw [e]; exact this
theorem dot_is {fs gs : List Fr} {n : Nat} {S : Int} {p : Nat → Int} (h1 : fs.length = n) (h2 : gs.length = n) (h : ∀ k, k < n → 0 < (frD fs k).2 ∧ 0 < (frD gs k).2 ∧ (frD fs k).1 * (frD gs k).1 * S = p k * ((frD fs k).2 * (frD gs k).2)) :
    Is (lawDot fs gs) (sumN n p) S := by
  have hl : (fs.zip gs).length = n := by rw [List.length_zip, h1, h2, Nat.min_self]
  have := dots_is (S := S) (fs.zip gs) p (0, 1) 0 zero_is fun k hk => by
    have hk' : k < n := by omega
    have := h k hk'
    unfold frD at this
    rw [getD_lt (by omega), getD_lt (by omega)] at this
    rw [List.getElem_zip]
    exact this
  rw [hl, Int.zero_add] at this
  exact this
theorem dot_is2 {fs gs : List Fr} {n : Nat} {S R : Int} {p q : Nat → Int} (h1 : fs.length = n) (h2 : gs.length = n) (hf : ∀ k, k < n → Is (frD fs k) (p k) S) (hg : ∀ k, k < n → Is (frD gs k) (q k) R) : Is (lawDot fs gs) (sumN n fun k => p k * q k) (S * R) :=
  dot_is h1 h2 fun k hk => ⟨(hf k hk).pos, (hg k hk).pos, by
    have e : ((frD fs k).1 * S) * ((frD gs k).1 * R) = (p k * (frD fs k).2) * (q k * (frD gs k).2) := by rw [(hf k hk).eq, (hg k hk).eq]
    grind⟩
/-- numbers over their own scales against prices of those scales -/
theorem dot_isS {fs gs : List Fr} {n : Nat} {R : Int} {p q S : Nat → Int} (h1 : fs.length = n) (h2 : gs.length = n) (hS : ∀ k, k < n → 0 < S k) (hf : ∀ k, k < n → Is (frD fs k) (p k) (S k)) (hg : ∀ k, k < n → Is (frD gs k) (q k * S k) R) : Is (lawDot fs gs) (sumN n fun k => p k * q k) R :=
  dot_is h1 h2 fun k hk => ⟨(hf k hk).pos, (hg k hk).pos, by
    have h0 := hS k hk
    apply Int.eq_of_mul_eq_mul_left (show S k ≠ 0 by omega)
    have e : ((frD fs k).1 * S k) * ((frD gs k).1 * R) = (p k * (frD fs k).2) * (q k * S k * (frD gs k).2) := by rw [(hf k hk).eq, (hg k hk).eq]
    grind⟩

/-! ### a list filled here and there -/
def scat (n : Nat) (ok : Nat → Bool) (pos : Nat → Nat) (val : Nat → Fr) (init : List Fr) : List Fr := (List.range n).foldl (fun f r => if ok r then f.set (pos r) (val r) else f) init
section
variable {n : Nat} {ok : Nat → Bool} {pos : Nat → Nat} {val : Nat → Fr} {init : List Fr}
theorem scat_succ : scat (n + 1) ok pos val init = if ok n then (scat n ok pos val init).set (pos n) (val n) else scat n ok pos val init := by
  unfold scat
  rw [List.range_succ, List.foldl_append]; rfl
theorem scat_len : (scat n ok pos val init).length = init.length := by
  induction n with
  | zero => rfl
  | succ n ih => rw [scat_succ]; split
                 · rw [List.length_set, ih]
                 · exact ih
theorem scat_get {k : Nat} (hk : k < init.length) : (∃ r, r < n ∧ ok r = true ∧ pos r = k ∧ frD (scat n ok pos val init) k = val r) ∨ ((∀ r, r < n → ok r = true → pos r ≠ k) ∧ frD (scat n ok pos val init) k = frD init k) := by
  induction n with
  | zero => exact .inr ⟨fun r hr => by omega, rfl⟩
  | succ n ih =>
    rw [scat_succ]
    by_cases h : ok n = true
    · rw [if_pos h]
      by_cases e : pos n = k
      · refine .inl ⟨n, by omega, h, e, ?_⟩
        unfold frD
        subst e
        rw [getD_set (by rw [scat_len]; exact hk), if_pos rfl]
      · have e2 : frD ((scat n ok pos val init).set (pos n) (val n)) k = frD (scat n ok pos val init) k := by
          unfold frD
          rw [List.getD_eq_getElem?_getD, List.getElem?_set_ne e, ← List.getD_eq_getElem?_getD]
        rw [e2]
        rcases ih with ⟨r, h1, h2, h3, h4⟩ | ⟨h1, h2⟩
        · exact .inl ⟨r, by omega, h2, h3, h4⟩
        · refine .inr ⟨fun r hr hok => ?_, h2⟩
          by_cases hrn : r = n
          · rw [hrn]; exact e
          · exact h1 r (by omega) hok
    · rw [if_neg h]
      rcases ih with ⟨r, h1, h2, h3, h4⟩ | ⟨h1, h2⟩
      · exact .inl ⟨r, by omega, h2, h3, h4⟩
      · refine .inr ⟨fun r hr hok => ?_, h2⟩
        by_cases hrn : r = n
        · rw [hrn] at hok; exact absurd hok h
        · exact h1 r (by omega) hok
theorem scat_all {Q : Fr → Prop} (h1 : ∀ f ∈ init, Q f) (h2 : ∀ r, r < n → ok r = true → Q (val r)) : ∀ f ∈ scat n ok pos val init, Q f := by
  induction n with
  | zero => exact h1
  | succ n ih =>
    have ih' := ih fun r hr => h2 r (by omega)
    rw [scat_succ]
    split
    · intro f hf
      rcases List.mem_or_eq_of_mem_set hf with h | h
      · exact ih' f h
      · rw [h]; exact h2 n (by omega) (by assumption)
    · exact ih'
end
end Hd


/-! text Lay -/
set_option Elab.async false
set_option linter.all false
set_option maxRecDepth 100000
set_option maxHeartbeats 4000000
/-! The layer over the layer: data in the heap (Dq), expressions that come to data (EvD). -/
namespace Hd
open PySem PySem.Spec PyProof.Rows L2 Evl

/-! ### data that stands in the heap, tracked and unlocked -/
mutual
inductive Dq (H : Hp) : V → PyData → Prop
  | non : Dq H .non .none
  | bl (b : Bool) : Dq H (.bl b) (.bool b)
  | int (i : Int) : Dq H (.int i) (.int i)
  | str (x : Str) : Dq H (.str x) (.str x)
  | lst {a : Addr} {xs : List V} {ds : List PyData} : H a = some (.lst xs) → DqAll H xs ds → Dq H (.ref a) (.list ds)
  | tup {a : Addr} {xs : List V} {ds : List PyData} : H a = some (.tup xs) → DqAll H xs ds → Dq H (.ref a) (.tuple ds)
inductive DqAll (H : Hp) : List V → List PyData → Prop
  | nil : DqAll H [] []
  | cons {v : V} {vs : List V} {d : PyData} {ds : List PyData} : Dq H v d → DqAll H vs ds → DqAll H (v :: vs) (d :: ds)
end
section
variable {H H' : Hp}
mutual
theorem Dq.mono (e : Ex H H') : ∀ (d : PyData) (v : V), Dq H v d → Dq H' v d
  | .none, _, h => by cases h; exact .non
  | .bool b, _, h => by cases h; exact .bl b
  | .int i, _, h => by cases h; exact .int i
  | .str x, _, h => by cases h; exact .str x
  | .list ds, _, h => by
    cases h with
    | lst h1 h2 => exact .lst (e _ _ h1) (DqAll.mono e ds _ h2)
  | .tuple ds, _, h => by
    cases h with
    | tup h1 h2 => exact .tup (e _ _ h1) (DqAll.mono e ds _ h2)
  | .dict _, _, h => by cases h
theorem DqAll.mono (e : Ex H H') : ∀ (ds : List PyData) (vs : List V), DqAll H vs ds → DqAll H' vs ds
  | [], _, h => by cases h; exact .nil
  | d :: ds, _, h => by
    cases h with
    | cons h1 h2 => exact .cons (Dq.mono e d _ h1) (DqAll.mono e ds _ h2)
end
mutual
theorem Dq.dp (K : PySem.W.Frag) : ∀ (d : PyData) (v : V), Dq H v d → Dp K H v d
  | .none, _, h => by cases h; exact .non
  | .bool b, _, h => by cases h; exact .bl b
  | .int i, _, h => by cases h; exact .int i
  | .str x, _, h => by cases h; exact .str x
  | .list ds, _, h => by
    cases h with
    | lst h1 h2 => exact .lst (SqL.of h1) (DqAll.dp K ds _ h2)
  | .tuple ds, _, h => by
    cases h with
    | tup h1 h2 => exact .tup (SqT.of h1) (DqAll.dp K ds _ h2)
  | .dict _, _, h => by cases h
theorem DqAll.dp (K : PySem.W.Frag) : ∀ (ds : List PyData) (vs : List V), DqAll H vs ds → DpAll K H vs ds
  | [], _, h => by cases h; exact .nil
  | d :: ds, _, h => by
    cases h with
    | cons h1 h2 => exact .cons (Dq.dp K d _ h1) (DqAll.dp K ds _ h2)
end
theorem Dq.m {d : PyData} {v : V} (h : Dq H v d) (e : Ex H H') : Dq H' v d := Dq.mono e d v h
theorem DqAll.m {ds : List PyData} {vs : List V} (h : DqAll H vs ds) (e : Ex H H') : DqAll H' vs ds := DqAll.mono e ds vs h
theorem DqAll.length : ∀ {vs : List V} {ds : List PyData}, DqAll H vs ds → vs.length = ds.length
  | _, _, .nil => rfl
  | _, _, .cons _ t => by simp [DqAll.length t]
theorem DqAll.get : ∀ {vs : List V} {ds : List PyData} {i : Nat} {d : PyData}, DqAll H vs ds → ds[i]? = some d → ∃ v, vs[i]? = some v ∧ Dq H v d
  | _, _, _, _, .nil, e => by simp at e
  | _, _, 0, _, .cons r _, e => by simp at e; subst e; exact ⟨_, rfl, r⟩
  | _, _, i + 1, d, .cons _ t, e => by
    obtain ⟨u, h1, h2⟩ := DqAll.get (i := i) t (by simpa using e)
    exact ⟨u, by simpa using h1, h2⟩
theorem DqAll.get' : ∀ {vs : List V} {ds : List PyData} {i : Nat} {v : V}, DqAll H vs ds → vs[i]? = some v → ∃ d, ds[i]? = some d ∧ Dq H v d
  | _, _, _, _, .nil, e => by simp at e
  | _, _, 0, _, .cons r _, e => by simp at e; subst e; exact ⟨_, rfl, r⟩
  | _, _, i + 1, v, .cons _ t, e => by
    obtain ⟨u, h1, h2⟩ := DqAll.get' (i := i) t (by simpa using e)
    exact ⟨u, by simpa using h1, h2⟩
theorem DqAll.append : ∀ {vs ws : List V} {ds es : List PyData}, DqAll H vs ds → DqAll H ws es → DqAll H (vs ++ ws) (ds ++ es)
  | _, _, _, _, .nil, s => s
  | _, _, _, _, .cons r t, s => .cons r (DqAll.append t s)
theorem DqAll.set {v : V} {d : PyData} (r : Dq H v d) : ∀ {vs : List V} {ds : List PyData} (i : Nat), DqAll H vs ds → DqAll H (vs.set i v) (ds.set i d)
  | _, _, _, .nil => .nil
  | _, _, 0, .cons _ t => .cons r t
  | _, _, i + 1, .cons q t => .cons q (DqAll.set r i t)
theorem DqAll.rep {v : V} {d : PyData} (r : Dq H v d) : ∀ n, DqAll H (List.replicate n v) (List.replicate n d)
  | 0 => .nil
  | n + 1 => .cons r (DqAll.rep r n)
theorem DqAll.take : ∀ {vs : List V} {ds : List PyData} (n : Nat), DqAll H vs ds → DqAll H (vs.take n) (ds.take n)
  | _, _, 0, _ => by simp; exact .nil
  | _, _, n + 1, .nil => by simp; exact .nil
  | _, _, n + 1, .cons r t => by simp only [List.take_succ_cons]; exact .cons r (DqAll.take n t)
theorem DqAll.drop : ∀ {vs : List V} {ds : List PyData} (n : Nat), DqAll H vs ds → DqAll H (vs.drop n) (ds.drop n)
  | _, _, 0, r => by simpa using r
  | _, _, n + 1, .nil => by simp; exact .nil
  | _, _, n + 1, .cons r t => by simp only [List.drop_succ_cons]; exact DqAll.drop n t
theorem DqAll.ints : ∀ ns : List Int, DqAll H (ns.map V.int) (ns.map PyData.int)
  | [] => .nil
  | n :: ns => .cons (.int n) (DqAll.ints ns)
theorem DqAll.ints_inv : ∀ {ns : List Int} {vs : List V}, DqAll H vs (ns.map PyData.int) → vs = ns.map V.int
  | [], _, .nil => rfl
  | n :: ns, _, .cons h t => by
    cases h
    rw [DqAll.ints_inv t]; rfl
theorem Dq.int_inv {v : V} {i : Int} (h : Dq H v (.int i)) : v = .int i := by cases h; rfl
theorem Dq.bl_inv {v : V} {b : Bool} (h : Dq H v (.bool b)) : v = .bl b := by cases h; rfl
theorem Dq.str_inv {v : V} {x : Str} (h : Dq H v (.str x)) : v = .str x := by cases h; rfl
theorem Dq.lst_inv {v : V} {ds : List PyData} (h : Dq H v (.list ds)) : ∃ a xs, v = .ref a ∧ H a = some (.lst xs) ∧ DqAll H xs ds := by
  cases h with
  | lst h1 h2 => exact ⟨_, _, rfl, h1, h2⟩
theorem Dq.tup_inv {v : V} {ds : List PyData} (h : Dq H v (.tuple ds)) : ∃ a xs, v = .ref a ∧ H a = some (.tup xs) ∧ DqAll H xs ds := by
  cases h with
  | tup h1 h2 => exact ⟨_, _, rfl, h1, h2⟩
theorem DqAll.one {v : V} {d : PyData} (h : Dq H v d) : DqAll H [v] [d] := .cons h .nil
theorem DqAll.two {v u : V} {d e : PyData} (h : Dq H v d) (h2 : Dq H u e) : DqAll H [v, u] [d, e] := .cons h (.cons h2 .nil)

/-- something that no growth of the heap undoes -/
def Mono (P : V → Hp → Prop) : Prop := ∀ v H H', Ex H H' → P v H → P v H'

/-! ### expressions that come to something -/
def EvP (te : TE) (σ : L2.St) (H : Hp) (P : V → Hp → Prop) : Prop := ∀ H1, Ex H H1 → ∀ Q : VK, (∀ v H2, Ex H1 H2 → P v H2 → Q v H2) → te σ H1 Q
abbrev EvD (te : TE) (σ : L2.St) (H : Hp) (d : PyData) : Prop := EvP te σ H fun v H' => Dq H' v d
/-- a new list of data -/
def NewL (H : Hp) (ds : List PyData) (v : V) (H' : Hp) : Prop := ∃ p xs, v = .ref p ∧ H p = none ∧ H' p = some (.lst xs) ∧ DqAll H' xs ds
abbrev EvN (te : TE) (σ : L2.St) (H : Hp) (ds : List PyData) : Prop := EvP te σ H (NewL H ds)
/-- arguments that come to data -/
def EaD (ta : TA) (σ : L2.St) (H : Hp) (ds : List PyData) : Prop := ∀ H1, Ex H H1 → ∀ Q : List V → Hp → Prop, (∀ vs H2, Ex H1 H2 → DqAll H2 vs ds → Q vs H2) → ta σ H1 Q
/-- a test's answer -/
abbrev EtD := EvT

variable {K : PySem.W.Frag} {σ : L2.St} {ta tb te tx : TE} {t u : TT} {x y z v : V} {r : R2} {d e : PyData} {ds es : List PyData} {P P' : V → Hp → Prop}
theorem EvP.mono (e : Ex H H') (h : EvP te σ H P) : EvP te σ H' P := fun H1 a Q q => h H1 (e.trans a) Q q
theorem EaD.mono {ta : TA} (e : Ex H H') (h : EaD ta σ H ds) : EaD ta σ H' ds := fun H1 a Q q => h H1 (e.trans a) Q q
theorem EvP.imp (h : EvP te σ H P) (k : ∀ v H1, Ex H H1 → P v H1 → P' v H1) : EvP te σ H P' := fun H1 e1 Q q => h H1 e1 Q fun v H2 e2 p => q v H2 e2 (k v H2 (e1.trans e2) p)
theorem EvP.of_ev {v : V} (h : Ev te σ H v) (k : ∀ H1, Ex H H1 → P v H1) : EvP te σ H P := fun H1 e1 Q q => h H1 e1 Q fun H2 e2 => q v H2 e2 (k H2 (e1.trans e2))
theorem EvN.ls (h : EvN te σ H ds) : EvD te σ H (.list ds) := h.imp fun v H1 _ ⟨p, xs, ev, _, hp, hx⟩ => by subst ev; exact .lst hp hx
theorem ed_var {i : Nat} (h : σ[i]? = some (some v)) (hd : Dq H v d) : EvD (tVar i) σ H d := fun H1 e1 Q q => ⟨v, h, q v H1 (Ex.refl H1) (hd.m e1)⟩
theorem ed_int {i : Int} : EvD (tC (.int i)) σ H (.int i) := fun H1 _ Q q => q _ H1 (Ex.refl H1) (.int i)
theorem ed_bl {b : Bool} : EvD (tC (.bl b)) σ H (.bool b) := fun H1 _ Q q => q _ H1 (Ex.refl H1) (.bl b)
theorem ed_str {x : Str} : EvD (tC (.str x)) σ H (.str x) := fun H1 _ Q q => q _ H1 (Ex.refl H1) (.str x)
theorem ed_non : EvD (tC .non) σ H .none := fun H1 _ Q q => q _ H1 (Ex.refl H1) .non
theorem EvD.ev_int {i : Int} (h : EvD te σ H (.int i)) : Ev te σ H (.int i) := fun H1 e1 Q q => h H1 e1 Q fun v H2 e2 p => by cases p; exact q H2 e2
theorem EvD.ev_bl {b : Bool} (h : EvD te σ H (.bool b)) : Ev te σ H (.bl b) := fun H1 e1 Q q => h H1 e1 Q fun v H2 e2 p => by cases p; exact q H2 e2
theorem EvD.ev_str {x : Str} (h : EvD te σ H (.str x)) : Ev te σ H (.str x) := fun H1 e1 Q q => h H1 e1 Q fun v H2 e2 p => by cases p; exact q H2 e2
theorem EvD.ev_non (h : EvD te σ H .none) : Ev te σ H .non := fun H1 e1 Q q => h H1 e1 Q fun v H2 e2 p => by cases p; exact q H2 e2
theorem ed_ofInt {i : Int} (h : Ev te σ H (.int i)) : EvD te σ H (.int i) := .of_ev h fun _ _ => .int i
theorem ed_ofBl {b : Bool} (h : Ev te σ H (.bl b)) : EvD te σ H (.bool b) := .of_ev h fun _ _ => .bl b
theorem ed_ofStr {x : Str} (h : Ev te σ H (.str x)) : EvD te σ H (.str x) := .of_ev h fun _ _ => .str x

/-- a two-place operation on values that is told by what its operands are -/
theorem ep_op {P1 P2 : V → Hp → Prop} (m1 : Mono P1) (ha : EvP ta σ H P1) (hb : EvP tb σ H P2) (hr : ∀ x y H1, Ex H H1 → P1 x H1 → P2 y H1 → ∀ Q : VK, (∀ v H2, Ex H1 H2 → P v H2 → Q v H2) → r x y H1 Q) : EvP (tOp r ta tb) σ H P := fun H1 e1 Q q =>
  ha H1 e1 _ fun x H2 e2 p1 => hb H2 (e1.trans e2) _ fun y H3 e3 p2 => hr x y H3 ((e1.trans e2).trans e3) (m1 x H2 H3 e3 p1) p2 Q fun v H4 e4 p => q v H4 ((e2.trans e3).trans e4) p
theorem mono_dq : Mono fun v H => Dq H v d := fun _ _ _ e h => h.m e
theorem ed_op (ha : EvD ta σ H d) (hb : EvD tb σ H e) (hr : ∀ x y H1, Ex H H1 → Dq H1 x d → Dq H1 y e → ∀ Q : VK, (∀ v H2, Ex H1 H2 → P v H2 → Q v H2) → r x y H1 Q) : EvP (tOp r ta tb) σ H P := ep_op mono_dq ha hb hr

/-! ints -/
theorem ed_I0 {g : Int → Int → Int} {i j : Int} (ha : EvD ta σ H (.int i)) (hb : EvD tb σ H (.int j)) : EvD (tOp (rI0 fun i j => .int (g i j)) ta tb) σ H (.int (g i j)) := ed_ofInt (ev_op ha.ev_int hb.ev_int rv_I0)
theorem ed_B0 {g : Int → Int → Bool} {i j : Int} (ha : EvD ta σ H (.int i)) (hb : EvD tb σ H (.int j)) : EvD (tOp (rI0 fun i j => .bl (g i j)) ta tb) σ H (.bool (g i j)) := ed_ofBl (ev_op ha.ev_int hb.ev_int rv_I0)
theorem ed_I {C : Int → Int → Prop} {g : Int → Int → Int} {i j : Int} (ha : EvD ta σ H (.int i)) (hb : EvD tb σ H (.int j)) (hc : C i j) : EvD (tOp (rI C fun i j => .int (g i j)) ta tb) σ H (.int (g i j)) := ed_ofInt (ev_op ha.ev_int hb.ev_int (rv_I hc))
theorem ed_neg {i : Int} (ha : EvD ta σ H (.int i)) : EvD (tUn (rU fun i => .int (-i)) ta) σ H (.int (-i)) := ed_ofInt (ev_un ha.ev_int ru_neg)
theorem ed_eqI {i j : Int} (ha : EvD ta σ H (.int i)) (hb : EvD tb σ H (.int j)) : EvD (tOp rEq ta tb) σ H (.bool (decide (i = j))) := by
  refine ed_ofBl (ev_is (ev_op ha.ev_int hb.ev_int (rv_eq rfl)) ?_)
  by_cases h : i = j <;> simp [h]
theorem ed_neI {i j : Int} (ha : EvD ta σ H (.int i)) (hb : EvD tb σ H (.int j)) : EvD (tOp rNe ta tb) σ H (.bool (!decide (i = j))) := by
  refine ed_ofBl (ev_is (ev_op ha.ev_int hb.ev_int (rv_ne rfl)) ?_)
  by_cases h : i = j <;> simp [h]
theorem ed_eqS {i j : Str} (ha : EvD ta σ H (.str i)) (hb : EvD tb σ H (.str j)) : EvD (tOp rEq ta tb) σ H (.bool (decide (i = j))) := by
  refine ed_ofBl (ev_is (ev_op ha.ev_str hb.ev_str (rv_eq rfl)) ?_)
  by_cases h : i = j <;> simp [h]
theorem ed_neS {i j : Str} (ha : EvD ta σ H (.str i)) (hb : EvD tb σ H (.str j)) : EvD (tOp rNe ta tb) σ H (.bool (!decide (i = j))) := by
  refine ed_ofBl (ev_is (ev_op ha.ev_str hb.ev_str (rv_ne rfl)) ?_)
  by_cases h : i = j <;> simp [h]
theorem ed_neB {i j : Bool} (ha : EvD ta σ H (.bool i)) (hb : EvD tb σ H (.bool j)) : EvD (tOp rNe ta tb) σ H (.bool (!decide (i = j))) := by
  refine ed_ofBl (ev_is (ev_op ha.ev_bl hb.ev_bl (rv_ne rfl)) ?_)
  by_cases h : i = j <;> simp [h]
/-! places -/
theorem atI_lt {α : Type} {xs : List α} {j : Nat} {v : α} (h : xs[j]? = some v) : atI xs (j : Int) = some v := atI_nat h
theorem ed_ixL {k : Nat} (ha : EvD ta σ H (.list ds)) (hb : EvD tb σ H (.int k)) (hk : ds[k]? = some d) : EvD (tOp (rIxL K) ta tb) σ H d := ed_op ha hb fun x y H1 _ hx hy Q q => by
  obtain ⟨a, xs, rfl, hp, hall⟩ := hx.lst_inv
  obtain rfl := hy.int_inv
  obtain ⟨v, hv, hd⟩ := hall.get hk
  exact ⟨a, xs, _, v, rfl, rfl, SqL.of hp, atI_nat hv, q v H1 (Ex.refl H1) hd⟩
theorem ed_ixT {k : Nat} (ha : EvD ta σ H (.tuple ds)) (hb : EvD tb σ H (.int k)) (hk : ds[k]? = some d) : EvD (tOp (rIxT K) ta tb) σ H d := ed_op ha hb fun x y H1 _ hx hy Q q => by
  obtain ⟨a, xs, rfl, hp, hall⟩ := hx.tup_inv
  obtain rfl := hy.int_inv
  obtain ⟨v, hv, hd⟩ := hall.get hk
  exact ⟨a, xs, _, v, rfl, rfl, SqT.of hp, atI_nat hv, q v H1 (Ex.refl H1) hd⟩
theorem ed_ixLast (ha : EvD ta σ H (.list ds)) (hb : EvD tb σ H (.int (-1))) (hk : ds.getLast? = some d) : EvD (tOp (rIxL K) ta tb) σ H d := ed_op ha hb fun x y H1 _ hx hy Q q => by
  obtain ⟨a, xs, rfl, hp, hall⟩ := hx.lst_inv
  obtain rfl := hy.int_inv
  have hl := hall.length
  rw [List.getLast?_eq_getElem?] at hk
  obtain ⟨v, hv, hd⟩ := hall.get hk
  refine ⟨a, xs, _, v, rfl, rfl, SqL.of hp, ?_, q v H1 (Ex.refl H1) hd⟩
  have h0 : 0 < ds.length := by
    have := (List.getElem?_eq_some_iff.mp hk).1
    omega
  unfold atI ixN
  rw [if_neg (by omega), if_pos (by omega)]
  have e : ((-1 : Int) + (xs.length : Int)).toNat = ds.length - 1 := by omega
  rw [e]
  exact hv
/-! arguments, displays -/
theorem ea_nilD : EaD tNil σ H [] := fun H1 _ _ q => q [] H1 (Ex.refl H1) .nil
theorem ea_consD {tr : TA} (h : EvD ta σ H d) (hr : EaD tr σ H ds) : EaD (tCons ta tr) σ H (d :: ds) := fun H1 e1 _ q =>
  h H1 e1 _ fun v H2 e2 p => hr H2 (e1.trans e2) _ fun vs H3 e3 ps => q (v :: vs) H3 (e2.trans e3) (.cons (p.m e3) ps)
theorem en_lst {ta : TA} (h : EaD ta σ H ds) (hl : ds.length ≤ 100000) : EvN (tLst ta) σ H ds := fun H1 e1 _ q =>
  h H1 e1 _ fun vs H2 e2 ps => ⟨by rw [ps.length]; exact sz_of hl, fun p hp => q _ _ (e2.trans (Ex.new hp)) ⟨p, vs, rfl, fresh_back (e1.trans e2) hp, upd_same, ps.m (Ex.new hp)⟩⟩
theorem ed_tup {ta : TA} (h : EaD ta σ H ds) (hl : ds.length ≤ 100000) : EvD (tTup ta) σ H (.tuple ds) := fun H1 e1 _ q =>
  h H1 e1 _ fun vs H2 e2 ps => ⟨by rw [ps.length]; exact sz_of hl, fun p hp => q _ _ (e2.trans (Ex.new hp)) (.tup upd_same (ps.m (Ex.new hp)))⟩
theorem en_cat (ha : EvD ta σ H (.list ds)) (hb : EvD tb σ H (.list es)) (hl : ds.length + es.length ≤ 100000) : EvN (tOp rCat ta tb) σ H (ds ++ es) := ed_op ha hb fun x y H1 e1 hx hy Q q => by
  obtain ⟨a, xs, rfl, hp, hall⟩ := hx.lst_inv
  obtain ⟨b, ys, rfl, hq, hbll⟩ := hy.lst_inv
  exact ⟨a, b, xs, ys, rfl, rfl, hp, hq, by rw [hall.length, hbll.length]; exact sz_of hl, fun p hn => q _ _ (Ex.new hn) ⟨p, _, rfl, fresh_back e1 hn, upd_same, (hall.append hbll).m (Ex.new hn)⟩⟩
theorem flat_rep {α : Type} (x : α) : ∀ n, (List.replicate n [x]).flatten = List.replicate n x
  | 0 => rfl
  | n + 1 => by rw [List.replicate_succ, List.flatten_cons, flat_rep x n]; rfl
theorem en_rep {k : Nat} (ha : EvD ta σ H (.list [d])) (hb : EvD tb σ H (.int k)) (hk : k ≤ 1000) : EvN (tOp rRep ta tb) σ H (List.replicate k d) := ed_op ha hb fun x y H1 e1 hx hy Q q => by
  obtain ⟨a, xs, rfl, hp, hall⟩ := hx.lst_inv
  obtain rfl := hy.int_inv
  cases hall with
  | cons h1 h2 =>
    cases h2
    refine ⟨a, _, _, rfl, rfl, hp, by omega, by omega, ?_, fun p hn => q _ _ (Ex.new hn) ⟨p, _, rfl, fresh_back e1 hn, upd_same, ?_⟩⟩
    · show 1 * (k : Int).toNat ≤ sizeLine
      exact sz_of (by omega)
    · rw [show (k : Int).toNat = k from rfl, flat_rep]
      exact (DqAll.rep h1 k).m (Ex.new hn)
/-! calls of defs: a promise over data -/
/-- pre ds r: what is asked of the arguments, what comes back -/
def spD (pre : List PyData → PyData → Prop) : Sp := fun vs H Q _ => ∃ ds r, DqAll H vs ds ∧ pre ds r ∧ ∀ v H', Ex H H' → Dq H' v r → Q v H'
/-- the same, a new list handed back -/
def spN (pre : List PyData → List PyData → Prop) : Sp := fun vs H Q _ => ∃ ds rs, DqAll H vs ds ∧ pre ds rs ∧ ∀ v H', Ex H H' → NewL H rs v H' → Q v H'
theorem ed_call {pre : List PyData → PyData → Prop} {E : XK} {ta : TA} (h : EaD ta σ H ds) (hp : pre ds d) : EvD (tCall (spD pre) [] E ta) σ H d := fun H1 e1 _ q =>
  h H1 e1 _ fun vs H2 e2 ps => ⟨ds, d, by rw [List.append_nil]; exact ps, hp, fun v H3 e3 hd => q v H3 (e2.trans e3) hd⟩
theorem NewL.back {v : V} {H2 : Hp} (e : Ex H H') (h : NewL H' ds v H2) : NewL H ds v H2 := by
  obtain ⟨p, xs, a, b, c, f⟩ := h
  exact ⟨p, xs, a, fresh_back e b, c, f⟩
theorem en_call {pre : List PyData → List PyData → Prop} {E : XK} {ta : TA} (h : EaD ta σ H ds) (hp : pre ds es) : EvN (tCall (spN pre) [] E ta) σ H es := fun H1 e1 _ q =>
  h H1 e1 _ fun vs H2 e2 ps => ⟨ds, es, by rw [List.append_nil]; exact ps, hp, fun v H3 e3 hd => q v H3 (e2.trans e3) (hd.back (e1.trans e2))⟩
/-! builtins -/
theorem ed_len (ha : EvD ta σ H (.list ds)) : EvD (tCB (rLenS K) (tCons ta tNil)) σ H (.int (ds.length : Int)) := fun H1 e1 Q q => ha H1 e1 _ fun v H2 e2 hd => by
  obtain ⟨a, xs, rfl, hp, hall⟩ := hd.lst_inv
  refine ⟨a, xs, rfl, Or.inl (SqL.of hp), ?_⟩
  rw [hall.length]
  exact q _ H2 e2 (.int _)
theorem ed_lenT (ha : EvD ta σ H (.tuple ds)) : EvD (tCB (rLenS K) (tCons ta tNil)) σ H (.int (ds.length : Int)) := fun H1 e1 Q q => ha H1 e1 _ fun v H2 e2 hd => by
  obtain ⟨a, xs, rfl, hp, hall⟩ := hd.tup_inv
  refine ⟨a, xs, rfl, Or.inr (SqT.of hp), ?_⟩
  rw [hall.length]
  exact q _ H2 e2 (.int _)
theorem en_list (ha : EvD ta σ H (.list ds)) : EvN (tCB (rListS K) (tCons ta tNil)) σ H ds := fun H1 e1 Q q => ha H1 e1 _ fun v H2 e2 hd => by
  obtain ⟨a, xs, rfl, hp, hall⟩ := hd.lst_inv
  exact ⟨a, xs, rfl, Or.inl (SqL.of hp), fun l hl => q _ _ (e2.trans (Ex.new hl)) ⟨l, xs, rfl, fresh_back (e1.trans e2) hl, upd_same, hall.m (Ex.new hl)⟩⟩
/-! truth -/
theorem ed_andV {a b : Bool} (h1 : EvD ta σ H (.bool a)) (h2 : a = true → EvD tb σ H (.bool b)) : EvD (tAndV ta tb) σ H (.bool (a && b)) := ed_ofBl (ev_andV h1.ev_bl fun h => (h2 h).ev_bl)
theorem ed_orV {a b : Bool} (h1 : EvD ta σ H (.bool a)) (h2 : a = false → EvD tb σ H (.bool b)) : EvD (tOrV ta tb) σ H (.bool (a || b)) := ed_ofBl (ev_orV h1.ev_bl fun h => (h2 h).ev_bl)
theorem et_D {b : Bool} (h : EvD te σ H (.bool b)) : EvT (tTest te) σ H b := et_test h.ev_bl
theorem et_DB {b : Bool} (h : EvD te σ H (.bool b)) : EvT (tB te) σ H b := et_B h.ev_bl
theorem ed_is (h : EvD te σ H d) (e' : d = e) : EvD te σ H e := e' ▸ h
/-! statements -/
variable {D : Ends} {tu tw tz : TS} {g : TG}
theorem sd_asg {i : Nat} (h : EvP te σ H P) (k : ∀ v H1, Ex H H1 → P v H1 → D.nx (σ.set i (some v)) H1) : tAsg te (gName i) D σ H := h H (Ex.refl H) _ k
theorem sd_asgI {i : Nat} {n : Int} (h : EvD te σ H (.int n)) (k : ∀ H1, Ex H H1 → D.nx (σ.set i (some (.int n))) H1) : tAsg te (gName i) D σ H := s_asg h.ev_int k
theorem sd_ret (h : EvP te σ H P) (k : ∀ v H1, Ex H H1 → P v H1 → D.rt v H1) : tRet te D σ H := h H (Ex.refl H) _ k
theorem qd_asg {i : Nat} (h : EvP te σ H P) (k : ∀ v H1, Ex H H1 → P v H1 → tz D (σ.set i (some v)) H1) : tSeq (tAsg te (gName i)) tz D σ H := sd_asg (D := { D with nx := tz D }) h k
theorem qd_asgI {i : Nat} {n : Int} (h : EvD te σ H (.int n)) (k : ∀ H1, Ex H H1 → tz D (σ.set i (some (.int n))) H1) : tSeq (tAsg te (gName i)) tz D σ H := sd_asgI (D := { D with nx := tz D }) h k
/-- a, b = a pair -/
theorem sd_pair {i j : Nat} {d1 d2 : PyData} (h : EvD te σ H (.tuple [d1, d2])) (k : ∀ v1 v2 H1, Ex H H1 → Dq H1 v1 d1 → Dq H1 v2 d2 → D.nx ((σ.set i (some v1)).set j (some v2)) H1) :
    tAsg te (gTup K 2 (gCons (gName i) (gCons (gName j) gNil))) D σ H := h H (Ex.refl H) _ fun v H1 e1 hd => by
  obtain ⟨a, xs, rfl, hp, hall⟩ := hd.tup_inv
  cases hall with
  | cons h1 h2 =>
    cases h2 with
    | cons h2 h3 =>
      cases h3
      exact ⟨a, _, rfl, SqT.of hp, rfl, _, _, rfl, _, _, rfl, rfl, k _ _ H1 e1 h1 h2⟩
theorem qd_pair {i j : Nat} {d1 d2 : PyData} (h : EvD te σ H (.tuple [d1, d2])) (k : ∀ v1 v2 H1, Ex H H1 → Dq H1 v1 d1 → Dq H1 v2 d2 → tz D ((σ.set i (some v1)).set j (some v2)) H1) :
    tSeq (tAsg te (gTup K 2 (gCons (gName i) (gCons (gName j) gNil)))) tz D σ H := sd_pair (D := { D with nx := tz D }) h k
end
end Hd


/-! text Loop -/
set_option Elab.async false
set_option linter.all false
set_option maxRecDepth 100000
set_option maxHeartbeats 4000000
/-! Comprehensions and loops over data. -/
namespace Hd
open PySem PySem.Spec PyProof.Rows L2 Evl

/-! ### data without lists -/
mutual
def flat : PyData → Bool
  | .list _ => false
  | .dict _ => false
  | .tuple ds => flatAll ds
  | .none => true
  | .bool _ => true
  | .int _ => true
  | .str _ => true
def flatAll : List PyData → Bool
  | [] => true
  | d :: ds => flat d && flatAll ds
end
section
variable {H H' : Hp} {l : Addr} {acc acc' : List V}
mutual
/-- a list's change leaves what holds no list -/
theorem Dq.flat_upd (hl : H l = some (.lst acc)) : ∀ (d : PyData) (v : V), flat d = true → Dq H v d → Dq (upd H l (.lst acc')) v d
  | .none, _, _, h => by cases h; exact .non
  | .bool b, _, _, h => by cases h; exact .bl b
  | .int i, _, _, h => by cases h; exact .int i
  | .str x, _, _, h => by cases h; exact .str x
  | .list ds, _, f, h => by simp [flat] at f
  | .tuple ds, _, f, h => by
    cases h with
    | tup h1 h2 => exact .tup (by rw [upd_ne (ne_of h1 hl (by intro z; cases z))]; exact h1) (DqAll.flat_upd hl ds _ (by simpa [flat] using f) h2)
  | .dict _, _, f, h => by simp [flat] at f
theorem DqAll.flat_upd (hl : H l = some (.lst acc)) : ∀ (ds : List PyData) (vs : List V), flatAll ds = true → DqAll H vs ds → DqAll (upd H l (.lst acc')) vs ds
  | [], _, _, h => by cases h; exact .nil
  | d :: ds, _, f, h => by
    have f' : flat d = true ∧ flatAll ds = true := by simpa [flatAll] using f
    cases h with
    | cons h1 h2 => exact .cons (Dq.flat_upd hl d _ f'.1 h1) (DqAll.flat_upd hl ds _ f'.2 h2)
end
theorem flatAll_iff : ∀ {ds : List PyData}, flatAll ds = true ↔ ∀ d ∈ ds, flat d = true
  | [] => by simp [flatAll]
  | d :: ds => by simp [flatAll, flatAll_iff (ds := ds)]
theorem flatAll_take {ds : List PyData} (h : flatAll ds = true) (n : Nat) : flatAll (ds.take n) = true := flatAll_iff.mpr fun d hd => flatAll_iff.mp h d (List.mem_of_mem_take hd)
theorem flat_ints (ns : List Int) : flatAll (ns.map PyData.int) = true := flatAll_iff.mpr fun d hd => by
  obtain ⟨n, _, rfl⟩ := List.mem_map.mp hd
  rfl
end

section
variable {K : PySem.W.Frag} {σ : L2.St} {H : Hp} {ta tb te tl : TE} {g : TG} {J : It} {n : Nat} {G : Hp → Prop} {Y : Nat → Hp → V → Hp → Prop} {ds es rs : List PyData} {d : PyData} {vs : List Nat}

/-- a comprehension over any walk: the heap grows from H1, where the walk stands -/
theorem lc_core2 {H1 : Hp} (w : Walk J n G Y) (hG : ∀ H', Ex H1 H' → G H') (hf : flatAll rs = true) (hn : rs.length = n) (hz : n ≤ 40000) {D : Addr} (hD : H1 D = none)
    (ht : ∀ (i : Nat) d x Ha Hb, rs[i]? = some d → Ex H1 Ha → Y i Ha x Hb → Ex Ha Hb ∧ ∀ R : L2.St → Hp → Prop, (∀ σ2, wipe σ2 vs = wipe σ vs → EvD te σ2 Hb d → R σ2 Hb) → g x (wipe σ vs) Hb R)
    {Q : Hp → Prop} (hQ : ∀ H' xs, Ex H1 H' → H' D = some (.lst xs) → DqAll H' xs rs → Q H') :
    ∃ W : Nat → Nat → Hp → Prop, (∃ m, W 0 m (upd H1 D (.lst []))) ∧ ∀ i m H, W i m H →
      (J.stop i H ∧ Q H) ∨ (J.go i H ∧ ∃ Nx : Hp → Prop, (∀ H', Nx H' → ∃ m', m' < m ∧ W (i + 1) m' H') ∧ ∀ x H', J.yld i H x H' → g x (wipe σ vs) H' fun σ2 H2 => wipe σ2 vs = wipe σ vs ∧ tYes σ2 H2 fun b H3 =>
        if b = true then te σ2 H3 fun y H4 => ∃ acc, H4 D = some (.lst acc) ∧ acc.length < sizeLine ∧ Nx (upd H4 D (.lst (acc ++ [y]))) else Nx H3) := by
  refine lc_it w (fun i H' => Ex H1 H' ∧ ∃ xs, H' D = some (.lst xs) ∧ DqAll H' xs (rs.take i)) ⟨Ex.new hD, [], upd_same, by simp; exact .nil⟩ (fun i H' _ p => hG H' p.1) (fun i x Ha Hb hi p y => ?_) (fun H' p => ?_)
  · obtain ⟨p1, xs, p2, p3⟩ := p
    obtain ⟨d, hd⟩ : ∃ d, rs[i]? = some d := ⟨rs[i]'(by omega), List.getElem?_eq_getElem (by omega)⟩
    obtain ⟨e1, k⟩ := ht i d x Ha Hb hd p1 y
    refine k _ fun σ2 hw ev => ⟨hw, ?_⟩
    show te σ2 Hb _
    refine ev Hb (Ex.refl Hb) _ fun v H4 e4 hv => ?_
    have hl := p3.length
    have hD4 : H4 D = some (.lst xs) := e4 _ _ (e1 _ _ p2)
    refine ⟨xs, hD4, ?_, Ex.mut ((p1.trans e1).trans e4) hD, _, upd_same, ?_⟩
    · rw [hl, List.length_take]
      exact sz_lt (by omega)
    · rw [List.take_add_one, hd]
      exact ((DqAll.flat_upd hD4 _ _ (flatAll_take hf i) (p3.m (e1.trans e4))).append (.one (Dq.flat_upd hD4 d v (flatAll_iff.mp hf d (List.mem_of_getElem? hd)) hv)))
  · obtain ⟨p1, xs, p2, p3⟩ := p
    rw [List.take_of_length_le (by omega)] at p3
    exact hQ H' xs p1 p2 p3

/-- [e for x in a list of data] -/
theorem en_lcL {j : Nat} (hl : EvD tl σ H (.list ds)) (hf : flatAll rs = true) (hn : rs.length = ds.length) (hz : ds.length ≤ 40000) (hw : ∀ x, wipe ((wipe σ vs).set j (some x)) vs = wipe σ vs)
    (he : ∀ (i : Nat) d r v H1, ds[i]? = some d → rs[i]? = some r → Ex H H1 → Dq H1 v d → EvD te ((wipe σ vs).set j (some v)) H1 r) : EvN (tLc (iList K tl) (gName j) tYes te vs) σ H rs := fun H0 e0 Q q => hl H0 e0 _ fun v H1 e1 hd => by
  obtain ⟨a, xs, rfl, hp, hall⟩ := hd.lst_inv
  refine ⟨a, rfl, ⟨xs, SqL.of hp⟩, fun D hD => lc_core2 (walk_list (K := K) (a := a) (xs := xs)) (fun H' e => SqL.of (e _ _ hp)) hf (by rw [hn, hall.length]) (by rw [hall.length]; exact hz) hD (fun i r x Ha Hb hr ea y => ?_) fun H' zs e hD' hz' => ?_⟩
  · obtain ⟨rfl, hx⟩ := y
    obtain ⟨d, hd, hdq⟩ := hall.get' hx
    exact ⟨Ex.refl _, fun R k => k _ (hw x) (he i d r x Hb hd hr ((e0.trans e1).trans ea) (hdq.m ea))⟩
  · exact q _ _ (e1.trans e) ⟨D, zs, rfl, fresh_back (e0.trans e1) hD, hD', hz'⟩
/-- [e for x, y in a list of pairs] -/
theorem en_lcP {j k : Nat} (hl : EvD tl σ H (.list ds)) (hf : flatAll rs = true) (hn : rs.length = ds.length) (hz : ds.length ≤ 40000) (hw : ∀ x y, wipe (((wipe σ vs).set j (some x)).set k (some y)) vs = wipe σ vs)
    (he : ∀ (i : Nat) d r, ds[i]? = some d → rs[i]? = some r → ∃ d1 d2, d = .tuple [d1, d2] ∧ ∀ v u H1, Ex H H1 → Dq H1 v d1 → Dq H1 u d2 → EvD te (((wipe σ vs).set j (some v)).set k (some u)) H1 r) :
    EvN (tLc (iList K tl) (gTup K 2 (gCons (gName j) (gCons (gName k) gNil))) tYes te vs) σ H rs := fun H0 e0 Q q => hl H0 e0 _ fun v H1 e1 hd => by
  obtain ⟨a, xs, rfl, hp, hall⟩ := hd.lst_inv
  refine ⟨a, rfl, ⟨xs, SqL.of hp⟩, fun D hD => lc_core2 (walk_list (K := K) (a := a) (xs := xs)) (fun H' e => SqL.of (e _ _ hp)) hf (by rw [hn, hall.length]) (by rw [hall.length]; exact hz) hD (fun i r x Ha Hb hr ea y => ?_) fun H' zs e hD' hz' => ?_⟩
  · obtain ⟨rfl, hx⟩ := y
    obtain ⟨d, hd, hdq⟩ := hall.get' hx
    obtain ⟨d1, d2, rfl, hev⟩ := he i d r hd hr
    obtain ⟨b, ys, rfl, hb, hb2⟩ := hdq.tup_inv
    cases hb2 with
    | cons q1 q2 =>
      cases q2 with
      | cons q2 q3 =>
        cases q3
        refine ⟨Ex.refl _, fun R k => ⟨b, _, rfl, SqT.of (ea _ _ hb), rfl, _, _, rfl, _, _, rfl, rfl, ?_⟩⟩
        exact k _ (hw _ _) (hev _ _ Hb ((e0.trans e1).trans ea) (q1.m ea) (q2.m ea))
  · exact q _ _ (e1.trans e) ⟨D, zs, rfl, fresh_back (e0.trans e1) hD, hD', hz'⟩
/-- [e for x, y in zip(a list, a list)] -/
theorem en_lcZ {ta : TA} {j k : Nat} (hl : EaD ta σ H [.list ds, .list es]) (hle : ds.length = es.length) (hf : flatAll rs = true) (hn : rs.length = ds.length) (hz : ds.length ≤ 40000) (hw : ∀ x y, wipe (((wipe σ vs).set j (some x)).set k (some y)) vs = wipe σ vs)
    (he : ∀ (i : Nat) d e r v u H1, ds[i]? = some d → es[i]? = some e → rs[i]? = some r → Ex H H1 → Dq H1 v d → Dq H1 u e → EvD te (((wipe σ vs).set j (some v)).set k (some u)) H1 r) :
    EvN (tLc (iZip K ta) (gTup K 2 (gCons (gName j) (gCons (gName k) gNil))) tYes te vs) σ H rs := fun H0 e0 Q q => hl H0 e0 _ fun ws H1 e1 hd => by
  cases hd with
  | cons hd1 hd2 =>
    cases hd2 with
    | cons hd2 hd3 =>
      cases hd3
      obtain ⟨a, xs, rfl, hp, hall⟩ := hd1.lst_inv
      obtain ⟨b, ys, rfl, hp2, hall2⟩ := hd2.lst_inv
      have l1 := hall.length
      have l2 := hall2.length
      refine ⟨a, b, xs, ys, rfl, SqL.of hp, SqL.of hp2, fun D hD => lc_core2 (walk_zip (K := K) (a := a) (b := b) (xs := xs) (ys := ys) (n := ds.length) (by omega)) (fun H' e => ⟨SqL.of (e _ _ hp), SqL.of (e _ _ hp2)⟩) hf hn hz hD (fun i r x Ha Hb hr ea y => ?_) fun H' zs e hD' hz' => ?_⟩
      · obtain ⟨T, x1, x2, rfl, hT, rfl, hx1, hx2⟩ := y
        obtain ⟨d, hd, hdq⟩ := hall.get' hx1
        obtain ⟨e, he', heq⟩ := hall2.get' hx2
        have ex := Ex.new (o := .tup [x1, x2]) hT
        refine ⟨ex, fun R k => ⟨T, _, rfl, SqT.of upd_same, rfl, _, _, rfl, _, _, rfl, rfl, ?_⟩⟩
        exact k _ (hw _ _) (he i d e r x1 x2 _ hd he' hr ((e0.trans e1).trans (ea.trans ex)) (hdq.m (ea.trans ex)) (heq.m (ea.trans ex)))
      · exact q _ _ (e1.trans e) ⟨D, zs, rfl, fresh_back (e0.trans e1) hD, hD', hz'⟩
/-- [e for k in range(n)] -/
theorem en_lcR {ta : TA} {j m : Nat} (hl : EaD ta σ H [.int m]) (hf : flatAll rs = true) (hn : rs.length = m) (hz : m ≤ 40000) (hw : ∀ x, wipe ((wipe σ vs).set j (some x)) vs = wipe σ vs)
    (he : ∀ (i : Nat) r H1, rs[i]? = some r → Ex H H1 → EvD te ((wipe σ vs).set j (some (.int (i : Int)))) H1 r) : EvN (tLc (iRng1 ta) (gName j) tYes te vs) σ H rs := fun H0 e0 Q q => hl H0 e0 _ fun ws H1 e1 hd => by
  cases hd with
  | cons hd1 hd2 =>
    cases hd2
    cases hd1
    refine ⟨(m : Int), rfl, by omega, by omega, fun D hD => lc_core2 (walk_range (lo := 0) (n := (m : Int).toNat)) (fun H' e => trivial) hf hn hz hD (fun i r x Ha Hb hr ea y => ?_) fun H' zs e hD' hz' => ?_⟩
    · obtain ⟨rfl, rfl⟩ := y
      refine ⟨Ex.refl _, fun R k => k _ (hw _) ?_⟩
      have e00 : (0 : Int) + (i : Int) = (i : Int) := Int.zero_add _
      show EvD te ((wipe σ vs).set j (some (.int ((0 : Int) + (i : Int))))) Hb r
      rw [e00]
      exact he i r Hb hr ((e0.trans e1).trans ea)
    · exact q _ _ (e1.trans e) ⟨D, zs, rfl, fresh_back (e0.trans e1) hD, hD', hz'⟩

/-! ### for loops: the word is chosen where the walk begins (H1), and says that the heap has grown from there -/
variable {tu tz : TS} {D : Ends}
theorem sd_forL {j : Nat} (hl : EvD tl σ H (.list ds)) (k : ∀ H1, Ex H H1 → ∃ Pv : Nat → L2.St → Hp → Prop, Pv 0 σ H1 ∧ (∀ i σ' H', Pv i σ' H' → Ex H1 H') ∧
    (∀ i d v σ' H', ds[i]? = some d → Pv i σ' H' → Dq H' v d → tu { D with nx := Pv (i + 1), ct := Pv (i + 1), bk := D.nx } (σ'.set j (some v)) H') ∧ ∀ σ' H', Pv ds.length σ' H' → D.nx σ' H') : tFor (iList K tl) (gName j) tu D σ H := hl H (Ex.refl H) _ fun v H1 e1 hdq => by
  obtain ⟨a, xs, rfl, hp, hall⟩ := hdq.lst_inv
  obtain ⟨Pv, h0, hk, hs, hd⟩ := k H1 e1
  refine ⟨a, rfl, ⟨xs, SqL.of hp⟩, for_list (K := K) (a := a) (xs := xs) Pv h0 (fun i σ' H' _ p => SqL.of (hk _ _ _ p _ _ hp)) (fun i x σ' H' hx p => ?_) (fun σ' H' p => hd σ' H' (hall.length ▸ p))⟩
  obtain ⟨d, hd', hq⟩ := hall.get' hx
  exact hs i d x σ' H' hd' p (hq.m (hk _ _ _ p))
theorem qd_forL {j : Nat} (hl : EvD tl σ H (.list ds)) (k : ∀ H1, Ex H H1 → ∃ Pv : Nat → L2.St → Hp → Prop, Pv 0 σ H1 ∧ (∀ i σ' H', Pv i σ' H' → Ex H1 H') ∧
    (∀ i d v σ' H', ds[i]? = some d → Pv i σ' H' → Dq H' v d → tu { D with nx := Pv (i + 1), ct := Pv (i + 1), bk := tz D } (σ'.set j (some v)) H') ∧ ∀ σ' H', Pv ds.length σ' H' → tz D σ' H') : tSeq (tFor (iList K tl) (gName j) tu) tz D σ H :=
  sd_forL (D := { D with nx := tz D }) hl k
/-- for x, y in a list of pairs -/
theorem qd_forP {j l : Nat} (hl : EvD tl σ H (.list ds)) (k : ∀ H1, Ex H H1 → ∃ Pv : Nat → L2.St → Hp → Prop, Pv 0 σ H1 ∧ (∀ i σ' H', Pv i σ' H' → Ex H1 H') ∧
    (∀ i d σ' H', ds[i]? = some d → Pv i σ' H' → ∃ d1 d2, d = .tuple [d1, d2] ∧ ∀ v u, Dq H' v d1 → Dq H' u d2 → tu { D with nx := Pv (i + 1), ct := Pv (i + 1), bk := tz D } ((σ'.set j (some v)).set l (some u)) H') ∧ ∀ σ' H', Pv ds.length σ' H' → tz D σ' H') :
    tSeq (tFor (iList K tl) (gTup K 2 (gCons (gName j) (gCons (gName l) gNil))) tu) tz D σ H := hl H (Ex.refl H) _ fun v H1 e1 hdq => by
  obtain ⟨a, xs, rfl, hp, hall⟩ := hdq.lst_inv
  obtain ⟨Pv, h0, hk, hs, hd⟩ := k H1 e1
  refine ⟨a, rfl, ⟨xs, SqL.of hp⟩, for_list (K := K) (a := a) (xs := xs) Pv h0 (fun i σ' H' _ p => SqL.of (hk _ _ _ p _ _ hp)) (fun i x σ' H' hx p => ?_) (fun σ' H' p => hd σ' H' (hall.length ▸ p))⟩
  obtain ⟨d, hd', hq⟩ := hall.get' hx
  obtain ⟨d1, d2, rfl, hb⟩ := hs i d σ' H' hd' p
  obtain ⟨b, ys, rfl, hb1, hb2⟩ := (hq.m (hk _ _ _ p)).tup_inv
  cases hb2 with
  | cons q1 q2 =>
    cases q2 with
    | cons q2 q3 =>
      cases q3
      exact ⟨b, _, rfl, SqT.of hb1, rfl, _, _, rfl, _, _, rfl, rfl, hb _ _ q1 q2⟩
/-- for x, y in zip(a list, a list) -/
theorem qd_forZ {ta : TA} {j l : Nat} (hl : EaD ta σ H [.list ds, .list es]) (hle : ds.length = es.length) (k : ∀ H1, Ex H H1 → ∃ Pv : Nat → L2.St → Hp → Prop, Pv 0 σ H1 ∧ (∀ i σ' H', Pv i σ' H' → Ex H1 H') ∧
    (∀ i d e v u σ' H' H'', ds[i]? = some d → es[i]? = some e → Pv i σ' H' → Ex H' H'' → Dq H'' v d → Dq H'' u e → tu { D with nx := Pv (i + 1), ct := Pv (i + 1), bk := tz D } ((σ'.set j (some v)).set l (some u)) H'') ∧ ∀ σ' H', Pv ds.length σ' H' → tz D σ' H') :
    tSeq (tFor (iZip K ta) (gTup K 2 (gCons (gName j) (gCons (gName l) gNil))) tu) tz D σ H := hl H (Ex.refl H) _ fun ws H1 e1 hd => by
  cases hd with
  | cons hd1 hd2 =>
    cases hd2 with
    | cons hd2 hd3 =>
      cases hd3
      obtain ⟨a, xs, rfl, hp, hall⟩ := hd1.lst_inv
      obtain ⟨b, ys, rfl, hp2, hall2⟩ := hd2.lst_inv
      have l1 := hall.length
      have l2 := hall2.length
      obtain ⟨Pv, h0, hk, hs, hd⟩ := k H1 e1
      refine ⟨a, b, xs, ys, rfl, SqL.of hp, SqL.of hp2, for_it (walk_zip (K := K) (a := a) (b := b) (xs := xs) (ys := ys) (n := ds.length) (by omega)) Pv h0 (fun i σ' H' _ p => ⟨SqL.of (hk _ _ _ p _ _ hp), SqL.of (hk _ _ _ p _ _ hp2)⟩) (fun i x σ' Ha Hb hi p y => ?_) hd⟩
      obtain ⟨T, x1, x2, rfl, hT, rfl, hx1, hx2⟩ := y
      obtain ⟨d, hd', hdq⟩ := hall.get' hx1
      obtain ⟨e, he', heq⟩ := hall2.get' hx2
      have ex := Ex.new (o := .tup [x1, x2]) hT
      have eg := (hk _ _ _ p).trans ex
      exact ⟨T, _, rfl, SqT.of upd_same, rfl, _, _, rfl, _, _, rfl, rfl, hs i d e x1 x2 σ' Ha _ hd' he' p ex (hdq.m eg) (heq.m eg)⟩
/-- for i, x in enumerate(a list) -/
theorem qd_forE {ta : TA} {j l : Nat} (hl : EaD ta σ H [.list ds]) (k : ∀ H1, Ex H H1 → ∃ Pv : Nat → L2.St → Hp → Prop, Pv 0 σ H1 ∧ (∀ i σ' H', Pv i σ' H' → Ex H1 H') ∧
    (∀ (i : Nat) d v σ' H' H'', ds[i]? = some d → Pv i σ' H' → Ex H' H'' → Dq H'' v d → tu { D with nx := Pv (i + 1), ct := Pv (i + 1), bk := tz D } ((σ'.set j (some (.int (i : Int)))).set l (some v)) H'') ∧ ∀ σ' H', Pv ds.length σ' H' → tz D σ' H') :
    tSeq (tFor (iEnum K ta) (gTup K 2 (gCons (gName j) (gCons (gName l) gNil))) tu) tz D σ H := hl H (Ex.refl H) _ fun ws H1 e1 hd => by
  cases hd with
  | cons hd1 hd2 =>
    cases hd2
    obtain ⟨a, xs, rfl, hp, hall⟩ := hd1.lst_inv
    have l1 := hall.length
    obtain ⟨Pv, h0, hk, hs, hd⟩ := k H1 e1
    refine ⟨a, xs, rfl, SqL.of hp, for_it (walk_enum (K := K) (a := a) (xs := xs)) Pv h0 (fun i σ' H' _ p => SqL.of (hk _ _ _ p _ _ hp)) (fun i x σ' Ha Hb hi p y => ?_) (fun σ' H' p => hd σ' H' (l1 ▸ p))⟩
    obtain ⟨T, x1, x2, rfl, hT, rfl, hx1, hx2⟩ := y
    obtain rfl : V.int ((i : Nat) : Int) = x1 := Option.some.inj hx1
    obtain ⟨d, hd', hdq⟩ := hall.get' hx2
    have ex := Ex.new (o := .tup [V.int ((i : Nat) : Int), x2]) hT
    exact ⟨T, _, rfl, SqT.of upd_same, rfl, _, _, rfl, _, _, rfl, rfl, hs i d x2 σ' Ha _ hd' p ex (hdq.m ((hk _ _ _ p).trans ex))⟩
/-- for k in range(n) -/
theorem qd_forR {ta : TA} {j m : Nat} (hl : EaD ta σ H [.int m]) (hm : m ≤ 40000) (k : ∀ H1, Ex H H1 → ∃ Pv : Nat → L2.St → Hp → Prop, Pv 0 σ H1 ∧
    (∀ (i : Nat) σ' H', i < m → Pv i σ' H' → tu { D with nx := Pv (i + 1), ct := Pv (i + 1), bk := tz D } (σ'.set j (some (.int (i : Int)))) H') ∧ ∀ σ' H', Pv m σ' H' → tz D σ' H') :
    tSeq (tFor (iRng1 ta) (gName j) tu) tz D σ H := hl H (Ex.refl H) _ fun ws H1 e1 hd => by
  cases hd with
  | cons hd1 hd2 =>
    cases hd2
    cases hd1
    obtain ⟨Pv, h0, hs, hd⟩ := k H1 e1
    refine ⟨(m : Int), rfl, by omega, by omega, for_range (lo := 0) (n := (m : Int).toNat) Pv h0 (fun i σ' H' hi p => ?_) hd⟩
    have h := hs i σ' H' hi p
    have e00 : (0 : Int) + (i : Int) = (i : Int) := Int.zero_add _
    show tu _ (σ'.set j (some (.int ((0 : Int) + (i : Int))))) H'
    rw [e00]
    exact h
/-- while -/
theorem qd_while {t : TT} (W : Nat → L2.St → Hp → Prop) (m0 : Nat) (h0 : W m0 σ H)
    (hs : ∀ m σ' H', W m σ' H' → ∃ b, EvT t σ' H' b ∧ (b = true → ∀ H1, Ex H' H1 → tu { D with nx := fun σ2 H2 => ∃ m', m' < m ∧ W m' σ2 H2, ct := fun σ2 H2 => ∃ m', m' < m ∧ W m' σ2 H2, bk := tz D } σ' H1) ∧ (b = false → ∀ H1, Ex H' H1 → tz D σ' H1)) : tSeq (tWhile t tu) tz D σ H :=
  q_while W m0 h0 fun m σ' H' w => by
    obtain ⟨b, h1, h2, h3⟩ := hs m σ' H' w
    exact ⟨b, h1, fun hb H1 e1 => ⟨_, fun _ _ n => n, h2 hb H1 e1⟩, h3⟩
end
end Hd


/-! text Text -/
set_option Elab.async false
set_option linter.all false
set_option maxRecDepth 100000
set_option maxHeartbeats 4000000
/-! The text by places (printed by gen_head.py, gen_term.py), and what the walk asks of the top. -/
namespace Hd
open PySem PySem.Spec PyProof.Rows L2 Evl
def topS (i : Nat) : Stmt := PySem.Challenge.pw_hushduel_k37_whole_second_wishes.main.body.getD i (.Pass ⟨0, 0, 0, 0⟩)
abbrev sDivisor : Stmt := topS 5
abbrev sRatio : Stmt := topS 6
abbrev sShared : Stmt := topS 9
abbrev sWholes : Stmt := topS 10
abbrev sInit : Stmt := inClass (topS 11) 0
abbrev sPivot : Stmt := inClass (topS 11) 1
abbrev sComes : Stmt := inClass (topS 11) 2
abbrev sGoes : Stmt := inClass (topS 11) 3
abbrev sSooner : Stmt := inClass (topS 11) 4
abbrev sSeek : Stmt := inClass (topS 11) 5
abbrev sFit : Stmt := inClass (topS 11) 6
abbrev sGrowth : Stmt := inClass (topS 11) 7
abbrev sPrices : Stmt := inClass (topS 11) 8
abbrev sFirst : Stmt := inClass (topS 11) 9
abbrev sAsk : Stmt := topS 12
abbrev sSolve : Stmt := topS 13
abbrev sLift : Stmt := topS 14
abbrev sNext : Stmt := topS 15
abbrev sLCell : Stmt := topS 17
abbrev sLDiv : Stmt := topS 18
abbrev sLLow : Stmt := topS 19
abbrev sLNum : Stmt := topS 20
abbrev sLBound : Stmt := topS 21
abbrev sLList : Stmt := topS 22
abbrev sLDot : Stmt := topS 23
abbrev sLLess : Stmt := topS 24
abbrev sLTimes : Stmt := topS 25
abbrev sLFits : Stmt := topS 26
abbrev sLWay : Stmt := topS 27
abbrev sLBest : Stmt := topS 28
abbrev sLNext : Stmt := topS 29
abbrev sLRight : Stmt := topS 30
abbrev sLWish : Stmt := topS 31
abbrev sLaw : Stmt := topS 32
abbrev nDivisor : List Str := ["first", "second", "rest"]
theorem scDivisor : FnScope nDivisor ["first", "second"] (defScope sDivisor) := ⟨rfl, rfl, rfl, by decide +kernel, rfl, by decide +kernel, by decide +kernel⟩
abbrev nRatio : List Str := ["top", "bottom", "by"]
theorem scRatio : FnScope nRatio ["top", "bottom"] (defScope sRatio) := ⟨rfl, rfl, rfl, by decide +kernel, rfl, by decide +kernel, by decide +kernel⟩
abbrev nShared : List Str := ["some", "whole", "top", "bottom"]
theorem scShared : FnScope nShared ["some"] (defScope sShared) := ⟨rfl, rfl, rfl, by decide +kernel, rfl, by decide +kernel, by decide +kernel⟩
abbrev nWholes : List Str := ["some", "by", "top", "bottom"]
theorem scWholes : FnScope nWholes ["some", "by"] (defScope sWholes) := ⟨rfl, rfl, rfl, by decide +kernel, rfl, by decide +kernel, by decide +kernel⟩
abbrev nInit : List Str := ["self", "rows", "bounds", "wishes", "row", "bound", "wish", "by"]
theorem scInit : FnScope nInit ["self", "rows", "bounds", "wishes"] (defScope sInit) := ⟨rfl, rfl, rfl, by decide +kernel, rfl, by decide +kernel, by decide +kernel⟩
abbrev nPivot : List Str := ["self", "r", "s", "by", "i", "row", "factor", "fresh", "gone", "x", "y"]
theorem scPivot : FnScope nPivot ["self", "r", "s"] (defScope sPivot) := ⟨rfl, rfl, rfl, by decide +kernel, rfl, by decide +kernel, by decide +kernel⟩
abbrev nComes : List Str := ["self", "wish", "barred", "gains", "best", "s"]
theorem scComes : FnScope nComes ["self", "wish", "barred"] (defScope sComes) := ⟨rfl, rfl, rfl, by decide +kernel, rfl, by decide +kernel, by decide +kernel⟩
abbrev nGoes : List Str := ["self", "s", "best", "r"]
theorem scGoes : FnScope nGoes ["self", "s"] (defScope sGoes) := ⟨rfl, rfl, rfl, by decide +kernel, rfl, by decide +kernel, by decide +kernel⟩
abbrev nSooner : List Str := ["self", "r", "other", "s", "one", "two"]
theorem scSooner : FnScope nSooner ["self", "r", "other", "s"] (defScope sSooner) := ⟨rfl, rfl, rfl, by decide +kernel, rfl, by decide +kernel, by decide +kernel⟩
abbrev nSeek : List Str := ["self", "wish", "barred", "s", "r"]
theorem scSeek : FnScope nSeek ["self", "wish", "barred"] (defScope sSeek) := ⟨rfl, rfl, rfl, by decide +kernel, rfl, by decide +kernel, by decide +kernel⟩
abbrev nFit : List Str := ["self", "found", "r"]
theorem scFit : FnScope nFit ["self"] (defScope sFit) := ⟨rfl, rfl, rfl, by decide +kernel, rfl, by decide +kernel, by decide +kernel⟩
abbrev nGrowth : List Str := ["self", "s", "found", "r"]
theorem scGrowth : FnScope nGrowth ["self", "s"] (defScope sGrowth) := ⟨rfl, rfl, rfl, by decide +kernel, rfl, by decide +kernel, by decide +kernel⟩
abbrev nPrices : List Str := ["self", "gains", "below", "found", "s", "r"]
theorem scPrices : FnScope nPrices ["self", "gains", "below"] (defScope sPrices) := ⟨rfl, rfl, rfl, by decide +kernel, rfl, by decide +kernel, by decide +kernel⟩
abbrev nFirst : List Str := ["self"]
theorem scFirst : FnScope nFirst ["self"] (defScope sFirst) := ⟨rfl, rfl, rfl, by decide +kernel, rfl, by decide +kernel, by decide +kernel⟩
abbrev nAsk : List Str := ["rows", "wish"]
theorem scAsk : FnScope nAsk ["rows", "wish"] (defScope sAsk) := ⟨rfl, rfl, rfl, by decide +kernel, rfl, by decide +kernel, by decide +kernel⟩
abbrev nSolve : List Str := ["rows", "bounds", "wish", "sheet", "s"]
theorem scSolve : FnScope nSolve ["rows", "bounds", "wish"] (defScope sSolve) := ⟨rfl, rfl, rfl, by decide +kernel, rfl, by decide +kernel, by decide +kernel⟩
abbrev nLift : List Str := ["gains", "more", "top", "bottom", "gain", "second"]
theorem scLift : FnScope nLift ["gains", "more"] (defScope sLift) := ⟨rfl, rfl, rfl, by decide +kernel, rfl, by decide +kernel, by decide +kernel⟩
abbrev nNext : List Str := ["rows", "bounds", "wish", "second", "sheet", "s", "barred", "k", "gains", "more", "top", "bottom", "both", "others", "lift", "gain", "extra"]
theorem scNext : FnScope nNext ["rows", "bounds", "wish", "second"] (defScope sNext) := ⟨rfl, rfl, rfl, by decide +kernel, rfl, by decide +kernel, by decide +kernel⟩
abbrev nLCell : List Str := ["_law_script", "_law_k"]
theorem scLCell : FnScope nLCell ["_law_script", "_law_k"] (defScope sLCell) := ⟨rfl, rfl, rfl, by decide +kernel, rfl, by decide +kernel, by decide +kernel⟩
abbrev nLDiv : List Str := ["_law_one", "_law_other"]
theorem scLDiv : FnScope nLDiv ["_law_one", "_law_other"] (defScope sLDiv) := ⟨rfl, rfl, rfl, by decide +kernel, rfl, by decide +kernel, by decide +kernel⟩
abbrev nLLow : List Str := ["_law_top", "_law_bottom", "_law_by"]
theorem scLLow : FnScope nLLow ["_law_top", "_law_bottom"] (defScope sLLow) := ⟨rfl, rfl, rfl, by decide +kernel, rfl, by decide +kernel, by decide +kernel⟩
abbrev nLNum : List Str := ["_law_cell", "_law_sort"]
theorem scLNum : FnScope nLNum ["_law_cell", "_law_sort"] (defScope sLNum) := ⟨rfl, rfl, rfl, by decide +kernel, rfl, by decide +kernel, by decide +kernel⟩
abbrev nLBound : List Str := ["_law_cell", "_law_sort", "_law_zeros", "_law_number_here"]
theorem scLBound : FnScope nLBound ["_law_cell", "_law_sort", "_law_zeros"] (defScope sLBound) := ⟨rfl, rfl, rfl, by decide +kernel, rfl, by decide +kernel, by decide +kernel⟩
abbrev nLList : List Str := ["_law_found", "_law_many", "_law_part", "_law_number_here"]
theorem scLList : FnScope nLList ["_law_found", "_law_many"] (defScope sLList) := ⟨rfl, rfl, rfl, by decide +kernel, rfl, by decide +kernel, by decide +kernel⟩
abbrev nLDot : List Str := ["_law_some", "_law_more", "_law_top", "_law_bottom", "_law_one", "_law_other"]
theorem scLDot : FnScope nLDot ["_law_some", "_law_more"] (defScope sLDot) := ⟨rfl, rfl, rfl, by decide +kernel, rfl, by decide +kernel, by decide +kernel⟩
abbrev nLLess : List Str := ["_law_one", "_law_other"]
theorem scLLess : FnScope nLLess ["_law_one", "_law_other"] (defScope sLLess) := ⟨rfl, rfl, rfl, by decide +kernel, rfl, by decide +kernel, by decide +kernel⟩
abbrev nLTimes : List Str := ["_law_one", "_law_other"]
theorem scLTimes : FnScope nLTimes ["_law_one", "_law_other"] (defScope sLTimes) := ⟨rfl, rfl, rfl, by decide +kernel, rfl, by decide +kernel, by decide +kernel⟩
abbrev nLFits : List Str := ["_law_rows", "_law_bounds", "_law_fit", "_law_row", "_law_bound_here"]
theorem scLFits : FnScope nLFits ["_law_rows", "_law_bounds", "_law_fit"] (defScope sLFits) := ⟨rfl, rfl, rfl, by decide +kernel, rfl, by decide +kernel, by decide +kernel⟩
abbrev nLWay : List Str := ["_law_rows", "_law_wish_here", "_law_way", "_law_row"]
theorem scLWay : FnScope nLWay ["_law_rows", "_law_wish_here", "_law_way"] (defScope sLWay) := ⟨rfl, rfl, rfl, by decide +kernel, rfl, by decide +kernel, by decide +kernel⟩
abbrev nLBest : List Str := ["_law_rows", "_law_bounds", "_law_wish_here", "_law_fit", "_law_prices", "_law_k", "_law_want", "_law_row"]
theorem scLBest : FnScope nLBest ["_law_rows", "_law_bounds", "_law_wish_here", "_law_fit", "_law_prices"] (defScope sLBest) := ⟨rfl, rfl, rfl, by decide +kernel, rfl, by decide +kernel, by decide +kernel⟩
abbrev nLNext : List Str := ["_law_rows", "_law_bounds", "_law_wishes", "_law_fit", "_law_others", "_law_lift", "_law_k", "_law_want", "_law_here", "_law_row"]
theorem scLNext : FnScope nLNext ["_law_rows", "_law_bounds", "_law_wishes", "_law_fit", "_law_others", "_law_lift"] (defScope sLNext) := ⟨rfl, rfl, rfl, by decide +kernel, rfl, by decide +kernel, by decide +kernel⟩
abbrev nLRight : List Str := ["_law_found", "_law_rows", "_law_bounds", "_law_wishes"]
theorem scLRight : FnScope nLRight ["_law_found", "_law_rows", "_law_bounds", "_law_wishes"] (defScope sLRight) := ⟨rfl, rfl, rfl, by decide +kernel, rfl, by decide +kernel, by decide +kernel⟩
abbrev nLWish : List Str := ["_law_script", "_law_at", "_law_wide", "_law_sort", "_law_rows", "_law_cell", "_law_k"]
theorem scLWish : FnScope nLWish ["_law_script", "_law_at", "_law_wide", "_law_sort", "_law_rows"] (defScope sLWish) := ⟨rfl, rfl, rfl, by decide +kernel, rfl, by decide +kernel, by decide +kernel⟩
abbrev nLaw : List Str := ["_law_script", "_law_cell", "_law_high", "_law_wide", "_law_sort", "_law_zeros", "_law_at", "_law_bounds", "_law_rows", "_law_i", "_law_wish_here", "_law_second", "_law_handed", "_law_found", "_law_kept", "_law_worth", "_law_part", "_law_alone", "_law_k", "_law_row"]
theorem scLaw : FnScope nLaw ["_law_script"] (defScope sLaw) := ⟨rfl, rfl, rfl, by decide +kernel, rfl, by decide +kernel, by decide +kernel⟩
abbrev FnP (K : PySem.W.Frag) (x q : Str) (st : Stmt) (f : Addr) (fd : FuncData) : Prop := FunD K x q (defArgs st) (defBody st) (defScope st) [] [] f fd
/-- what the walk asks of the top's names -/
structure Txt (K : PySem.W.Frag) (mg : Str → Option Value) (C : Addr) (t8 : Tok) : Prop where
  cl : Cls K C
  sheet : mg "Sheet" = some (.ref C)
  most : mg "MOST" = some (.int 8 t8)
  n_wide : NoAttr K C "wide"
  n_high : NoAttr K C "high"
  n_scales : NoAttr K C "scales"
  n_wished : NoAttr K C "wished"
  n_cells : NoAttr K C "cells"
  n_bottom : NoAttr K C "bottom"
  n_across : NoAttr K C "across"
  n_down : NoAttr K C "down"
  len_ : mg "len" = none
  range_ : mg "range" = none
  zip_ : mg "zip" = none
  enumerate_ : mg "enumerate" = none
  isinstance_ : mg "isinstance" = none
  list_ : mg "list" = none
  tuple_ : mg "tuple" = none
  int_ : mg "int" = none
  bool_ : mg "bool" = none
  abs_ : mg "abs" = none
  repr_ : mg "repr" = none
/-- a def of the module that keeps its promise -/
structure Cal (P : Program) (w : World) (K : PySem.W.Frag) (mg : Str → Option Value) (base : Heap) (k : Nat) (x : Str) (ps : List Str) (sp : Sp) : Prop where
  ex : ∃ f fd, FnOk P w K mg base CX0 k f fd ps sp ∧ mg x = some (.ref f) ∧ PySem.W.keepIn K (.ref f) = true ∧ Binds K fd ps []
/-- a method of the class at C that keeps its promise -/
structure Met (P : Program) (w : World) (K : PySem.W.Frag) (mg : Str → Option Value) (base : Heap) (C : Addr) (k : Nat) (m : Str) (ps : List Str) (sp : Sp) : Prop where
  ex : ∃ f fd, FnOk P w K mg base CX0 k f fd ps sp ∧ Meth K C m f ∧ Binds K fd ps []
section
variable {X : Cx} {k : Nat} {C : Addr} {ps : List Str} {sp : Sp} {x m : Str} {p pos apos : Pos} {e o : Expr} {es : List Expr} {ta : TE} {t : TA}
theorem pe_c (F : Cal X.prog X.w X.K X.mg X.base k x ps sp) {j : Nat} (hr : Room j X.A) (hg : Gl X x) (ha : PA X (e :: es) t) (hj : k ≤ j := by decide) (hdb : (x == ("__debug__" : Str)) = false := by decide)
    (he : starEach (e :: es) X.env = (false, eval e X.env) :: starEach es X.env := by rfl) (hpl : (backTo pos (starEach es X.env)).any (·.1) = false := by rfl) : PE X (.Call (.Name x p) (e :: es) [] pos) (tCall sp [] E0 t) := by
  obtain ⟨f, fd, h1, h2, h3, h4⟩ := F.ex
  exact pe_call h1 (hr.mono hj) hg h2 h3 h4 .nil pass0 ha hdb he hpl
theorem pe_m {pl : Sem Bool} (ho : PE X o ta) (c : Cls X.K C) (F : Met X.prog X.w X.K X.mg X.base C k m ps sp) {j : Nat} (hr : Room j X.A) (ha : PA X (e :: es) t) (hj : k ≤ j := by decide)
    (hst : starEach (e :: es) X.env = (false, eval e X.env) :: starEach es X.env := by rfl) (hpl : (backTo pos (starEach es X.env)).any (·.1) = false := by rfl)
    (ht : eval (.Call (.Attribute o m apos) (e :: es) [] pos) X.env = (do
      let ov ← eval o X.env
      standAt apos.atName
      let (f, first) ← holding [ov] (getMethod ov m pl)
      callWith pos f first (backTo pos (starEach (e :: es) X.env)) (backToKw pos (keywordEach [] X.env))) := by rfl) : PE X (.Call (.Attribute o m apos) (e :: es) [] pos) (tMeth C m sp [] E0 ta t) := by
  obtain ⟨f, fd, h1, h2, h3⟩ := F.ex
  exact pe_meth ho c h2 h1 (hr.mono hj) h3 .nil pass0 ha hst hpl ht
theorem pe_m0 {pl : Sem Bool} (ho : PE X o ta) (c : Cls X.K C) (F : Met X.prog X.w X.K X.mg X.base C k m ps sp) {j : Nat} (hr : Room j X.A) (hj : k ≤ j := by decide)
    (ht : eval (.Call (.Attribute o m apos) [] [] pos) X.env = (do
      let ov ← eval o X.env
      standAt apos.atName
      let (f, first) ← holding [ov] (getMethod ov m pl)
      callWith pos f first (backTo pos (starEach [] X.env)) (backToKw pos (keywordEach [] X.env))) := by rfl) : PE X (.Call (.Attribute o m apos) [] [] pos) (tMeth C m sp [] E0 ta tNil) := by
  obtain ⟨f, fd, h1, h2, h3⟩ := F.ex
  exact pe_meth0 ho c h2 h1 (hr.mono hj) h3 .nil pass0 ht
end
end Hd


/-! text W1 -/
set_option Elab.async false
set_option linter.all false
set_option maxRecDepth 100000
set_option maxHeartbeats 4000000
namespace Hd
open PySem PySem.Spec PyProof.Rows L2 Evl
def qD (f : Fr) : PyData := .tuple [.int f.1, .int f.2]
def qL (fs : List Fr) : PyData := .list (fs.map qD)
section
variable {P : Program} {w : World} {K : PySem.W.Frag} {mg : Str → Option Value} {base : Heap} {C : Addr} {t8 : Tok} {f : Addr} {fd : FuncData}
theorem ed_abs {σ : L2.St} {H : Hp} {ta : TE} {i : Int} (ha : EvD ta σ H (.int i)) : EvD (tCB (fun xs H Q => ∃ i, xs = [.int i] ∧ Q (.int (if i < 0 then -i else i)) H) (tCons ta tNil)) σ H (.int (if i < 0 then -i else i)) :=
  fun H1 e1 Q q => ha H1 e1 _ fun v H2 e2 h => by cases h; exact ⟨i, rfl, q _ H2 e2 (.int _)⟩
def preDivisor (ds : List PyData) (r : PyData) : Prop := ∃ a b : Int, ds = [.int a, .int b] ∧ r = .int (gcdI a b)
theorem ok_divisor (F : FnP K "divisor" "divisor" sDivisor f fd) (T : Txt K mg C t8) : FnOk P w K mg base CX0 1 f fd ["first", "second"] (spD preDivisor) := by
  refine F.ok scDivisor (fun vs H Q E h => ?_) (fun cdv A outer s H vs Q E hr h => ?_)
  · obtain ⟨ds, r, h1, ⟨a, b, rfl, rfl⟩, _⟩ := h
    exact h1.length
  · obtain ⟨ds, r, h1, ⟨a, b, rfl, rfl⟩, k⟩ := h
    obtain rfl := h1.ints_inv (ns := [a, b])
    refine ⟨_, PSs.nox (pss_cons (ps_set (i := 0) scDivisor.nd rfl (Or.inl rfl) (pe_callB call_abs (by rfl) T.abs_ (by decide +kernel) (pa_cons (pv 0) pa_nil)))
      (pss_cons (ps_set (i := 1) scDivisor.nd rfl (Or.inl rfl) (pe_callB call_abs (by rfl) T.abs_ (by decide +kernel) (pa_cons (pv 1) pa_nil)))
      (pss_cons (ps_while PassesOwn.never (pt_cmpR op_gt (pv 1) pe_int (nomark _)) (pss_cons (ps_set (i := 2) scDivisor.nd rfl (Or.inl rfl) (pe_op op_mod (pv 0) (pv 1)))
      (pss_cons (ps_set (i := 0) scDivisor.nd rfl (Or.inl rfl) (pv 1))
      (pss_one (ps_set (i := 1) scDivisor.nd rfl (Or.inl rfl) (pv 2))))))
      (pss_one (ps_ret (pv 0)))))), ?_⟩
    refine qd_asgI (ed_abs (ed_var rfl (.int a))) fun H1 e1 => qd_asgI (ed_abs (ed_var rfl (.int b))) fun H2 e2 => ?_
    refine qd_while (fun m σ' H' => ∃ x y z, σ' = [some (.int x), some (.int y), z] ∧ 0 ≤ x ∧ 0 ≤ y ∧ gcdI x y = gcdI a b ∧ m = y.toNat ∧ Ex H H') _ ⟨_, _, none, rfl, by split <;> omega, by split <;> omega, gcdI_abs a b, rfl, e1.trans e2⟩ fun m σ' H' hw => ?_
    obtain ⟨x, y, z, rfl, hx, hy, hg, rfl, e3⟩ := hw
    refine ⟨_, et_D (ed_B0 (ed_var rfl (.int y)) ed_int), fun hb H4 e4 => ?_, fun hb H4 e4 => ?_⟩
    · have hy0 : 0 < y := of_decide_eq_true hb
      refine qd_asgI (ed_I (ed_var rfl (.int x)) (ed_var rfl (.int y)) hy0) fun H5 e5 => qd_asgI (ed_var rfl (.int y)) fun H6 e6 => sd_asgI (ed_var rfl (.int (x % y))) fun H7 e7 => ?_
      have h1 := Int.emod_nonneg x (show y ≠ 0 by omega)
      have h2 := Int.emod_lt_of_pos x hy0
      exact ⟨(x % y).toNat, by omega, y, x % y, _, rfl, hy, h1, by rw [gcdI_step hx hy0]; exact hg, rfl, (((e3.trans e4).trans e5).trans e6).trans e7⟩
    · have hy0 : ¬ 0 < y := of_decide_eq_false hb
      obtain rfl : y = 0 := by omega
      refine sd_ret (ed_var rfl (.int x)) fun v H5 e5 hv => k v H5 ((e3.trans e4).trans e5) ?_
      rw [gcdI_zero x hx] at hg
      rw [← hg]
      exact hv

variable {σ : L2.St} {H H' : Hp} {ta tb te : TE} {t : TT} {tu tz : TS} {D : Ends} {g : Fr} {fs gs : List Fr}
theorem qd_skip (h : EvT t σ H false) (k : ∀ H1, Ex H H1 → tz D σ H1) : tSeq (tIfS t tu tNext) tz D σ H := q_when h (fun h => by cases h) fun _ => k
theorem qd_take (h : EvT t σ H true) (k : ∀ H1, Ex H H1 → tu { D with nx := tz D } σ H1) : tSeq (tIfS t tu tNext) tz D σ H := q_when h (fun _ => k) (fun h => by cases h)
theorem sd_skip (h : EvT t σ H false) (k : ∀ H1, Ex H H1 → D.nx σ H1) : tIfS t tu tNext D σ H := s_when h (fun h => by cases h) fun _ => k
theorem ed_q0 (h : EvD ta σ H (qD g)) : EvD (tOp (rIxT K) ta (tC (.int 0))) σ H (.int g.1) := ed_ixT (k := 0) h ed_int rfl
theorem ed_q1 (h : EvD ta σ H (qD g)) : EvD (tOp (rIxT K) ta (tC (.int 1))) σ H (.int g.2) := ed_ixT (k := 1) h ed_int rfl
theorem ed_pair {i j : Int} (h1 : EvD ta σ H (.int i)) (h2 : EvD tb σ H (.int j)) : EvD (tTup (tCons ta (tCons tb tNil))) σ H (qD (i, j)) := ed_tup (ea_consD h1 (ea_consD h2 ea_nilD)) (show 2 ≤ 100000 by decide)
theorem ed_v {i : Nat} {n : Int} (h : σ[i]? = some (some (.int n))) : EvD (tVar i) σ H (.int n) := ed_var h (.int n)
theorem cmulW {i j : Int} {n m : Nat} (h1 : Sm n i) (h2 : Sm m j) (h : n + m ≤ 900000 := by omega) : CMulW i j := by
  refine wide_mul (a := n + 1) (b := m + 1) ?_ ?_ (by omega) (by omega) (by omega)
  · exact Nat.lt_of_lt_of_le h1 (Nat.pow_le_pow_right (by omega) (by omega))
  · exact Nat.lt_of_lt_of_le h2 (Nat.pow_le_pow_right (by omega) (by omega))
theorem cdivW {i j : Int} {m : Nat} (h0 : 0 < j) (h2 : Sm m j) (h : m ≤ 8900 := by omega) : CDivW i j := by
  refine wide_div (b := m + 1) h0 ?_ (by omega) (by omega)
  exact Nat.lt_of_lt_of_le h2 (Nat.pow_le_pow_right (by omega) (by omega))
theorem ed_mul {i j : Int} {n m : Nat} (ha : EvD ta σ H (.int i)) (hb : EvD tb σ H (.int j)) (h1 : Sm n i) (h2 : Sm m j) (h : n + m ≤ 900000 := by omega) : EvD (tOp (rI CMulW fun i j => .int (i * j)) ta tb) σ H (.int (i * j)) := ed_I (g := fun i j => i * j) ha hb (cmulW h1 h2 h)
theorem ed_add {i j : Int} (ha : EvD ta σ H (.int i)) (hb : EvD tb σ H (.int j)) : EvD (tOp (rI0 fun i j => .int (i + j)) ta tb) σ H (.int (i + j)) := ed_I0 (g := fun i j => i + j) ha hb
theorem ed_sub {i j : Int} (ha : EvD ta σ H (.int i)) (hb : EvD tb σ H (.int j)) : EvD (tOp (rI0 fun i j => .int (i - j)) ta tb) σ H (.int (i - j)) := ed_I0 (g := fun i j => i - j) ha hb
theorem ed_divW {i j : Int} {m : Nat} (ha : EvD ta σ H (.int i)) (hb : EvD tb σ H (.int j)) (h0 : 0 < j) (h2 : Sm m j) (h : m ≤ 8900 := by omega) : EvD (tOp (rI CDivW fun i j => .int (i / j)) ta tb) σ H (.int (i / j)) := ed_I (g := fun i j => i / j) ha hb (cdivW h0 h2 h)
theorem ed_div {i j : Int} (ha : EvD ta σ H (.int i)) (hb : EvD tb σ H (.int j)) (h : CDiv i j) : EvD (tOp (rI CDiv fun i j => .int (i / j)) ta tb) σ H (.int (i / j)) := ed_I (g := fun i j => i / j) ha hb h
theorem ed_mod {i j : Int} (ha : EvD ta σ H (.int i)) (hb : EvD tb σ H (.int j)) (h : 0 < j) : EvD (tOp (rI (fun _ j => 0 < j) fun i j => .int (i % j)) ta tb) σ H (.int (i % j)) := ed_I (g := fun i j => i % j) ha hb h
theorem ed_lt {i j : Int} (ha : EvD ta σ H (.int i)) (hb : EvD tb σ H (.int j)) : EvD (tOp (rI0 fun i j => .bl (decide (i < j))) ta tb) σ H (.bool (decide (i < j))) := ed_B0 (g := fun i j => decide (i < j)) ha hb
theorem ed_gt {i j : Int} (ha : EvD ta σ H (.int i)) (hb : EvD tb σ H (.int j)) : EvD (tOp (rI0 fun i j => .bl (decide (j < i))) ta tb) σ H (.bool (decide (j < i))) := ed_B0 (g := fun i j => decide (j < i)) ha hb
theorem dq2 {vs : List V} {d e : PyData} (h : DqAll H vs [d, e]) : ∃ x y, vs = [x, y] ∧ Dq H x d ∧ Dq H y e := by
  cases h with
  | cons h1 h => cases h with
    | cons h2 h => cases h; exact ⟨_, _, rfl, h1, h2⟩
theorem dq3 {vs : List V} {d e f : PyData} (h : DqAll H vs [d, e, f]) : ∃ x y z, vs = [x, y, z] ∧ Dq H x d ∧ Dq H y e ∧ Dq H z f := by
  cases h with
  | cons h1 h => obtain ⟨y, z, rfl, h2, h3⟩ := dq2 h; exact ⟨_, _, _, rfl, h1, h2, h3⟩
theorem dq4 {vs : List V} {d e f g : PyData} (h : DqAll H vs [d, e, f, g]) : ∃ x y z u, vs = [x, y, z, u] ∧ Dq H x d ∧ Dq H y e ∧ Dq H z f ∧ Dq H u g := by
  cases h with
  | cons h1 h => obtain ⟨y, z, u, rfl, h2, h3, h4⟩ := dq3 h; exact ⟨_, _, _, _, rfl, h1, h2, h3, h4⟩
theorem dq5 {vs : List V} {d e f g k : PyData} (h : DqAll H vs [d, e, f, g, k]) : ∃ x y z u v, vs = [x, y, z, u, v] ∧ Dq H x d ∧ Dq H y e ∧ Dq H z f ∧ Dq H u g ∧ Dq H v k := by
  cases h with
  | cons h1 h => obtain ⟨y, z, u, v, rfl, h2, h3, h4, h5⟩ := dq4 h; exact ⟨_, _, _, _, _, rfl, h1, h2, h3, h4, h5⟩
theorem dq6 {vs : List V} {d e f g k l : PyData} (h : DqAll H vs [d, e, f, g, k, l]) : ∃ x y z u v r, vs = [x, y, z, u, v, r] ∧ Dq H x d ∧ Dq H y e ∧ Dq H z f ∧ Dq H u g ∧ Dq H v k ∧ Dq H r l := by
  cases h with
  | cons h1 h => obtain ⟨y, z, u, v, r, rfl, h2, h3, h4, h5, h6⟩ := dq5 h; exact ⟨_, _, _, _, _, _, rfl, h1, h2, h3, h4, h5, h6⟩

/-! ### ratio -/
def preRatio (ds : List PyData) (r : PyData) : Prop := ∃ a b : Int, ds = [.int a, .int b] ∧ 0 < b ∧ Sm 8000 b ∧ r = qD (ratio a b)
theorem ok_ratio (F : FnP K "ratio" "ratio" sRatio f fd) (CDivisor : Cal P w K mg base 1 "divisor" ["first", "second"] (spD preDivisor)) : FnOk P w K mg base CX0 2 f fd ["top", "bottom"] (spD preRatio) := by
  refine F.ok scRatio (fun vs H Q E h => ?_) (fun cdv A outer s H vs Q E hr h => ?_)
  · obtain ⟨ds, r, h1, ⟨a, b, rfl, _⟩, _⟩ := h
    exact h1.length
  · obtain ⟨ds, r, h1, ⟨a, b, rfl, hb, hs, rfl⟩, k⟩ := h
    obtain rfl := h1.ints_inv (ns := [a, b])
    refine ⟨_, PSs.nox (pss_cons (ps_if (pt_cmpR op_eq (pv 1) pe_int (nomark _)) (pss_one ps_never) pss_nil)
      (pss_cons (ps_set (i := 2) scRatio.nd rfl (Or.inl rfl) (pe_c CDivisor hr (by rfl) (pa_cons (pv 0) (pa_cons (pv 1) pa_nil))))
      (pss_cons (ps_if (pt_cmpR op_lt (pv 1) pe_int (nomark _)) (pss_one (ps_set (i := 2) scRatio.nd rfl (Or.inl rfl) (pe_op op_sub pe_int (pv 2)))) pss_nil)
      (pss_one (ps_ret (pe_tup (pa_cons (pe_op op_fdivW (pv 0) (pv 2)) (pa_cons (pe_op op_fdivW (pv 1) (pv 2)) pa_nil)))))))), ?_⟩
    refine qd_skip (et_is (et_D (ed_eqI (ed_v rfl) ed_int)) (decide_eq_false (by omega))) fun H1 e1 => ?_
    refine qd_asgI (ed_call (ea_consD (ed_v rfl) (ea_consD (ed_v rfl) ea_nilD)) ⟨a, b, rfl, rfl⟩) fun H2 e2 => ?_
    refine qd_skip (et_is (et_D (ed_lt (ed_v rfl) ed_int)) (decide_eq_false (by omega))) fun H3 e3 => ?_
    have g0 := gcdI_pos (a := a) (b := b) (by omega)
    have g1 : Sm 8000 (gcdI a b) := by
      have := gcdI_le (a := a) hb
      unfold Sm at *
      omega
    exact sd_ret (ed_pair (ed_divW (ed_v rfl) (ed_v rfl) g0 g1) (ed_divW (ed_v rfl) (ed_v rfl) g0 g1)) fun v H4 e4 hv => k v H4 (((e1.trans e2).trans e3).trans e4) hv

/-! ### shared_bottom -/
theorem shared_lt : ∀ (fs : List Fr) (z : Int) (n : Nat), 0 < z → Sm n z → (∀ f ∈ fs, 0 < f.2 ∧ Sm 10 f.2) → 0 < fs.foldl (fun w f => w * (ratio f.2 w).1) z ∧ Sm (n + 10 * fs.length) (fs.foldl (fun w f => w * (ratio f.2 w).1) z)
  | [], z, n, h0, h1, _ => ⟨h0, by simpa using h1⟩
  | f :: fs, z, n, h0, h1, h => by
    have hf := h f (by simp)
    have hr := ratio_abs (t := f.2) h0
    have hr0 : 0 < (ratio f.2 z).1 := by
      have h2 := ratio_nonneg (t := f.2) h0 (by omega)
      have h3 := ratio_cross (t := f.2) h0
      have h4 := ratio_pos (t := f.2) h0
      apply Classical.byContradiction
      intro hc
      have e : (ratio f.2 z).1 = 0 := by omega
      rw [e, Int.zero_mul] at h3
      have := Int.mul_pos hf.1 h4
      omega
    have := shared_lt fs (z * (ratio f.2 z).1) (n + 10) (Int.mul_pos h0 hr0) (h1.mul (by have := hf.2; unfold Sm at *; omega)) fun q hq => h q (by simp [hq])
    rw [List.foldl_cons, List.length_cons]
    exact ⟨this.1, this.2.mono (by omega)⟩
def preShared (ds : List PyData) (r : PyData) : Prop := ∃ fs : List Fr, ds = [qL fs] ∧ fs.length ≤ 9 ∧ (∀ f ∈ fs, 0 < f.2 ∧ Sm 10 f.2) ∧ r = .int (sharedBottom fs)
theorem qget {fs : List Fr} {i : Nat} {d : PyData} (h : (fs.map qD)[i]? = some d) : ∃ f, fs[i]? = some f ∧ d = qD f := by
  rw [List.getElem?_map] at h
  cases e : fs[i]? with
  | none => rw [e] at h; cases h
  | some f => rw [e] at h; exact ⟨f, rfl, (Option.some.inj h).symm⟩
theorem foldl_take {α β : Type} (g : β → α → β) (z : β) {xs : List α} {i : Nat} {x : α} (h : xs[i]? = some x) : (xs.take (i + 1)).foldl g z = g ((xs.take i).foldl g z) x := by
  rw [List.take_add_one, h, List.foldl_append]; rfl
theorem ok_shared (F : FnP K "shared_bottom" "shared_bottom" sShared f fd) (CRatio : Cal P w K mg base 2 "ratio" ["top", "bottom"] (spD preRatio)) : FnOk P w K mg base CX0 3 f fd ["some"] (spD preShared) := by
  refine F.ok scShared (fun vs H Q E h => ?_) (fun cdv A outer s H vs Q E hr h => ?_)
  · obtain ⟨ds, r, h1, ⟨fs, rfl, _⟩, _⟩ := h
    exact h1.length
  · obtain ⟨ds, r, h1, ⟨fs, rfl, hl, hb, rfl⟩, k⟩ := h
    cases h1 with
    | cons h1 h2 =>
    cases h2
    refine ⟨_, PSs.nox (pss_cons (ps_set (i := 1) scShared.nd rfl (Or.inl rfl) pe_int)
      (pss_cons (ps_for PassesOwn.never rfl (pi_list (pv 0)) (pg_tup rfl (pgs_cons (pg_name (i := 2) scShared.nd rfl (Or.inl rfl)) (pgs_cons (pg_name (i := 3) scShared.nd rfl (Or.inl rfl)) pgs_nil))) (pss_one (ps_set (i := 1) scShared.nd rfl (Or.inl rfl) (pe_op op_mulW (pv 1) (pe_ix ix_tup (pe_c CRatio hr (by rfl) (pa_cons (pv 3) (pa_cons (pv 1) pa_nil))) pe_int (fun _ _ => rfl))))))
      (pss_one (ps_ret (pv 1))))), ?_⟩
    refine qd_asgI ed_int fun H1 e1 => ?_
    refine qd_forP (ed_var rfl (h1.m e1)) fun H2 e2 => ⟨fun i σ' H' => Ex H2 H' ∧ ∃ a x y, σ' = [a, some (.int ((fs.take i).foldl (fun w f => w * (ratio f.2 w).1) 1)), x, y], ⟨Ex.refl _, _, none, none, rfl⟩, fun _ _ _ p => p.1, fun i d σ' H' hd p => ?_, fun σ' H' p => ?_⟩
    · obtain ⟨f, hf, rfl⟩ := qget hd
      obtain ⟨e3, a, x, y, rfl⟩ := p
      refine ⟨_, _, rfl, fun v u hv hu => ?_⟩
      obtain rfl := hv.int_inv
      obtain rfl := hu.int_inv
      have hfb := hb f (List.mem_of_getElem? hf)
      have hi : i < fs.length := (List.getElem?_eq_some_iff.mp hf).1
      have hz := shared_lt (fs.take i) 1 1 (by decide) (Sm.one (by decide)) fun q hq => hb q (List.mem_of_mem_take hq)
      have hz2 : Sm 100 ((fs.take i).foldl (fun w f => w * (ratio f.2 w).1) 1) := hz.2.mono (by rw [List.length_take]; omega)
      have hr' := ratio_abs (t := f.2) hz.1
      refine sd_asgI (ed_mul (n := 100) (m := 10) (ed_v rfl) (ed_q0 (ed_call (ea_consD (ed_v rfl) (ea_consD (ed_v rfl) ea_nilD)) ⟨_, _, rfl, hz.1, hz2.mono (by omega), rfl⟩)) hz2 (by have := hfb.2; unfold Sm at *; omega)) fun H4 e4 => ?_
      exact ⟨e3.trans e4, a, _, _, by rw [foldl_take _ _ hf]; rfl⟩
    · obtain ⟨e3, a, x, y, rfl⟩ := p
      rw [List.length_map, List.take_length]
      exact sd_ret (ed_v rfl) fun v H4 e4 hv => k v H4 (((e1.trans e2).trans e3).trans e4) hv
end
end Hd


/-! text W2 -/
set_option Elab.async false
set_option linter.all false
set_option maxRecDepth 100000
set_option maxHeartbeats 4000000
namespace Hd
open PySem PySem.Spec PyProof.Rows L2 Evl
def zL (ns : List Int) : PyData := .list (ns.map PyData.int)
def liftStep (z : Fr) (p : Int × Int) : Fr := if p.1 < 0 ∧ z.1 * (0 - p.1) < p.2 * z.2 then (p.2, 0 - p.1) else z
def liftOf (gs ms : List Int) : Fr := (gs.zip ms).foldl liftStep (0, 1)
section
variable {P : Program} {w : World} {K : PySem.W.Frag} {mg : Str → Option Value} {base : Heap} {C : Addr} {t8 : Tok} {f : Addr} {fd : FuncData}
variable {σ : L2.St} {H H' : Hp} {ta tb te : TE} {t : TT} {tu tz : TS} {D : Ends} {g : Fr} {fs gs : List Fr}

/-! ### as_wholes -/
def preWholes (ds rs : List PyData) : Prop := ∃ (fs : List Fr) (b : Int), ds = [qL fs, .int b] ∧ fs.length ≤ 9 ∧ (∀ f ∈ fs, 0 < f.2 ∧ Sm 10 f.2 ∧ Sm 40 f.1) ∧ Sm 100 b ∧ rs = (asWholes fs b).map PyData.int
theorem Sm.div {n : Nat} {i j : Int} (h : Sm n i) : Sm n (i / j) := by
  unfold Sm at *
  exact Nat.lt_of_le_of_lt (Int.natAbs_ediv_le_natAbs i j) h
theorem ok_wholes (F : FnP K "as_wholes" "as_wholes" sWholes f fd) : FnOk P w K mg base CX0 1 f fd ["some", "by"] (spN preWholes) := by
  refine F.ok scWholes (fun vs H Q E h => ?_) (fun cdv A outer s H vs Q E hr h => ?_)
  · obtain ⟨ds, r, h1, ⟨fs, b, rfl, _⟩, _⟩ := h
    exact h1.length
  · obtain ⟨ds, r, h1, ⟨fs, b, rfl, hl, hb, hby, rfl⟩, k⟩ := h
    obtain ⟨x, y, rfl, hx, hy⟩ := dq2 h1
    obtain rfl := hy.int_inv
    refine ⟨_, PSs.nox (pss_one (ps_ret (pe_lc (g := (gTup K 2 (gCons (gName 2) (gCons (gName 3) gNil)))) (tt := tYes) (te := (tOp (rI CMulW fun i j => .int (i * j)) (tVar 2) (tOp (rI CDivW fun i j => .int (i / j)) (tVar 1) (tVar 3)))) rfl scWholes.nd (pi_list (pv 0)) (blkOk_by (own := [("top", 2), ("bottom", 3)]) (N := nWholes) (sc := defScope sWholes) (by decide +kernel)) (fun _ _ _ _ _ => (pg_tup rfl (pgs_cons (pg_name (i := 2) scWholes.nd rfl (Or.inl rfl) (Or.inr rfl)) (pgs_cons (pg_name (i := 3) scWholes.nd rfl (Or.inl rfl) (Or.inr rfl)) pgs_nil)))) (fun _ _ _ _ _ => pts_nil) (fun _ _ _ _ _ => (pe_op op_mulW (pv 2) (pe_op op_fdivW (pv 1) (pv 3))))))), ?_⟩
    refine sd_ret (en_lcP (ed_var rfl hx) (flat_ints _) (by simp [asWholes]) (by rw [List.length_map]; omega) (fun _ _ => rfl) fun i d r hd hr => ?_) k
    obtain ⟨f, hf, rfl⟩ := qget hd
    refine ⟨_, _, rfl, fun v u H1 e1 hv hu => ?_⟩
    obtain rfl := hv.int_inv
    obtain rfl := hu.int_inv
    have hfb := hb f (List.mem_of_getElem? hf)
    have er : r = .int (f.1 * (b / f.2)) := by
      unfold asWholes at hr
      rw [List.getElem?_map, List.getElem?_map, hf] at hr
      exact (Option.some.inj hr).symm
    subst er
    exact ed_mul (n := 40) (m := 100) (ed_v rfl) (ed_divW (m := 10) (ed_v rfl) (ed_v rfl) hfb.1 hfb.2.1) hfb.2.2 hby.div

/-! ### lift_of -/
theorem zget {ns : List Int} {i : Nat} {d : PyData} (h : (ns.map PyData.int)[i]? = some d) : ∃ n, ns[i]? = some n ∧ d = .int n := by
  rw [List.getElem?_map] at h
  cases e : ns[i]? with
  | none => rw [e] at h; cases h
  | some f => rw [e] at h; exact ⟨f, rfl, (Option.some.inj h).symm⟩
theorem zip_get {α β : Type} {xs : List α} {ys : List β} {i : Nat} {x : α} {y : β} (h1 : xs[i]? = some x) (h2 : ys[i]? = some y) : (xs.zip ys)[i]? = some (x, y) := by
  rw [List.getElem?_zip_eq_some]; exact ⟨h1, h2⟩
theorem lift_sm {n : Nat} (h1 : 1 < n) : ∀ (ps : List (Int × Int)) (z : Fr), Sm n z.1 → Sm n z.2 → (∀ p ∈ ps, Sm n p.1 ∧ Sm n p.2) → Sm n (ps.foldl liftStep z).1 ∧ Sm n (ps.foldl liftStep z).2
  | [], z, a, b, _ => ⟨a, b⟩
  | p :: ps, z, a, b, h => by
    rw [List.foldl_cons]
    have hp := h p (by simp)
    refine lift_sm h1 ps _ ?_ ?_ fun q hq => h q (by simp [hq])
    · unfold liftStep; split
      · exact hp.2
      · exact a
    · unfold liftStep; split
      · have := hp.1; unfold Sm at *; show (0 - p.1).natAbs < _; omega
      · exact b
def preLift (ds : List PyData) (r : PyData) : Prop := ∃ gs ms : List Int, ds = [zL gs, zL ms] ∧ gs.length = ms.length ∧ gs.length ≤ 8 ∧ (∀ x ∈ gs, Sm 2000 x) ∧ (∀ x ∈ ms, Sm 2000 x) ∧ r = qD (liftOf gs ms)
theorem ok_lift (F : FnP K "lift_of" "lift_of" sLift f fd) (T : Txt K mg C t8) : FnOk P w K mg base CX0 1 f fd ["gains", "more"] (spD preLift) := by
  refine F.ok scLift (fun vs H Q E h => ?_) (fun cdv A outer s H vs Q E hr h => ?_)
  · obtain ⟨ds, r, h1, ⟨gs, ms, rfl, _⟩, _⟩ := h
    exact h1.length
  · obtain ⟨ds, r, h1, ⟨gs, ms, rfl, hl, hl8, hg, hm, rfl⟩, k⟩ := h
    obtain ⟨x, y, rfl, hx, hy⟩ := dq2 h1
    refine ⟨_, PSs.nox (pss_cons (ps_set (i := 2) scLift.nd rfl (Or.inl rfl) pe_int)
      (pss_cons (ps_set (i := 3) scLift.nd rfl (Or.inl rfl) pe_int)
      (pss_cons (ps_for PassesOwn.never rfl (pi_zip (by rfl) T.zip_ (pa_cons (pv 0) (pa_cons (pv 1) pa_nil))) (pg_tup rfl (pgs_cons (pg_name (i := 4) scLift.nd rfl (Or.inl rfl) (Or.inl rfl)) (pgs_cons (pg_name (i := 5) scLift.nd rfl (Or.inl rfl) (Or.inl rfl)) pgs_nil))) (pss_one (ps_if (PW.pt (pw_and (pt_cmpR op_lt (pv 4) pe_int (nomark _)) (pw_and1 (pt_cmpR op_gt (pe_op op_mulW (pv 5) (pv 3)) (pe_op op_mulW (pv 2) (pe_op op_sub pe_int (pv 4))) (nomark _))))) (pss_cons (ps_set (i := 2) scLift.nd rfl (Or.inl rfl) (pv 5))
      (pss_one (ps_set (i := 3) scLift.nd rfl (Or.inl rfl) (pe_op op_sub pe_int (pv 4))))) pss_nil)))
      (pss_one (ps_ret (pe_tup (pa_cons (pv 2) (pa_cons (pv 3) pa_nil)))))))), ?_⟩
    refine qd_asgI ed_int fun H1 e1 => qd_asgI ed_int fun H2 e2 => ?_
    have e12 := e1.trans e2
    refine qd_forZ (ea_consD (ed_var rfl (hx.m e12)) (ea_consD (ed_var rfl (hy.m e12)) ea_nilD)) (by simpa using hl) fun H3 e3 => ⟨fun i σ' H' => Ex H3 H' ∧ ∃ p q, σ' = [some x, some y, some (.int (((gs.zip ms).take i).foldl liftStep (0, 1)).1), some (.int (((gs.zip ms).take i).foldl liftStep (0, 1)).2), p, q], ⟨Ex.refl _, none, none, rfl⟩, fun _ _ _ p => p.1, fun i d e v u σ' H' H'' hd he p e4 hv hu => ?_, fun σ' H' p => ?_⟩
    · obtain ⟨e5, p, q, rfl⟩ := p
      obtain ⟨a, ha, rfl⟩ := zget hd
      obtain ⟨b, hb, rfl⟩ := zget he
      obtain rfl := hv.int_inv
      obtain rfl := hu.int_inv
      have ez := zip_get ha hb
      have hsm := lift_sm (n := 2000) (by decide) ((gs.zip ms).take i) (0, 1) Sm.zero (Sm.one (by decide)) fun q hq => ⟨hg _ (List.of_mem_zip (List.mem_of_mem_take hq)).1, hm _ (List.of_mem_zip (List.mem_of_mem_take hq)).2⟩
      have sa := hg a (List.mem_of_getElem? ha)
      have sb := hm b (List.mem_of_getElem? hb)
      have ef := foldl_take liftStep (0, 1) ez
      generalize hz : ((gs.zip ms).take i).foldl liftStep (0, 1) = z at *
      refine s_when (b := decide (a < 0) && decide (z.1 * (0 - a) < b * z.2)) (et_and (et_D (ed_lt (ed_v rfl) ed_int)) fun _ => et_D (ed_gt (ed_mul (n := 2000) (m := 2000) (ed_v rfl) (ed_v rfl) sb hsm.2) (ed_mul (n := 2000) (m := 2001) (ed_v rfl) (ed_sub ed_int (ed_v rfl)) hsm.1 (Sm.sub (Sm.zero) sa)))) (fun hb H5 e5' => ?_) (fun hb H5 e5' => ?_)
      · have hc : a < 0 ∧ z.1 * (0 - a) < b * z.2 := by simpa using hb
        refine qd_asgI (ed_v rfl) fun H6 e6 => sd_asgI (ed_sub ed_int (ed_v rfl)) fun H7 e7 => ⟨(((e5.trans e4).trans e5').trans e6).trans e7, some (.int a), some (.int b), ?_⟩
        rw [ef, liftStep, if_pos hc]; rfl
      · have hc : ¬ (a < 0 ∧ z.1 * (0 - a) < b * z.2) := by
          intro h
          have : (decide (a < 0) && decide (z.1 * (0 - a) < b * z.2)) = true := by simpa using h
          rw [this] at hb; cases hb
        refine ⟨(e5.trans e4).trans e5', some (.int a), some (.int b), ?_⟩
        rw [ef, liftStep, if_neg hc]; rfl
    · obtain ⟨e5, p, q, rfl⟩ := p
      have el : ((gs.zip ms).take (gs.map PyData.int).length) = gs.zip ms := List.take_of_length_le (by rw [List.length_zip, List.length_map]; omega)
      rw [el]
      exact sd_ret (ed_pair (ed_v rfl) (ed_v rfl)) fun v H6 e6 hv => k v H6 (((e12.trans e3).trans e5).trans e6) hv

/-! ### ask_small -/
def preAsk (ds : List PyData) (r : PyData) : Prop := ∃ rs ws : List PyData, ds = [.list rs, .list ws] ∧ rs.length ≤ 8 ∧ ws.length ≤ 8 ∧ r = .none
theorem ed_most {n : Int} {ks : List V} : EvD (tC (.int n)) σ H (.int n) := ed_int
theorem ok_ask (F : FnP K "ask_small" "ask_small" sAsk f fd) (T : Txt K mg C t8) : FnOk P w K mg base CX0 1 f fd ["rows", "wish"] (spD preAsk) := by
  refine F.ok scAsk (fun vs H Q E h => ?_) (fun cdv A outer s H vs Q E hr h => ?_)
  · obtain ⟨ds, r, h1, ⟨gs, ms, rfl, _⟩, _⟩ := h
    exact h1.length
  · obtain ⟨ds, r, h1, ⟨rs, ws, rfl, h8, h9, rfl⟩, k⟩ := h
    obtain ⟨x, y, rfl, hx, hy⟩ := dq2 h1
    refine ⟨_, PSs.nox (pss_one (ps_if (PW.pt (pw_or (pt_cmpR op_gt (pe_callB call_len_seq (by rfl) T.len_ PySem.boot_len (pa_cons (pv 0) pa_nil)) (pe_glob (v := .int 8) rfl T.most ⟨_, rfl⟩) (nomark _)) (pw_or1 (pt_cmpR op_gt (pe_callB call_len_seq (by rfl) T.len_ PySem.boot_len (pa_cons (pv 1) pa_nil)) (pe_glob (v := .int 8) rfl T.most ⟨_, rfl⟩) (nomark _))))) (pss_one ps_never) pss_nil)), ?_⟩
    refine sd_skip (et_is (et_or (et_D (ed_gt (ed_len (ed_var rfl hx)) ed_int)) fun _ => et_D (ed_gt (ed_len (ed_var rfl hy)) ed_int)) ?_) fun H1 e1 => k _ H1 e1 .non
    simp only [Bool.or_eq_false_iff, decide_eq_false_iff_not]
    omega

/-! ### the law's small defs -/
def cellAt (ns : List Int) (k : Int) : Int := if k < ns.length then ns.getD k.toNat 0 else 0
def spCell (K : PySem.W.Frag) : Sp := fun vs H Q _ => ∃ (a : Addr) (ns : List Int) (k : Int), vs = [.ref a, .int k] ∧ SqL K H a (ns.map V.int) ∧ 0 ≤ k ∧ ∀ H', Ex H H' → Q (.int (cellAt ns k)) H'
theorem ok_lcell (F : FnP K "_law_cell_at" "_law_cell_at" sLCell f fd) (T : Txt K mg C t8) : FnOk P w K mg base CX0 1 f fd ["_law_script", "_law_k"] (spCell K) := by
  refine F.ok scLCell (fun vs H Q E h => ?_) (fun cdv A outer s H vs Q E hr h => ?_)
  · obtain ⟨a, ns, k, rfl, _⟩ := h
    rfl
  · obtain ⟨a, ns, k, rfl, hS, hk, q⟩ := h
    refine ⟨_, PSs.nox (pss_cons (ps_if (pt_cmpR op_lt (pv 1) (pe_callB call_len_seq (by rfl) T.len_ PySem.boot_len (pa_cons (pv 0) pa_nil)) (nomark _)) (pss_one (ps_ret (pe_ix ix_list (pv 0) (pv 1) (fun _ _ => rfl)))) pss_nil)
      (pss_one (ps_ret pe_int))), ?_⟩
    refine q_when (b := decide (k < (((ns.map V.int).length : Nat) : Int))) (et_D (ed_lt (ed_v rfl) (ed_ofInt (ev_len (ev_var rfl) hS)))) (fun hb H1 e1 => ?_) (fun hb H1 e1 => ?_)
    · have hb' : k < ns.length := by have := of_decide_eq_true hb; rw [List.length_map] at this; exact this
      have hi : k.toNat < ns.length := by omega
      refine ⟨_, rfl, _, rfl, a, _, _, .int (ns.getD k.toNat 0), rfl, rfl, ex_l e1 hS, ?_, ?_⟩
      · have h1 : (ns.map V.int)[k.toNat]? = some (V.int (ns.getD k.toNat 0)) := by
          rw [List.getElem?_map, List.getD_eq_getElem?_getD, List.getElem?_eq_getElem hi]; rfl
        have h2 := atI_nat h1
        rw [Int.toNat_of_nonneg hk] at h2
        exact h2
      · have := q H1 e1
        rw [cellAt, if_pos hb'] at this
        exact this
    · have hb' : ¬ k < ns.length := by have := of_decide_eq_false hb; rw [List.length_map] at this; exact this
      refine sd_ret ed_int fun v H2 e2 hv => ?_
      obtain rfl := hv.int_inv
      have := q H2 (e1.trans e2)
      rw [cellAt, if_neg hb'] at this
      exact this
def preLDiv (ds : List PyData) (r : PyData) : Prop := ∃ a b : Int, ds = [.int a, .int b] ∧ 0 ≤ b ∧ r = .int (gcdI a b)
theorem gcdI_emod {a b : Int} (hb : 0 < b) : gcdI b (a % b) = gcdI a b := by
  have e : a % b = a + b * (-(a / b)) := by
    have := Int.emod_def a b
    rw [this]; grind
  have e2 : gcdI b (a % b) = ((Int.gcd b (a + b * (-(a / b))) : Nat) : Int) := by rw [← e]; rfl
  rw [e2, Int.gcd_add_mul_left_right, Int.gcd_comm]
  rfl
theorem ok_ldiv (F : FnP K "_law_divisor" "_law_divisor" sLDiv f fd) (T : Txt K mg C t8) : FnOk P w K mg base CX0 1 f fd ["_law_one", "_law_other"] (spD preLDiv) := by
  refine F.ok scLDiv (fun vs H Q E h => ?_) (fun cdv A outer s H vs Q E hr h => ?_)
  · obtain ⟨ds, r, h1, ⟨a, b, rfl, _, rfl⟩, _⟩ := h
    exact h1.length
  · obtain ⟨ds, r, h1, ⟨a, b, rfl, hb0, rfl⟩, k⟩ := h
    obtain rfl := h1.ints_inv (ns := [a, b])
    refine ⟨_, PSs.nox (pss_cons (ps_while PassesOwn.never (pt_cmpR op_ne (pv 1) pe_int (nomark _)) (pss_one (ps_par (i := 0) (j := 1) (by rfl) scLDiv.nd rfl rfl (by decide) rfl rfl (pa_cons (pv 1) (pa_cons (pe_op op_modN (pv 0) (pv 1)) pa_nil)) (by rfl))))
      (pss_one (ps_ret (pe_callB call_abs (by rfl) T.abs_ (by decide +kernel) (pa_cons (pv 0) pa_nil))))), ?_⟩
    refine qd_while (fun m σ' H' => ∃ x y, σ' = [some (.int x), some (.int y)] ∧ 0 ≤ y ∧ gcdI x y = gcdI a b ∧ m = y.natAbs ∧ Ex H H') _ ⟨_, _, rfl, hb0, rfl, rfl, Ex.refl H⟩ fun m σ' H' hw => ?_
    obtain ⟨x, y, rfl, hy, hg, rfl, e3⟩ := hw
    refine ⟨_, et_D (ed_neI (ed_v rfl) ed_int), fun hb H4 e4 => ?_, fun hb H4 e4 => ?_⟩
    · have hy0 : y ≠ 0 := by simpa using hb
      have hy1 : 0 < y := by omega
      have h1 := Int.emod_nonneg x hy0
      have h2 := Int.emod_lt_of_pos x hy1
      have ef : x.fmod y = x % y := Int.fmod_eq_emod_of_nonneg x hy
      refine ea_consD (ed_v rfl) (ea_consD (ed_I (C := fun _ j => j ≠ 0) (g := fun i j => i.fmod j) (i := x) (j := y) (ed_v rfl) (ed_v rfl) hy0) ea_nilD) H4 (Ex.refl H4) _ fun vs H5 e5 hv => ?_
      obtain rfl := hv.ints_inv (ns := [y, x.fmod y])
      rw [ef]
      exact ⟨_, _, rfl, (x % y).natAbs, by omega, _, _, rfl, h1, by rw [gcdI_emod hy1]; exact hg, rfl, (e3.trans e4).trans e5⟩
    · have hy0 : y = 0 := by simpa using hb
      subst hy0
      refine sd_ret (ed_abs (i := x) (ed_v rfl)) fun v H5 e5 hv => k v H5 ((e3.trans e4).trans e5) ?_
      have e : (if x < 0 then -x else x) = gcdI a b := by
        rw [← hg, ← gcdI_abs x 0]
        rw [show (if (0 : Int) < 0 then -0 else 0) = (0 : Int) from rfl, gcdI_zero]
        split <;> omega
      rw [← e]
      exact hv
def preLLow (ds : List PyData) (r : PyData) : Prop := ∃ a b : Int, ds = [.int a, .int b] ∧ 0 < b ∧ Sm 100 b ∧ r = qD (ratio a b)
theorem ok_llow (F : FnP K "_law_lowest" "_law_lowest" sLLow f fd) (CLDiv : Cal P w K mg base 1 "_law_divisor" ["_law_one", "_law_other"] (spD preLDiv)) : FnOk P w K mg base CX0 2 f fd ["_law_top", "_law_bottom"] (spD preLLow) := by
  refine F.ok scLLow (fun vs H Q E h => ?_) (fun cdv A outer s H vs Q E hr h => ?_)
  · obtain ⟨ds, r, h1, ⟨a, b, rfl, _⟩, _⟩ := h
    exact h1.length
  · obtain ⟨ds, r, h1, ⟨a, b, rfl, hb, hs, rfl⟩, k⟩ := h
    obtain rfl := h1.ints_inv (ns := [a, b])
    refine ⟨_, PSs.nox (pss_cons (ps_set (i := 2) scLLow.nd rfl (Or.inl rfl) (pe_c CLDiv hr (by rfl) (pa_cons (pv 0) (pa_cons (pv 1) pa_nil))))
      (pss_one (ps_ret (pe_tup (pa_cons (pe_op op_fdivW (pv 0) (pv 2)) (pa_cons (pe_op op_fdivW (pv 1) (pv 2)) pa_nil)))))), ?_⟩
    refine qd_asgI (ed_call (ea_consD (ed_v rfl) (ea_consD (ed_v rfl) ea_nilD)) ⟨a, b, rfl, by omega, rfl⟩) fun H2 e2 => ?_
    have g0 := gcdI_pos (a := a) (b := b) (by omega)
    have g1 : Sm 100 (gcdI a b) := by
      have := gcdI_le (a := a) hb
      unfold Sm at *
      omega
    exact sd_ret (ed_pair (ed_divW (ed_v rfl) (ed_v rfl) g0 g1) (ed_divW (ed_v rfl) (ed_v rfl) g0 g1)) fun v H4 e4 hv => k v H4 (e2.trans e4) hv
end
end Hd


/-! text W3 -/
set_option Elab.async false
set_option linter.all false
set_option maxRecDepth 100000
set_option maxHeartbeats 4000000
namespace Hd
open PySem PySem.Spec PyProof.Rows L2 Evl
def rowsD (rows : List (List Fr)) : PyData := .list (rows.map qL)
section
variable {P : Program} {w : World} {K : PySem.W.Frag} {mg : Str → Option Value} {base : Heap} {C : Addr} {t8 : Tok} {f : Addr} {fd : FuncData}
variable {σ : L2.St} {H H' : Hp} {ta tb te tl : TE} {t : TT} {tu tz : TS} {D : Ends} {g : Fr} {fs gs : List Fr} {ds : List PyData} {d : PyData}

/-- for x in a tuple of data -/
theorem sd_forT {j : Nat} (hl : EvD tl σ H (.tuple ds)) (k : ∀ H1, Ex H H1 → ∃ Pv : Nat → L2.St → Hp → Prop, Pv 0 σ H1 ∧ (∀ i σ' H', Pv i σ' H' → Ex H1 H') ∧
    (∀ i d v σ' H', ds[i]? = some d → Pv i σ' H' → Dq H' v d → tu { D with nx := Pv (i + 1), ct := Pv (i + 1), bk := D.nx } (σ'.set j (some v)) H') ∧ ∀ σ' H', Pv ds.length σ' H' → D.nx σ' H') : tFor (iTup K tl) (gName j) tu D σ H := hl H (Ex.refl H) _ fun v H1 e1 hdq => by
  obtain ⟨a, xs, rfl, hp, hall⟩ := hdq.tup_inv
  obtain ⟨Pv, h0, hk, hs, hd⟩ := k H1 e1
  refine ⟨a, rfl, ⟨xs, SqT.of hp⟩, for_tup (K := K) (a := a) (xs := xs) Pv h0 (fun i σ' H' _ p => SqT.of (hk _ _ _ p _ _ hp)) (fun i x σ' H' hx p => ?_) (fun σ' H' p => hd σ' H' (hall.length ▸ p))⟩
  obtain ⟨d, hd', hq⟩ := hall.get' hx
  exact hs i d x σ' H' hd' p (hq.m (hk _ _ _ p))
theorem qd_forT {j : Nat} (hl : EvD tl σ H (.tuple ds)) (k : ∀ H1, Ex H H1 → ∃ Pv : Nat → L2.St → Hp → Prop, Pv 0 σ H1 ∧ (∀ i σ' H', Pv i σ' H' → Ex H1 H') ∧
    (∀ i d v σ' H', ds[i]? = some d → Pv i σ' H' → Dq H' v d → tu { D with nx := Pv (i + 1), ct := Pv (i + 1), bk := tz D } (σ'.set j (some v)) H') ∧ ∀ σ' H', Pv ds.length σ' H' → tz D σ' H') : tSeq (tFor (iTup K tl) (gName j) tu) tz D σ H :=
  sd_forT (D := { D with nx := tz D }) hl k
def tyD : PyData → String
  | .none => "NoneType" | .bool _ => "bool" | .int _ => "int" | .str _ => "str" | .list _ => "list" | .tuple _ => "tuple" | .dict _ => "dict"
theorem ty_of : ∀ {d : PyData} {v : V}, Dq H v d → TyX K H v (.type (tyD d))
  | .none, _, h => by cases h; exact .base .non
  | .bool _, _, h => by cases h; exact .base (.bl _)
  | .int _, _, h => by cases h; exact .base (.int _)
  | .str _, _, h => by cases h; exact .base (.str _)
  | .list _, _, h => by obtain ⟨a, xs, rfl, h1, _⟩ := h.lst_inv; exact .base (.lst h1)
  | .tuple _, _, h => by obtain ⟨a, xs, rfl, h1, _⟩ := h.tup_inv; exact .base (.tup h1)
  | .dict _, _, h => by cases h
/-- isinstance(x, T) -/
theorem ed_isi {T : String} {b : Bool} (h : EvD ta σ H d) (hk : kitB (tyD d) T = some b := by decide +kernel) : EvD (tCB (rIsi K) (tCons ta (tCons (tC (.ty T)) tNil))) σ H (.bool b) := fun H1 e1 Q q =>
  h H1 e1 _ fun v H2 e2 hd => ⟨v, .ty T, _, _, b, rfl, .ty T, ty_of hd, kit_ty hk, q _ H2 e2 (.bl b)⟩

/-! ### numbers -/
def preLNum (ds : List PyData) (r : PyData) : Prop := ∃ c s : Int, ds = [.int c, .int s] ∧ r = qD (lawNumber c s)
theorem menu_get {k : Nat} (h : k < 6) : ([.int 0, .int 1, .int 0, .int (-1), .int 0, .int 1] : List PyData)[k]? = some (.int (lawMenu.getD k 0)) := by
  match k, h with
  | 0, _ => rfl
  | 1, _ => rfl
  | 2, _ => rfl
  | 3, _ => rfl
  | 4, _ => rfl
  | 5, _ => rfl
theorem ed_pow {i j : Int} (ha : EvD ta σ H (.int i)) (hb : EvD tb σ H (.int j)) (h : CPow i j) : EvD (tOp (rI CPow fun i j => .int (i ^ j.toNat)) ta tb) σ H (.int (i ^ j.toNat)) := ed_I (g := fun i j => i ^ j.toNat) ha hb h
theorem ok_lnum (F : FnP K "_law_number" "_law_number" sLNum f fd) (CLLow : Cal P w K mg base 2 "_law_lowest" ["_law_top", "_law_bottom"] (spD preLLow)) : FnOk P w K mg base CX0 3 f fd ["_law_cell", "_law_sort"] (spD preLNum) := by
  refine F.ok scLNum (fun vs H Q E h => ?_) (fun cdv A outer s H vs Q E hr h => ?_)
  · obtain ⟨ds, r, h1, ⟨a, b, rfl, rfl⟩, _⟩ := h
    exact h1.length
  · obtain ⟨ds, r, h1, ⟨c, so, rfl, rfl⟩, k⟩ := h
    obtain rfl := h1.ints_inv (ns := [c, so])
    have hsm : ∀ x y : Int, 0 < y → Sm 100 (1 + x % y) ∧ 0 < 1 + x % y → True := fun _ _ _ _ => trivial
    refine ⟨_, PSs.nox (pss_cons (ps_if (pt_cmpR op_eq (pv 1) pe_int (nomark _)) (pss_one (ps_ret (pe_tup (pa_cons (pe_op op_sub (pe_op op_mod (pv 0) pe_int) pe_int) (pa_cons pe_int pa_nil))))) pss_nil)
      (pss_cons (ps_if (pt_cmpR op_eq (pv 1) pe_int (nomark _)) (pss_one (ps_ret (pe_tup (pa_cons (pe_ix ix_list (pe_lst (pa_cons pe_int (pa_cons pe_int (pa_cons pe_int (pa_cons (pe_un un_neg pe_int) (pa_cons pe_int (pa_cons pe_int pa_nil))))))) (pe_op op_mod (pv 0) pe_int) (fun _ _ => rfl)) (pa_cons pe_int pa_nil))))) pss_nil)
      (pss_cons (ps_if (pt_cmpR op_eq (pv 1) pe_int (nomark _)) (pss_one (ps_ret (pe_c CLLow hr (by rfl) (pa_cons (pe_op op_sub (pe_op op_mod (pv 0) pe_int) pe_int) (pa_cons (pe_op op_add pe_int (pe_op op_mod (pe_op op_fdiv (pv 0) pe_int) pe_int)) pa_nil))))) pss_nil)
      (pss_one (ps_ret (pe_c CLLow hr (by rfl) (pa_cons (pe_op op_sub (pe_op op_mod (pv 0) (pe_op op_mulW pe_int (pe_op op_pow pe_int pe_int))) (pe_op op_pow pe_int pe_int)) (pa_cons (pe_op op_add pe_int (pe_op op_mod (pe_op op_fdiv (pv 0) pe_int) pe_int)) pa_nil)))))))), ?_⟩
    unfold lawNumber at k
    refine q_when (et_D (ed_eqI (ed_v rfl) ed_int)) (fun hb H1 e1 => ?_) (fun hb H1 e1 => ?_)
    · rw [if_pos (of_decide_eq_true hb)] at k
      exact sd_ret (ed_pair (ed_sub (ed_mod (ed_v rfl) ed_int (by decide)) ed_int) ed_int) fun v H2 e2 hv => k v H2 (e1.trans e2) hv
    rw [if_neg (of_decide_eq_false hb)] at k
    refine q_when (et_D (ed_eqI (ed_v rfl) ed_int)) (fun hb H2 e2 => ?_) (fun hb H2 e2 => ?_)
    · rw [if_pos (of_decide_eq_true hb)] at k
      have h6 := Int.emod_nonneg c (show (6 : Int) ≠ 0 by decide)
      have h6' := Int.emod_lt_of_pos c (show (0 : Int) < 6 by decide)
      refine sd_ret (ed_pair (i := lawMenu.getD (c % 6).toNat 0) (ed_ixL (k := (c % 6).toNat) (en_lst (ea_consD ed_int (ea_consD ed_int (ea_consD ed_int (ea_consD (ed_neg ed_int) (ea_consD ed_int (ea_consD ed_int ea_nilD)))))) (by decide)).ls ?_ (menu_get (by omega))) ed_int) fun v H3 e3 hv => k v H3 ((e1.trans e2).trans e3) hv
      rw [Int.toNat_of_nonneg h6]
      exact ed_mod (ed_v rfl) ed_int (by decide)
    rw [if_neg (of_decide_eq_false hb)] at k
    refine q_when (et_D (ed_eqI (ed_v rfl) ed_int)) (fun hb H3 e3 => ?_) (fun hb H3 e3 => ?_)
    · rw [if_pos (of_decide_eq_true hb)] at k
      have b1 := Int.emod_nonneg (c / 601) (show (30 : Int) ≠ 0 by decide)
      have b2 := Int.emod_lt_of_pos (c / 601) (show (0 : Int) < 30 by decide)
      exact sd_ret (ed_call (ea_consD (ed_sub (ed_mod (ed_v rfl) ed_int (by decide)) ed_int) (ea_consD (ed_add ed_int (ed_mod (ed_div (ed_v rfl) ed_int ⟨by decide, by decide⟩) ed_int (by decide))) ea_nilD)) ⟨_, _, rfl, by omega, by unfold Sm; omega, rfl⟩) fun v H4 e4 hv => k v H4 (((e1.trans e2).trans e3).trans e4) hv
    · rw [if_neg (of_decide_eq_false hb)] at k
      have b1 := Int.emod_nonneg (c / 7) (show (997 : Int) ≠ 0 by decide)
      have b2 := Int.emod_lt_of_pos (c / 7) (show (0 : Int) < 997 by decide)
      exact sd_ret (ed_call (ea_consD (ed_sub (ed_mod (j := 2000000000) (ed_v rfl) (ed_mul (n := 10) (m := 40) ed_int (ed_pow ed_int ed_int ⟨by decide, by decide, by decide⟩) (by unfold Sm; decide) (by unfold Sm; decide)) (by decide)) (ed_pow ed_int ed_int ⟨by decide, by decide, by decide⟩)) (ea_consD (ed_add ed_int (ed_mod (ed_div (ed_v rfl) ed_int ⟨by decide, by decide⟩) ed_int (by decide))) ea_nilD)) ⟨_, _, rfl, by omega, by unfold Sm; omega, rfl⟩) fun v H4 e4 hv => k v H4 (((e1.trans e2).trans e3).trans e4) hv
def preLBound (ds : List PyData) (r : PyData) : Prop := ∃ c s z : Int, ds = [.int c, .int s, .int z] ∧ r = qD (lawBound c s z)
theorem ok_lbound (F : FnP K "_law_bound" "_law_bound" sLBound f fd) (T : Txt K mg C t8) (CLNum : Cal P w K mg base 3 "_law_number" ["_law_cell", "_law_sort"] (spD preLNum)) : FnOk P w K mg base CX0 4 f fd ["_law_cell", "_law_sort", "_law_zeros"] (spD preLBound) := by
  refine F.ok scLBound (fun vs H Q E h => ?_) (fun cdv A outer s H vs Q E hr h => ?_)
  · obtain ⟨ds, r, h1, ⟨a, b, z, rfl, rfl⟩, _⟩ := h
    exact h1.length
  · obtain ⟨ds, r, h1, ⟨c, so, z, rfl, rfl⟩, k⟩ := h
    obtain rfl := h1.ints_inv (ns := [c, so, z])
    refine ⟨_, PSs.nox (pss_cons (ps_if (PW.pt (pw_and (pt_cmpR op_eq (pv 2) pe_int (nomark _)) (pw_and1 (pt_cmpR op_lt (pe_op op_mod (pv 0) pe_int) pe_int (nomark _))))) (pss_one (ps_ret (pe_tup (pa_cons pe_int (pa_cons pe_int pa_nil))))) pss_nil)
      (pss_cons (ps_set (i := 3) scLBound.nd rfl (Or.inl rfl) (pe_c CLNum hr (by rfl) (pa_cons (pe_op op_fdiv (pv 0) pe_int) (pa_cons (pv 1) pa_nil))))
      (pss_one (ps_ret (pe_tup (pa_cons (pe_callB call_abs (by rfl) T.abs_ (by decide +kernel) (pa_cons (pe_ix ix_tup (pv 3) pe_int (fun _ _ => rfl)) pa_nil)) (pa_cons (pe_ix ix_tup (pv 3) pe_int (fun _ _ => rfl)) pa_nil))))))), ?_⟩
    unfold lawBound at k
    refine q_when (b := decide (z = 1) && decide (c % 4 < 3)) (et_and (et_D (ed_eqI (ed_v rfl) ed_int)) fun _ => et_D (ed_lt (ed_mod (ed_v rfl) ed_int (by decide)) ed_int)) (fun hb H1 e1 => ?_) (fun hb H1 e1 => ?_)
    · rw [if_pos (by simpa using hb)] at k
      exact sd_ret (ed_pair ed_int ed_int) fun v H2 e2 hv => k v H2 (e1.trans e2) hv
    · rw [if_neg (by
        intro hc
        have : (decide (z = 1) && decide (c % 4 < 3)) = true := by simpa using hc
        rw [this] at hb; cases hb)] at k
      refine qd_asg (ed_call (ea_consD (ed_div (ed_v rfl) ed_int ⟨by decide, by decide⟩) (ea_consD (ed_v rfl) ea_nilD)) ⟨_, _, rfl, rfl⟩) fun v H2 e2 hv => ?_
      exact sd_ret (ed_pair (ed_abs (ed_q0 (ed_var rfl hv))) (ed_q1 (ed_var rfl hv))) fun v H3 e3 hv => k v H3 ((e1.trans e2).trans e3) hv

/-! ### dot, less, times -/
def preLDot (ds : List PyData) (r : PyData) : Prop := ∃ fs gs : List Fr, ds = [qL fs, qL gs] ∧ fs.length = gs.length ∧ fs.length ≤ 8 ∧ (∀ f ∈ fs, Bd 2000 f) ∧ (∀ g ∈ gs, Bd 2000 g) ∧ r = qD (lawDot fs gs)
theorem ok_ldot (F : FnP K "_law_dot" "_law_dot" sLDot f fd) (T : Txt K mg C t8) : FnOk P w K mg base CX0 1 f fd ["_law_some", "_law_more"] (spD preLDot) := by
  refine F.ok scLDot (fun vs H Q E h => ?_) (fun cdv A outer s H vs Q E hr h => ?_)
  · obtain ⟨ds, r, h1, ⟨gs, ms, rfl, _⟩, _⟩ := h
    exact h1.length
  · obtain ⟨ds, r, h1, ⟨fs, gs, rfl, hl, hl8, hf, hg, rfl⟩, k⟩ := h
    obtain ⟨x, y, rfl, hx, hy⟩ := dq2 h1
    refine ⟨_, PSs.nox (pss_cons (ps_set (i := 2) scLDot.nd rfl (Or.inl rfl) pe_int)
      (pss_cons (ps_set (i := 3) scLDot.nd rfl (Or.inl rfl) pe_int)
      (pss_cons (ps_for PassesOwn.never rfl (pi_zip (by rfl) T.zip_ (pa_cons (pv 0) (pa_cons (pv 1) pa_nil))) (pg_tup rfl (pgs_cons (pg_name (i := 4) scLDot.nd rfl (Or.inl rfl) (Or.inl rfl)) (pgs_cons (pg_name (i := 5) scLDot.nd rfl (Or.inl rfl) (Or.inl rfl)) pgs_nil))) (pss_cons (ps_set (i := 2) scLDot.nd rfl (Or.inl rfl) (pe_op op_add (pe_op op_mulW (pe_op op_mulW (pv 2) (pe_ix ix_tup (pv 4) pe_int (fun _ _ => rfl))) (pe_ix ix_tup (pv 5) pe_int (fun _ _ => rfl))) (pe_op op_mulW (pe_op op_mulW (pe_ix ix_tup (pv 4) pe_int (fun _ _ => rfl)) (pe_ix ix_tup (pv 5) pe_int (fun _ _ => rfl))) (pv 3))))
      (pss_one (ps_set (i := 3) scLDot.nd rfl (Or.inl rfl) (pe_op op_mulW (pe_op op_mulW (pv 3) (pe_ix ix_tup (pv 4) pe_int (fun _ _ => rfl))) (pe_ix ix_tup (pv 5) pe_int (fun _ _ => rfl)))))))
      (pss_one (ps_ret (pe_tup (pa_cons (pv 2) (pa_cons (pv 3) pa_nil)))))))), ?_⟩
    refine qd_asgI ed_int fun H1 e1 => qd_asgI ed_int fun H2 e2 => ?_
    have e12 := e1.trans e2
    refine qd_forZ (ea_consD (ed_var rfl (hx.m e12)) (ea_consD (ed_var rfl (hy.m e12)) ea_nilD)) (by simpa using hl) fun H3 e3 => ⟨fun i σ' H' => Ex H3 H' ∧ ∃ p q, σ' = [some x, some y, some (.int (((fs.zip gs).take i).foldl dotStep (0, 1)).1), some (.int (((fs.zip gs).take i).foldl dotStep (0, 1)).2), p, q], ⟨Ex.refl _, none, none, rfl⟩, fun _ _ _ p => p.1, fun i d e v u σ' H' H'' hd he p e4 hv hu => ?_, fun σ' H' p => ?_⟩
    · obtain ⟨e5, p, q, rfl⟩ := p
      obtain ⟨a, ha, rfl⟩ := qget hd
      obtain ⟨b, hb, rfl⟩ := qget he
      have ez := zip_get ha hb
      have hz := Bd.dots (a := 2000) (b := 2000) ((fs.zip gs).take i) 1 (0, 1) ⟨Sm.zero, Sm.one (by omega), by decide⟩ fun p hp => ⟨hf _ (List.of_mem_zip (List.mem_of_mem_take hp)).1, hg _ (List.of_mem_zip (List.mem_of_mem_take hp)).2⟩
      have hi : i < fs.length := (List.getElem?_eq_some_iff.mp ha).1
      have hzl : ((fs.zip gs).take i).length ≤ 8 := by rw [List.length_take, List.length_zip]; omega
      have hz2 := hz.mono (m := 33000) (by omega)
      have sa := hf a (List.mem_of_getElem? ha)
      have sb := hg b (List.mem_of_getElem? hb)
      have ef := foldl_take dotStep (0, 1) ez
      generalize hzz : ((fs.zip gs).take i).foldl dotStep (0, 1) = z at *
      refine qd_asgI (ed_add (ed_mul (n := 35000) (m := 2000) (ed_mul (n := 33000) (m := 2000) (ed_v rfl) (ed_q1 (ed_var rfl hv)) hz2.top sa.bot) (ed_q1 (ed_var rfl hu)) (hz2.top.mul sa.bot) sb.bot)
        (ed_mul (n := 4000) (m := 33000) (ed_mul (n := 2000) (m := 2000) (ed_q0 (ed_var rfl hv)) (ed_q0 (ed_var rfl hu)) sa.top sb.top) (ed_v rfl) (sa.top.mul sb.top) hz2.bot)) fun H6 e6 => ?_
      refine sd_asgI (ed_mul (n := 35000) (m := 2000) (ed_mul (n := 33000) (m := 2000) (ed_v rfl) (ed_q1 (ed_var rfl (hv.m e6))) hz2.bot sa.bot) (ed_q1 (ed_var rfl (hu.m e6))) (hz2.bot.mul sa.bot) sb.bot) fun H7 e7 => ?_
      exact ⟨((e5.trans e4).trans e6).trans e7, some v, some u, by rw [ef]; rfl⟩
    · obtain ⟨e5, p, q, rfl⟩ := p
      have el : ((fs.zip gs).take (fs.map qD).length) = fs.zip gs := List.take_of_length_le (by rw [List.length_zip, List.length_map]; omega)
      rw [el]
      exact sd_ret (ed_pair (ed_v rfl) (ed_v rfl)) fun v H6 e6 hv => k v H6 (((e12.trans e3).trans e5).trans e6) hv
def preLLess (ds : List PyData) (r : PyData) : Prop := ∃ f g : Fr, ds = [qD f, qD g] ∧ Bd 200000 f ∧ Bd 200000 g ∧ r = qD (lawLess f g)
theorem ok_lless (F : FnP K "_law_less" "_law_less" sLLess f fd) : FnOk P w K mg base CX0 1 f fd ["_law_one", "_law_other"] (spD preLLess) := by
  refine F.ok scLLess (fun vs H Q E h => ?_) (fun cdv A outer s H vs Q E hr h => ?_)
  · obtain ⟨ds, r, h1, ⟨gs, ms, rfl, _⟩, _⟩ := h
    exact h1.length
  · obtain ⟨ds, r, h1, ⟨a, b, rfl, ha, hb, rfl⟩, k⟩ := h
    obtain ⟨x, y, rfl, hx, hy⟩ := dq2 h1
    refine ⟨_, PSs.nox (pss_one (ps_ret (pe_tup (pa_cons (pe_op op_sub (pe_op op_mulW (pe_ix ix_tup (pv 0) pe_int (fun _ _ => rfl)) (pe_ix ix_tup (pv 1) pe_int (fun _ _ => rfl))) (pe_op op_mulW (pe_ix ix_tup (pv 1) pe_int (fun _ _ => rfl)) (pe_ix ix_tup (pv 0) pe_int (fun _ _ => rfl)))) (pa_cons (pe_op op_mulW (pe_ix ix_tup (pv 0) pe_int (fun _ _ => rfl)) (pe_ix ix_tup (pv 1) pe_int (fun _ _ => rfl))) pa_nil))))), ?_⟩
    exact sd_ret (ed_pair (ed_sub (ed_mul (ed_q0 (ed_var rfl hx)) (ed_q1 (ed_var rfl hy)) ha.top hb.bot) (ed_mul (ed_q0 (ed_var rfl hy)) (ed_q1 (ed_var rfl hx)) hb.top ha.bot)) (ed_mul (ed_q1 (ed_var rfl hx)) (ed_q1 (ed_var rfl hy)) ha.bot hb.bot)) k
def preLTimes (ds : List PyData) (r : PyData) : Prop := ∃ f g : Fr, ds = [qD f, qD g] ∧ Bd 200000 f ∧ Bd 200000 g ∧ r = qD (lawTimes f g)
theorem ok_ltimes (F : FnP K "_law_times" "_law_times" sLTimes f fd) : FnOk P w K mg base CX0 1 f fd ["_law_one", "_law_other"] (spD preLTimes) := by
  refine F.ok scLTimes (fun vs H Q E h => ?_) (fun cdv A outer s H vs Q E hr h => ?_)
  · obtain ⟨ds, r, h1, ⟨gs, ms, rfl, _⟩, _⟩ := h
    exact h1.length
  · obtain ⟨ds, r, h1, ⟨a, b, rfl, ha, hb, rfl⟩, k⟩ := h
    obtain ⟨x, y, rfl, hx, hy⟩ := dq2 h1
    refine ⟨_, PSs.nox (pss_one (ps_ret (pe_tup (pa_cons (pe_op op_mulW (pe_ix ix_tup (pv 0) pe_int (fun _ _ => rfl)) (pe_ix ix_tup (pv 1) pe_int (fun _ _ => rfl))) (pa_cons (pe_op op_mulW (pe_ix ix_tup (pv 0) pe_int (fun _ _ => rfl)) (pe_ix ix_tup (pv 1) pe_int (fun _ _ => rfl))) pa_nil))))), ?_⟩
    exact sd_ret (ed_pair (ed_mul (ed_q0 (ed_var rfl hx)) (ed_q0 (ed_var rfl hy)) ha.top hb.top) (ed_mul (ed_q1 (ed_var rfl hx)) (ed_q1 (ed_var rfl hy)) ha.bot hb.bot)) k
end
end Hd


/-! text W4 -/
set_option Elab.async false
set_option linter.all false
set_option maxRecDepth 100000
set_option maxHeartbeats 4000000
namespace Hd
open PySem PySem.Spec PyProof.Rows L2 Evl
section
variable {P : Program} {w : World} {K : PySem.W.Frag} {mg : Str → Option Value} {base : Heap} {C : Addr} {t8 : Tok} {f : Addr} {fd : FuncData}
variable {σ : L2.St} {H H' : Hp} {ta tb te tl : TE} {t : TT} {tu tz : TS} {D : Ends} {g : Fr} {fs gs : List Fr} {ds : List PyData} {d : PyData}

theorem all_take {α : Type} {p : α → Bool} {xs : List α} {i : Nat} {x : α} (h : xs[i]? = some x) : (xs.take (i + 1)).all p = ((xs.take i).all p && p x) := by
  rw [List.take_add_one, h, List.all_append]
  simp
theorem all_bad {α : Type} {p : α → Bool} {xs : List α} {i : Nat} {x : α} (h : xs[i]? = some x) (hx : p x = false) : xs.all p = false := by
  rw [List.all_eq_false]
  exact ⟨x, List.mem_of_getElem? h, by rw [hx]; decide⟩
def preLList (ds : List PyData) (r : PyData) : Prop := ∃ (fs : List Fr) (n : Nat), ds = [qL fs, .int (n : Int)] ∧ r = .bool (lawList fs n)
theorem ok_llist (F : FnP K "_law_list" "_law_list" sLList f fd) (T : Txt K mg C t8) (CLDiv : Cal P w K mg base 1 "_law_divisor" ["_law_one", "_law_other"] (spD preLDiv)) : FnOk P w K mg base CX0 2 f fd ["_law_found", "_law_many"] (spD preLList) := by
  refine F.ok scLList (fun vs H Q E h => ?_) (fun cdv A outer s H vs Q E hr h => ?_)
  · obtain ⟨ds, r, h1, ⟨gs, ms, rfl, _⟩, _⟩ := h
    exact h1.length
  · obtain ⟨ds, r, h1, ⟨fs, n, rfl, rfl⟩, k⟩ := h
    obtain ⟨x, y, rfl, hx, hy⟩ := dq2 h1
    obtain rfl := hy.int_inv
    refine ⟨_, PSs.nox (pss_cons (ps_if (PW.pt (pw_or (pt_not (pt_val (pe_callB call_isi (by rfl) T.isinstance_ (by decide +kernel) (pa_cons (pv 0) (pa_cons (pe_bltn (v := .ty "list") (by rfl) T.list_ (by decide +kernel) rfl) pa_nil))))) (pw_or1 (pt_cmpR op_ne (pe_callB call_len_seq (by rfl) T.len_ PySem.boot_len (pa_cons (pv 0) pa_nil)) (pv 1) (nomark _))))) (pss_one (ps_ret pe_bl)) pss_nil)
      (pss_cons (ps_for PassesOwn.never rfl (pi_list (pv 0)) (pg_name (i := 2) scLList.nd rfl (Or.inl rfl) (Or.inl rfl)) (pss_cons (ps_if (PW.pt (pw_or (pt_not (pt_val (pe_callB call_isi (by rfl) T.isinstance_ (by decide +kernel) (pa_cons (pv 2) (pa_cons (pe_bltn (v := .ty "tuple") (by rfl) T.tuple_ (by decide +kernel) rfl) pa_nil))))) (pw_or1 (pt_cmpR op_ne (pe_callB call_len_seq (by rfl) T.len_ PySem.boot_len (pa_cons (pv 2) pa_nil)) pe_int (nomark _))))) (pss_one (ps_ret pe_bl)) pss_nil)
      (pss_cons (ps_for PassesOwn.never rfl (pi_tup (pv 2)) (pg_name (i := 3) scLList.nd rfl (Or.inl rfl) (Or.inl rfl)) (pss_one (ps_if (PW.pt (pw_or (pt_not (pt_val (pe_callB call_isi (by rfl) T.isinstance_ (by decide +kernel) (pa_cons (pv 3) (pa_cons (pe_bltn (v := .ty "int") (by rfl) T.int_ (by decide +kernel) rfl) pa_nil))))) (pw_or1 (pt_val (pe_callB call_isi (by rfl) T.isinstance_ (by decide +kernel) (pa_cons (pv 3) (pa_cons (pe_bltn (v := .ty "bool") (by rfl) T.bool_ (by decide +kernel) rfl) pa_nil))))))) (pss_one (ps_ret pe_bl)) pss_nil)))
      (pss_one (ps_if (PW.pt (pw_or (pt_cmpR op_lt (pe_ix ix_tup (pv 2) pe_int (fun _ _ => rfl)) pe_int (nomark _)) (pw_or (pt_cmpR op_lt (pe_ix ix_tup (pv 2) pe_int (fun _ _ => rfl)) pe_int (nomark _)) (pw_or1 (pt_cmpR op_ne (pe_c CLDiv hr (by rfl) (pa_cons (pe_ix ix_tup (pv 2) pe_int (fun _ _ => rfl)) (pa_cons (pe_ix ix_tup (pv 2) pe_int (fun _ _ => rfl)) pa_nil))) pe_int (nomark _)))))) (pss_one (ps_ret pe_bl)) pss_nil)))))
      (pss_one (ps_ret pe_bl)))), ?_⟩
    refine q_when (b := !true || !decide ((((fs.map qD).length : Nat) : Int) = (n : Int))) (et_or (et_not (et_DB (ed_isi (b := true) (ed_var rfl hx) (show kitB "list" "list" = some true by decide +kernel)))) fun _ => et_D (ed_neI (ed_len (ed_var rfl hx)) (ed_v rfl))) (fun hb H1 e1 => ?_) (fun hb H1 e1 => ?_)
    · have hn : fs.length ≠ n := by
        have h : ¬ ((fs.length : Int) = (n : Int)) := by simpa using hb
        omega
      refine sd_ret ed_bl fun v H2 e2 hv => k v H2 (e1.trans e2) ?_
      unfold lawList
      rw [decide_eq_false hn, Bool.false_and]
      exact hv
    have hn : fs.length = n := by
      have h : (fs.length : Int) = (n : Int) := by simpa using hb
      omega
    refine qd_forL (ed_var rfl (hx.m e1)) fun H2 e2 => ⟨fun i σ' H' => Ex H2 H' ∧ (fs.take i).all lawPart = true ∧ ∃ p q, σ' = [some x, some (.int n), p, q], ⟨Ex.refl _, by simp, none, none, rfl⟩, fun _ _ _ p => p.1, fun i d v σ' H' hd p hv => ?_, fun σ' H' p => ?_⟩
    · obtain ⟨g, hg, rfl⟩ := qget hd
      obtain ⟨e3, hall, p, q, rfl⟩ := p
      have e123 := (e1.trans e2).trans e3
      refine qd_skip (et_is (et_or (et_not (et_DB (ed_isi (b := true) (ed_var rfl hv) (show kitB "tuple" "tuple" = some true by decide +kernel)))) fun _ => et_D (ed_neI (ed_lenT (ed_var rfl hv)) ed_int)) (by simp)) fun H4 e4 => ?_
      refine qd_forT (ed_var rfl (hv.m e4)) fun H5 e5 => ⟨fun j σ' H' => Ex H5 H' ∧ ∃ q, σ' = [some x, some (.int n), some v, q], ⟨Ex.refl _, _, rfl⟩, fun _ _ _ p => p.1, fun j d u σ' H' hd p hu => ?_, fun σ' H' p => ?_⟩
      · obtain ⟨e6, q, rfl⟩ := p
        have hint : ∃ z : Int, d = .int z := by
          match j, hd with
          | 0, hd => exact ⟨_, (Option.some.inj hd).symm⟩
          | 1, hd => exact ⟨_, (Option.some.inj hd).symm⟩
          | j + 2, hd => simp at hd
        obtain ⟨z, rfl⟩ := hint
        refine sd_skip (et_is (et_or (et_not (et_DB (ed_isi (b := true) (ed_var rfl hu) (show kitB "int" "int" = some true by decide +kernel)))) fun _ => et_DB (ed_isi (b := false) (ed_var rfl hu) (show kitB "int" "bool" = some false by decide +kernel))) (by simp)) fun H7 e7 => ⟨e6.trans e7, some u, rfl⟩
      · obtain ⟨e6, q, rfl⟩ := p
        have hv6 := hv.m ((e4.trans e5).trans e6)
        refine s_when (b := decide (g.1 < 0) || (decide (g.2 < 1) || !decide (gcdI g.1 g.2 = 1))) (et_or (et_D (ed_lt (ed_q0 (ed_var rfl hv6)) ed_int)) fun h0 => et_or (et_D (ed_lt (ed_q1 (ed_var rfl hv6)) ed_int)) fun h1 => et_D (ed_neI (ed_call (ea_consD (ed_q0 (ed_var rfl hv6)) (ea_consD (ed_q1 (ed_var rfl hv6)) ea_nilD)) ⟨_, _, rfl, by have := of_decide_eq_false h1; omega, rfl⟩) ed_int)) (fun hb H7 e7 => ?_) (fun hb H7 e7 => ?_)
        · refine sd_ret ed_bl fun v H8 e8 hv => k v H8 (((((e123.trans e4).trans e5).trans e6).trans e7).trans e8) ?_
          have hbad : lawPart g = false := by
            unfold lawPart
            rcases Bool.or_eq_true_iff.mp hb with h | h
            · have := of_decide_eq_true h
              rw [decide_eq_false (show ¬ 0 ≤ g.1 by omega)]; rfl
            · rcases Bool.or_eq_true_iff.mp h with h | h
              · have := of_decide_eq_true h
                rw [decide_eq_false (show ¬ 1 ≤ g.2 by omega)]; simp
              · have h' : ¬ gcdI g.1 g.2 = 1 := by simpa using h
                rw [decide_eq_false h']; simp
          unfold lawList
          rw [all_bad hg hbad, Bool.and_false]
          exact hv
        · refine ⟨((e3.trans e4).trans (e5.trans e6)).trans e7, ?_, _, _, rfl⟩
          rw [all_take hg, hall, Bool.true_and]
          obtain ⟨h0, h⟩ := Bool.or_eq_false_iff.mp hb
          obtain ⟨h1, h2⟩ := Bool.or_eq_false_iff.mp h
          have h0' := of_decide_eq_false h0
          have h1' := of_decide_eq_false h1
          have h2' : gcdI g.1 g.2 = 1 := by simpa using h2
          unfold lawPart
          rw [decide_eq_true (show 0 ≤ g.1 by omega), decide_eq_true (show 1 ≤ g.2 by omega), decide_eq_true h2']; rfl
    · obtain ⟨e3, hall, p, q, rfl⟩ := p
      refine sd_ret ed_bl fun v H4 e4 hv => k v H4 (((e1.trans e2).trans e3).trans e4) ?_
      rw [List.length_map, List.take_length] at hall
      unfold lawList
      rw [decide_eq_true hn, hall]
      exact hv

/-! ### what the law asks of what is told -/
theorem rget {rows : List (List Fr)} {i : Nat} {d : PyData} (h : (rows.map qL)[i]? = some d) : ∃ r, rows[i]? = some r ∧ d = qL r := by
  rw [List.getElem?_map] at h
  cases e : rows[i]? with
  | none => rw [e] at h; cases h
  | some f => rw [e] at h; exact ⟨f, rfl, (Option.some.inj h).symm⟩
/-- rows, bounds, a wish as the law builds them -/
structure Giv (rows : List (List Fr)) (bounds wish : List Fr) : Prop where
  high : rows.length ≤ 8
  wide : wish.length ≤ 8
  len : ∀ r ∈ rows, r.length = wish.length
  bl : bounds.length = rows.length
  rb : ∀ r ∈ rows, ∀ f ∈ r, Bd 31 f
  bb : ∀ f ∈ bounds, Bd 31 f
  wb : ∀ f ∈ wish, Bd 31 f
theorem dot_bd {fs gs : List Fr} (h8 : fs.length ≤ 8) (h1 : ∀ f ∈ fs, Bd 2000 f) (h2 : ∀ g ∈ gs, Bd 2000 g) : Bd 33000 (lawDot fs gs) := (Bd.dot h1 h2).mono (by omega)
theorem up31 {fs : List Fr} (h : ∀ f ∈ fs, Bd 31 f) : ∀ f ∈ fs, Bd 2000 f := fun f hf => (h f hf).mono (by decide)
def preLFits (ds : List PyData) (r : PyData) : Prop := ∃ (rows : List (List Fr)) (bounds wish fit : List Fr), ds = [rowsD rows, qL bounds, qL fit] ∧ Giv rows bounds wish ∧ fit.length = wish.length ∧ (∀ f ∈ fit, Bd 2000 f) ∧ r = .bool (lawFits rows bounds fit)
variable (CLDot : Cal P w K mg base 1 "_law_dot" ["_law_some", "_law_more"] (spD preLDot)) (CLLess : Cal P w K mg base 1 "_law_less" ["_law_one", "_law_other"] (spD preLLess)) (CLTimes : Cal P w K mg base 1 "_law_times" ["_law_one", "_law_other"] (spD preLTimes))
  (CLList : Cal P w K mg base 2 "_law_list" ["_law_found", "_law_many"] (spD preLList))
theorem ed_dot {E : XK} (ha : EvD ta σ H (qL fs)) (hb : EvD tb σ H (qL gs)) (hl : fs.length = gs.length) (h8 : fs.length ≤ 8) (h1 : ∀ f ∈ fs, Bd 2000 f) (h2 : ∀ g ∈ gs, Bd 2000 g) : EvD (tCall (spD preLDot) [] E (tCons ta (tCons tb tNil))) σ H (qD (lawDot fs gs)) :=
  ed_call (ea_consD ha (ea_consD hb ea_nilD)) ⟨fs, gs, rfl, hl, h8, h1, h2, rfl⟩
theorem ed_less {E : XK} {x y : Fr} (ha : EvD ta σ H (qD x)) (hb : EvD tb σ H (qD y)) (h1 : Bd 200000 x) (h2 : Bd 200000 y) : EvD (tCall (spD preLLess) [] E (tCons ta (tCons tb tNil))) σ H (qD (lawLess x y)) :=
  ed_call (ea_consD ha (ea_consD hb ea_nilD)) ⟨x, y, rfl, h1, h2, rfl⟩
theorem ed_times {E : XK} {x y : Fr} (ha : EvD ta σ H (qD x)) (hb : EvD tb σ H (qD y)) (h1 : Bd 200000 x) (h2 : Bd 200000 y) : EvD (tCall (spD preLTimes) [] E (tCons ta (tCons tb tNil))) σ H (qD (lawTimes x y)) :=
  ed_call (ea_consD ha (ea_consD hb ea_nilD)) ⟨x, y, rfl, h1, h2, rfl⟩
theorem ed_list {E : XK} {n : Nat} (ha : EvD ta σ H (qL fs)) (hb : EvD tb σ H (.int (n : Int))) : EvD (tCall (spD preLList) [] E (tCons ta (tCons tb tNil))) σ H (.bool (lawList fs n)) :=
  ed_call (ea_consD ha (ea_consD hb ea_nilD)) ⟨fs, n, rfl, rfl⟩
theorem lenq (fs : List Fr) : ((fs.map qD).length : Int) = (fs.length : Int) := by rw [List.length_map]
theorem ed_lenq (ha : EvD ta σ H (qL fs)) : EvD (tCB (rLenS K) (tCons ta tNil)) σ H (.int (fs.length : Int)) := ed_is (ed_len ha) (by rw [List.length_map])
include CLDot CLLess in
theorem ok_lfits (F : FnP K "_law_fits" "_law_fits" sLFits f fd) (T : Txt K mg C t8) : FnOk P w K mg base CX0 2 f fd ["_law_rows", "_law_bounds", "_law_fit"] (spD preLFits) := by
  refine F.ok scLFits (fun vs H Q E h => ?_) (fun cdv A outer s H vs Q E hr h => ?_)
  · obtain ⟨ds, r, h1, ⟨_, _, _, _, rfl, _⟩, _⟩ := h
    exact h1.length
  · obtain ⟨ds, r, h1, ⟨rows, bounds, wish, fit, rfl, G, hl, hf, rfl⟩, k⟩ := h
    obtain ⟨x, y, z, rfl, hx, hy, hz⟩ := dq3 h1
    refine ⟨_, PSs.nox (pss_cons (ps_for PassesOwn.never rfl (pi_zip (by rfl) T.zip_ (pa_cons (pv 0) (pa_cons (pv 1) pa_nil))) (pg_tup rfl (pgs_cons (pg_name (i := 3) scLFits.nd rfl (Or.inl rfl) (Or.inl rfl)) (pgs_cons (pg_name (i := 4) scLFits.nd rfl (Or.inl rfl) (Or.inl rfl)) pgs_nil))) (pss_one (ps_if (pt_cmpR op_gt (pe_ix ix_tup (pe_c CLLess hr (by rfl) (pa_cons (pe_c CLDot hr (by rfl) (pa_cons (pv 3) (pa_cons (pv 2) pa_nil))) (pa_cons (pv 4) pa_nil))) pe_int (fun _ _ => rfl)) pe_int (nomark _)) (pss_one (ps_ret pe_bl)) pss_nil)))
      (pss_one (ps_ret pe_bl))), ?_⟩
    refine qd_forZ (ea_consD (ed_var rfl hx) (ea_consD (ed_var rfl hy) ea_nilD)) (by simpa using G.bl.symm) fun H2 e2 => ⟨fun i σ' H' => Ex H2 H' ∧ ((rows.zip bounds).take i).all (fun p => !decide (0 < (lawLess (lawDot p.1 fit) p.2).1)) = true ∧ ∃ p q, σ' = [some x, some y, some z, p, q], ⟨Ex.refl _, by simp, none, none, rfl⟩, fun _ _ _ p => p.1, fun i d e v u σ' H' H'' hd he p e4 hv hu => ?_, fun σ' H' p => ?_⟩
    · obtain ⟨ro, hro, rfl⟩ := rget hd
      obtain ⟨b, hb, rfl⟩ := qget he
      obtain ⟨e3, hall, p, q, rfl⟩ := p
      have ez := zip_get hro hb
      have hz4 := hz.m ((e2.trans e3).trans e4)
      have hrm := List.mem_of_getElem? hro
      have hb2 := G.bb b (List.mem_of_getElem? hb)
      have hrl := G.len ro hrm
      have hd1 := dot_bd (fs := ro) (gs := fit) (by have := G.wide; omega) (up31 (G.rb ro hrm)) hf
      refine s_when (et_D (ed_gt (ed_q0 (ed_less (ed_dot (ed_var rfl hv) (ed_var rfl hz4) (by omega) (by have := G.wide; omega) (up31 (G.rb ro hrm)) hf) (ed_var rfl hu) (hd1.mono (by decide)) (hb2.mono (by decide)))) ed_int)) (fun hb H7 e7 => ?_) (fun hb H7 e7 => ?_)
      · refine sd_ret ed_bl fun v H8 e8 hv => k v H8 ((((e2.trans e3).trans e4).trans e7).trans e8) ?_
        unfold lawFits
        rw [all_bad ez (by show (!decide _) = false; rw [hb]; rfl)]
        exact hv
      · exact ⟨(e3.trans e4).trans e7, by rw [all_take ez, hall, Bool.true_and]; show (!decide _) = true; rw [hb]; rfl, _, _, rfl⟩
    · obtain ⟨e3, hall, p, q, rfl⟩ := p
      refine sd_ret ed_bl fun v H4 e4 hv => k v H4 ((e2.trans e3).trans e4) ?_
      rw [List.length_map, List.take_of_length_le (by rw [List.length_zip]; omega)] at hall
      unfold lawFits
      rw [hall]
      exact hv
def preLWay (ds : List PyData) (r : PyData) : Prop := ∃ (rows : List (List Fr)) (bounds wish way : List Fr), ds = [rowsD rows, qL wish, qL way] ∧ Giv rows bounds wish ∧ way.length = wish.length ∧ (∀ f ∈ way, Bd 2000 f) ∧ r = .bool (lawIsWay rows wish way)
include CLDot CLList in
theorem ok_lway (F : FnP K "_law_is_way" "_law_is_way" sLWay f fd) (T : Txt K mg C t8) : FnOk P w K mg base CX0 3 f fd ["_law_rows", "_law_wish_here", "_law_way"] (spD preLWay) := by
  refine F.ok scLWay (fun vs H Q E h => ?_) (fun cdv A outer s H vs Q E hr h => ?_)
  · obtain ⟨ds, r, h1, ⟨_, _, _, _, rfl, _⟩, _⟩ := h
    exact h1.length
  · obtain ⟨ds, r, h1, ⟨rows, bounds, wish, way, rfl, G, hl, hf, rfl⟩, k⟩ := h
    obtain ⟨x, y, z, rfl, hx, hy, hz⟩ := dq3 h1
    refine ⟨_, PSs.nox (pss_cons (ps_if (pt_not (pt_val (pe_c CLList hr (by rfl) (pa_cons (pv 2) (pa_cons (pe_callB call_len_seq (by rfl) T.len_ PySem.boot_len (pa_cons (pv 1) pa_nil)) pa_nil))))) (pss_one (ps_ret pe_bl)) pss_nil)
      (pss_cons (ps_for PassesOwn.never rfl (pi_list (pv 0)) (pg_name (i := 3) scLWay.nd rfl (Or.inl rfl) (Or.inl rfl)) (pss_one (ps_if (pt_cmpR op_gt (pe_ix ix_tup (pe_c CLDot hr (by rfl) (pa_cons (pv 3) (pa_cons (pv 2) pa_nil))) pe_int (fun _ _ => rfl)) pe_int (nomark _)) (pss_one (ps_ret pe_bl)) pss_nil)))
      (pss_one (ps_ret pe_bl)))), ?_⟩
    refine q_when (et_not (et_DB (ed_list (ed_var rfl hz) (ed_lenq (ed_var rfl hy))))) (fun hb H1 e1 => ?_) (fun hb H1 e1 => ?_)
    · have hb' : lawList way wish.length = false := by simpa using hb
      refine sd_ret ed_bl fun v H2 e2 hv => k v H2 (e1.trans e2) ?_
      unfold lawIsWay
      rw [hb', Bool.false_and]
      exact hv
    have hb' : lawList way wish.length = true := by simpa using hb
    refine qd_forL (ed_var rfl (hx.m e1)) fun H2 e2 => ⟨fun i σ' H' => Ex H2 H' ∧ (rows.take i).all (fun r => !decide (0 < (lawDot r way).1)) = true ∧ ∃ p, σ' = [some x, some y, some z, p], ⟨Ex.refl _, by simp, none, rfl⟩, fun _ _ _ p => p.1, fun i d v σ' H' hd p hv => ?_, fun σ' H' p => ?_⟩
    · obtain ⟨ro, hro, rfl⟩ := rget hd
      obtain ⟨e3, hall, p, rfl⟩ := p
      have hz4 := hz.m ((e1.trans e2).trans e3)
      have hrm := List.mem_of_getElem? hro
      have hrl := G.len ro hrm
      refine s_when (et_D (ed_gt (ed_q0 (ed_dot (ed_var rfl hv) (ed_var rfl hz4) (by omega) (by have := G.wide; omega) (up31 (G.rb ro hrm)) hf)) ed_int)) (fun hb H7 e7 => ?_) (fun hb H7 e7 => ?_)
      · refine sd_ret ed_bl fun v H8 e8 hv => k v H8 ((((e1.trans e2).trans e3).trans e7).trans e8) ?_
        unfold lawIsWay
        rw [all_bad hro (by show (!decide _) = false; rw [hb]; rfl), Bool.and_false]
        exact hv
      · exact ⟨e3.trans e7, by rw [all_take hro, hall, Bool.true_and]; show (!decide _) = true; rw [hb]; rfl, _, rfl⟩
    · obtain ⟨e3, hall, p, rfl⟩ := p
      refine sd_ret ed_bl fun v H4 e4 hv => k v H4 (((e1.trans e2).trans e3).trans e4) ?_
      rw [List.length_map, List.take_length] at hall
      unfold lawIsWay
      rw [hall, hb']
      exact hv
end
end Hd


/-! text W5 -/
set_option Elab.async false
set_option linter.all false
set_option maxRecDepth 100000
set_option maxHeartbeats 4000000
namespace Hd
open PySem PySem.Spec PyProof.Rows L2 Evl
section
variable {P : Program} {w : World} {K : PySem.W.Frag} {mg : Str → Option Value} {base : Heap} {C : Addr} {t8 : Tok} {f : Addr} {fd : FuncData}
variable {σ : L2.St} {H H' : Hp} {ta tb te tl : TE} {t : TT} {tu tz : TS} {D : Ends} {g : Fr} {fs gs : List Fr} {ds : List PyData} {d : PyData}
variable (CLDot : Cal P w K mg base 1 "_law_dot" ["_law_some", "_law_more"] (spD preLDot)) (CLLess : Cal P w K mg base 1 "_law_less" ["_law_one", "_law_other"] (spD preLLess)) (CLTimes : Cal P w K mg base 1 "_law_times" ["_law_one", "_law_other"] (spD preLTimes))
  (CLList : Cal P w K mg base 2 "_law_list" ["_law_found", "_law_many"] (spD preLList))
theorem getD_of {α : Type} {xs : List α} {i : Nat} {x z : α} (h : xs[i]? = some x) : xs.getD i z = x := by
  rw [List.getD_eq_getElem?_getD, h]; rfl
theorem get_of {α : Type} {xs : List α} {i : Nat} (h : i < xs.length) (z : α) : xs[i]? = some (xs.getD i z) := by
  rw [List.getD_eq_getElem?_getD, List.getElem?_eq_getElem h]; rfl
theorem flat_qs (fs : List Fr) : flatAll (fs.map qD) = true := flatAll_iff.mpr fun d hd => by
  obtain ⟨n, _, rfl⟩ := List.mem_map.mp hd
  rfl
theorem range_get {n i : Nat} (h : i < n) : (List.range n)[i]? = some i := by
  rw [List.getElem?_range h]
/-- [row[k] for row in rows] -/
theorem ed_col {rows : List (List Fr)} {bounds wish : List Fr} (G : Giv rows bounds wish) {j l kk : Nat} {vs : List Nat} (hr : EvD tl σ H (rowsD rows)) (hk : kk < wish.length) (hw : ∀ x, wipe ((wipe σ vs).set j (some x)) vs = wipe σ vs)
    (hj : ∀ x : V, ((wipe σ vs).set j (some x))[j]? = some (some x)) (hs : ∀ x : V, ((wipe σ vs).set j (some x))[l]? = some (some (.int (kk : Int)))) :
    EvD (tLc (iList K tl) (gName j) tYes (tOp (rIxL K) (tVar j) (tVar l)) vs) σ H (qL (colOf rows kk)) := by
  refine EvN.ls (en_lcL hr (flat_qs _) (by simp [colOf]) (by rw [List.length_map]; have := G.high; omega) hw fun i d r v H1 hd hr' e1 hv => ?_)
  obtain ⟨ro, hro, rfl⟩ := rget hd
  have hrl := G.len ro (List.mem_of_getElem? hro)
  have er : r = qD (ro.getD kk (0, 1)) := by
    unfold colOf at hr'
    rw [List.getElem?_map, List.getElem?_map, hro] at hr'
    exact (Option.some.inj hr').symm
  subst er
  refine ed_ixL (k := kk) (ed_var (hj v) hv) (ed_var (hs v) (.int _)) ?_
  rw [List.getElem?_map, get_of (show kk < ro.length by omega) (0, 1)]
  rfl
theorem col_bd {rows : List (List Fr)} {bounds wish : List Fr} (G : Giv rows bounds wish) {k : Nat} (hk : k < wish.length) : ∀ f ∈ colOf rows k, Bd 2000 f := fun f hf => by
  obtain ⟨ro, hro, rfl⟩ := List.mem_map.mp hf
  have hrl := G.len ro hro
  have := get_of (show k < ro.length by omega) ((0, 1) : Fr)
  exact (G.rb ro hro _ (List.mem_of_getElem? this)).mono (by decide)
def preLBest (ds : List PyData) (r : PyData) : Prop := ∃ (rows : List (List Fr)) (bounds wish fit prices : List Fr), ds = [rowsD rows, qL bounds, qL wish, qL fit, qL prices] ∧ Giv rows bounds wish ∧ fit.length = wish.length ∧ (∀ f ∈ fit, Bd 2000 f) ∧
  prices.length = rows.length ∧ (∀ f ∈ prices, Bd 2000 f) ∧ r = .bool (lawIsBest rows bounds wish fit prices)
include CLDot CLLess CLList in
theorem ok_lbest (F : FnP K "_law_is_best" "_law_is_best" sLBest f fd) (T : Txt K mg C t8) : FnOk P w K mg base CX0 3 f fd ["_law_rows", "_law_bounds", "_law_wish_here", "_law_fit", "_law_prices"] (spD preLBest) := by
  refine F.ok scLBest (fun vs H Q E h => ?_) (fun cdv A outer s H vs Q E hr h => ?_)
  · obtain ⟨ds, r, h1, ⟨_, _, _, _, _, rfl, _⟩, _⟩ := h
    exact h1.length
  · obtain ⟨ds, r, h1, ⟨rows, bounds, wish, fit, prices, rfl, G, hl, hf, hpl, hpf, rfl⟩, k⟩ := h
    obtain ⟨a, b, c, d, e, rfl, ha, hb, hc, hd, he⟩ := dq5 h1
    refine ⟨_, PSs.nox (pss_cons (ps_if (pt_not (pt_val (pe_c CLList hr (by rfl) (pa_cons (pv 4) (pa_cons (pe_callB call_len_seq (by rfl) T.len_ PySem.boot_len (pa_cons (pv 0) pa_nil)) pa_nil))))) (pss_one (ps_ret pe_bl)) pss_nil)
      (pss_cons (ps_for PassesOwn.never rfl (pi_enum (by rfl) T.enumerate_ (pa_cons (pv 2) pa_nil)) (pg_tup rfl (pgs_cons (pg_name (i := 5) scLBest.nd rfl (Or.inr rfl) (Or.inl rfl)) (pgs_cons (pg_name (i := 6) scLBest.nd rfl (Or.inl rfl) (Or.inl rfl)) pgs_nil))) (pss_one (ps_if (pt_cmpR op_lt (pe_ix ix_tup (pe_c CLLess hr (by rfl) (pa_cons (pe_c CLDot hr (by rfl) (pa_cons (pe_lc (g := (gName 7)) (tt := tYes) (te := (tOp (rIxL K) (tVar 7) (tVar 5))) rfl scLBest.nd (pi_list (pv 0)) (blkOk_by (own := [("_law_row", 7)]) (N := nLBest) (sc := defScope sLBest) (by decide +kernel)) (fun _ _ _ _ _ => (pg_name (i := 7) scLBest.nd rfl (Or.inl rfl) (Or.inr rfl))) (fun _ _ _ _ _ => pts_nil) (fun _ _ _ _ _ => (pe_ix ix_list (pv 7) (pv 5) (fun _ _ => rfl)))) (pa_cons (pv 4) pa_nil))) (pa_cons (pv 6) pa_nil))) pe_int (fun _ _ => rfl)) pe_int (nomark _)) (pss_one (ps_ret pe_bl)) pss_nil)))
      (pss_one (ps_ret (pe_cmpR op_eq (pe_ix ix_tup (pe_c CLLess hr (by rfl) (pa_cons (pe_c CLDot hr (by rfl) (pa_cons (pv 1) (pa_cons (pv 4) pa_nil))) (pa_cons (pe_c CLDot hr (by rfl) (pa_cons (pv 2) (pa_cons (pv 3) pa_nil))) pa_nil))) pe_int (fun _ _ => rfl)) pe_int (nomark _)))))), ?_⟩
    refine q_when (et_not (et_DB (ed_list (ed_var rfl he) (ed_is (ed_len (ed_var rfl ha)) (by rw [List.length_map]))))) (fun h0 H1 e1 => ?_) (fun h0 H1 e1 => ?_)
    · have hb' : lawList prices rows.length = false := by simpa using h0
      refine sd_ret ed_bl fun v H2 e2 hv => k v H2 (e1.trans e2) ?_
      unfold lawIsBest
      rw [hb', Bool.false_and, Bool.false_and]
      exact hv
    have hb' : lawList prices rows.length = true := by simpa using h0
    refine qd_forE (ea_consD (ed_var rfl (hc.m e1)) ea_nilD) fun H2 e2 => ⟨fun i σ' H' => Ex H2 H' ∧ ((List.range wish.length).take i).all (fun k => !decide ((lawLess (lawDot (colOf rows k) prices) (wish.getD k (0, 1))).1 < 0)) = true ∧ ∃ p q r, σ' = [some a, some b, some c, some d, some e, p, q, r], ⟨Ex.refl _, by simp, none, none, none, rfl⟩, fun _ _ _ p => p.1, fun i dd v σ' H' H'' hd' p e4 hv => ?_, fun σ' H' p => ?_⟩
    · obtain ⟨wi, hwi, rfl⟩ := qget hd'
      obtain ⟨e3, hall, p, q, r, rfl⟩ := p
      have hi : i < wish.length := (List.getElem?_eq_some_iff.mp hwi).1
      have eH := ((e1.trans e2).trans e3).trans e4
      have ez := range_get hi
      have ewi : wish.getD i (0, 1) = wi := getD_of hwi
      have hbw := G.wb wi (List.mem_of_getElem? hwi)
      have hcl : (colOf rows i).length = rows.length := by simp [colOf]
      have hd1 := dot_bd (fs := colOf rows i) (gs := prices) (by have := G.high; omega) (col_bd G hi) hpf
      refine s_when (et_D (ed_lt (ed_q0 (ed_less (ed_dot (ed_col G (ed_var rfl (ha.m eH)) hi (fun _ => rfl) (fun _ => rfl) (fun _ => rfl)) (ed_var rfl (he.m eH)) (by omega) (by have := G.high; omega) (col_bd G hi) hpf) (ed_var rfl hv) (hd1.mono (by decide)) (hbw.mono (by decide)))) ed_int)) (fun hb H7 e7 => ?_) (fun hb H7 e7 => ?_)
      · refine sd_ret ed_bl fun v H8 e8 hv => k v H8 ((eH.trans e7).trans e8) ?_
        unfold lawIsBest
        rw [all_bad ez (by show (!decide _) = false; rw [ewi, hb]; rfl), Bool.and_false, Bool.false_and]
        exact hv
      · exact ⟨(e3.trans e4).trans e7, by rw [all_take ez, hall, Bool.true_and]; show (!decide _) = true; rw [ewi, hb]; rfl, _, _, _, rfl⟩
    · obtain ⟨e3, hall, p, q, r, rfl⟩ := p
      have eH := (e1.trans e2).trans e3
      have hd1 := dot_bd (fs := bounds) (gs := prices) (by have := G.high; have := G.bl; omega) (up31 G.bb) hpf
      have hd2 := dot_bd (fs := wish) (gs := fit) G.wide (up31 G.wb) hf
      refine sd_ret (ed_eqI (ed_q0 (ed_less (ed_dot (ed_var rfl (hb.m eH)) (ed_var rfl (he.m eH)) (by have := G.bl; omega) (by have := G.high; have := G.bl; omega) (up31 G.bb) hpf) (ed_dot (ed_var rfl (hc.m eH)) (ed_var rfl (hd.m eH)) (by omega) G.wide (up31 G.wb) hf) (hd1.mono (by decide)) (hd2.mono (by decide)))) ed_int) fun v H4 e4 hv => k v H4 (eH.trans e4) ?_
      rw [List.length_map, List.take_of_length_le (by rw [List.length_range]; omega)] at hall
      unfold lawIsBest
      rw [hall, hb', Bool.true_and, Bool.true_and]
      exact hv
def preLNext (ds : List PyData) (r : PyData) : Prop := ∃ (rows : List (List Fr)) (bounds wish second fit others : List Fr) (lift : Fr), ds = [rowsD rows, qL bounds, .tuple [qL wish, qL second], qL fit, qL others, qD lift] ∧ Giv rows bounds wish ∧ second.length = wish.length ∧ (∀ f ∈ second, Bd 31 f) ∧
  fit.length = wish.length ∧ (∀ f ∈ fit, Bd 2000 f) ∧ others.length = rows.length ∧ (∀ f ∈ others, Bd 2000 f) ∧ Bd 2000 lift ∧ r = .bool (lawIsNext rows bounds wish second fit others lift)
theorem ed_t0 {x y : PyData} (h : EvD ta σ H (.tuple [x, y])) : EvD (tOp (rIxT K) ta (tC (.int 0))) σ H x := ed_ixT (k := 0) h ed_int rfl
theorem ed_t1 {x y : PyData} (h : EvD ta σ H (.tuple [x, y])) : EvD (tOp (rIxT K) ta (tC (.int 1))) σ H y := ed_ixT (k := 1) h ed_int rfl
include CLDot CLLess CLTimes CLList in
theorem ok_lnext (F : FnP K "_law_is_next" "_law_is_next" sLNext f fd) (T : Txt K mg C t8) : FnOk P w K mg base CX0 3 f fd ["_law_rows", "_law_bounds", "_law_wishes", "_law_fit", "_law_others", "_law_lift"] (spD preLNext) := by
  refine F.ok scLNext (fun vs H Q E h => ?_) (fun cdv A outer s H vs Q E hr h => ?_)
  · obtain ⟨ds, r, h1, ⟨_, _, _, _, _, _, _, rfl, _⟩, _⟩ := h
    exact h1.length
  · obtain ⟨ds, r, h1, ⟨rows, bounds, wish, second, fit, others, lift, rfl, G, hsl, hsb, hl, hf, hol, hof, hlb, rfl⟩, k⟩ := h
    obtain ⟨a, b, c, d, e, l, rfl, ha, hb, hc, hd, he, hlq⟩ := dq6 h1
    refine ⟨_, PSs.nox (pss_cons (ps_if (PW.pt (pw_or (pt_not (pt_val (pe_c CLList hr (by rfl) (pa_cons (pv 4) (pa_cons (pe_callB call_len_seq (by rfl) T.len_ PySem.boot_len (pa_cons (pv 0) pa_nil)) pa_nil))))) (pw_or1 (pt_not (pt_val (pe_c CLList hr (by rfl) (pa_cons (pe_lst (pa_cons (pv 5) pa_nil)) (pa_cons pe_int pa_nil)))))))) (pss_one (ps_ret pe_bl)) pss_nil)
      (pss_cons (ps_for PassesOwn.never rfl (pi_enum (by rfl) T.enumerate_ (pa_cons (pe_ix ix_tup (pv 2) pe_int (fun _ _ => rfl)) pa_nil)) (pg_tup rfl (pgs_cons (pg_name (i := 6) scLNext.nd rfl (Or.inr rfl) (Or.inl rfl)) (pgs_cons (pg_name (i := 7) scLNext.nd rfl (Or.inl rfl) (Or.inl rfl)) pgs_nil))) (pss_cons (ps_set (i := 8) scLNext.nd rfl (Or.inl rfl) (pe_c CLLess hr (by rfl) (pa_cons (pe_c CLDot hr (by rfl) (pa_cons (pe_lc (g := (gName 9)) (tt := tYes) (te := (tOp (rIxL K) (tVar 9) (tVar 6))) rfl scLNext.nd (pi_list (pv 0)) (blkOk_by (own := [("_law_row", 9)]) (N := nLNext) (sc := defScope sLNext) (by decide +kernel)) (fun _ _ _ _ _ => (pg_name (i := 9) scLNext.nd rfl (Or.inl rfl) (Or.inr rfl))) (fun _ _ _ _ _ => pts_nil) (fun _ _ _ _ _ => (pe_ix ix_list (pv 9) (pv 6) (fun _ _ => rfl)))) (pa_cons (pv 4) pa_nil))) (pa_cons (pe_c CLTimes hr (by rfl) (pa_cons (pv 5) (pa_cons (pv 7) pa_nil))) pa_nil))))
      (pss_one (ps_if (pt_cmpR op_lt (pe_ix ix_tup (pe_c CLLess hr (by rfl) (pa_cons (pv 8) (pa_cons (pe_ix ix_list (pe_ix ix_tup (pv 2) pe_int (fun _ _ => rfl)) (pv 6) (fun _ _ => rfl)) pa_nil))) pe_int (fun _ _ => rfl)) pe_int (nomark _)) (pss_one (ps_ret pe_bl)) pss_nil))))
      (pss_cons (ps_set (i := 8) scLNext.nd rfl (Or.inl rfl) (pe_c CLLess hr (by rfl) (pa_cons (pe_c CLDot hr (by rfl) (pa_cons (pv 1) (pa_cons (pv 4) pa_nil))) (pa_cons (pe_c CLTimes hr (by rfl) (pa_cons (pv 5) (pa_cons (pe_c CLDot hr (by rfl) (pa_cons (pe_ix ix_tup (pv 2) pe_int (fun _ _ => rfl)) (pa_cons (pv 3) pa_nil))) pa_nil))) pa_nil))))
      (pss_one (ps_ret (pe_cmpR op_eq (pe_ix ix_tup (pe_c CLLess hr (by rfl) (pa_cons (pv 8) (pa_cons (pe_c CLDot hr (by rfl) (pa_cons (pe_ix ix_tup (pv 2) pe_int (fun _ _ => rfl)) (pa_cons (pv 3) pa_nil))) pa_nil))) pe_int (fun _ _ => rfl)) pe_int (nomark _))))))), ?_⟩
    refine q_when (b := !lawList others rows.length || !lawList [lift] 1) (et_or (et_not (et_DB (ed_list (ed_var rfl he) (ed_is (ed_len (ed_var rfl ha)) (by rw [List.length_map]))))) fun _ => et_not (et_DB (ed_list (fs := [lift]) (n := 1) (en_lst (ea_consD (ed_var rfl hlq) ea_nilD) (show 1 ≤ 100000 by decide)).ls ed_int))) (fun h0 H1 e1 => ?_) (fun h0 H1 e1 => ?_)
    · have hb' : (lawList others rows.length && lawList [lift] 1) = false := by
        cases h1 : lawList others rows.length <;> cases h2 : lawList [lift] 1 <;> simp_all
      refine sd_ret ed_bl fun v H2 e2 hv => k v H2 (e1.trans e2) ?_
      unfold lawIsNext
      rw [hb', Bool.false_and, Bool.false_and]
      exact hv
    have hb' : (lawList others rows.length && lawList [lift] 1) = true := by
      cases h1 : lawList others rows.length <;> cases h2 : lawList [lift] 1 <;> simp_all
    refine qd_forE (ea_consD (ed_t0 (ed_var rfl (hc.m e1))) ea_nilD) fun H2 e2 => ⟨fun i σ' H' => Ex H2 H' ∧ ((List.range wish.length).take i).all (fun k => !decide ((lawLess (lawLess (lawDot (colOf rows k) others) (lawTimes lift (wish.getD k (0, 1)))) (second.getD k (0, 1))).1 < 0)) = true ∧ ∃ p q r t, σ' = [some a, some b, some c, some d, some e, some l, p, q, r, t], ⟨Ex.refl _, by simp, none, none, none, none, rfl⟩, fun _ _ _ p => p.1, fun i dd v σ' H' H'' hd' p e4 hv => ?_, fun σ' H' p => ?_⟩
    · obtain ⟨wi, hwi, rfl⟩ := qget hd'
      obtain ⟨e3, hall, p, q, r, t, rfl⟩ := p
      have hi : i < wish.length := (List.getElem?_eq_some_iff.mp hwi).1
      have eH := ((e1.trans e2).trans e3).trans e4
      have ez := range_get hi
      have ewi : wish.getD i (0, 1) = wi := getD_of hwi
      have hse := get_of (show i < second.length by omega) ((0, 1) : Fr)
      have hbw := G.wb wi (List.mem_of_getElem? hwi)
      have hbs := hsb _ (List.mem_of_getElem? hse)
      have hcl : (colOf rows i).length = rows.length := by simp [colOf]
      have hd1 := dot_bd (fs := colOf rows i) (gs := others) (by have := G.high; omega) (col_bd G hi) hof
      have ht1 := hlb.times hbw
      have hz1 := hd1.less ht1
      refine qd_asg (ed_less (ed_dot (ed_col G (ed_var rfl (ha.m eH)) hi (fun _ => rfl) (fun _ => rfl) (fun _ => rfl)) (ed_var rfl (he.m eH)) (by omega) (by have := G.high; omega) (col_bd G hi) hof) (ed_times (ed_var rfl (hlq.m eH)) (ed_var rfl hv) (hlb.mono (by decide)) (hbw.mono (by decide))) (hd1.mono (by decide)) (ht1.mono (by decide))) fun vh H6 e6 hvh => ?_
      refine s_when (et_D (ed_lt (ed_q0 (ed_less (ed_var rfl hvh) (ed_ixL (k := i) (ed_t1 (ed_var rfl (hc.m (eH.trans e6)))) (ed_v rfl) (by rw [List.getElem?_map, hse]; rfl)) (hz1.mono (by decide)) (hbs.mono (by decide)))) ed_int)) (fun hb H7 e7 => ?_) (fun hb H7 e7 => ?_)
      · refine sd_ret ed_bl fun v H8 e8 hv => k v H8 (((eH.trans e6).trans e7).trans e8) ?_
        unfold lawIsNext
        rw [all_bad ez (by show (!decide _) = false; rw [ewi, hb]; rfl), Bool.and_false, Bool.false_and]
        exact hv
      · exact ⟨((e3.trans e4).trans e6).trans e7, by rw [all_take ez, hall, Bool.true_and]; show (!decide _) = true; rw [ewi, hb]; rfl, _, _, _, _, rfl⟩
    · obtain ⟨e3, hall, p, q, r, t, rfl⟩ := p
      have eH := (e1.trans e2).trans e3
      have hd1 := dot_bd (fs := bounds) (gs := others) (by have := G.high; have := G.bl; omega) (up31 G.bb) hof
      have hd2 := dot_bd (fs := wish) (gs := fit) G.wide (up31 G.wb) hf
      have hd3 := dot_bd (fs := second) (gs := fit) (by have := G.wide; omega) (up31 hsb) hf
      have ht := hlb.times hd2
      have hz := hd1.less ht
      refine qd_asg (ed_less (ed_dot (ed_var rfl (hb.m eH)) (ed_var rfl (he.m eH)) (by have := G.bl; omega) (by have := G.high; have := G.bl; omega) (up31 G.bb) hof) (ed_times (ed_var rfl (hlq.m eH)) (ed_dot (ed_t0 (ed_var rfl (hc.m eH))) (ed_var rfl (hd.m eH)) (by omega) G.wide (up31 G.wb) hf) (hlb.mono (by decide)) (hd2.mono (by decide))) (hd1.mono (by decide)) (ht.mono (by decide))) fun vh H6 e6 hvh => ?_
      have eH6 := eH.trans e6
      refine sd_ret (ed_eqI (ed_q0 (ed_less (ed_var rfl hvh) (ed_dot (ed_t1 (ed_var rfl (hc.m eH6))) (ed_var rfl (hd.m eH6)) (by omega) (by have := G.wide; omega) (up31 hsb) hf) (hz.mono (by decide)) (hd3.mono (by decide)))) ed_int) fun v H4 e4 hv => k v H4 (eH6.trans e4) ?_
      rw [List.length_map, List.take_of_length_le (by rw [List.length_range]; omega)] at hall
      unfold lawIsNext
      rw [hall, hb', Bool.true_and, Bool.true_and]
      exact hv
end
end Hd


/-! text W6 -/
set_option Elab.async false
set_option linter.all false
set_option maxRecDepth 100000
set_option maxHeartbeats 4000000
namespace Hd
open PySem PySem.Spec PyProof.Rows L2 Evl
/-- what solve_next tells -/
inductive Res where
  | endless (fit way : List Fr)
  | next (fit prices way : List Fr)
  | best (fit prices others : List Fr) (lift : Fr)
def Res.dat : Res → PyData
  | .endless fit way => .tuple [.str "endless", qL fit, qL way]
  | .next fit prices way => .tuple [.str "endless next", qL fit, qL prices, qL way]
  | .best fit prices others lift => .tuple [.str "best", qL fit, qL prices, qL others, qD lift]
def Res.fit : Res → List Fr
  | .endless fit _ => fit
  | .next fit _ _ => fit
  | .best fit _ _ _ => fit
def lawRight (r : Res) (rows : List (List Fr)) (bounds wish second : List Fr) : Bool := match r with
  | .endless fit way => lawList fit wish.length && lawFits rows bounds fit && (lawIsWay rows wish way && decide (0 < (lawDot wish way).1))
  | .next fit prices way => lawList fit wish.length && lawFits rows bounds fit && lawIsBest rows bounds wish fit prices && lawIsWay rows wish way && (decide ((lawDot wish way).1 = 0) && decide (0 < (lawDot second way).1))
  | .best fit prices others lift => lawList fit wish.length && lawFits rows bounds fit && lawIsBest rows bounds wish fit prices && lawIsNext rows bounds wish second fit others lift
/-- the told lists are as long as they should, their numbers not too great -/
structure ResOk (high wide : Nat) (l : List Fr) (n : Nat) : Prop where
  len : l.length = n
  bd : ∀ f ∈ l, Bd 2000 f
def Res.Ok (r : Res) (high wide : Nat) : Prop := match r with
  | .endless fit way => ResOk high wide fit wide ∧ ResOk high wide way wide
  | .next fit prices way => ResOk high wide fit wide ∧ ResOk high wide prices high ∧ ResOk high wide way wide
  | .best fit prices others lift => ResOk high wide fit wide ∧ ResOk high wide prices high ∧ ResOk high wide others high ∧ Bd 2000 lift
section
variable {P : Program} {w : World} {K : PySem.W.Frag} {mg : Str → Option Value} {base : Heap} {C : Addr} {t8 : Tok} {f : Addr} {fd : FuncData}
variable {σ : L2.St} {H H' : Hp} {ta tb te tl : TE} {t : TT} {tu tz : TS} {D : Ends} {g : Fr} {fs gs : List Fr} {ds : List PyData} {d : PyData}
variable (CLDot : Cal P w K mg base 1 "_law_dot" ["_law_some", "_law_more"] (spD preLDot))
  (CLList : Cal P w K mg base 2 "_law_list" ["_law_found", "_law_many"] (spD preLList)) (CLFits : Cal P w K mg base 2 "_law_fits" ["_law_rows", "_law_bounds", "_law_fit"] (spD preLFits))
  (CLWay : Cal P w K mg base 3 "_law_is_way" ["_law_rows", "_law_wish_here", "_law_way"] (spD preLWay)) (CLBest : Cal P w K mg base 3 "_law_is_best" ["_law_rows", "_law_bounds", "_law_wish_here", "_law_fit", "_law_prices"] (spD preLBest))
  (CLNext : Cal P w K mg base 3 "_law_is_next" ["_law_rows", "_law_bounds", "_law_wishes", "_law_fit", "_law_others", "_law_lift"] (spD preLNext))
def preLRight (ds : List PyData) (r : PyData) : Prop := ∃ (res : Res) (rows : List (List Fr)) (bounds wish second : List Fr), ds = [res.dat, rowsD rows, qL bounds, .tuple [qL wish, qL second]] ∧ Giv rows bounds wish ∧ second.length = wish.length ∧ (∀ f ∈ second, Bd 31 f) ∧
  res.Ok rows.length wish.length ∧ r = .bool (lawRight res rows bounds wish second)
theorem ed_fits {E : XK} {rows : List (List Fr)} {bounds wish fit : List Fr} (G : Giv rows bounds wish) (ha : EvD ta σ H (rowsD rows)) (hb : EvD tb σ H (qL bounds)) (hc : EvD te σ H (qL fit)) (hl : fit.length = wish.length) (hf : ∀ f ∈ fit, Bd 2000 f) :
    EvD (tCall (spD preLFits) [] E (tCons ta (tCons tb (tCons te tNil)))) σ H (.bool (lawFits rows bounds fit)) := ed_call (ea_consD ha (ea_consD hb (ea_consD hc ea_nilD))) ⟨rows, bounds, wish, fit, rfl, G, hl, hf, rfl⟩
theorem ed_way {E : XK} {rows : List (List Fr)} {bounds wish way : List Fr} (G : Giv rows bounds wish) (ha : EvD ta σ H (rowsD rows)) (hb : EvD tb σ H (qL wish)) (hc : EvD te σ H (qL way)) (hl : way.length = wish.length) (hf : ∀ f ∈ way, Bd 2000 f) :
    EvD (tCall (spD preLWay) [] E (tCons ta (tCons tb (tCons te tNil)))) σ H (.bool (lawIsWay rows wish way)) := ed_call (ea_consD ha (ea_consD hb (ea_consD hc ea_nilD))) ⟨rows, bounds, wish, way, rfl, G, hl, hf, rfl⟩
theorem ed_ixD {k : Nat} {tb : TE} (h : EvD ta σ H (.tuple ds)) (hk : ds[k]? = some d) (hb : EvD tb σ H (.int (k : Int))) : EvD (tOp (rIxT K) ta tb) σ H d := ed_ixT h hb hk
theorem ok_lright (F : FnP K "_law_right" "_law_right" sLRight f fd) (T : Txt K mg C t8) (CLDot : Cal P w K mg base 1 "_law_dot" ["_law_some", "_law_more"] (spD preLDot))
  (CLList : Cal P w K mg base 2 "_law_list" ["_law_found", "_law_many"] (spD preLList)) (CLFits : Cal P w K mg base 2 "_law_fits" ["_law_rows", "_law_bounds", "_law_fit"] (spD preLFits))
  (CLWay : Cal P w K mg base 3 "_law_is_way" ["_law_rows", "_law_wish_here", "_law_way"] (spD preLWay)) (CLBest : Cal P w K mg base 3 "_law_is_best" ["_law_rows", "_law_bounds", "_law_wish_here", "_law_fit", "_law_prices"] (spD preLBest))
  (CLNext : Cal P w K mg base 3 "_law_is_next" ["_law_rows", "_law_bounds", "_law_wishes", "_law_fit", "_law_others", "_law_lift"] (spD preLNext)) : FnOk P w K mg base CX0 4 f fd ["_law_found", "_law_rows", "_law_bounds", "_law_wishes"] (spD preLRight) := by
  refine F.ok scLRight (fun vs H Q E h => ?_) (fun cdv A outer s H vs Q E hr h => ?_)
  · obtain ⟨ds, r, h1, ⟨_, _, _, _, _, rfl, _⟩, _⟩ := h
    exact h1.length
  · obtain ⟨ds, r, h1, ⟨res, rows, bounds, wish, second, rfl, G, hsl, hsb, hok, rfl⟩, k⟩ := h
    obtain ⟨a, b, c, d, rfl, ha, hb, hc, hd⟩ := dq4 h1
    refine ⟨_, PSs.nox (pss_cons (ps_if (PW.pt (pw_or (pt_not (pt_val (pe_callB call_isi (by rfl) T.isinstance_ (by decide +kernel) (pa_cons (pv 0) (pa_cons (pe_bltn (v := .ty "tuple") (by rfl) T.tuple_ (by decide +kernel) rfl) pa_nil))))) (pw_or (pt_cmpR op_lt (pe_callB call_len_seq (by rfl) T.len_ PySem.boot_len (pa_cons (pv 0) pa_nil)) pe_int (nomark _)) (pw_or1 (pt_not (pt_val (pe_c CLList hr (by rfl) (pa_cons (pe_ix ix_tup (pv 0) pe_int (fun _ _ => rfl)) (pa_cons (pe_callB call_len_seq (by rfl) T.len_ PySem.boot_len (pa_cons (pe_ix ix_tup (pv 3) pe_int (fun _ _ => rfl)) pa_nil)) pa_nil))))))))) (pss_one (ps_ret pe_bl)) pss_nil)
      (pss_cons (ps_if (pt_not (pt_val (pe_c CLFits hr (by rfl) (pa_cons (pv 1) (pa_cons (pv 2) (pa_cons (pe_ix ix_tup (pv 0) pe_int (fun _ _ => rfl)) pa_nil)))))) (pss_one (ps_ret pe_bl)) pss_nil)
      (pss_cons (ps_if (pt_cmpR op_eq (pe_ix ix_tup (pv 0) pe_int (fun _ _ => rfl)) pe_str (nomark _)) (pss_one (ps_ret (pe_and (pe_cmpR op_eq (pe_callB call_len_seq (by rfl) T.len_ PySem.boot_len (pa_cons (pv 0) pa_nil)) pe_int (nomark _)) (pe_and (pe_c CLWay hr (by rfl) (pa_cons (pv 1) (pa_cons (pe_ix ix_tup (pv 3) pe_int (fun _ _ => rfl)) (pa_cons (pe_ix ix_tup (pv 0) pe_int (fun _ _ => rfl)) pa_nil)))) (pe_one (pe_cmpR op_gt (pe_ix ix_tup (pe_c CLDot hr (by rfl) (pa_cons (pe_ix ix_tup (pv 3) pe_int (fun _ _ => rfl)) (pa_cons (pe_ix ix_tup (pv 0) pe_int (fun _ _ => rfl)) pa_nil))) pe_int (fun _ _ => rfl)) pe_int (nomark _))))))) pss_nil)
      (pss_cons (ps_if (pt_not (pt_val (pe_c CLBest hr (by rfl) (pa_cons (pv 1) (pa_cons (pv 2) (pa_cons (pe_ix ix_tup (pv 3) pe_int (fun _ _ => rfl)) (pa_cons (pe_ix ix_tup (pv 0) pe_int (fun _ _ => rfl)) (pa_cons (pe_ix ix_tup (pv 0) pe_int (fun _ _ => rfl)) pa_nil)))))))) (pss_one (ps_ret pe_bl)) pss_nil)
      (pss_cons (ps_if (pt_cmpR op_eq (pe_ix ix_tup (pv 0) pe_int (fun _ _ => rfl)) pe_str (nomark _)) (pss_cons (ps_if (PW.pt (pw_or (pt_cmpR op_ne (pe_callB call_len_seq (by rfl) T.len_ PySem.boot_len (pa_cons (pv 0) pa_nil)) pe_int (nomark _)) (pw_or1 (pt_not (pt_val (pe_c CLWay hr (by rfl) (pa_cons (pv 1) (pa_cons (pe_ix ix_tup (pv 3) pe_int (fun _ _ => rfl)) (pa_cons (pe_ix ix_tup (pv 0) pe_int (fun _ _ => rfl)) pa_nil))))))))) (pss_one (ps_ret pe_bl)) pss_nil)
      (pss_one (ps_ret (pe_and (pe_cmpR op_eq (pe_ix ix_tup (pe_c CLDot hr (by rfl) (pa_cons (pe_ix ix_tup (pv 3) pe_int (fun _ _ => rfl)) (pa_cons (pe_ix ix_tup (pv 0) pe_int (fun _ _ => rfl)) pa_nil))) pe_int (fun _ _ => rfl)) pe_int (nomark _)) (pe_one (pe_cmpR op_gt (pe_ix ix_tup (pe_c CLDot hr (by rfl) (pa_cons (pe_ix ix_tup (pv 3) pe_int (fun _ _ => rfl)) (pa_cons (pe_ix ix_tup (pv 0) pe_int (fun _ _ => rfl)) pa_nil))) pe_int (fun _ _ => rfl)) pe_int (nomark _))))))) pss_nil)
      (pss_cons (ps_if (PW.pt (pw_or (pt_cmpR op_ne (pe_ix ix_tup (pv 0) pe_int (fun _ _ => rfl)) pe_str (nomark _)) (pw_or1 (pt_cmpR op_ne (pe_callB call_len_seq (by rfl) T.len_ PySem.boot_len (pa_cons (pv 0) pa_nil)) pe_int (nomark _))))) (pss_one (ps_ret pe_bl)) pss_nil)
      (pss_one (ps_ret (pe_c CLNext hr (by rfl) (pa_cons (pv 1) (pa_cons (pv 2) (pa_cons (pv 3) (pa_cons (pe_ix ix_tup (pv 0) pe_int (fun _ _ => rfl)) (pa_cons (pe_ix ix_tup (pv 0) pe_int (fun _ _ => rfl)) (pa_cons (pe_ix ix_tup (pv 0) pe_int (fun _ _ => rfl)) pa_nil))))))))))))))), ?_⟩
    have hw8 := G.wide
    -- the parts that every shape has
    have parts : ∃ x rest, res.dat = .tuple (.str x :: qL res.fit :: rest) ∧ 1 ≤ rest.length ∧ res.fit.length = wish.length ∧ (∀ f ∈ res.fit, Bd 2000 f) := by
      cases res with
      | endless fit way => exact ⟨_, _, rfl, (show 1 ≤ 1 by decide), hok.1.len, hok.1.bd⟩
      | next fit prices way => exact ⟨_, _, rfl, (show 1 ≤ 2 by decide), hok.1.len, hok.1.bd⟩
      | best fit prices others lift => exact ⟨_, _, rfl, (show 1 ≤ 3 by decide), hok.1.len, hok.1.bd⟩
    obtain ⟨x, rest, edat, hrest, hfl, hfb⟩ := parts
    have ha' := ha
    rw [edat] at ha'
    refine q_when (b := !true || (decide (((rest.length + 2 : Nat) : Int) < 3) || !lawList res.fit wish.length)) (et_or (et_not (et_DB (ed_isi (b := true) (ed_var rfl ha') (show kitB "tuple" "tuple" = some true by decide +kernel)))) fun _ => et_or (et_D (ed_lt (ed_lenT (ed_var rfl ha')) ed_int)) fun _ => et_not (et_DB (ed_list (ed_ixD (k := 1) (ed_var rfl ha') rfl ed_int) (ed_lenq (ed_t0 (ed_var rfl hd)))))) (fun h0 H1 e1 => ?_) (fun h0 H1 e1 => ?_)
    · have hb' : lawList res.fit wish.length = false := by
        cases h : lawList res.fit wish.length
        · rfl
        · rw [h, decide_eq_false (show ¬ ((rest.length + 2 : Nat) : Int) < 3 by omega)] at h0; cases h0
      refine sd_ret ed_bl fun v H2 e2 hv => k v H2 (e1.trans e2) ?_
      unfold lawRight
      cases res <;> (simp only [Res.fit] at hb'; simp only [hb', Bool.false_and]; exact hv)
    have hL : lawList res.fit wish.length = true := by
      cases h : lawList res.fit wish.length
      · rw [h] at h0; simp at h0
      · rfl
    have ha1 := ha'.m e1
    refine q_when (et_not (et_DB (ed_fits G (ed_var rfl (hb.m e1)) (ed_var rfl (hc.m e1)) (ed_ixD (k := 1) (ed_var rfl ha1) rfl ed_int) hfl hfb))) (fun h0 H2 e2 => ?_) (fun h0 H2 e2 => ?_)
    · have hb' : lawFits rows bounds res.fit = false := by simpa using h0
      refine sd_ret ed_bl fun v H3 e3 hv => k v H3 ((e1.trans e2).trans e3) ?_
      unfold lawRight
      cases res <;> (simp only [Res.fit] at hb'; simp only [hb', Bool.and_false, Bool.false_and]; exact hv)
    have hF : lawFits rows bounds res.fit = true := by simpa using h0
    have e12 := e1.trans e2
    have hb2 := hb.m e12
    have hc2 := hc.m e12
    have hd2 := hd.m e12
    have ha2 := ha.m e12
    cases res with
    | endless fit way =>
      obtain ⟨_, hwl, hwb⟩ := hok
      simp only [Res.fit] at hL hF
      refine q_when (b := true) (et_is (et_D (ed_eqS (ed_ixD (k := 0) (ed_var rfl ha2) rfl ed_int) ed_str)) (by decide +kernel)) (fun _ H3 e3 => ?_) (fun h => by cases h)
      have e13 := e12.trans e3
      have ha3 := ha2.m e3
      refine sd_ret (ed_andV (ed_eqI (ed_lenT (ed_var rfl ha3)) ed_int) fun _ => ed_andV (ed_way G (ed_var rfl (hb2.m e3)) (ed_t0 (ed_var rfl (hd2.m e3))) (ed_ixD (k := 2) (ed_var rfl ha3) rfl ed_int) hwl hwb) fun _ => ed_gt (ed_q0 (ed_dot (ed_t0 (ed_var rfl (hd2.m e3))) (ed_ixD (k := 2) (ed_var rfl ha3) rfl ed_int) hwl.symm hw8 (up31 G.wb) hwb)) ed_int) fun v H4 e4 hv => k v H4 (e13.trans e4) ?_
      simp only [lawRight, hL, hF, Bool.true_and]
      exact hv
    | next fit prices way =>
      obtain ⟨hfo, hpo, hwo⟩ := hok
      simp only [Res.fit] at hL hF
      refine q_when (b := false) (et_is (et_D (ed_eqS (ed_ixD (k := 0) (ed_var rfl ha2) rfl ed_int) ed_str)) (by decide +kernel)) (fun h => by cases h) (fun _ H3 e3 => ?_)
      have e13 := e12.trans e3
      have ha3 := ha2.m e3
      refine q_when (et_not (et_DB (ed_call (ea_consD (ed_var rfl (hb2.m e3)) (ea_consD (ed_var rfl (hc2.m e3)) (ea_consD (ed_t0 (ed_var rfl (hd2.m e3))) (ea_consD (ed_ixD (k := 1) (ed_var rfl ha3) rfl ed_int) (ea_consD (ed_ixD (k := 2) (ed_var rfl ha3) rfl ed_int) ea_nilD))))) ⟨rows, bounds, wish, fit, prices, rfl, G, hfo.len, hfo.bd, hpo.len, hpo.bd, rfl⟩))) (fun h0 H4 e4 => ?_) (fun h0 H4 e4 => ?_)
      · have hb' : lawIsBest rows bounds wish fit prices = false := by simpa using h0
        refine sd_ret ed_bl fun v H5 e5 hv => k v H5 ((e13.trans e4).trans e5) ?_
        simp only [lawRight, hb', Bool.and_false, Bool.false_and]
        exact hv
      have hB : lawIsBest rows bounds wish fit prices = true := by simpa using h0
      have ha4 := ha3.m e4
      have e14 := e13.trans e4
      have hd4 := hd.m e14
      refine q_when (b := true) (et_is (et_D (ed_eqS (ed_ixD (k := 0) (ed_var rfl ha4) rfl ed_int) ed_str)) (by decide +kernel)) (fun _ H5 e5 => ?_) (fun h => by cases h)
      have ha5 := ha4.m e5
      have e15 := e14.trans e5
      have hd5 := hd.m e15
      refine q_when (b := !decide ((4 : Int) = 4) || !lawIsWay rows wish way) (et_or (et_D (ed_neI (ed_lenT (ed_var rfl ha5)) ed_int)) fun _ => et_not (et_DB (ed_way G (ed_var rfl (hb.m e15)) (ed_t0 (ed_var rfl hd5)) (ed_ixD (k := 3) (ed_var rfl ha5) rfl ed_int) hwo.len hwo.bd))) (fun h0 H6 e6 => ?_) (fun h0 H6 e6 => ?_)
      · have hb' : lawIsWay rows wish way = false := by simpa using h0
        refine sd_ret ed_bl fun v H7 e7 hv => k v H7 ((e15.trans e6).trans e7) ?_
        simp only [lawRight, hb', Bool.and_false, Bool.false_and]
        exact hv
      have hW : lawIsWay rows wish way = true := by simpa using h0
      have ha6 := ha5.m e6
      have hd6 := hd5.m e6
      refine sd_ret (ed_andV (ed_eqI (ed_q0 (ed_dot (ed_t0 (ed_var rfl hd6)) (ed_ixD (k := 3) (ed_var rfl ha6) rfl ed_int) hwo.len.symm hw8 (up31 G.wb) hwo.bd)) ed_int) fun _ => ed_gt (ed_q0 (ed_dot (ed_t1 (ed_var rfl hd6)) (ed_ixD (k := 3) (ed_var rfl ha6) rfl ed_int) (hsl.trans hwo.len.symm) (by omega) (up31 hsb) hwo.bd)) ed_int) fun v H7 e7 hv => k v H7 ((e15.trans e6).trans e7) ?_
      simp only [lawRight, hL, hF, hB, hW, Bool.true_and]
      exact hv
    | best fit prices others lift =>
      obtain ⟨hfo, hpo, hoo, hlo⟩ := hok
      simp only [Res.fit] at hL hF
      refine q_when (b := false) (et_is (et_D (ed_eqS (ed_ixD (k := 0) (ed_var rfl ha2) rfl ed_int) ed_str)) (by decide +kernel)) (fun h => by cases h) (fun _ H3 e3 => ?_)
      have e13 := e12.trans e3
      have ha3 := ha2.m e3
      refine q_when (et_not (et_DB (ed_call (ea_consD (ed_var rfl (hb2.m e3)) (ea_consD (ed_var rfl (hc2.m e3)) (ea_consD (ed_t0 (ed_var rfl (hd2.m e3))) (ea_consD (ed_ixD (k := 1) (ed_var rfl ha3) rfl ed_int) (ea_consD (ed_ixD (k := 2) (ed_var rfl ha3) rfl ed_int) ea_nilD))))) ⟨rows, bounds, wish, fit, prices, rfl, G, hfo.len, hfo.bd, hpo.len, hpo.bd, rfl⟩))) (fun h0 H4 e4 => ?_) (fun h0 H4 e4 => ?_)
      · have hb' : lawIsBest rows bounds wish fit prices = false := by simpa using h0
        refine sd_ret ed_bl fun v H5 e5 hv => k v H5 ((e13.trans e4).trans e5) ?_
        simp only [lawRight, hb', Bool.and_false, Bool.false_and]
        exact hv
      have hB : lawIsBest rows bounds wish fit prices = true := by simpa using h0
      have ha4 := ha3.m e4
      have e14 := e13.trans e4
      refine q_when (b := false) (et_is (et_D (ed_eqS (ed_ixD (k := 0) (ed_var rfl ha4) rfl ed_int) ed_str)) (by decide +kernel)) (fun h => by cases h) (fun _ H5 e5 => ?_)
      have ha5 := ha4.m e5
      have e15 := e14.trans e5
      refine q_when (b := false) (et_is (et_or (et_D (ed_neS (ed_ixD (k := 0) (ed_var rfl ha5) rfl ed_int) ed_str)) fun _ => et_D (ed_neI (ed_lenT (ed_var rfl ha5)) ed_int)) (show (!decide (("best" : Str) = "best") || !decide ((5 : Int) = 5)) = false by decide +kernel)) (fun h => by cases h) (fun _ H6 e6 => ?_)
      have ha6 := ha5.m e6
      have e16 := e15.trans e6
      refine sd_ret (ed_call (ea_consD (ed_var rfl (hb.m e16)) (ea_consD (ed_var rfl (hc.m e16)) (ea_consD (ed_var rfl (hd.m e16)) (ea_consD (ed_ixD (k := 1) (ed_var rfl ha6) rfl ed_int) (ea_consD (ed_ixD (k := 3) (ed_var rfl ha6) rfl ed_int) (ea_consD (ed_ixD (k := 4) (ed_var rfl ha6) rfl ed_int) ea_nilD)))))) ⟨rows, bounds, wish, second, fit, others, lift, rfl, G, hsl, hsb, hfo.len, hfo.bd, hoo.len, hoo.bd, hlo, rfl⟩) fun v H7 e7 hv => k v H7 (e16.trans e7) ?_
      simp only [lawRight, hL, hF, hB, Bool.true_and]
      exact hv

/-! ### the wish -/
def lawWish (ns : List Int) (at_ : Int) (wide : Nat) (sort : Int) (rows : List (List Fr)) : List Fr :=
  if cellAt ns 1 % 6 = 1 then List.replicate wide (0, 1)
  else if cellAt ns 1 % 6 = 2 ∧ rows ≠ [] then rows.getD (cellAt ns 1 / 6 % rows.length).toNat []
  else (List.range wide).map fun (k : Nat) => lawNumber (cellAt ns (at_ + (k : Int))) sort
def spLWish (K : PySem.W.Frag) : Sp := fun vs H Q _ => ∃ (a : Addr) (ns : List Int) (at_ so : Int) (wide : Nat) (rows : List (List Fr)) (v : V), vs = [.ref a, .int at_, .int (wide : Int), .int so, v] ∧ SqL K H a (ns.map V.int) ∧ Dq H v (rowsD rows) ∧ 0 ≤ at_ ∧ wide ≤ 8 ∧ rows.length ≤ 8 ∧ (∀ r ∈ rows, r.length ≤ 8) ∧
  ∀ u H', Ex H H' → Dq H' u (qL (lawWish ns at_ wide so rows)) → Q u H'
theorem ed_cell {E : XK} {i : Nat} {a : Addr} {ns : List Int} {k : Int} (h : σ[i]? = some (some (.ref a))) (hS : SqL K H a (ns.map V.int)) (hk : EvD te σ H (.int k)) (h0 : 0 ≤ k) : EvD (tCall (spCell K) [] E (tCons (tVar i) (tCons te tNil))) σ H (.int (cellAt ns k)) := fun H1 e1 Q q =>
  ⟨.ref a, h, hk H1 e1 _ fun v H2 e2 hv => by
    obtain rfl := hv.int_inv
    exact ⟨a, ns, k, rfl, ex_l (e1.trans e2) hS, h0, fun H3 e3 => q _ H3 (e2.trans e3) (.int _)⟩⟩
theorem eqv_nil (ds : List PyData) : (!PyData.eqv (.list ds) (.list [])) = !ds.isEmpty := by
  cases ds <;> rfl
theorem lay_all : ∀ {ds : List PyData}, (∀ d ∈ ds, d.canLay0 = true) → PyData.canLayAll0 ds = true
  | [], _ => rfl
  | d :: ds, h => by
    unfold PyData.canLayAll0
    rw [h d (by simp), lay_all fun x hx => h x (by simp [hx])]; rfl
theorem depth_all : ∀ {ds : List PyData} {n : Nat}, (∀ d ∈ ds, d.depth ≤ n) → PyData.depthAll ds ≤ n
  | [], _, _ => Nat.zero_le _
  | d :: ds, n, h => by
    unfold PyData.depthAll
    exact Nat.max_le.mpr ⟨h d (by simp), depth_all fun x hx => h x (by simp [hx])⟩
theorem lay_qD (g : Fr) : (qD g).canLay0 = true ∧ (qD g).depth ≤ 1 := ⟨by simp [qD, PyData.canLay0, PyData.canLayAll0], by simp [qD, PyData.depth, PyData.depthAll]⟩
theorem lay_qL (gs : List Fr) : (qL gs).canLay0 = true ∧ (qL gs).depth ≤ 2 := by
  constructor
  · show PyData.canLayAll0 (gs.map qD) = true
    exact lay_all fun d hd => by
      obtain ⟨g, _, rfl⟩ := List.mem_map.mp hd
      exact (lay_qD g).1
  · show PyData.depthAll (gs.map qD) + 1 ≤ 2
    have := depth_all (n := 1) (ds := gs.map qD) fun d hd => by
      obtain ⟨g, _, rfl⟩ := List.mem_map.mp hd
      exact (lay_qD g).2
    omega
theorem lay_rows (rows : List (List Fr)) : (rowsD rows).canLay0 = true ∧ (rowsD rows).depth ≤ 3 := by
  constructor
  · show PyData.canLayAll0 (rows.map qL) = true
    exact lay_all fun d hd => by
      obtain ⟨g, _, rfl⟩ := List.mem_map.mp hd
      exact (lay_qL g).1
  · show PyData.depthAll (rows.map qL) + 1 ≤ 3
    have := depth_all (n := 2) (ds := rows.map qL) fun d hd => by
      obtain ⟨g, _, rfl⟩ := List.mem_map.mp hd
      exact (lay_qL g).2
    omega
theorem shaped_of {d : PyData} {n : Nat} (h : d.canLay0 = true ∧ d.depth ≤ n) (hn : n ≤ 64 := by decide) : SeqAt.shaped d = true := by
  unfold SeqAt.shaped
  rw [h.1, decide_eq_true (show d.depth ≤ 64 by omega)]; rfl
/-- data compared -/
theorem ed_neD {x y : PyData} (ha : EvD ta σ H x) (hb : EvD tb σ H y) (hx : SeqAt.shaped x = true) (hy : SeqAt.shaped y = true) : EvD (tOp (rNeD K) ta tb) σ H (.bool (!PyData.eqv x y)) :=
  ed_op ha hb fun u v H1 e1 hu hv Q q => ⟨x, y, hu.dp K, hv.dp K, hx, hy, q _ H1 (Ex.refl H1) (.bl _)⟩
theorem ok_lwish (F : FnP K "_law_wish" "_law_wish" sLWish f fd) (T : Txt K mg C t8) (CLCell : Cal P w K mg base 1 "_law_cell_at" ["_law_script", "_law_k"] (spCell K)) (CLNum : Cal P w K mg base 3 "_law_number" ["_law_cell", "_law_sort"] (spD preLNum)) :
    FnOk P w K mg base CX0 4 f fd ["_law_script", "_law_at", "_law_wide", "_law_sort", "_law_rows"] (spLWish K) := by
  refine F.ok scLWish (fun vs H Q E h => ?_) (fun cdv A outer s H vs Q E hr h => ?_)
  · obtain ⟨_, _, _, _, _, _, _, rfl, _⟩ := h
    rfl
  · obtain ⟨a, ns, at_, so, wide, rows, v, rfl, hS, hv, h0, hw8, hr8, hrl, k⟩ := h
    have hu := hu_of hr
    have hu64 := hr.units
    refine ⟨_, PSs.nox (pss_cons (ps_set (i := 5) scLWish.nd rfl (Or.inl rfl) (pe_c CLCell hr (by rfl) (pa_cons (pv 0) (pa_cons pe_int pa_nil))))
      (pss_cons (ps_if (pt_cmpR op_eq (pe_op op_mod (pv 5) pe_int) pe_int (nomark _)) (pss_one (ps_ret (pe_op op_rep (pe_lst (pa_cons (pe_tup (pa_cons pe_int (pa_cons pe_int pa_nil))) pa_nil)) (pv 2)))) pss_nil)
      (pss_cons (ps_if (PW.pt (pw_and (pt_cmpR op_eq (pe_op op_mod (pv 5) pe_int) pe_int (nomark _)) (pw_and1 (pt_cmpR (op_neD hu64) (pv 4) (pe_lst pa_nil) (nomark _))))) (pss_one (ps_ret (pe_callTy call_list_of (by rfl) T.list_ (by decide +kernel) (pa_cons (pe_ix ix_list (pv 4) (pe_op op_mod (pe_op op_fdiv (pv 5) pe_int) (pe_callB call_len_seq (by rfl) T.len_ PySem.boot_len (pa_cons (pv 4) pa_nil))) (fun _ _ => rfl)) pa_nil)))) pss_nil)
      (pss_one (ps_ret (pe_lc (g := (gName 6)) (tt := tYes) (te := (tCall (spD preLNum) [] E0 (tCons (tCall (spCell K) [] E0 (tCons (tVar 0) (tCons (tOp (rI0 fun i j => .int (i + j)) (tVar 1) (tVar 6)) tNil))) (tCons (tVar 3) tNil)))) rfl scLWish.nd (pi_range1 (by rfl) T.range_ (pa_cons (pv 2) pa_nil)) (blkOk_by (own := [("_law_k", 6)]) (N := nLWish) (sc := defScope sLWish) (by decide +kernel)) (fun _ _ _ _ _ => (pg_name (i := 6) scLWish.nd rfl (Or.inl rfl) (Or.inr rfl))) (fun _ _ _ _ _ => pts_nil) (fun _ _ _ _ _ => (pe_c CLNum hr (by rfl) (pa_cons (pe_c CLCell hr (by rfl) (pa_cons (pv 0) (pa_cons (pe_op op_add (pv 1) (pv 6)) pa_nil))) (pa_cons (pv 3) pa_nil)))))))))), ?_⟩
    refine qd_asgI (ed_cell rfl hS ed_int (by decide)) fun H1 e1 => ?_
    unfold lawWish at k
    refine q_when (et_D (ed_eqI (ed_mod (ed_v rfl) ed_int (by decide)) ed_int)) (fun hb H2 e2 => ?_) (fun hb H2 e2 => ?_)
    · rw [if_pos (of_decide_eq_true hb)] at k
      refine sd_ret (en_rep (k := wide) (en_lst (ea_consD (ed_pair ed_int ed_int) ea_nilD) (show 1 ≤ 100000 by decide)).ls (ed_v rfl) (by omega)).ls fun u H3 e3 hd => k u H3 ((e1.trans e2).trans e3) ?_
      unfold qL
      rw [List.map_replicate]
      exact hd
    rw [if_neg (of_decide_eq_false hb)] at k
    have e12 := e1.trans e2
    have hv2 := hv.m e12
    refine q_when (b := decide (cellAt ns 1 % 6 = 2) && !(rows.map qL).isEmpty) (et_and (et_D (ed_eqI (ed_mod (ed_v rfl) ed_int (by decide)) ed_int)) fun _ => et_D (ed_is (ed_neD (ed_var rfl hv2) (en_lst ea_nilD (by decide)).ls (shaped_of (lay_rows rows)) (by decide)) (by rw [← eqv_nil]; rfl))) (fun hb H3 e3 => ?_) (fun hb H3 e3 => ?_)
    · obtain ⟨h2, h3⟩ := Bool.and_eq_true_iff.mp hb
      have hne : rows ≠ [] := by intro h; subst h; simp at h3
      rw [if_pos ⟨of_decide_eq_true h2, hne⟩] at k
      have hl : 0 < rows.length := List.length_pos_iff.mpr hne
      have i1 := Int.emod_nonneg (cellAt ns 1 / 6) (show (rows.length : Int) ≠ 0 by omega)
      have i2 := Int.emod_lt_of_pos (cellAt ns 1 / 6) (show (0 : Int) < rows.length by omega)
      have hv3 := hv2.m e3
      refine sd_ret (en_list (ed_ixL (k := (cellAt ns 1 / 6 % rows.length).toNat) (d := qL (rows.getD (cellAt ns 1 / 6 % rows.length).toNat [])) (ed_var rfl hv3) ?_ ?_)).ls fun u H4 e4 hd => k u H4 ((e12.trans e3).trans e4) hd
      · rw [Int.toNat_of_nonneg i1]
        exact ed_mod (ed_div (ed_v rfl) ed_int ⟨by decide, by decide⟩) (ed_is (ed_len (ed_var rfl hv3)) (by rw [List.length_map])) (by omega)
      · rw [List.getElem?_map, get_of (show (cellAt ns 1 / 6 % rows.length).toNat < rows.length by omega) []]
        rfl
    · rw [if_neg (by
        intro h
        have hb' : (decide (cellAt ns 1 % 6 = 2) && !(rows.map qL).isEmpty) = true := by
          rw [decide_eq_true h.1]
          cases rows with
          | nil => exact absurd rfl h.2
          | cons r rs => rfl
        rw [hb'] at hb; cases hb)] at k
      have e13 := e12.trans e3
      have hS3 := ex_l e13 hS
      refine sd_ret (EvN.ls (en_lcR (m := wide) (rs := ((List.range wide).map fun (k : Nat) => lawNumber (cellAt ns (at_ + (k : Int))) so).map qD) (ea_consD (ed_v rfl) ea_nilD) (flat_qs _) (by simp) (by omega) (fun _ => rfl) fun i r H4 hr' e4 => ?_)) fun u H5 e5 hd => k u H5 (e13.trans e5) hd
      have hi : i < wide := by
        have := (List.getElem?_eq_some_iff.mp hr').1
        simpa using this
      have er : r = qD (lawNumber (cellAt ns (at_ + (i : Int))) so) := by
        rw [List.getElem?_map, List.getElem?_map, range_get hi] at hr'
        exact (Option.some.inj hr').symm
      subst er
      exact ed_call (ea_consD (ed_cell rfl (ex_l e4 hS3) (ed_add (ed_v rfl) (ed_v rfl)) (by omega)) (ea_consD (ed_v rfl) ea_nilD)) ⟨_, _, rfl, rfl⟩
end
end Hd


/-! text Solve -/
set_option Elab.async false
set_option linter.all false
set_option maxHeartbeats 4000000
/-! solve and solve_next as plain functions, and why their answers are right. -/
namespace Hd
def noBar : Nat → Bool := fun _ => false
def Sh.fit (T : Sh) : List Fr := scat T.high (fun r => decide (T.dn r < T.wide)) T.dn (fun r => ratio (T.c r T.wide) T.bottom) (List.replicate T.wide (0, 1))
def Sh.growth (T : Sh) (s : Nat) : List Fr := scat T.high (fun r => decide (T.dn r < T.wide)) T.dn (fun r => ratio (0 - T.c r s) T.bottom) (if T.ac s < T.wide then (List.replicate T.wide (0, 1)).set (T.ac s) (1, 1) else List.replicate T.wide (0, 1))
def Sh.prices (T : Sh) (gains : List Int) (below : Int) : List Fr := scat T.wide (fun s => decide (T.wide ≤ T.ac s)) (fun s => T.ac s - T.wide) (fun s => ratio (0 - gains.getD s 0 * T.scales.getD (T.ac s - T.wide) 0) below) (List.replicate T.high (0, 1))
def Sh.gains (T : Sh) (w : Nat) : List Int := T.cells.getD (T.high + w) []
def Sh.firstPrices (T : Sh) : List Fr := T.prices (T.gains 0) (T.bottom * T.wished.getD 0 0)
def bothOf (gs ms : List Int) (l : Fr) : List Int := List.zipWith (fun g e => g * l.1 + e * l.2) gs ms
theorem part_ratio {t b : Int} (hb : 0 < b) (ht : 0 ≤ t) : lawPart (ratio t b) = true := by
  have h1 := ratio_pos (t := t) hb
  have h2 := ratio_low (t := t) hb
  have h4 := ratio_nonneg hb ht
  unfold lawPart
  simp only [Bool.and_eq_true, decide_eq_true_eq]
  exact ⟨⟨h4, by omega⟩, h2⟩
/-- a sheet reached from another -/
structure Rc (n m M : Nat) (T0 T : Sh) : Prop where
  wf : Wf n m M T
  inv : Inv n m M (avec n T0) (bvec n T0) T.tab
  sc : T.scales = T0.scales
  wd : T.wished = T0.wished
theorem move_sc {T T' : Sh} {w : Nat} {bar : Nat → Bool} (h : T.move w bar = some T') : T'.scales = T.scales ∧ T'.wished = T.wished := by
  unfold Sh.move at h
  cases hc : T.comesIn w bar with
  | none => rw [hc] at h; cases h
  | some s =>
    rw [hc] at h
    replace h : (match T.goesOut s with | none => none | some r => some (T.pivot r s)) = some T' := h
    cases hg : T.goesOut s with
    | none => rw [hg] at h; cases h
    | some r =>
      rw [hg] at h
      rw [← Option.some.inj h]
      exact ⟨rfl, rfl⟩
theorem run_sc {T : Sh} {w : Nat} {bar : Nat → Bool} : ∀ k, (T.run w bar k).scales = T.scales ∧ (T.run w bar k).wished = T.wished
  | 0 => ⟨rfl, rfl⟩
  | k + 1 => by
    have ih := run_sc (T := T) (w := w) (bar := bar) k
    show (match (T.run w bar k).move w bar with | none => T.run w bar k | some T' => T').scales = _ ∧ (match (T.run w bar k).move w bar with | none => T.run w bar k | some T' => T').wished = _
    cases h : (T.run w bar k).move w bar with
    | none => exact ih
    | some T' =>
      have := move_sc h
      exact ⟨this.1.trans ih.1, this.2.trans ih.2⟩
theorem move_none {T : Sh} {w : Nat} {bar : Nat → Bool} (h : T.move w bar = none) : T.comesIn w bar = none ∨ ∃ s, T.comesIn w bar = some s ∧ T.goesOut s = none := by
  unfold Sh.move at h
  cases hc : T.comesIn w bar with
  | none => exact .inl rfl
  | some s =>
    rw [hc] at h
    replace h : (match T.goesOut s with | none => none | some r => some (T.pivot r s)) = none := h
    cases hg : T.goesOut s with
    | none => exact .inr ⟨s, rfl, hg⟩
    | some r => rw [hg] at h; cases h
/-- the first wish's row keeps its signs while the second's goes up -/
def Sg (n m : Nat) (T : Sh) (bar : Nat → Bool) : Prop := ∀ t, t < n → (T.c m t < 0 ↔ bar t = true) ∧ T.c m t ≤ 0
section
variable {n : Nat} {rows : List (List Fr)} {bounds : List Fr} {wishes : List (List Fr)} {T : Sh}
theorem run_sg {m M : Nat} {a : Nat → Vec} {bv : Vec} {w : Nat} {bar : Nat → Bool} {T : Sh} (W : Wf n m M T) (I : Inv n m M a bv T.tab) (hw : m + w < M) (S : Sg n m T bar) : ∀ k, Sg n m (T.run w bar k) bar
  | 0 => S
  | k + 1 => by
    have ih := run_sg W I hw S k
    obtain ⟨W', I'⟩ := run_inv (bar := bar) W I hw k
    show Sg n m (match (T.run w bar k).move w bar with | none => T.run w bar k | some T' => T') bar
    cases h : (T.run w bar k).move w bar with
    | none => exact ih
    | some T' =>
      obtain ⟨s, r, rfl, C, _, _⟩ := move_inv W' I' hw h
      generalize T.run w bar k = U at *
      intro t ht
      have A := (pivot_agr W' C.hr C.hs).c m t (by omega) (by omega)
      have mr := C.hr
      have ms := C.hs
      have hs := ih s C.hs
      have hs0 : U.c m s = 0 := by
        have h1 : ¬ (U.c m s < 0) := fun h => C.nb (hs.1.mp h)
        have := hs.2
        omega
      have e : (U.pivot r s).c m t = (U.tab.piv r s).c m t := A
      rw [e]
      have hbt := ih t ht
      by_cases ets : t = s
      · subst ets
        have : (U.tab.piv r t).c m t = 0 := by
          simp only [Tab.piv]
          rw [if_neg (by omega), if_pos trivial]
          show - U.c m t = 0
          omega
        rw [this]
        refine ⟨⟨fun h => by omega, fun h => absurd h C.nb⟩, by omega⟩
      · have hd := I'.div (r := r) (s := s) (i := m) (t := t) (by omega) (by omega) (by omega) (by omega) (by omega)
        have e2 : U.tab.D * (U.tab.piv r s).c m t = U.c m t * U.c r s := by
          simp only [Tab.piv]
          rw [if_neg (by omega), if_neg ets, hd]
          show U.c m t * U.c r s - U.c m s * U.c r t = _
          rw [hs0]; omega
        have hp : 0 < U.c r s := C.p
        have h1 := mul_sgn (a := (U.tab.piv r s).c m t) I'.pos (p := U.c m t * U.c r s) (by rw [Int.mul_comm]; exact e2)
        have h2 := mul_sgn (a := U.c m t) hp rfl
        refine ⟨by rw [h1.2.2, ← h2.2.2]; exact hbt.1, ?_⟩
        have h3 : ¬ 0 < (U.tab.piv r s).c m t := by
          rw [h1.1, ← h2.1]
          have := hbt.2
          omega
        omega
variable (h : InOk n rows bounds wishes)
theorem InOk.rc0 (h : InOk n rows bounds wishes) : Rc n rows.length (rows.length + wishes.length) (mkSheet rows bounds wishes) (mkSheet rows bounds wishes) := ⟨h.wfm, h.inv, rfl, rfl⟩
theorem Rc.last {w : Nat} {bar : Nat → Bool} (h : InOk n rows bounds wishes) (hw : w < wishes.length) (R : Rc n rows.length (rows.length + wishes.length) (mkSheet rows bounds wishes) T) : Rc n rows.length (rows.length + wishes.length) (mkSheet rows bounds wishes) (T.last w bar) ∧ (T.last w bar).move w bar = none ∧ (Sg n rows.length T bar → Sg n rows.length (T.last w bar) bar) ∧ ∃ k, T.last w bar = T.run w bar k := by
  obtain ⟨k, hk⟩ := run_ends (bar := bar) (w := w) R.wf R.inv (by omega) (by decide) h.ale h.ble
  rw [Sh.last_eq hk]
  have h1 := run_inv (bar := bar) (w := w) R.wf R.inv (by omega) k
  have h2 := run_sc (T := T) (w := w) (bar := bar) k
  exact ⟨⟨h1.1, h1.2, h2.1.trans R.sc, h2.2.trans R.wd⟩, hk, fun S => run_sg R.wf R.inv (by omega) S k, k, rfl⟩
variable (R : Rc n rows.length (rows.length + wishes.length) (mkSheet rows bounds wishes) T)
include h R
theorem fit_len : T.fit.length = n := by
  unfold Sh.fit
  rw [scat_len, List.length_replicate, R.wf.wide]
theorem frD_rep {k j : Nat} : frD (List.replicate k (0, 1)) j = (0, 1) := by
  unfold frD
  rw [List.getD_eq_getElem?_getD, List.getElem?_replicate]
  split <;> rfl
theorem dn_lt {r : Nat} (hr : r < rows.length) : T.tab.dn r = T.dn r := if_pos (by rw [R.wf.high]; exact hr)
theorem fit_is {k : Nat} (hk : k < n) : Is (frD T.fit k) (Xs (rows.length + wishes.length) T n k) T.bottom := by
  have ew := R.wf.wide
  have eh := R.wf.high
  unfold Sh.fit
  rcases scat_get (n := T.high) (ok := fun r => decide (T.dn r < T.wide)) (pos := T.dn) (val := fun r => ratio (T.c r T.wide) T.bottom) (init := List.replicate T.wide (0, 1)) (k := k) (by rw [List.length_replicate]; omega) with ⟨r, h1, _, h3, h4⟩ | ⟨h1, h2⟩
  · rw [h4, ← h3, ← dn_lt h R (by omega), xs_dn R.inv (by omega), ew]
    exact ratio_is R.inv.pos
  · rw [h2, frD_rep h R, xs_no R.inv]
    · exact zero_is
    · intro i hi e
      have hi2 := xs_small R.inv hi (by omega)
      rw [dn_lt h R hi2] at e
      exact h1 i (by omega) (by simp; omega) e
theorem growth_len (s : Nat) : (T.growth s).length = n := by
  unfold Sh.growth
  rw [scat_len]
  split
  · rw [List.length_set, List.length_replicate, R.wf.wide]
  · rw [List.length_replicate, R.wf.wide]
theorem growth_is {s k : Nat} (hs : s < n) (hk : k < n) : Is (frD (T.growth s) k) (Wy (rows.length + wishes.length) T s k) T.bottom := by
  have ew := R.wf.wide
  have eh := R.wf.high
  have hac : ∀ i, i < (rows.length + wishes.length) → T.tab.dn i ≠ T.ac s := fun i hi => R.inv.dis i s hi hs
  unfold Sh.growth
  rcases scat_get (n := T.high) (ok := fun r => decide (T.dn r < T.wide)) (pos := T.dn) (val := fun r => ratio (0 - T.c r s) T.bottom) (init := if T.ac s < T.wide then (List.replicate T.wide (0, 1)).set (T.ac s) (1, 1) else List.replicate T.wide (0, 1)) (k := k) (by split <;> simp <;> omega) with ⟨r, h1, _, h3, h4⟩ | ⟨h1, h2⟩
  · rw [h4, ← h3, ← dn_lt h R (by omega)]
    unfold Wy
    rw [xs_dn R.inv (by omega), if_neg (hac r (by omega))]
    exact ratio_is R.inv.pos
  · rw [h2]
    have hno : ∀ i, i < (rows.length + wishes.length) → T.tab.dn i ≠ k := fun i hi e => by
      have hi2 := xs_small R.inv hi (by omega)
      rw [dn_lt h R hi2] at e
      exact h1 i (by omega) (by simp; omega) e
    unfold Wy
    rw [xs_no R.inv hno]
    by_cases e : k = T.ac s
    · rw [if_pos e, if_pos (show T.ac s < T.wide by omega)]
      have e2 : frD ((List.replicate T.wide (0, 1)).set (T.ac s) (1, 1)) k = (1, 1) := by
        unfold frD
        rw [getD_set (by rw [List.length_replicate]; omega), if_pos e]
      rw [e2]
      exact ⟨by decide, by show (1 : Int) * T.bottom = (T.bottom - 0) * 1; omega⟩
    · rw [if_neg e]
      have e2 : frD (if T.ac s < T.wide then (List.replicate T.wide (0, 1)).set (T.ac s) (1, 1) else List.replicate T.wide (0, 1)) k = (0, 1) := by
        split
        · have : frD ((List.replicate T.wide (0, 1)).set (T.ac s) (1, 1)) k = frD (List.replicate T.wide (0, 1)) k := by
            unfold frD
            rw [getD_set (by rw [List.length_replicate]; omega), if_neg e]
          rw [this, frD_rep h R]
        · exact frD_rep h R
      rw [e2]
      exact zero_is
theorem prices_len (gs : List Int) (b : Int) : (T.prices gs b).length = rows.length := by
  unfold Sh.prices
  rw [scat_len, List.length_replicate, R.wf.high]
/-- G: what the gains say of each number -/
theorem prices_is {gs : List Int} {below : Int} {G : Nat → Int} (hb : 0 < below) (hG : ∀ s, s < n → G (T.ac s) = gs.getD s 0) (hN : ∀ k, k < n + rows.length → (∀ s, s < n → T.ac s ≠ k) → G k = 0) {j : Nat} (hj : j < rows.length) : Is (frD (T.prices gs below) j) (- G (n + j) * scale rows bounds j) below := by
  have ew := R.wf.wide
  have eh := R.wf.high
  unfold Sh.prices
  rcases scat_get (n := T.wide) (ok := fun s => decide (T.wide ≤ T.ac s)) (pos := fun s => T.ac s - T.wide) (val := fun s => ratio (0 - gs.getD s 0 * T.scales.getD (T.ac s - T.wide) 0) below) (init := List.replicate T.high (0, 1)) (k := j) (by rw [List.length_replicate]; omega) with ⟨s, h1, h2, h3, h4⟩ | ⟨h1, h2⟩
  · have h2' : T.wide ≤ T.ac s := by simpa using h2
    have e : T.ac s = n + j := by
      have h3' : T.ac s - T.wide = j := h3
      omega
    rw [h4]
    show Is (ratio (0 - gs.getD s 0 * T.scales.getD (T.ac s - T.wide) 0) below) _ _
    rw [h3, ← e, hG s (by omega), R.sc, h.scales hj]
    have := ratio_is (t := 0 - gs.getD s 0 * scale rows bounds j) hb
    rw [show (0 - gs.getD s 0 * scale rows bounds j) = - gs.getD s 0 * scale rows bounds j by rw [Int.neg_mul]; omega] at this ⊢
    exact this
  · rw [h2, frD_rep h R, hN (n + j) (by omega)]
    · have := zero_is (S := below)
      simpa using this
    · intro s hs e
      exact h1 s (by omega) (by simp; omega) (by show T.ac s - T.wide = j; omega)
/-! ### the law's checks -/
theorem rowAt {j : Nat} (hj : j < rows.length) : (rows.getD j []).length = n := h.rn _ (by rw [getD_lt hj]; exact List.getElem_mem _)
theorem fits_ok : lawFits rows bounds T.fit = true := by
  unfold lawFits
  rw [List.all_eq_true]
  intro p hp
  obtain ⟨j, hj, rfl⟩ := List.getElem_of_mem hp
  rw [List.length_zip, h.bl, Nat.min_self] at hj
  rw [List.getElem_zip]
  have e1 : rows[j] = rows.getD j [] := (getD_lt hj _).symm
  have e2 : bounds[j]'(by rw [h.bl]; exact hj) = frD bounds j := (getD_lt (by rw [h.bl]; exact hj) _).symm
  simp only [e1, e2]
  have hS := (h.scale hj).1
  have hD : 0 < T.bottom := R.inv.pos
  have h1 := dot_is2 (rowAt h R hj) (fit_len h R) (fun k hk => h.isRow hj hk) (fun k hk => fit_is h R hk)
  have h2 := h1.less (h.isBound hj).1
  have h3 := h2.sgn (Int.mul_pos (Int.mul_pos hS hD) hS)
  have h4 := fit_row R.inv j
  have h5 := xs_nonneg R.inv (k := n + j) (by omega)
  have h6 : ¬ 0 < (lawLess (lawDot (rows.getD j []) T.fit) (frD bounds j)).1 := by
    rw [h3.1]
    have e : sumN n (fun k => (mkSheet rows bounds wishes).c j k * Xs (rows.length + wishes.length) T n k) = T.bottom * (mkSheet rows bounds wishes).c j n - Xs (rows.length + wishes.length) T n (n + j) := by omega
    rw [e]
    have e2 : (T.bottom * (mkSheet rows bounds wishes).c j n - Xs (rows.length + wishes.length) T n (n + j)) * scale rows bounds j - (mkSheet rows bounds wishes).c j n * (scale rows bounds j * T.bottom) = - (Xs (rows.length + wishes.length) T n (n + j) * scale rows bounds j) := by grind
    rw [e2]
    have := Int.mul_nonneg h5 (show 0 ≤ scale rows bounds j by omega)
    omega
  simpa using h6
theorem fit_list : lawList T.fit n = true := by
  unfold lawList
  rw [fit_len h R, decide_eq_true rfl, Bool.true_and, List.all_eq_true]
  refine scat_all (Q := fun f => lawPart f = true) (fun f hf => ?_) fun r hr hok => ?_
  · rw [(List.mem_replicate.mp hf).2]; decide
  · have hD : 0 < T.bottom := R.inv.pos
    have h3 : 0 ≤ T.c r T.wide := by
      rw [R.wf.wide]; exact R.inv.rhs r (by rw [← R.wf.high]; exact hr)
    exact part_ratio hD h3
theorem wish_dot {w : Nat} (hw : w < wishes.length) : Is (lawDot (wishes.getD w []) T.fit) (- T.c (rows.length + w) n) (wscale wishes w * T.bottom) := by
  have h1 := dot_is2 (h.fwish hw).1 (fit_len h R) (fun k hk => h.isWish hw hk) (fun k hk => fit_is h R hk)
  have h4 := fit_row R.inv (rows.length + w)
  rw [h.wish0 hw, xs_wish R.inv (by omega)] at h4
  rw [show sumN n (fun k => (mkSheet rows bounds wishes).c (rows.length + w) k * Xs (rows.length + wishes.length) T n k) = - T.c (rows.length + w) n by omega] at h1
  exact h1
theorem way_dot {w s : Nat} (hw : w < wishes.length) (hs : s < n) : Is (lawDot (wishes.getD w []) (T.growth s)) (T.c (rows.length + w) s) (wscale wishes w * T.bottom) := by
  have h1 := dot_is2 (h.fwish hw).1 (growth_len h R s) (fun k hk => h.isWish hw hk) (fun k hk => growth_is h R hs hk)
  have h4 := way_row R.inv hs (rows.length + w)
  have h5 : T.ac s < n + rows.length := R.inv.acl s hs
  rw [xs_wish R.inv (by omega), if_neg (by omega)] at h4
  rw [h4, show T.c (rows.length + w) s - 0 = T.c (rows.length + w) s by omega] at h1
  exact h1
theorem way_list {s : Nat} (hs : s < n) (hn : T.goesOut s = none) : lawList (T.growth s) n = true := by
  have h0 := Sh.goesOut_none hn
  unfold lawList
  rw [growth_len h R, decide_eq_true rfl, Bool.true_and, List.all_eq_true]
  refine scat_all (Q := fun f => lawPart f = true) (fun f hf => ?_) fun r hr hok => ?_
  · split at hf
    · rcases List.mem_or_eq_of_mem_set hf with hf | hf
      · rw [(List.mem_replicate.mp hf).2]; decide
      · rw [hf]; decide
    · rw [(List.mem_replicate.mp hf).2]; decide
  · have hD : 0 < T.bottom := R.inv.pos
    have h3 : 0 ≤ 0 - T.c r s := by have := h0 r hr; omega
    exact part_ratio hD h3
theorem way_ok {w s : Nat} (hw : w < wishes.length) (hs : s < n) (hn : T.goesOut s = none) : lawIsWay rows (wishes.getD w []) (T.growth s) = true := by
  unfold lawIsWay
  rw [(h.fwish hw).1, way_list h R hs hn, Bool.true_and, List.all_eq_true]
  intro row hrow
  obtain ⟨j, hj, rfl⟩ := List.getElem_of_mem hrow
  have e1 : rows[j] = rows.getD j [] := (getD_lt hj _).symm
  rw [e1]
  have hS := (h.scale hj).1
  have hD : 0 < T.bottom := R.inv.pos
  have h1 := dot_is2 (rowAt h R hj) (growth_len h R s) (fun k hk => h.isRow hj hk) (fun k hk => growth_is h R hs hk)
  have h3 := h1.sgn (Int.mul_pos hS hD)
  have h4 := way_row R.inv hs j
  have h5 := xs_nonpos R.inv (s := s) (k := n + j) (by omega) (fun i hi => Sh.goesOut_none hn i (by rw [R.wf.high]; exact hi))
  have h6 : ¬ 0 < (lawDot (rows.getD j []) (T.growth s)).1 := by
    rw [h3.1, h4]
    split <;> omega
  simpa using h6
theorem colOf_get (k : Nat) {j : Nat} (hj : j < rows.length) : frD (colOf rows k) j = frD (rows.getD j []) k := getD_map_lt hj [] _
theorem colOf_len (k : Nat) : (colOf rows k).length = rows.length := List.length_map _
/-- a list of prices against the columns and the bounds; Y: prices as whole numbers -/
theorem col_dot {ps : List Fr} {Y : Nat → Int} {S : Int} (hl : ps.length = rows.length) (hp : ∀ j, j < rows.length → Is (frD ps j) (Y j * scale rows bounds j) S) {k : Nat} (hk : k < n) : Is (lawDot (colOf rows k) ps) (sumN rows.length fun j => (mkSheet rows bounds wishes).c j k * Y j) S :=
  dot_isS (colOf_len h R k) hl (fun j hj => (h.scale hj).1) (fun j hj => by rw [colOf_get h R k hj]; exact h.isRow hj hk) hp
theorem bound_dot {ps : List Fr} {Y : Nat → Int} {S : Int} (hl : ps.length = rows.length) (hp : ∀ j, j < rows.length → Is (frD ps j) (Y j * scale rows bounds j) S) : Is (lawDot bounds ps) (sumN rows.length fun j => (mkSheet rows bounds wishes).c j n * Y j) S :=
  dot_isS h.bl hl (fun j hj => (h.scale hj).1) (fun j hj => (h.isBound hj).1) hp
theorem gains_get (w s : Nat) : (T.gains w).getD s 0 = T.c (rows.length + w) s := by
  unfold Sh.gains Sh.c
  rw [R.wf.high]
theorem ph_no {w k : Nat} (hw : w < wishes.length) (hk : k < n + rows.length) (hn : ∀ s, s < n → T.ac s ≠ k) : Ph n (rows.length + wishes.length) (mkSheet rows bounds wishes) T (rows.length + w) k = 0 := by
  rcases ph_cases R.inv (w := w) (by omega) hk with ⟨s, hs, e⟩ | h0
  · exact absurd e (hn s hs)
  · exact h0 w (by omega)
theorem ph_nonpos {w k : Nat} (hw : w < wishes.length) (hk : k < n + rows.length) (hc : ∀ s, s < n → T.c (rows.length + w) s ≤ 0) : Ph n (rows.length + wishes.length) (mkSheet rows bounds wishes) T (rows.length + w) k ≤ 0 := by
  rcases ph_cases R.inv (w := w) (by omega) hk with ⟨s, hs, e⟩ | h0
  · rw [← e, ph_ac R.inv (by omega) hs]; exact hc s hs
  · rw [h0 w (by omega)]; omega
theorem price_list {gs : List Int} {below : Int} (hb : 0 < below) (hg : ∀ s, s < n → gs.getD s 0 ≤ 0) : lawList (T.prices gs below) rows.length = true := by
  unfold lawList
  rw [prices_len h R, decide_eq_true rfl, Bool.true_and, List.all_eq_true]
  refine scat_all (Q := fun f => lawPart f = true) (fun f hf => ?_) fun s hs hok => ?_
  · rw [(List.mem_replicate.mp hf).2]; decide
  · have hs' : s < n := by rw [← R.wf.wide]; exact hs
    have hac : T.ac s < n + rows.length := R.inv.acl s hs'
    have hok' : T.wide ≤ T.ac s := by simpa using hok
    have ew := R.wf.wide
    have hj : T.ac s - T.wide < rows.length := by omega
    have h3 : 0 ≤ 0 - gs.getD s 0 * T.scales.getD (T.ac s - T.wide) 0 := by
      rw [R.sc, h.scales hj]
      have := Int.mul_nonneg (show 0 ≤ - gs.getD s 0 by have := hg s hs'; omega) (Int.le_of_lt (h.scale hj).1)
      rw [Int.neg_mul] at this
      omega
    exact part_ratio hb h3
theorem wished0 {w : Nat} (hw : w < wishes.length) : T.wished.getD w 0 = wscale wishes w := by rw [R.wd, h.wisheds hw]
theorem first_is {j : Nat} (hj : j < rows.length) : Is (frD T.firstPrices j) (- Ph n (rows.length + wishes.length) (mkSheet rows bounds wishes) T (rows.length + 0) (n + j) * scale rows bounds j) (T.bottom * wscale wishes 0) := by
  have hw : 0 < wishes.length := by have := h.wl; omega
  unfold Sh.firstPrices
  rw [wished0 h R hw]
  refine prices_is h R (G := fun k => Ph n (rows.length + wishes.length) (mkSheet rows bounds wishes) T (rows.length + 0) k) (Int.mul_pos R.inv.pos (h.wscale hw).1) (fun s hs => ?_) (fun k hk hn => ph_no h R hw hk hn) hj
  rw [gains_get h R]
  exact ph_ac R.inv (by omega) hs
theorem best_ok (hc : ∀ s, s < n → T.c rows.length s ≤ 0) : lawIsBest rows bounds (wishes.getD 0 []) T.fit T.firstPrices = true := by
  have hw : 0 < wishes.length := by have := h.wl; omega
  have hD : 0 < T.bottom := R.inv.pos
  have hs0 := (h.wscale hw).1
  have hb : 0 < T.bottom * T.wished.getD 0 0 := by rw [wished0 h R hw]; exact Int.mul_pos hD hs0
  have hpl : T.firstPrices.length = rows.length := prices_len h R _ _
  unfold lawIsBest
  have h1 : lawList T.firstPrices rows.length = true := price_list h R hb fun s hs => by rw [gains_get h R]; exact hc s hs
  rw [h1, Bool.true_and, Bool.and_eq_true]
  constructor
  · rw [List.all_eq_true]
    intro k hk
    have hk' : k < n := by rw [← (h.fwish hw).1]; exact List.mem_range.mp hk
    have h2 := (col_dot h R hpl (fun j hj => first_is h R hj) hk').less (h.isWish hw hk')
    have h3 := h2.sgn (Int.mul_pos (Int.mul_pos hD hs0) hs0)
    have h4 := price_col h.wfm R.inv (w := 0) (by omega) hk'
    have h5 := ph_nonpos h R (w := 0) (k := k) hw (by omega) hc
    have e : sumN rows.length (fun j => (mkSheet rows bounds wishes).c j k * (- Ph n (rows.length + wishes.length) (mkSheet rows bounds wishes) T (rows.length + 0) (n + j))) = T.bottom * (mkSheet rows bounds wishes).c (rows.length + 0) k - Ph n (rows.length + wishes.length) (mkSheet rows bounds wishes) T (rows.length + 0) k := by
      rw [h4, show sumN rows.length (fun j => (mkSheet rows bounds wishes).c j k * (- Ph n (rows.length + wishes.length) (mkSheet rows bounds wishes) T (rows.length + 0) (n + j))) = - sumN rows.length (fun j => (mkSheet rows bounds wishes).c j k * Ph n (rows.length + wishes.length) (mkSheet rows bounds wishes) T (rows.length + 0) (n + j)) by
        rw [← sumN_neg]; exact sumN_congr fun j _ => by grind]
      omega
    have h6 : ¬ (lawLess (lawDot (colOf rows k) T.firstPrices) (frD (wishes.getD 0 []) k)).1 < 0 := by
      rw [h3.2.2, e]
      have := Int.mul_nonneg (show 0 ≤ - Ph n (rows.length + wishes.length) (mkSheet rows bounds wishes) T (rows.length + 0) k by omega) (Int.le_of_lt hs0)
      grind
    have h7 : decide ((lawLess (lawDot (colOf rows k) T.firstPrices) ((wishes.getD 0 []).getD k (0, 1))).1 < 0) = false := decide_eq_false h6
    rw [h7]; rfl
  · have h2 := (bound_dot h R hpl (fun j hj => first_is h R hj)).less (wish_dot h R hw)
    have h3 := h2.sgn (Int.mul_pos (Int.mul_pos hD hs0) (Int.mul_pos hs0 hD))
    have h4 := price_b h.wfm R.inv (w := 0) (by omega)
    rw [h.wish0 hw] at h4
    refine decide_eq_true (h3.2.1.mpr ?_)
    rw [show sumN rows.length (fun j => (mkSheet rows bounds wishes).c j n * (- Ph n (rows.length + wishes.length) (mkSheet rows bounds wishes) T (rows.length + 0) (n + j))) = - sumN rows.length (fun j => (mkSheet rows bounds wishes).c j n * Ph n (rows.length + wishes.length) (mkSheet rows bounds wishes) T (rows.length + 0) (n + j)) by
        rw [← sumN_neg]; exact sumN_congr fun j _ => by grind, show sumN rows.length (fun j => (mkSheet rows bounds wishes).c j n * Ph n (rows.length + wishes.length) (mkSheet rows bounds wishes) T (rows.length + 0) (n + j)) = T.c (rows.length + 0) n by omega]
    grind
end
end Hd


/-! text Solve2 -/
set_option Elab.async false
set_option linter.all false
set_option maxHeartbeats 4000000
namespace Hd
/-! ### the lift -/
structure LiftOk (gs ms : List Int) (l : Fr) : Prop where
  top : 0 ≤ l.1
  bot : 1 ≤ l.2
  all : ∀ i (h : i < gs.length) (h' : i < ms.length), gs[i] < 0 → ms[i] * l.2 ≤ l.1 * (0 - gs[i])
  sort : l = (0, 1) ∨ ∃ i, ∃ (h : i < gs.length) (h' : i < ms.length), gs[i] < 0 ∧ l = (ms[i], 0 - gs[i])
theorem lift_fold : ∀ (gs ms : List Int) (ps : List (Int × Int)) (z : Fr), 0 ≤ z.1 → 1 ≤ z.2 → (∀ p ∈ ps, p.1 < 0 → p.2 * z.2 ≤ z.1 * (0 - p.1)) → (z = (0, 1) ∨ ∃ p ∈ ps, p.1 < 0 ∧ z = (p.2, 0 - p.1)) → ∀ qs : List (Int × Int),
    let l := qs.foldl liftStep z
    0 ≤ l.1 ∧ 1 ≤ l.2 ∧ (∀ p ∈ ps ++ qs, p.1 < 0 → p.2 * l.2 ≤ l.1 * (0 - p.1)) ∧ (l = (0, 1) ∨ ∃ p ∈ ps ++ qs, p.1 < 0 ∧ l = (p.2, 0 - p.1))
  | gs, ms, ps, z, h1, h2, h3, h4, [] => by simp only [List.foldl_nil, List.append_nil]; exact ⟨h1, h2, h3, h4⟩
  | gs, ms, ps, z, h1, h2, h3, h4, q :: qs => by
    have key : 0 ≤ (liftStep z q).1 ∧ 1 ≤ (liftStep z q).2 ∧ (∀ p ∈ ps ++ [q], p.1 < 0 → p.2 * (liftStep z q).2 ≤ (liftStep z q).1 * (0 - p.1)) ∧ (liftStep z q = (0, 1) ∨ ∃ p ∈ ps ++ [q], p.1 < 0 ∧ liftStep z q = (p.2, 0 - p.1)) := by
      unfold liftStep
      by_cases hc : q.1 < 0 ∧ z.1 * (0 - q.1) < q.2 * z.2
      · rw [if_pos hc]
        obtain ⟨c1, c2⟩ := hc
        have hz : 0 ≤ z.1 * (0 - q.1) := Int.mul_nonneg h1 (by omega)
        have hq : 0 < q.2 := by
          apply Classical.byContradiction
          intro hn
          have : q.2 * z.2 ≤ 0 := Int.mul_nonpos_of_nonpos_of_nonneg (by omega) (by omega)
          omega
        refine ⟨by show 0 ≤ q.2; omega, by show 1 ≤ 0 - q.1; omega, fun p hp hp0 => ?_, .inr ⟨q, by simp, c1, rfl⟩⟩
        rcases List.mem_append.mp hp with hp | hp
        · have e := h3 p hp hp0
          show p.2 * (0 - q.1) ≤ q.2 * (0 - p.1)
          apply Int.le_of_mul_le_mul_left (a := z.2) _ (by omega)
          have e1 := Int.mul_le_mul_of_nonneg_right e (show 0 ≤ 0 - q.1 by omega)
          have e2 := Int.mul_le_mul_of_nonneg_right (Int.le_of_lt c2) (show 0 ≤ 0 - p.1 by omega)
          grind
        · rw [List.mem_singleton.mp hp]
          exact Int.le_refl _
      · rw [if_neg hc]
        refine ⟨h1, h2, fun p hp hp0 => ?_, h4.imp id fun ⟨p, h5, h6⟩ => ⟨p, List.mem_append_left _ h5, h6⟩⟩
        rcases List.mem_append.mp hp with hp | hp
        · exact h3 p hp hp0
        · rw [List.mem_singleton.mp hp] at hp0 ⊢
          apply Classical.byContradiction
          intro hn
          exact hc ⟨hp0, by omega⟩
    have := lift_fold gs ms (ps ++ [q]) _ key.1 key.2.1 key.2.2.1 key.2.2.2 qs
    rw [List.append_assoc] at this
    exact this
theorem lift_ok (gs ms : List Int) : LiftOk gs ms (liftOf gs ms) := by
  have := lift_fold gs ms [] (0, 1) (by decide) (by decide) (fun p hp => by simp at hp) (.inl rfl) (gs.zip ms)
  simp only [List.nil_append] at this
  obtain ⟨h1, h2, h3, h4⟩ := this
  refine ⟨h1, h2, fun i hi hi' hg => ?_, ?_⟩
  · exact h3 (gs[i], ms[i]) (by
      have e : (gs.zip ms)[i]'(by rw [List.length_zip]; omega) = (gs[i], ms[i]) := List.getElem_zip
      rw [← e]; exact List.getElem_mem _) hg
  · rcases h4 with h4 | ⟨p, hp, h5, h6⟩
    · exact .inl h4
    · obtain ⟨i, hi, rfl⟩ := List.getElem_of_mem hp
      rw [List.length_zip] at hi
      rw [List.getElem_zip] at h5 h6
      exact .inr ⟨i, by omega, by omega, h5, h6⟩

/-! ### the answers -/
def Sh.barOf (T : Sh) : Nat → Bool := fun k => decide (T.c T.high k < 0)
def Sh.liftF (T : Sh) : Fr := liftOf (T.gains 0).dropLast (T.gains 1).dropLast
def Sh.others (T : Sh) : List Fr := T.prices (bothOf (T.gains 0).dropLast (T.gains 1).dropLast T.liftF) (T.bottom * T.liftF.2 * T.wished.getD 1 0)
def Sh.lift (T : Sh) : Fr := ratio (T.liftF.1 * T.wished.getD 0 0) (T.liftF.2 * T.wished.getD 1 0)
def Sh.tell2 (T : Sh) (bar : Nat → Bool) : Res := match T.comesIn 1 bar with
  | some s => .next T.fit T.firstPrices (T.growth s)
  | none => .best T.fit T.firstPrices T.others T.lift
noncomputable def Sh.tell1 (T : Sh) : Res := match T.comesIn 0 noBar with
  | some s => .endless T.fit (T.growth s)
  | none => (T.last 1 T.barOf).tell2 T.barOf
noncomputable def solveNext (rows : List (List Fr)) (bounds wish second : List Fr) : Res := ((mkSheet rows bounds [wish, second]).last 0 noBar).tell1
inductive Alone where
  | endless (fit way : List Fr)
  | best (fit prices : List Fr)
def Sh.tellA (T : Sh) : Alone := match T.comesIn 0 noBar with
  | some s => .endless T.fit (T.growth s)
  | none => .best T.fit T.firstPrices
noncomputable def solveM (rows : List (List Fr)) (bounds wish : List Fr) : Alone := ((mkSheet rows bounds [wish]).last 0 noBar).tellA
def Alone.fit : Alone → List Fr
  | .endless fit _ => fit
  | .best fit _ => fit
def Alone.isE : Alone → Bool
  | .endless _ _ => true
  | .best _ _ => false
def Res.isE : Res → Bool
  | .endless _ _ => true
  | _ => false
section
variable {n : Nat} {rows : List (List Fr)} {bounds : List Fr} {wishes : List (List Fr)} {T : Sh}
section
variable (h : InOk n rows bounds wishes) (R : Rc n rows.length (rows.length + wishes.length) (mkSheet rows bounds wishes) T)
include h R
theorem gains_len {w : Nat} (hw : w < wishes.length) : (T.gains w).length = n + 1 := by
  unfold Sh.gains
  exact R.wf.row_len (by have := R.wf.high; omega)
theorem dl_get {w : Nat} (hw : w < wishes.length) {s : Nat} (hs : s < n) : ∃ h1 : s < (T.gains w).dropLast.length, (T.gains w).dropLast[s] = T.c (rows.length + w) s := by
  have hl := gains_len h R hw
  refine ⟨by rw [List.length_dropLast]; omega, ?_⟩
  rw [List.getElem_dropLast, ← gains_get h R, getD_lt (by omega)]
theorem dl_len {w : Nat} (hw : w < wishes.length) : (T.gains w).dropLast.length = n := by
  rw [List.length_dropLast, gains_len h R hw]; rfl
theorem both_get (h2 : 1 < wishes.length) (l : Fr) {s : Nat} (hs : s < n) : (bothOf (T.gains 0).dropLast (T.gains 1).dropLast l).getD s 0 = T.c (rows.length + 0) s * l.1 + T.c (rows.length + 1) s * l.2 := by
  obtain ⟨a1, a2⟩ := dl_get h R (w := 0) (by omega) hs
  obtain ⟨b1, b2⟩ := dl_get h R (w := 1) h2 hs
  unfold bothOf
  rw [getD_lt (by rw [List.length_zipWith]; omega), List.getElem_zipWith, a2, b2]
theorem liftF_ok (h2 : 1 < wishes.length) : 0 ≤ T.liftF.1 ∧ 1 ≤ T.liftF.2 ∧ (∀ s, s < n → T.c (rows.length + 0) s < 0 → T.c (rows.length + 1) s * T.liftF.2 ≤ T.liftF.1 * (0 - T.c (rows.length + 0) s)) ∧
    (T.liftF = (0, 1) ∨ ∃ s, s < n ∧ T.c (rows.length + 0) s < 0 ∧ T.liftF = (T.c (rows.length + 1) s, 0 - T.c (rows.length + 0) s)) := by
  have L := lift_ok (T.gains 0).dropLast (T.gains 1).dropLast
  refine ⟨L.top, L.bot, fun s hs hc => ?_, ?_⟩
  · obtain ⟨a1, a2⟩ := dl_get h R (w := 0) (by omega) hs
    obtain ⟨b1, b2⟩ := dl_get h R (w := 1) h2 hs
    have := L.all s a1 b1 (by rw [a2]; exact hc)
    rw [a2, b2] at this
    exact this
  · rcases L.sort with e | ⟨s, a, b, c, e⟩
    · exact .inl e
    · have hs : s < n := by rw [← dl_len h R (w := 0) (by omega)]; exact a
      obtain ⟨a1, a2⟩ := dl_get h R (w := 0) (by omega) hs
      obtain ⟨b1, b2⟩ := dl_get h R (w := 1) h2 hs
      rw [a2] at c e
      rw [b2] at e
      exact .inr ⟨s, hs, c, e⟩
/-- the lifted row has no gain -/
theorem both_le {bar : Nat → Bool} (h2 : 1 < wishes.length) (S : Sg n rows.length T bar) (hn : T.comesIn 1 bar = none) {s : Nat} (hs : s < n) : T.c (rows.length + 0) s * T.liftF.1 + T.c (rows.length + 1) s * T.liftF.2 ≤ 0 := by
  obtain ⟨l1, l2, l3, _⟩ := liftF_ok h R h2
  have hb := Sh.comesIn_none hn s (by rw [R.wf.wide]; exact hs)
  rw [R.wf.high] at hb
  have hS := S s hs
  rw [Nat.add_zero]
  by_cases hc : T.c rows.length s < 0
  · have := l3 s hs hc
    rw [Nat.add_zero] at this
    grind
  · have h0 : T.c rows.length s = 0 := by omega
    have h1 : T.c (rows.length + 1) s ≤ 0 := by
      apply Classical.byContradiction
      intro hq
      exact hc (hS.1.mpr (hb (by omega)))
    rw [h0]
    have := Int.mul_nonneg (show 0 ≤ - T.c (rows.length + 1) s by omega) (show 0 ≤ T.liftF.2 by omega)
    grind
theorem next_ok {bar : Nat → Bool} (h2 : 1 < wishes.length) (S : Sg n rows.length T bar) (hn : T.comesIn 1 bar = none) :
    lawIsNext rows bounds (wishes.getD 0 []) (wishes.getD 1 []) T.fit T.others T.lift = true := by
  have hw0 : 0 < wishes.length := by omega
  have hD : 0 < T.bottom := R.inv.pos
  have hs0 := (h.wscale hw0).1
  have hs1 := (h.wscale h2).1
  obtain ⟨l1, l2, l3, _⟩ := liftF_ok h R h2
  have hW : T.wished.getD 1 0 = wscale wishes 1 := wished0 h R h2
  have hW0 : T.wished.getD 0 0 = wscale wishes 0 := wished0 h R hw0
  have hDl : 0 < T.bottom * T.liftF.2 := Int.mul_pos hD (by omega)
  have hb : 0 < T.bottom * T.liftF.2 * wscale wishes 1 := Int.mul_pos hDl hs1
  have hb' : 0 < T.bottom * T.liftF.2 * T.wished.getD 1 0 := by rw [hW]; exact hb
  have hlp : 0 < T.liftF.2 * wscale wishes 1 := Int.mul_pos (by omega) hs1
  have hpl : T.others.length = rows.length := prices_len h R _ _
  generalize hG : (fun k => Ph n (rows.length + wishes.length) (mkSheet rows bounds wishes) T (rows.length + 0) k * T.liftF.1 + Ph n (rows.length + wishes.length) (mkSheet rows bounds wishes) T (rows.length + 1) k * T.liftF.2) = G
  have hGk : ∀ k, G k = Ph n (rows.length + wishes.length) (mkSheet rows bounds wishes) T (rows.length + 0) k * T.liftF.1 + Ph n (rows.length + wishes.length) (mkSheet rows bounds wishes) T (rows.length + 1) k * T.liftF.2 := fun k => by rw [← hG]
  have hGs : ∀ s, s < n → G (T.ac s) = T.c (rows.length + 0) s * T.liftF.1 + T.c (rows.length + 1) s * T.liftF.2 := fun s hs => by
    rw [hGk, ph_ac R.inv (by omega) hs, ph_ac R.inv (by omega) hs]
  have hG0 : ∀ k, k < n + rows.length → (∀ s, s < n → T.ac s ≠ k) → G k = 0 := fun k hk hno => by
    rw [hGk, ph_no h R hw0 hk hno, ph_no h R h2 hk hno]; omega
  have hGle : ∀ k, k < n + rows.length → G k ≤ 0 := fun k hk => by
    rcases ph_cases R.inv (w := 0) (by omega) hk with ⟨s, hs, e⟩ | h0
    · rw [← e, hGs s hs]; exact both_le h R h2 S hn hs
    · rw [hGk, h0 0 (by omega), h0 1 (by omega)]; omega
  have hpi : ∀ j, j < rows.length → Is (frD T.others j) (- G (n + j) * scale rows bounds j) (T.bottom * T.liftF.2 * wscale wishes 1) := fun j hj => by
    unfold Sh.others
    rw [hW]
    exact prices_is h R hb (fun s hs => by rw [both_get h R h2 _ hs, hGs s hs]) hG0 hj
  have hli : Is T.lift (T.liftF.1 * wscale wishes 0) (T.liftF.2 * wscale wishes 1) := by
    unfold Sh.lift
    rw [hW, hW0]
    exact ratio_is hlp
  unfold lawIsNext
  have c1 : lawList T.others rows.length = true := price_list h R hb' fun s hs => by rw [both_get h R h2 _ hs]; exact both_le h R h2 S hn hs
  have c2 : lawList [T.lift] 1 = true := by
    unfold lawList Sh.lift
    rw [hW, hW0]
    have := part_ratio hlp (Int.mul_nonneg l1 (Int.le_of_lt hs0))
    simp [this]
  rw [c1, c2, Bool.true_and, Bool.true_and, Bool.and_eq_true]
  have sumG : ∀ f : Nat → Int, sumN rows.length (fun j => f j * (- G (n + j))) = - (sumN rows.length (fun j => f j * Ph n (rows.length + wishes.length) (mkSheet rows bounds wishes) T (rows.length + 0) (n + j)) * T.liftF.1 + sumN rows.length (fun j => f j * Ph n (rows.length + wishes.length) (mkSheet rows bounds wishes) T (rows.length + 1) (n + j)) * T.liftF.2) := fun f => by
    rw [Int.mul_comm _ T.liftF.1, Int.mul_comm _ T.liftF.2, ← sumN_mul, ← sumN_mul, ← sumN_add, ← sumN_neg]
    exact sumN_congr fun j _ => by rw [hGk]; grind
  constructor
  · rw [List.all_eq_true]
    intro k hk
    have hk' : k < n := by rw [← (h.fwish hw0).1]; exact List.mem_range.mp hk
    have i1 := ((col_dot h R hpl hpi hk').less (hli.times (h.isWish hw0 hk'))).less (h.isWish h2 hk')
    have i2 := i1.sgn (Int.mul_pos (Int.mul_pos hb (Int.mul_pos hlp hs0)) hs1)
    have p0 := price_col h.wfm R.inv (w := 0) (by omega) hk'
    have p1 := price_col h.wfm R.inv (w := 1) (by omega) hk'
    have hg := hGle k (by omega)
    rw [hGk, p0, p1] at hg
    rw [sumG] at i2
    have fin : ¬ (lawLess (lawLess (lawDot (colOf rows k) T.others) (lawTimes T.lift ((wishes.getD 0 []).getD k (0, 1)))) ((wishes.getD 1 []).getD k (0, 1))).1 < 0 := by
      show ¬ (lawLess (lawLess (lawDot (colOf rows k) T.others) (lawTimes T.lift (frD (wishes.getD 0 []) k))) (frD (wishes.getD 1 []) k)).1 < 0
      rw [i2.2.2]
      generalize sumN rows.length (fun j => (mkSheet rows bounds wishes).c j k * Ph n (rows.length + wishes.length) (mkSheet rows bounds wishes) T (rows.length + 0) (n + j)) = A at *
      generalize sumN rows.length (fun j => (mkSheet rows bounds wishes).c j k * Ph n (rows.length + wishes.length) (mkSheet rows bounds wishes) T (rows.length + 1) (n + j)) = B at *
      generalize (mkSheet rows bounds wishes).c (rows.length + 0) k = W at *
      generalize (mkSheet rows bounds wishes).c (rows.length + 1) k = V at *
      generalize wscale wishes 0 = u at *
      generalize wscale wishes 1 = v at *
      generalize T.liftF.1 = t at *
      generalize T.liftF.2 = b at *
      generalize T.bottom = d at *
      have e : ((-(A * t + B * b)) * (b * v * u) - t * u * W * (d * b * v)) * v - V * (d * b * v * (b * v * u)) = (b * v * u * v) * (- ((A + d * W) * t + (B + d * V) * b)) := by grind
      rw [e]
      have := Int.mul_nonneg (Int.le_of_lt (Int.mul_pos (Int.mul_pos hlp hs0) hs1)) (show 0 ≤ -((A + d * W) * t + (B + d * V) * b) by omega)
      omega
    have f2 := decide_eq_false fin
    rw [f2]; rfl
  · have i1 := ((bound_dot h R hpl hpi).less (hli.times (wish_dot h R hw0))).less (wish_dot h R h2)
    have i2 := i1.sgn (Int.mul_pos (Int.mul_pos hb (Int.mul_pos hlp (Int.mul_pos hs0 hD))) (Int.mul_pos hs1 hD))
    have p0 := price_b h.wfm R.inv (w := 0) (by omega)
    have p1 := price_b h.wfm R.inv (w := 1) (by omega)
    rw [h.wish0 hw0] at p0
    rw [h.wish0 h2] at p1
    refine decide_eq_true (i2.2.1.mpr ?_)
    rw [sumG]
    generalize sumN rows.length (fun j => (mkSheet rows bounds wishes).c j n * Ph n (rows.length + wishes.length) (mkSheet rows bounds wishes) T (rows.length + 0) (n + j)) = A at *
    generalize sumN rows.length (fun j => (mkSheet rows bounds wishes).c j n * Ph n (rows.length + wishes.length) (mkSheet rows bounds wishes) T (rows.length + 1) (n + j)) = B at *
    rw [p0, p1]
    grind
end

/-! ### both wishes: the answer is right -/
theorem last_cases {w : Nat} {bar : Nat → Bool} (hm : T.move w bar = none) {s : Nat} (hc : T.comesIn w bar = some s) : T.goesOut s = none := by
  rcases move_none hm with h | ⟨t, h1, h2⟩
  · rw [hc] at h; cases h
  · rw [hc] at h1; cases h1; exact h2
theorem next_right {wish second : List Fr} (h : InOk n rows bounds [wish, second]) : lawRight (solveNext rows bounds wish second) rows bounds wish second = true := by
  obtain ⟨R1, m1, _, _⟩ := h.rc0.last (w := 0) (bar := noBar) h (by simp)
  unfold solveNext
  generalize (mkSheet rows bounds [wish, second]).last 0 noBar = T1 at *
  have hn : wish.length = n := h.wn wish (by simp)
  have hD1 : 0 < T1.bottom := R1.inv.pos
  unfold Sh.tell1
  cases hc : T1.comesIn 0 noBar with
  | some s =>
    obtain ⟨c1, c2, _⟩ := Sh.comesIn_some hc
    rw [R1.wf.wide] at c1
    rw [R1.wf.high] at c2
    have hg := last_cases m1 hc
    have f1 : lawList T1.fit n = true := fit_list h R1
    have f2 : lawFits rows bounds T1.fit = true := fits_ok h R1
    have f3 : lawIsWay rows wish (T1.growth s) = true := way_ok h R1 (w := 0) (by simp) c1 hg
    have f4 : 0 < (lawDot wish (T1.growth s)).1 := ((way_dot h R1 (w := 0) (by simp) c1).sgn (Int.mul_pos (h.wscale (by simp)).1 hD1)).1.mpr c2
    show (lawList T1.fit wish.length && lawFits rows bounds T1.fit && (lawIsWay rows wish (T1.growth s) && decide (0 < (lawDot wish (T1.growth s)).1))) = true
    rw [hn, f1, f2, f3, decide_eq_true f4]; rfl
  | none =>
    have S1 : Sg n rows.length T1 T1.barOf := fun t ht => by
      have h1 : ¬ 0 < T1.c (T1.high + 0) t := fun h0 => by
        have := Sh.comesIn_none hc t (by rw [R1.wf.wide]; exact ht) h0
        simp [noBar] at this
      rw [R1.wf.high, Nat.add_zero] at h1
      refine ⟨?_, by omega⟩
      unfold Sh.barOf
      rw [R1.wf.high]
      simp
    obtain ⟨R2, m2, sg, _⟩ := R1.last (w := 1) (bar := T1.barOf) h (by simp)
    have S2 := sg S1
    show lawRight ((T1.last 1 T1.barOf).tell2 T1.barOf) rows bounds wish second = true
    generalize T1.last 1 T1.barOf = T2 at *
    generalize T1.barOf = bar at *
    have hD2 : 0 < T2.bottom := R2.inv.pos
    have f1 : lawList T2.fit n = true := fit_list h R2
    have f2 : lawFits rows bounds T2.fit = true := fits_ok h R2
    have f3 : lawIsBest rows bounds wish T2.fit T2.firstPrices = true := best_ok h R2 fun s hs => (S2 s hs).2
    unfold Sh.tell2
    cases hc2 : T2.comesIn 1 bar with
    | some s =>
      obtain ⟨c1, c2, c3, _⟩ := Sh.comesIn_some hc2
      rw [R2.wf.wide] at c1
      rw [R2.wf.high] at c2
      have hg := last_cases m2 hc2
      have f4 : lawIsWay rows wish (T2.growth s) = true := way_ok h R2 (w := 0) (by simp) c1 hg
      have h0 : T2.c (rows.length + 0) s = 0 := by
        have := S2 s c1
        have h3 : ¬ T2.c rows.length s < 0 := fun hq => by rw [this.1.mp hq] at c3; cases c3
        rw [Nat.add_zero]
        omega
      have f5 : (lawDot wish (T2.growth s)).1 = 0 := ((way_dot h R2 (w := 0) (by simp) c1).sgn (Int.mul_pos (h.wscale (by simp)).1 hD2)).2.1.mpr h0
      have f6 : 0 < (lawDot second (T2.growth s)).1 := ((way_dot h R2 (w := 1) (by simp) c1).sgn (Int.mul_pos (h.wscale (by simp)).1 hD2)).1.mpr c2
      show (lawList T2.fit wish.length && lawFits rows bounds T2.fit && lawIsBest rows bounds wish T2.fit T2.firstPrices && lawIsWay rows wish (T2.growth s) && (decide ((lawDot wish (T2.growth s)).1 = 0) && decide (0 < (lawDot second (T2.growth s)).1))) = true
      rw [hn, f1, f2, f3, f4, decide_eq_true f5, decide_eq_true f6]; rfl
    | none =>
      have f4 : lawIsNext rows bounds wish second T2.fit T2.others T2.lift = true := next_ok h R2 (by simp) S2 hc2
      show (lawList T2.fit wish.length && lawFits rows bounds T2.fit && lawIsBest rows bounds wish T2.fit T2.firstPrices && lawIsNext rows bounds wish second T2.fit T2.others T2.lift) = true
      rw [hn, f1, f2, f3, f4]; rfl

/-! ### one wish or two: the worth is the same -/
theorem same_c {ws1 ws2 : List (List Fr)} (h1 : InOk n rows bounds ws1) (h2 : InOk n rows bounds ws2) (e : ws1.getD 0 [] = ws2.getD 0 []) {j : Nat} (hj : j ≤ rows.length) (k : Nat) : (mkSheet rows bounds ws1).c j k = (mkSheet rows bounds ws2).c j k := by
  unfold Sh.c
  by_cases hj2 : j < rows.length
  · rw [h1.crow hj2, h2.crow hj2]
  · obtain rfl : j = rows.length + 0 := by omega
    rw [h1.cwish (by have := h1.wl; omega), h2.cwish (by have := h2.wl; omega)]
    unfold wscale
    rw [e]
theorem weak {m : Nat} {A : Nat → Nat → Int} {W X Y : Nat → Int} {D : Int} (hX : ∀ k, k < n → 0 ≤ X k) (hY : ∀ k, k < n → D * W k ≤ sumN m (fun j => A j k * Y j)) : D * sumN n (fun k => W k * X k) ≤ sumN m (fun j => Y j * sumN n (fun k => A j k * X k)) := by
  have e1 : sumN m (fun j => Y j * sumN n (fun k => A j k * X k)) = sumN n (fun k => sumN m (fun j => A j k * Y j) * X k) := by
    rw [show sumN m (fun j => Y j * sumN n (fun k => A j k * X k)) = sumN m (fun j => sumN n (fun k => Y j * (A j k * X k))) from sumN_congr fun j _ => (sumN_mul _ _ _).symm, sumN_swap]
    exact sumN_congr fun k _ => by
      rw [Int.mul_comm, ← sumN_mul]
      exact sumN_congr fun j _ => by grind
  rw [e1, ← sumN_mul]
  refine sumN_le fun k hk => ?_
  have := Int.mul_le_mul_of_nonneg_right (hY k hk) (hX k hk)
  grind
variable {ws1 ws2 : List (List Fr)} {T1 T2 : Sh}
theorem dual (h1 : InOk n rows bounds ws1) (h2 : InOk n rows bounds ws2) (e : ws1.getD 0 [] = ws2.getD 0 []) (R1 : Rc n rows.length (rows.length + ws1.length) (mkSheet rows bounds ws1) T1) (R2 : Rc n rows.length (rows.length + ws2.length) (mkSheet rows bounds ws2) T2)
    (hc : ∀ s, s < n → T2.c rows.length s ≤ 0) : T2.bottom * (- T1.c rows.length n) ≤ T1.bottom * (- T2.c rows.length n) ∧ ∀ s, s < n → T1.goesOut s = none → T1.c rows.length s ≤ 0 := by
  have w1 : 0 < ws1.length := by have := h1.wl; omega
  have w2 : 0 < ws2.length := by have := h2.wl; omega
  have D1 : 0 < T1.bottom := R1.inv.pos
  have D2 : 0 < T2.bottom := R2.inv.pos
  generalize hYd : (fun j => - Ph n (rows.length + ws2.length) (mkSheet rows bounds ws2) T2 (rows.length + 0) (n + j)) = Y
  have hYe : ∀ j, Y j = - Ph n (rows.length + ws2.length) (mkSheet rows bounds ws2) T2 (rows.length + 0) (n + j) := fun j => by rw [← hYd]
  have hY0 : ∀ j, j < rows.length → 0 ≤ Y j := fun j hj => by
    have := ph_nonpos h2 R2 (w := 0) (k := n + j) w2 (by omega) hc
    rw [hYe]; omega
  have hsum : ∀ f : Nat → Int, sumN rows.length (fun j => f j * Y j) = - sumN rows.length (fun j => f j * Ph n (rows.length + ws2.length) (mkSheet rows bounds ws2) T2 (rows.length + 0) (n + j)) := fun f => by
    rw [← sumN_neg]; exact sumN_congr fun j _ => by rw [hYe]; grind
  have hYc : ∀ k, k < n → T2.bottom * (mkSheet rows bounds ws1).c (rows.length + 0) k ≤ sumN rows.length (fun j => (mkSheet rows bounds ws1).c j k * Y j) := fun k hk => by
    have p := price_col h2.wfm R2.inv (w := 0) (by omega) hk
    have q := ph_nonpos h2 R2 (w := 0) (k := k) w2 (by omega) hc
    rw [hsum, same_c h1 h2 e (by omega), show sumN rows.length (fun j => (mkSheet rows bounds ws1).c j k * Ph n (rows.length + ws2.length) (mkSheet rows bounds ws2) T2 (rows.length + 0) (n + j)) = sumN rows.length (fun j => (mkSheet rows bounds ws2).c j k * Ph n (rows.length + ws2.length) (mkSheet rows bounds ws2) T2 (rows.length + 0) (n + j)) from sumN_congr fun j hj => by rw [same_c h1 h2 e (by omega)]]
    omega
  constructor
  · have hw := weak (A := (mkSheet rows bounds ws1).c) (W := fun k => (mkSheet rows bounds ws1).c (rows.length + 0) k) (X := Xs (rows.length + ws1.length) T1 n) (fun k hk => xs_nonneg R1.inv (by omega)) hYc
    have hv := fit_row R1.inv (rows.length + 0)
    rw [h1.wish0 w1, xs_wish R1.inv (by omega)] at hv
    have hb : sumN rows.length (fun j => Y j * sumN n (fun k => (mkSheet rows bounds ws1).c j k * Xs (rows.length + ws1.length) T1 n k)) ≤ sumN rows.length (fun j => T1.bottom * ((mkSheet rows bounds ws2).c j n * Y j)) := sumN_le fun j hj => by
      have r := fit_row R1.inv j
      have x := xs_nonneg R1.inv (k := n + j) (by omega)
      rw [same_c h1 h2 e (by omega) n] at r
      have := Int.mul_le_mul_of_nonneg_left (show sumN n (fun k => (mkSheet rows bounds ws1).c j k * Xs (rows.length + ws1.length) T1 n k) ≤ T1.bottom * (mkSheet rows bounds ws2).c j n by omega) (hY0 j hj)
      grind
    have p := price_b h2.wfm R2.inv (w := 0) (by omega)
    rw [h2.wish0 w2] at p
    rw [sumN_mul, hsum] at hb
    have e1 : sumN n (fun k => (mkSheet rows bounds ws1).c (rows.length + 0) k * Xs (rows.length + ws1.length) T1 n k) = - T1.c rows.length n := by
      rw [Nat.add_zero] at hv ⊢
      omega
    rw [e1] at hw
    have e2 : - sumN rows.length (fun j => (mkSheet rows bounds ws2).c j n * Ph n (rows.length + ws2.length) (mkSheet rows bounds ws2) T2 (rows.length + 0) (n + j)) = - T2.c rows.length n := by
      rw [Nat.add_zero] at p ⊢
      omega
    rw [e2] at hb
    exact Int.le_trans hw hb
  · intro s hs hg
    have hg0 : ∀ i, i < rows.length → T1.c i s ≤ 0 := fun i hi => Sh.goesOut_none hg i (by rw [R1.wf.high]; exact hi)
    have hw := weak (A := (mkSheet rows bounds ws1).c) (W := fun k => (mkSheet rows bounds ws1).c (rows.length + 0) k) (X := Wy (rows.length + ws1.length) T1 s) (fun k hk => way_nonneg R1.inv hs hg0 hk) hYc
    have hv := way_row R1.inv hs (rows.length + 0)
    have hac : T1.ac s < n + rows.length := R1.inv.acl s hs
    rw [xs_wish R1.inv (by omega), if_neg (by omega)] at hv
    rw [hv] at hw
    have hb : 0 ≤ sumN rows.length (fun j => - (Y j * sumN n (fun k => (mkSheet rows bounds ws1).c j k * Wy (rows.length + ws1.length) T1 s k))) := sumN_nonneg fun j hj => by
      have r := way_row R1.inv hs j
      have x := xs_nonpos R1.inv (s := s) (k := n + j) (by omega) hg0
      have z : sumN n (fun k => (mkSheet rows bounds ws1).c j k * Wy (rows.length + ws1.length) T1 s k) ≤ 0 := by
        rw [r]; split <;> omega
      have := Int.mul_nonneg (hY0 j hj) (show 0 ≤ - sumN n (fun k => (mkSheet rows bounds ws1).c j k * Wy (rows.length + ws1.length) T1 s k) by omega)
      rw [Int.mul_neg] at this
      exact this
    rw [sumN_neg] at hb
    apply Classical.byContradiction
    intro hn
    rw [Nat.add_zero] at hw
    have := Int.mul_pos D2 (show 0 < T1.c rows.length s - 0 by omega)
    omega
theorem same_worth {wish second : List Fr} (h1 : InOk n rows bounds [wish]) (h2 : InOk n rows bounds [wish, second]) :
    (solveM rows bounds wish).isE = (solveNext rows bounds wish second).isE ∧ ((solveNext rows bounds wish second).isE = false → (lawLess (lawDot wish (solveM rows bounds wish).fit) (lawDot wish (solveNext rows bounds wish second).fit)).1 = 0) := by
  obtain ⟨R1, m1, _, _⟩ := h1.rc0.last (w := 0) (bar := noBar) h1 (by simp)
  obtain ⟨R2, m2, _, _⟩ := h2.rc0.last (w := 0) (bar := noBar) h2 (by simp)
  unfold solveM solveNext
  generalize (mkSheet rows bounds [wish]).last 0 noBar = A at *
  generalize (mkSheet rows bounds [wish, second]).last 0 noBar = B at *
  have neg : ∀ {ws : List (List Fr)} {T : Sh}, Rc n rows.length (rows.length + ws.length) (mkSheet rows bounds ws) T → T.comesIn 0 noBar = none → ∀ s, s < n → T.c rows.length s ≤ 0 := fun {ws T} R hc s hs => by
    have h1 : ¬ 0 < T.c (T.high + 0) s := fun h0 => by
      have := Sh.comesIn_none hc s (by rw [R.wf.wide]; exact hs) h0
      simp [noBar] at this
    rw [R.wf.high] at h1
    rw [Nat.add_zero] at h1
    omega
  unfold Sh.tellA Sh.tell1
  cases hb : B.comesIn 0 noBar with
  | some s =>
    obtain ⟨c1, c2, _⟩ := Sh.comesIn_some hb
    rw [R2.wf.wide] at c1
    rw [R2.wf.high, Nat.add_zero] at c2
    cases ha : A.comesIn 0 noBar with
    | some t => exact ⟨rfl, fun h => by cases h⟩
    | none =>
      have := (dual h2 h1 rfl R2 R1 (neg R1 ha)).2 s c1 (last_cases m2 hb)
      omega
  | none =>
    have nb := neg R2 hb
    have S1 : Sg n rows.length B B.barOf := fun t ht => by
      refine ⟨?_, nb t ht⟩
      unfold Sh.barOf
      rw [R2.wf.high]
      simp
    obtain ⟨R3, m3, sg, _⟩ := R2.last (w := 1) (bar := B.barOf) h2 (by simp)
    have S3 := sg S1
    have n3 : ∀ s, s < n → (B.last 1 B.barOf).c rows.length s ≤ 0 := fun s hs => (S3 s hs).2
    have hfit : ((B.last 1 B.barOf).tell2 B.barOf).fit = (B.last 1 B.barOf).fit := by
      unfold Sh.tell2
      cases (B.last 1 B.barOf).comesIn 1 B.barOf <;> rfl
    have hisE : ((B.last 1 B.barOf).tell2 B.barOf).isE = false := by
      unfold Sh.tell2
      cases (B.last 1 B.barOf).comesIn 1 B.barOf <;> rfl
    cases ha : A.comesIn 0 noBar with
    | some s =>
      obtain ⟨c1, c2, _⟩ := Sh.comesIn_some ha
      rw [R1.wf.wide] at c1
      rw [R1.wf.high, Nat.add_zero] at c2
      have := (dual h1 h2 rfl R1 R2 nb).2 s c1 (last_cases m1 ha)
      omega
    | none =>
      refine ⟨hisE.symm, fun _ => ?_⟩
      show (lawLess (lawDot wish A.fit) (lawDot wish ((B.last 1 B.barOf).tell2 B.barOf).fit)).1 = 0
      rw [hfit]
      generalize B.last 1 B.barOf = C at *
      have i1 : Is (lawDot wish A.fit) (- A.c (rows.length + 0) n) (wscale [wish] 0 * A.bottom) := wish_dot h1 R1 (w := 0) (by simp)
      have i2 : Is (lawDot wish C.fit) (- C.c (rows.length + 0) n) (wscale [wish, second] 0 * C.bottom) := wish_dot h2 R3 (w := 0) (by simp)
      have s0 := (h1.wscale (w := 0) (by simp)).1
      have se : wscale [wish, second] 0 = wscale [wish] 0 := rfl
      rw [se] at i2
      have DA : 0 < A.bottom := R1.inv.pos
      have DC : 0 < C.bottom := R3.inv.pos
      have i3 := (i1.less i2).sgn (Int.mul_pos (Int.mul_pos s0 DA) (Int.mul_pos s0 DC))
      rw [i3.2.1]
      have d1 := (dual h1 h2 rfl R1 R3 n3).1
      have d2 := (dual h2 h1 rfl R3 R1 (neg R1 ha)).1
      rw [Nat.add_zero]
      have e : C.bottom * (- A.c rows.length n) = A.bottom * (- C.c rows.length n) := by omega
      grind
end
end Hd


/-! text Size -/
set_option Elab.async false
set_option linter.all false
set_option maxHeartbeats 4000000
/-! How great the numbers are. -/
namespace Hd
open PySem
theorem fac_pow_le : ∀ k : Fin 11, fac k.val * (2 ^ 121 : Int) ^ k.val < 2 ^ 1239 := by decide +kernel
theorem sm_of {x F : Int} {k : Nat} (h : -F ≤ x ∧ x ≤ F) (hF : F < 2 ^ k) : Sm k x := by
  unfold Sm
  have e : ((2 ^ k : Nat) : Int) = 2 ^ k := by simp
  omega
theorem sm_of9 {x : Int} (h0 : 0 < x) (h : x ≤ 997 ^ 9) : Sm 90 x := by
  refine sm_of (F := 997 ^ 9) ⟨by omega, h⟩ ?_
  decide
theorem ratio_scale {d x y : Int} (hd : 0 < d) : ratio (d * x) (d * y) = ratio x y := by
  have hg : gcdI (d * x) (d * y) = d * gcdI x y := by
    unfold gcdI
    rw [Int.natAbs_mul, Int.natAbs_mul, Nat.gcd_mul_left]
    have : ((d.natAbs : Nat) : Int) = d := by omega
    rw [Int.natCast_mul, this]
  unfold ratio
  rw [hg, Int.mul_ediv_mul_of_pos _ _ hd, Int.mul_ediv_mul_of_pos _ _ hd]
def BdL (k : Nat) (fs : List Fr) : Prop := ∀ f ∈ fs, Bd k f
theorem bd_01 : Bd 1400 (0, 1) := ⟨Sm.zero, Sm.one (by decide), by decide⟩
theorem bd_11 : Bd 1400 (1, 1) := ⟨Sm.one (by decide), Sm.one (by decide), by decide⟩
section
variable {n : Nat} {rows : List (List Fr)} {bounds : List Fr} {wishes : List (List Fr)} {T : Sh}
variable (h : InOk n rows bounds wishes) (R : Rc n rows.length (rows.length + wishes.length) (mkSheet rows bounds wishes) T)
include h R
theorem rc_le : Sm 1239 T.bottom ∧ ∀ i, i < rows.length + wishes.length → ∀ t, t ≤ n → Sm 1239 (T.c i t) := by
  have hle := R.inv.le (X := 2 ^ 121) (by decide) h.ale h.ble
  have hM : rows.length + wishes.length < 11 := by have := h.hi; have := h.wl; omega
  have hF := fac_pow_le ⟨_, hM⟩
  refine ⟨sm_of ⟨?_, hle.1⟩ hF, fun i hi t ht => sm_of (hle.2 i hi t ht) hF⟩
  have : 0 < T.bottom := R.inv.pos
  have h1 : T.bottom ≤ _ := hle.1
  omega
theorem sc_le {j : Nat} (hj : j < rows.length) : Sm 90 (T.scales.getD j 0) ∧ 0 < T.scales.getD j 0 := by
  rw [R.sc, h.scales hj]
  exact ⟨sm_of9 (h.scale hj).1 (h.scale hj).2.2, (h.scale hj).1⟩
theorem wd_le {w : Nat} (hw : w < wishes.length) : Sm 90 (T.wished.getD w 0) ∧ 0 < T.wished.getD w 0 := by
  rw [wished0 h R hw]
  exact ⟨sm_of9 (h.wscale hw).1 (h.wscale hw).2.2, (h.wscale hw).1⟩
theorem fit_bd : BdL 1400 T.fit := by
  have hl := rc_le h R
  refine scat_all (Q := Bd 1400) (fun f hf => ?_) fun r hr hok => ?_
  · rw [(List.mem_replicate.mp hf).2]; exact bd_01
  · exact Bd.ratio ((hl.2 r (by have := R.wf.high; omega) T.wide (by have := R.wf.wide; omega)).mono (by decide)) (hl.1.mono (by decide)) R.inv.pos
theorem growth_bd {s : Nat} (hs : s < n) : BdL 1400 (T.growth s) := by
  have hl := rc_le h R
  refine scat_all (Q := Bd 1400) (fun f hf => ?_) fun r hr hok => ?_
  · split at hf
    · rcases List.mem_or_eq_of_mem_set hf with hf | hf
      · rw [(List.mem_replicate.mp hf).2]; exact bd_01
      · rw [hf]; exact bd_11
    · rw [(List.mem_replicate.mp hf).2]; exact bd_01
  · refine Bd.ratio ?_ (hl.1.mono (by decide)) R.inv.pos
    have := (hl.2 r (by have := R.wf.high; omega) s (by omega)).neg
    rw [← Int.zero_sub] at this
    exact this.mono (by decide)
theorem prices_bd {gs : List Int} {below : Int} (h0 : 0 < below) (hq : ∀ s j, s < n → j < rows.length → Bd 1400 (ratio (0 - gs.getD s 0 * T.scales.getD j 0) below)) : BdL 1400 (T.prices gs below) := by
  refine scat_all (Q := Bd 1400) (fun f hf => ?_) fun s hs hok => ?_
  · rw [(List.mem_replicate.mp hf).2]; exact bd_01
  · have hs' : s < n := by rw [← R.wf.wide]; exact hs
    have hac : T.ac s < n + rows.length := R.inv.acl s hs'
    have hok' : T.wide ≤ T.ac s := by simpa using hok
    have ew := R.wf.wide
    exact hq s _ hs' (by omega)
theorem neg_sm {k : Nat} {x : Int} (hx : Sm k x) : Sm k (0 - x) := by
  have := hx.neg
  rw [← Int.zero_sub] at this
  exact this
theorem first_bd : BdL 1400 T.firstPrices := by
  have hw : 0 < wishes.length := by have := h.wl; omega
  have hl := rc_le h R
  have hD : 0 < T.bottom := R.inv.pos
  have w0 := wd_le h R hw
  refine prices_bd h R (Int.mul_pos hD w0.2) fun s j hs hj => ?_
  have sj := sc_le h R hj
  refine Bd.ratio ?_ ((hl.1.mul w0.1).mono (by decide)) (Int.mul_pos hD w0.2)
  rw [gains_get h R]
  exact (neg_sm h R ((hl.2 _ (by omega) s (by omega)).mul sj.1)).mono (by decide)
theorem liftF_le (h2 : 1 < wishes.length) : Sm 1239 T.liftF.1 ∧ Sm 1239 T.liftF.2 := by
  have hl := rc_le h R
  obtain ⟨_, _, _, e | ⟨s, hs, hc, e⟩⟩ := liftF_ok h R h2
  · rw [e]; exact ⟨Sm.zero, Sm.one (by decide)⟩
  · rw [e]; exact ⟨hl.2 _ (by omega) s (by omega), neg_sm h R (hl.2 _ (by omega) s (by omega))⟩
theorem others_bd (h2 : 1 < wishes.length) : BdL 1400 T.others := by
  have hl := rc_le h R
  have hD : 0 < T.bottom := R.inv.pos
  have w1 := wd_le h R h2
  obtain ⟨_, hb1, _, hsort⟩ := liftF_ok h R h2
  have lle := liftF_le h R h2
  unfold Sh.others
  refine prices_bd h R (Int.mul_pos (Int.mul_pos hD (by omega)) w1.2) fun s j hs hj => ?_
  have sj := sc_le h R hj
  rw [both_get h R h2 _ hs]
  have hden : Sm 1400 (T.liftF.2 * T.wished.getD 1 0) := (lle.2.mul w1.1).mono (by decide)
  have hdp : 0 < T.liftF.2 * T.wished.getD 1 0 := Int.mul_pos (by omega) w1.2
  obtain e | ⟨t, ht, hc, e⟩ := hsort
  · have e1 : T.liftF.1 = 0 := by rw [e]
    have e2 : T.liftF.2 = 1 := by rw [e]
    rw [e1, e2]
    refine Bd.ratio ?_ ?_ (Int.mul_pos (Int.mul_pos hD (by decide)) w1.2)
    · rw [show T.c (rows.length + 0) s * 0 + T.c (rows.length + 1) s * 1 = T.c (rows.length + 1) s by omega]
      exact (neg_sm h R ((hl.2 _ (by omega) s (by omega)).mul sj.1)).mono (by decide)
    · rw [Int.mul_one]
      exact (hl.1.mul w1.1).mono (by decide)
  · obtain ⟨q, hq, hq1, hq2⟩ := R.inv.quot_le (X := 2 ^ 121) (by decide) h.ale h.ble (r := rows.length + 0) (s := t) (i := rows.length + 1) (t := s) (by omega) (by omega) (by omega) (by omega) (by omega)
    have hM : rows.length + wishes.length < 11 := by have := h.hi; have := h.wl; omega
    have hqs : Sm 1239 q := sm_of ⟨hq1, hq2⟩ (fac_pow_le ⟨_, hM⟩)
    have hq' : T.bottom * q = T.c (rows.length + 1) s * T.c (rows.length + 0) t - T.c (rows.length + 1) t * T.c (rows.length + 0) s := hq
    have e1 : T.c (rows.length + 0) s * T.liftF.1 + T.c (rows.length + 1) s * T.liftF.2 = - (T.bottom * q) := by
      rw [e, hq']
      show T.c (rows.length + 0) s * T.c (rows.length + 1) t + T.c (rows.length + 1) s * (0 - T.c (rows.length + 0) t) = _
      grind
    rw [e1, show 0 - -(T.bottom * q) * T.scales.getD j 0 = T.bottom * (q * T.scales.getD j 0) by grind, show T.bottom * T.liftF.2 * T.wished.getD 1 0 = T.bottom * (T.liftF.2 * T.wished.getD 1 0) by grind, ratio_scale hD]
    exact Bd.ratio ((hqs.mul sj.1).mono (by decide)) hden hdp
theorem lift_bd (h2 : 1 < wishes.length) : Bd 1400 T.lift := by
  have w0 := wd_le h R (w := 0) (by omega)
  have w1 := wd_le h R h2
  have lle := liftF_le h R h2
  obtain ⟨_, hb1, _⟩ := liftF_ok h R h2
  exact Bd.ratio ((lle.1.mul w0.1).mono (by decide)) ((lle.2.mul w1.1).mono (by decide)) (Int.mul_pos (by omega) w1.2)
end
/-- told lists: how long, how great -/
def Res.Fit (r : Res) (high wide : Nat) : Prop := match r with
  | .endless fit way => (fit.length = wide ∧ BdL 1400 fit) ∧ (way.length = wide ∧ BdL 1400 way)
  | .next fit prices way => (fit.length = wide ∧ BdL 1400 fit) ∧ (prices.length = high ∧ BdL 1400 prices) ∧ (way.length = wide ∧ BdL 1400 way)
  | .best fit prices others lift => (fit.length = wide ∧ BdL 1400 fit) ∧ (prices.length = high ∧ BdL 1400 prices) ∧ (others.length = high ∧ BdL 1400 others) ∧ Bd 1400 lift
def Alone.Fit (r : Alone) (high wide : Nat) : Prop := match r with
  | .endless fit way => (fit.length = wide ∧ BdL 1400 fit) ∧ (way.length = wide ∧ BdL 1400 way)
  | .best fit prices => (fit.length = wide ∧ BdL 1400 fit) ∧ (prices.length = high ∧ BdL 1400 prices)
section
variable {n : Nat} {rows : List (List Fr)} {bounds : List Fr}
theorem next_fit {wish second : List Fr} (h : InOk n rows bounds [wish, second]) : (solveNext rows bounds wish second).Fit rows.length n := by
  obtain ⟨R1, m1, _, _⟩ := h.rc0.last (w := 0) (bar := noBar) h (by simp)
  unfold solveNext
  generalize (mkSheet rows bounds [wish, second]).last 0 noBar = T1 at *
  unfold Sh.tell1
  cases hc : T1.comesIn 0 noBar with
  | some s =>
    have c1 := (Sh.comesIn_some hc).1
    rw [R1.wf.wide] at c1
    exact ⟨⟨fit_len h R1, fit_bd h R1⟩, growth_len h R1 s, growth_bd h R1 c1⟩
  | none =>
    obtain ⟨R2, m2, sg, _⟩ := R1.last (w := 1) (bar := T1.barOf) h (by simp)
    show ((T1.last 1 T1.barOf).tell2 T1.barOf).Fit _ _
    generalize T1.last 1 T1.barOf = T2 at *
    unfold Sh.tell2
    cases hc2 : T2.comesIn 1 T1.barOf with
    | some s =>
      have c1 := (Sh.comesIn_some hc2).1
      rw [R2.wf.wide] at c1
      exact ⟨⟨fit_len h R2, fit_bd h R2⟩, ⟨prices_len h R2 _ _, first_bd h R2⟩, growth_len h R2 s, growth_bd h R2 c1⟩
    | none => exact ⟨⟨fit_len h R2, fit_bd h R2⟩, ⟨prices_len h R2 _ _, first_bd h R2⟩, ⟨prices_len h R2 _ _, others_bd h R2 (by simp)⟩, lift_bd h R2 (by simp)⟩
theorem alone_fit {wish : List Fr} (h : InOk n rows bounds [wish]) : (solveM rows bounds wish).Fit rows.length n := by
  obtain ⟨R1, m1, _, _⟩ := h.rc0.last (w := 0) (bar := noBar) h (by simp)
  unfold solveM
  generalize (mkSheet rows bounds [wish]).last 0 noBar = T1 at *
  unfold Sh.tellA
  cases hc : T1.comesIn 0 noBar with
  | some s =>
    have c1 := (Sh.comesIn_some hc).1
    rw [R1.wf.wide] at c1
    exact ⟨⟨fit_len h R1, fit_bd h R1⟩, growth_len h R1 s, growth_bd h R1 c1⟩
  | none => exact ⟨⟨fit_len h R1, fit_bd h R1⟩, prices_len h R1 _ _, first_bd h R1⟩
end
theorem up14 {fs : List Fr} (h : BdL 1400 fs) : ∀ f ∈ fs, Bd 2000 f := fun f hf => (h f hf).mono (by decide)
theorem Res.Fit.ok {r : Res} {high wide : Nat} (h : r.Fit high wide) : r.Ok high wide := by
  cases r with
  | endless fit way => exact ⟨⟨h.1.1, up14 h.1.2⟩, ⟨h.2.1, up14 h.2.2⟩⟩
  | next fit prices way => exact ⟨⟨h.1.1, up14 h.1.2⟩, ⟨h.2.1.1, up14 h.2.1.2⟩, ⟨h.2.2.1, up14 h.2.2.2⟩⟩
  | best fit prices others lift => exact ⟨⟨h.1.1, up14 h.1.2⟩, ⟨h.2.1.1, up14 h.2.1.2⟩, ⟨h.2.2.1.1, up14 h.2.2.1.2⟩, h.2.2.2.mono (by decide)⟩
/-! ### what repr asks -/
structure Shw (d : PyData) (L : Nat) : Prop where
  sh : d.showable = true
  noD : d.hasDict = false
  len : d.shown.length ≤ L
theorem Shw.up {d : PyData} {L L' : Nat} (h : Shw d L) (k : L ≤ L') : Shw d L' := ⟨h.sh, h.noD, Nat.le_trans h.len k⟩
theorem shw_int {i : Int} (h : Sm 1400 i) : Shw (.int i) 1401 := by
  have hlog : i.natAbs.log2 < 1400 := by
    by_cases h0 : i.natAbs = 0
    · rw [h0]; decide
    · exact (Nat.log2_lt h0).mpr h
  refine ⟨?_, rfl, ?_⟩
  · unfold PyData.showable; exact decide_eq_true (by omega)
  · have := int_text_length_le (k := 1400) (by decide) hlog
    show (Str.ofString (toString i)).length ≤ 1401
    rw [ofString_length]; exact this
theorem shw_all {L : Nat} : ∀ {ds : List PyData}, (∀ d ∈ ds, Shw d L) → PyData.showableAll ds = true ∧ PyData.hasDictAll ds = false ∧ ((PyData.shownAll ds).map (·.length)).sum ≤ ds.length * L ∧ (PyData.shownAll ds).length = ds.length
  | [], _ => ⟨by simp [PyData.showableAll], by simp [PyData.hasDictAll], by simp [PyData.shownAll], by simp [PyData.shownAll]⟩
  | d :: ds, h => by
    obtain ⟨h1, h2, h3, h4⟩ := shw_all (ds := ds) fun x hx => h x (by simp [hx])
    have hd := h d (by simp)
    refine ⟨by simp [PyData.showableAll, hd.sh, h1], by simp [PyData.hasDictAll, hd.noD, h2], ?_, by simp [PyData.shownAll, h4]⟩
    have := hd.len
    simp only [PyData.shownAll, List.map_cons, List.sum_cons, List.length_cons]
    rw [Nat.succ_mul]
    omega
theorem shw_list {L n : Nat} {ds : List PyData} (h : ∀ d ∈ ds, Shw d L) (hn : ds.length ≤ n) : Shw (.list ds) (n * (L + 2) + 3) := by
  obtain ⟨h1, h2, h3, h4⟩ := shw_all h
  refine ⟨by simpa [PyData.showable] using h1, by simpa [PyData.hasDict] using h2, ?_⟩
  have h5 := listText_len_le (PyData.shownAll ds)
  have h6 := Nat.mul_le_mul_right (L + 2) hn
  rw [Nat.mul_add] at h6
  simp only [PyData.shown]
  omega
theorem shw_tuple {L n : Nat} {ds : List PyData} (h : ∀ d ∈ ds, Shw d L) (hn : ds.length ≤ n) : Shw (.tuple ds) (n * (L + 2) + 3) := by
  obtain ⟨h1, h2, h3, h4⟩ := shw_all h
  refine ⟨by simpa [PyData.showable] using h1, by simpa [PyData.hasDict] using h2, ?_⟩
  have h5 := tupleText_len_le (PyData.shownAll ds)
  have h6 := Nat.mul_le_mul_right (L + 2) hn
  rw [Nat.mul_add] at h6
  simp only [PyData.shown]
  omega
theorem shw_qD {f : Fr} (h : Bd 1400 f) : Shw (qD f) 2809 := by
  refine (shw_tuple (L := 1401) (n := 2) (fun d hd => ?_) (by simp)).up (by decide)
  rcases List.mem_cons.mp hd with rfl | hd
  · exact shw_int h.top
  · rw [List.mem_singleton.mp hd]; exact shw_int h.bot
theorem shw_qL {fs : List Fr} (h : BdL 1400 fs) (hl : fs.length ≤ 8) : Shw (qL fs) 22491 := by
  refine (shw_list (L := 2809) (n := 8) (fun d hd => ?_) (by simpa using hl)).up (by decide)
  obtain ⟨f, hf, rfl⟩ := List.mem_map.mp hd
  exact shw_qD (h f hf)
theorem shw_str {x : Str} (h : (PyData.shown (.str x)).length ≤ 22491) : Shw (.str x) 22491 := ⟨rfl, rfl, h⟩
theorem Res.Fit.shw {r : Res} {high wide : Nat} (h : r.Fit high wide) (h1 : high ≤ 8) (h2 : wide ≤ 8) : Shw r.dat 200000 := by
  have fin : ∀ ds : List PyData, ds.length ≤ 5 → (∀ d ∈ ds, Shw d 22491) → Shw (.tuple ds) 200000 := fun ds hl hd => (shw_tuple hd hl).up (by decide)
  cases r with
  | endless fit way =>
    obtain ⟨a, b⟩ := h
    refine fin _ (by simp) fun d hd => ?_
    simp only [List.mem_cons, List.not_mem_nil, or_false] at hd
    rcases hd with rfl | rfl | rfl
    · exact shw_str (by decide +kernel)
    · exact shw_qL a.2 (by omega)
    · exact shw_qL b.2 (by omega)
  | next fit prices way =>
    obtain ⟨a, b, c⟩ := h
    refine fin _ (by simp) fun d hd => ?_
    simp only [List.mem_cons, List.not_mem_nil, or_false] at hd
    rcases hd with rfl | rfl | rfl | rfl
    · exact shw_str (by decide +kernel)
    · exact shw_qL a.2 (by omega)
    · exact shw_qL b.2 (by omega)
    · exact shw_qL c.2 (by omega)
  | best fit prices others lift =>
    obtain ⟨a, b, c, e⟩ := h
    refine fin _ (by simp) fun d hd => ?_
    simp only [List.mem_cons, List.not_mem_nil, or_false] at hd
    rcases hd with rfl | rfl | rfl | rfl | rfl
    · exact shw_str (by decide +kernel)
    · exact shw_qL a.2 (by omega)
    · exact shw_qL b.2 (by omega)
    · exact shw_qL c.2 (by omega)
    · exact (shw_qD e).up (by decide)
theorem dat_depth (r : Res) : r.dat.depth ≤ 60 := by
  have q : ∀ fs : List Fr, (qL fs).depth ≤ 2 := fun fs => (lay_qL fs).2
  have qd : ∀ f : Fr, (qD f).depth ≤ 1 := fun f => (lay_qD f).2
  have fin : ∀ ds : List PyData, (∀ d ∈ ds, d.depth ≤ 2) → (PyData.tuple ds).depth ≤ 60 := fun ds hd => by
    have := depth_all hd
    show PyData.depthAll ds + 1 ≤ 60
    omega
  cases r with
  | endless fit way =>
    refine fin _ fun d hd => ?_
    simp only [List.mem_cons, List.not_mem_nil, or_false] at hd
    rcases hd with rfl | rfl | rfl
    · decide
    · exact q _
    · exact q _
  | next fit prices way =>
    refine fin _ fun d hd => ?_
    simp only [List.mem_cons, List.not_mem_nil, or_false] at hd
    rcases hd with rfl | rfl | rfl | rfl
    · decide
    · exact q _
    · exact q _
    · exact q _
  | best fit prices others lift =>
    refine fin _ fun d hd => ?_
    simp only [List.mem_cons, List.not_mem_nil, or_false] at hd
    rcases hd with rfl | rfl | rfl | rfl | rfl
    · decide
    · exact q _
    · exact q _
    · exact q _
    · exact Nat.le_trans (qd _) (by decide)
end Hd


/-! text Rules -/
set_option Elab.async false
set_option linter.all false
set_option maxRecDepth 100000
set_option maxHeartbeats 4000000
/-! Two rules more: a for over zip of three lists; repr of data. -/
namespace Hd
open PySem PySem.Spec PyProof.Rows L2 Evl

/-! ### zip of three lists -/
def Itz3 (K : PySem.W.Frag) (a b c : Addr) : It where
  go := fun i H => ∃ (xs ys zs : List V) (x y z : V), SqL K H a xs ∧ SqL K H b ys ∧ SqL K H c zs ∧ xs[i]? = some x ∧ ys[i]? = some y ∧ zs[i]? = some z
  yld := fun i H v H' => ∃ T x y z, v = .ref T ∧ H T = none ∧ H' = upd H T (.tup [x, y, z]) ∧ (∀ xs, SqL K H a xs → xs[i]? = some x) ∧ (∀ ys, SqL K H b ys → ys[i]? = some y) ∧ ∀ zs, SqL K H c zs → zs[i]? = some z
  stop := fun i H => ∃ xs ys zs : List V, SqL K H a xs ∧ SqL K H b ys ∧ SqL K H c zs ∧ i = min (min xs.length ys.length) zs.length
theorem turn_zip3 {P : Program} {w : World} {K : PySem.W.Frag} {elts : List Expr} {kk : Nat} {tpos : Pos} {a b c z TI TO i1 i2 i3 : Addr} (S : ZipSep3 z TI TO i1 i2 i3 [i1, a] [i2, b] [i3, c]) (h1 : a ≠ i1) (h2 : b ≠ i2) (h3 : c ≠ i3) :
    Turn P w K (.Tuple elts kk tpos) (Itz3 K a b c) [z, TI, TO, i1, i2, i3] z (fun i h => IsZip h z TI TO .none ∧ IsTupOf3 h TI (.ref i1) (.ref i2) (.ref i3) ∧ (∃ x y u, IsTupOf3 h TO x y u) ∧ h.IsListIter i1 a i ∧ h.IsListIter i2 b i ∧ h.IsListIter i3 c i) where
  mem := by simp
  obj := fun i h st d hd => by
    obtain ⟨hz, hTI, ⟨x, y, u, hTO⟩, ⟨o1, e1, _, d1⟩, ⟨o2, e2, _, d2⟩, ⟨o3, e3, _, d3⟩⟩ := st
    have e' : d = z ∨ d = TI ∨ d = TO ∨ d = i1 ∨ d = i2 ∨ d = i3 := by simpa using hd
    rcases e' with q | q | q | q | q | q
    · rw [q]; exact ⟨_, hz, fun v q => nomatch q⟩
    · rw [q]; exact ⟨_, hTI, fun v q => nomatch q⟩
    · rw [q]; exact ⟨_, hTO, fun v q => nomatch q⟩
    · rw [q]; exact ⟨o1, e1, fun v q => by rw [d1] at q; cases q⟩
    · rw [q]; exact ⟨o2, e2, fun v q => by rw [d2] at q; cases q⟩
    · rw [q]; exact ⟨o3, e3, fun v q => by rw [d3] at q; cases q⟩
  keep := fun i h h' st k => by
    obtain ⟨hz, hTI, ⟨x, y, u, hTO⟩, q1, q2, q3⟩ := st
    exact ⟨k z (by simp) _ hz, k TI (by simp) _ hTI, ⟨x, y, u, k TO (by simp) _ hTO⟩, q1.at fun o q => k i1 (by simp) o q, q2.at fun o q => k i2 (by simp) o q, q3.at fun o q => k i3 (by simp) o q⟩
  item := by
    intro X hP hw hK hc i pins s σ H E I hf st hg
    subst hP hw hK
    obtain ⟨hz, hTI, hTO, q1, q2, q3⟩ := st
    obtain ⟨xs, ys, zs, x, y, u, hqx, hqy, hqz, hx, hy, hu⟩ := hg
    obtain ⟨it1, r1, p1, _⟩ := I.list hqx
    obtain ⟨it2, r2, p2, _⟩ := I.list hqy
    obtain ⟨it3, r3, p3, _⟩ := I.list hqz
    have hh := I.ok.hd hc
    have l1 := r1.length
    have l2 := r2.length
    have l3 := r3.length
    have b1 := (List.getElem?_eq_some_iff.mp hx).1
    have b2 := (List.getElem?_eq_some_iff.mp hy).1
    have b3 := (List.getElem?_eq_some_iff.mp hu).1
    have W := GoesN.zip3 (elts := elts) (x1 := kk) (pos := tpos) S (Draws.list (prog := X.prog) (w := X.w) (A := X.A.in1) hh i1 a h1 it1.toArray) (Draws.list (prog := X.prog) (w := X.w) (A := X.A.in1) hh i2 b h2 it2.toArray) (Draws.list (prog := X.prog) (w := X.w) (A := X.A.in1) hh i3 c h3 it3.toArray)
    refine W.goes i s _ E (by simp only [List.size_toArray]; omega) ⟨hz, hTI, hTO, ⟨q1, p1.isList⟩, ⟨q2, p2.isList⟩, ⟨q3, p3.isList⟩⟩ fun v h' tk hY hst hk htk => ?_
    obtain ⟨T, v1, v2, v3, rfl, hT, g1, g2, g3, ht⟩ := hY
    obtain ⟨y1, f1, r1'⟩ := r1.get hx
    obtain ⟨y2, f2, r2'⟩ := r2.get hy
    obtain ⟨y3, f3, r3'⟩ := r3.get hu
    have k1 : y1 = v1 := by simpa [f1] using g1
    have k2 : y2 = v2 := by simpa [f2] using g2
    have k3 : y3 = v3 := by simpa [f3] using g3
    subst k1 k2 k3
    have new : ObjOk X.prog X.w (upd H T (.tup [x, y, u])) h' T (.tup [x, y, u]) :=
      ⟨by show 3 ≤ sizeLine; decide, [y1, y2, y3], .cons r1' (.cons r2' (.cons r3' .nil)), ht⟩
    have I1 : L2.Inv X pins σ (upd H T (.tup [x, y, u])) { s with heap := h', toks := tk } :=
      I.turnedNew (ch := [z, TI, TO, i1, i2, i3]) (fun d o hd q => hk d o (fun m => hd (by
        have m' : d = z ∨ d = TO ∨ d = i1 ∨ d = i2 ∨ d = i3 := by simpa using m
        rcases m' with q | q | q | q | q <;> simp [q])) q) hf hT new
    have hTn : H T = none := I.hok.fresh hT
    refine ⟨.ref T, _, I1, rfl, ⟨T, x, y, u, rfl, hTn, rfl, fun l hl => by rw [I.list_inj hl hqx]; exact hx, fun l hl => by rw [I.list_inj hl hqy]; exact hy, fun l hl => by rw [I.list_inj hl hqz]; exact hu⟩, ?_, fun d hd => ?_⟩
    · obtain ⟨a1, a2, a3, a4, a5, a6⟩ := hst
      exact ⟨a1, a2, a3, a4.1, a5.1, a6.1⟩
    · have hdl : d < s.heap.objs.size := by
        have e' : d = z ∨ d = TI ∨ d = TO ∨ d = i1 ∨ d = i2 ∨ d = i3 := by simpa using hd
        obtain ⟨_, _, _, hTO⟩ := hTO
        rcases e' with q | q | q | q | q | q
        · rw [q]; exact Heap.lt_size hz
        · rw [q]; exact Heap.lt_size hTI
        · rw [q]; exact Heap.lt_size hTO
        · rw [q]; obtain ⟨_, e1, _⟩ := q1; exact Heap.lt_size e1
        · rw [q]; obtain ⟨_, e1, _⟩ := q2; exact Heap.lt_size e1
        · rw [q]; obtain ⟨_, e1, _⟩ := q3; exact Heap.lt_size e1
      rw [upd_ne (Nat.ne_of_lt (Nat.lt_of_lt_of_le hdl hT))]
      exact (hf d hd).1
  done := by
    intro X hP hw hK hc i pins s σ H E I hf st hg
    subst hP hw hK
    obtain ⟨hz, hTI, hTO, q1, q2, q3⟩ := st
    obtain ⟨xs, ys, zs, hqx, hqy, hqz, hi⟩ := hg
    obtain ⟨it1, r1, p1, _⟩ := I.list hqx
    obtain ⟨it2, r2, p2, _⟩ := I.list hqy
    obtain ⟨it3, r3, p3, _⟩ := I.list hqz
    have hh := I.ok.hd hc
    have l1 := r1.length
    have l2 := r2.length
    have l3 := r3.length
    have W := GoesN.zip3 (elts := elts) (x1 := kk) (pos := tpos) S (Draws.list (prog := X.prog) (w := X.w) (A := X.A.in1) hh i1 a h1 it1.toArray) (Draws.list (prog := X.prog) (w := X.w) (A := X.A.in1) hh i2 b h2 it2.toArray) (Draws.list (prog := X.prog) (w := X.w) (A := X.A.in1) hh i3 c h3 it3.toArray)
    have en : min (min it1.toArray.size it2.toArray.size) it3.toArray.size = i := by
      simp only [List.size_toArray]; rw [hi]; omega
    refine W.stops s (fun s1 => L2.Inv X pins σ H s1) E (by rw [en]; exact ⟨hz, hTI, hTO, ⟨q1, p1.isList⟩, ⟨q2, p2.isList⟩, ⟨q3, p3.isList⟩⟩) fun h' tk hk _ => ?_
    exact I.turnedL (ch := [z, TI, TO, i1, i2, i3]) (fun d o hd q => hk d o (fun m => hd (by
        have m' : d = z ∨ d = TO ∨ d = i1 ∨ d = i2 ∨ d = i3 := by simpa using m
        rcases m' with q | q | q | q | q <;> simp [q])) q) hf
  self := fun A i s Q E st h => wpAny_pyIter_zip st.1 h
def iZip3 (K : PySem.W.Frag) (ta : TA) : TI := fun σ H R => ta σ H fun vs H1 => ∃ a b c xs ys zs, vs = [.ref a, .ref b, .ref c] ∧ SqL K H1 a xs ∧ SqL K H1 b ys ∧ SqL K H1 c zs ∧ R (Itz3 K a b c) H1
theorem pi_zip3 {X : Cx} {e e2 e3 : Expr} {ta : TA} {p pos tpos : Pos} {elts : List Expr} {kk : Nat} (hg : Gl X "zip") (hm : X.mg "zip" = none) (ha : PA X [e, e2, e3] ta)
    (hs : starEach [e, e2, e3] X.env = (false, eval e X.env) :: starEach [e2, e3] X.env := by rfl) (hpl : (backTo pos (starEach [e2, e3] X.env)).any (·.1) = false := by rfl) :
    PI X (.Tuple elts kk tpos) (.Call (.Name "zip" p) [e, e2, e3] [] pos) (iZip3 X.K ta) := by
  refine ⟨fun pins s σ H R I h => ?_⟩
  refine Call_ (ld_blt I hg hm PyProof.Rows.boot_zip (PyProof.Rows.callWith_type1 (thn (ha.run pos pins s σ H _ I h) fun us s1 ⟨vs, H1, I1, r1, q1⟩ => ?_) hs hpl))
  obtain ⟨a, b, c, xs, ys, zs, ex, hqx, hqy, hqz, q⟩ := q1
  subst ex
  cases r1 with
  | cons r rr =>
    cases rr with
    | cons r' rr =>
      cases rr with
      | cons r'' rr =>
        cases rr
        cases r
        cases r'
        cases r''
        obtain ⟨it1, rv1, p1, _⟩ := I1.list hqx
        obtain ⟨it2, rv2, p2, _⟩ := I1.list hqy
        obtain ⟨it3, rv3, p3, _⟩ := I1.list hqz
        have la : a < s1.heap.objs.size := p1.lt
        have lb : b < s1.heap.objs.size := p2.lt
        have lc : c < s1.heap.objs.size := p3.lt
        refine zip_begins3 (begins_list a it1.toArray) (begins_list b it2.toArray) (begins_list c it3.toArray) p1.isList p2.isList p3.isList fun h' hz hTI hTO g1 g2 g3 hsz hk => wpAny_pyIter_zip hz ?_
        have I2 : L2.Inv X pins σ H1 { s1 with heap := h' } := I1.kept (t' := s1.toks) hk
        have S := zip_sep3 (N := s1.heap.objs.size) (fp1 := [a]) (fp2 := [b]) (fp3 := [c]) (by simpa using la) (by simpa using lb) (by simpa using lc)
        refine ⟨s1.heap.objs.size + 5, [s1.heap.objs.size + 5, s1.heap.objs.size + 3, s1.heap.objs.size + 4, s1.heap.objs.size, s1.heap.objs.size + 1, s1.heap.objs.size + 2], _, _, H1, rfl, I2, turn_zip3 S (Nat.ne_of_lt la) (Nat.ne_of_lt (Nat.lt_succ_of_lt lb)) (Nat.ne_of_lt (Nat.lt_add_right 2 lc)), ⟨hz, hTI, ⟨_, _, _, hTO⟩, ⟨_, g1, rfl, rfl⟩, ⟨_, g2, rfl, rfl⟩, ⟨_, g3, rfl, rfl⟩⟩, fun d hd => ?_, q⟩
        have hle : s1.heap.objs.size ≤ d := by
          have e' : d = s1.heap.objs.size + 5 ∨ d = s1.heap.objs.size + 3 ∨ d = s1.heap.objs.size + 4 ∨ d = s1.heap.objs.size ∨ d = s1.heap.objs.size + 1 ∨ d = s1.heap.objs.size + 2 := by simpa using hd
          rcases e' with z | z | z | z | z | z
          · rw [z]; exact Nat.le_add_right _ _
          · rw [z]; exact Nat.le_add_right _ _
          · rw [z]; exact Nat.le_add_right _ _
          · rw [z]; exact Nat.le_refl _
          · rw [z]; exact Nat.le_add_right _ _
          · rw [z]; exact Nat.le_add_right _ _
        exact I1.fpOk hle (I1.hok.fresh hle)
def YTri (xs ys zs : Nat → Option V) : Nat → Hp → V → Hp → Prop := fun i H v H' => ∃ T x y z, v = .ref T ∧ H T = none ∧ H' = upd H T (.tup [x, y, z]) ∧ xs i = some x ∧ ys i = some y ∧ zs i = some z
theorem walk_zip3 {K : PySem.W.Frag} {a b c : Addr} {xs ys zs : List V} {n : Nat} (h1 : xs.length = n) (h2 : ys.length = n) (h3 : zs.length = n) : Walk (Itz3 K a b c) n (fun H => SqL K H a xs ∧ SqL K H b ys ∧ SqL K H c zs) (YTri (fun i => xs[i]?) (fun i => ys[i]?) (fun i => zs[i]?)) := by
  refine ⟨fun i _ hi q => ?_, fun _ q => ⟨xs, ys, zs, q.1, q.2.1, q.2.2, by omega⟩, fun i H v H' _ q y => ?_⟩
  · exact ⟨xs, ys, zs, xs[i]'(by omega), ys[i]'(by omega), zs[i]'(by omega), q.1, q.2.1, q.2.2, List.getElem?_eq_getElem _, List.getElem?_eq_getElem _, List.getElem?_eq_getElem _⟩
  · obtain ⟨T, x, y, z, g1, g2, g3, g4, g5, g6⟩ := y
    exact ⟨T, x, y, z, g1, g2, g3, g4 xs q.1, g5 ys q.2.1, g6 zs q.2.2⟩

/-! ### repr of data -/
def rReprD (K : PySem.W.Frag) : List V → Hp → VK → Prop := fun xs H Q => ∃ a d, xs = [.ref a] ∧ Dp K H (.ref a) d ∧ d.showable = true ∧ d.hasDict = false ∧ d.depth ≤ 60 ∧ d.shown.length ≤ sizeLine ∧ Q (.str d.shown) H
theorem call_reprD {X : Cx} (hg : X.A.guards = some []) (hu : X.A.units + 64 < cLine) : CallR X (.builtin "repr") (rReprD X.K) := by
  intro pins s σ H xs us Q I r h
  obtain ⟨a, d, rfl, hd, h1, h2, h3, h4, q⟩ := h
  obtain ⟨u, rfl, rx⟩ := vals1 r
  obtain ⟨as, hr⟩ := Dp.reads I d _ _ hd rx
  cases rx
  refine repr_of_reads' hr h1 (fun e => by rw [h2] at e; cases e) hg (by omega) (fun _ _ e => e) (fun h' u tk hk => ?_) h4
  exact ⟨.str d.shown, H, I.kept hk, ⟨_, rfl⟩, q⟩
end Hd


/-! text S0 -/
set_option Elab.async false
set_option linter.all false
set_option maxRecDepth 100000
set_option maxHeartbeats 4000000
/-! The sheet in the heap. -/
namespace Hd
open PySem PySem.Spec PyProof.Rows L2 Evl
def flds (w h : Int) (sc wd ce : V) (b : Int) (ac dn : V) : List (Str × V) := [("wide", .int w), ("high", .int h), ("scales", sc), ("wished", wd), ("cells", ce), ("bottom", .int b), ("across", ac), ("down", dn)]
def natsL (ns : List Nat) : PyData := zL (ns.map fun (k : Nat) => (k : Int))
def rowsZ (rows : List (List Int)) : PyData := .list (rows.map zL)
/-- the sheet stands at p -/
structure Sht (C : Addr) (H : Hp) (p : Addr) (T : Sh) : Prop where
  ex : ∃ dx sc wd ce ac dn, H p = some (.ins C dx (flds T.wide T.high sc wd ce T.bottom ac dn)) ∧ Dq H sc (zL T.scales) ∧ Dq H wd (zL T.wished) ∧ Dq H ce (rowsZ T.cells) ∧ Dq H ac (natsL T.across) ∧ Dq H dn (natsL T.down)
/-- a field of the thing at p -/
def Fld (C : Addr) (H : Hp) (p : Addr) (x : Str) (d : PyData) : Prop := ∃ dx fs v, H p = some (.ins C dx fs) ∧ fs.lookup x = some v ∧ Dq H v d
section
variable {P : Program} {w : World} {K : PySem.W.Frag} {mg : Str → Option Value} {base : Heap} {C : Addr} {t8 : Tok} {f : Addr} {fd : FuncData} {p : Addr} {T T' : Sh}
variable {σ : L2.St} {H H' H0 : Hp} {ta tb te tl : TE} {t : TT} {tu tz : TS} {D : Ends} {g : Fr} {fs gs : List Fr} {ds rs : List PyData} {d : PyData} {x mm : Str}
theorem Sht.m (S : Sht C H p T) (e : Ex H H') : Sht C H' p T := by
  obtain ⟨dx, sc, wd, ce, ac, dn, h1, h2, h3, h4, h5, h6⟩ := S.ex
  exact ⟨dx, sc, wd, ce, ac, dn, e _ _ h1, h2.m e, h3.m e, h4.m e, h5.m e, h6.m e⟩
theorem Fld.m (S : Fld C H p x d) (e : Ex H H') : Fld C H' p x d := by
  obtain ⟨dx, fs, v, h1, h2, h3⟩ := S
  exact ⟨dx, fs, v, e _ _ h1, h2, h3.m e⟩
theorem Sht.fWide (S : Sht C H p T) : Fld C H p "wide" (.int T.wide) := by
  obtain ⟨dx, sc, wd, ce, ac, dn, h1, _⟩ := S.ex
  exact ⟨dx, _, _, h1, rfl, .int _⟩
theorem Sht.fHigh (S : Sht C H p T) : Fld C H p "high" (.int T.high) := by
  obtain ⟨dx, sc, wd, ce, ac, dn, h1, _⟩ := S.ex
  exact ⟨dx, _, _, h1, rfl, .int _⟩
theorem Sht.fBottom (S : Sht C H p T) : Fld C H p "bottom" (.int T.bottom) := by
  obtain ⟨dx, sc, wd, ce, ac, dn, h1, _⟩ := S.ex
  exact ⟨dx, _, _, h1, rfl, .int _⟩
theorem Sht.fScales (S : Sht C H p T) : Fld C H p "scales" (zL T.scales) := by
  obtain ⟨dx, sc, wd, ce, ac, dn, h1, h2, h3, h4, h5, h6⟩ := S.ex
  exact ⟨dx, _, _, h1, rfl, h2⟩
theorem Sht.fWished (S : Sht C H p T) : Fld C H p "wished" (zL T.wished) := by
  obtain ⟨dx, sc, wd, ce, ac, dn, h1, h2, h3, h4, h5, h6⟩ := S.ex
  exact ⟨dx, _, _, h1, rfl, h3⟩
theorem Sht.fCells (S : Sht C H p T) : Fld C H p "cells" (rowsZ T.cells) := by
  obtain ⟨dx, sc, wd, ce, ac, dn, h1, h2, h3, h4, h5, h6⟩ := S.ex
  exact ⟨dx, _, _, h1, rfl, h4⟩
theorem Sht.fAcross (S : Sht C H p T) : Fld C H p "across" (natsL T.across) := by
  obtain ⟨dx, sc, wd, ce, ac, dn, h1, h2, h3, h4, h5, h6⟩ := S.ex
  exact ⟨dx, _, _, h1, rfl, h5⟩
theorem Sht.fDown (S : Sht C H p T) : Fld C H p "down" (natsL T.down) := by
  obtain ⟨dx, sc, wd, ce, ac, dn, h1, h2, h3, h4, h5, h6⟩ := S.ex
  exact ⟨dx, _, _, h1, rfl, h6⟩
theorem ed_fld (c : Cls K C) (n : NoAttr K C x) {i : Nat} (h : σ[i]? = some (some (.ref p))) (S : Fld C H p x d) : EvD (tFld K (tVar i) x) σ H d := fun H1 e1 Q q => by
  obtain ⟨dx, fs, v, h1, h2, h3⟩ := S
  exact ⟨.ref p, h, p, C, dx, fs, v, rfl, e1 _ _ h1, c, n, h2, q v H1 (Ex.refl H1) (h3.m e1)⟩
/-- methods that read the sheet: a promise over data; a new list handed back -/
def spM (C : Addr) (pre : Sh → List PyData → PyData → Prop) : Sp := fun vs H Q _ => ∃ p T us ds r, vs = .ref p :: us ∧ Sht C H p T ∧ DqAll H us ds ∧ pre T ds r ∧ ∀ v H', Ex H H' → Dq H' v r → Q v H'
def spMN (C : Addr) (pre : Sh → List PyData → List PyData → Prop) : Sp := fun vs H Q _ => ∃ p T us ds rs, vs = .ref p :: us ∧ Sht C H p T ∧ DqAll H us ds ∧ pre T ds rs ∧ ∀ v H', Ex H H' → NewL H rs v H' → Q v H'
theorem noMeth (S : Sht C H p T) (hm : ∀ a b sc wd ce c ac dn, (flds a b sc wd ce c ac dn).lookup mm = none) : ∃ dx fs, H p = some (.ins C dx fs) ∧ fs.lookup mm = none := by
  obtain ⟨dx, sc, wd, ce, ac, dn, h1, _⟩ := S.ex
  exact ⟨dx, _, h1, hm _ _ _ _ _ _ _ _⟩
theorem ed_meth {pre : Sh → List PyData → PyData → Prop} {E : XK} {ta : TA} {i : Nat} (h : σ[i]? = some (some (.ref p))) (S : Sht C H p T) (ha : EaD ta σ H ds) (hp : pre T ds d) (hm : ∀ a b sc wd ce c ac dn, (flds a b sc wd ce c ac dn).lookup mm = none := by intros; rfl) :
    EvD (tMeth C mm (spM C pre) [] E (tVar i) ta) σ H d := fun H1 e1 _ q => by
  obtain ⟨dx, fs, h1, h2⟩ := noMeth S hm
  exact ⟨.ref p, h, p, dx, fs, rfl, e1 _ _ h1, h2, ha H1 e1 _ fun vs H2 e2 ps => ⟨p, T, vs, ds, d, by rw [List.append_nil], S.m (e1.trans e2), ps, hp, fun v H3 e3 hd => q v H3 (e2.trans e3) hd⟩⟩
theorem en_meth {pre : Sh → List PyData → List PyData → Prop} {E : XK} {ta : TA} {i : Nat} (h : σ[i]? = some (some (.ref p))) (S : Sht C H p T) (ha : EaD ta σ H ds) (hp : pre T ds rs) (hm : ∀ a b sc wd ce c ac dn, (flds a b sc wd ce c ac dn).lookup mm = none := by intros; rfl) :
    EvN (tMeth C mm (spMN C pre) [] E (tVar i) ta) σ H rs := fun H1 e1 _ q => by
  obtain ⟨dx, fs, h1, h2⟩ := noMeth S hm
  exact ⟨.ref p, h, p, dx, fs, rfl, e1 _ _ h1, h2, ha H1 e1 _ fun vs H2 e2 ps => ⟨p, T, vs, ds, rs, by rw [List.append_nil], S.m (e1.trans e2), ps, hp, fun v H3 e3 hd => q v H3 (e2.trans e3) (hd.back (e1.trans e2))⟩⟩
/-! places of rows of numbers -/
theorem ixZ {ns : List Int} {k : Nat} (h : k < ns.length) : (ns.map PyData.int)[k]? = some (.int (ns.getD k 0)) := by
  rw [List.getElem?_map, List.getElem?_eq_getElem h, getD_lt h]; rfl
theorem ixRow {rows : List (List Int)} {k : Nat} (h : k < rows.length) : (rows.map zL)[k]? = some (zL (rows.getD k [])) := by
  rw [List.getElem?_map, List.getElem?_eq_getElem h, getD_lt h]; rfl
theorem ixNat {ns : List Nat} {k : Nat} (h : k < ns.length) : ((ns.map fun (k : Nat) => (k : Int)).map PyData.int)[k]? = some (.int ((ns.getD k 0 : Nat) : Int)) := by
  rw [List.getElem?_map, List.getElem?_map, List.getElem?_eq_getElem h, getD_lt h]; rfl
theorem lastZ {ns : List Int} {n : Nat} (h : ns.length = n + 1) : (ns.map PyData.int).getLast? = some (.int (ns.getD n 0)) := by
  rw [List.getLast?_eq_getElem?, List.length_map, h]
  exact ixZ (by omega)
/-! nought or a number -/
def optV : Option Nat → V
  | none => .non
  | some s => .int (s : Int)
def optD : Option Nat → PyData
  | none => .none
  | some s => .int (s : Int)
theorem optV_dq (o : Option Nat) : Dq H (optV o) (optD o) := by cases o <;> constructor
theorem optD_inv {o : Option Nat} {v : V} (h : Dq H v (optD o)) : v = optV o := by cases o <;> cases h <;> rfl
theorem ev_isN {i : Nat} {o : Option Nat} (h : σ[i]? = some (some (optV o))) : Ev (tOp (fun x y H Q => y = .non ∧ Q (.bl (decide (x = .non))) H) (tVar i) (tC .non)) σ H (.bl o.isNone) := fun H1 e1 Q q => ⟨optV o, h, rfl, by
    have : decide (optV o = .non) = o.isNone := by cases o <;> rfl
    rw [this]
    exact q H1 (Ex.refl H1)⟩
theorem ev_notN {i : Nat} {o : Option Nat} (h : σ[i]? = some (some (optV o))) : Ev (tOp (fun x y H Q => y = .non ∧ Q (.bl (!decide (x = .non))) H) (tVar i) (tC .non)) σ H (.bl o.isSome) := fun H1 e1 Q q => ⟨optV o, h, rfl, by
    have : (!decide (optV o = .non)) = o.isSome := by cases o <;> rfl
    rw [this]
    exact q H1 (Ex.refl H1)⟩
end
end Hd


/-! text S1 -/
set_option Elab.async false
set_option linter.all false
set_option maxRecDepth 100000
set_option maxHeartbeats 4000000
namespace Hd
open PySem PySem.Spec PyProof.Rows L2 Evl
section
variable {P : Program} {w : World} {K : PySem.W.Frag} {mg : Str → Option Value} {base : Heap} {C : Addr} {t8 : Tok} {f : Addr} {fd : FuncData} {p : Addr} {T T' : Sh}
variable {σ : L2.St} {H H' H0 : Hp} {ta tb te tl : TE} {t : TT} {tu tz : TS} {D : Ends} {g : Fr} {fs gs : List Fr} {ds rs : List PyData} {d : PyData}
/-- a sheet well made, its numbers not too great -/
structure Gd (n m M : Nat) (T : Sh) : Prop where
  wf : Wf n m M T
  n8 : n ≤ 8
  m8 : m ≤ 8
  pos : 0 < T.bottom
  D : Sm 1239 T.bottom
  c : ∀ i, i < M → ∀ t, t ≤ n → Sm 1239 (T.c i t)
  sc : ∀ j, j < m → Sm 90 (T.scales.getD j 0)
  wd : ∀ j, m + j < M → Sm 90 (T.wished.getD j 0) ∧ 0 < T.wished.getD j 0
  acl : ∀ s, s < n → T.ac s < n + m
  dnl : ∀ i, i < m → T.dn i < n + m
section
variable {n m M : Nat} (TX : Txt K mg C t8) (G : Gd n m M T) (hS : Sht C H p T) (h0 : σ[0]? = some (some (.ref p)))
include TX hS h0
theorem ed_wide : EvD (tFld K (tVar 0) "wide") σ H (.int T.wide) := ed_fld TX.cl TX.n_wide h0 hS.fWide
theorem ed_high : EvD (tFld K (tVar 0) "high") σ H (.int T.high) := ed_fld TX.cl TX.n_high h0 hS.fHigh
theorem ed_bottom : EvD (tFld K (tVar 0) "bottom") σ H (.int T.bottom) := ed_fld TX.cl TX.n_bottom h0 hS.fBottom
theorem ed_cells : EvD (tFld K (tVar 0) "cells") σ H (rowsZ T.cells) := ed_fld TX.cl TX.n_cells h0 hS.fCells
include G
theorem ed_row {i : Nat} (hi : i < M) (h : EvD te σ H (.int (i : Int))) : EvD (tOp (rIxL K) (tFld K (tVar 0) "cells") te) σ H (zL (T.cells.getD i [])) :=
  ed_ixL (ed_cells TX hS h0) h (ixRow (by rw [G.wf.cl]; exact hi))
theorem ed_at {i s : Nat} (hi : i < M) (hs : s ≤ n) (h : EvD te σ H (.int (i : Int))) (h2 : EvD ta σ H (.int (s : Int))) : EvD (tOp (rIxL K) (tOp (rIxL K) (tFld K (tVar 0) "cells") te) ta) σ H (.int (T.c i s)) :=
  ed_ixL (ed_row TX G hS h0 hi h) h2 (ixZ (by rw [G.wf.row_len hi]; omega))
theorem ed_end {i : Nat} (hi : i < M) (h : EvD te σ H (.int (i : Int))) : EvD (tOp (rIxL K) (tOp (rIxL K) (tFld K (tVar 0) "cells") te) (tUn (rU fun i => .int (-i)) (tC (.int 1)))) σ H (.int (T.c i T.wide)) := by
  refine ed_ixLast (ed_row TX G hS h0 hi h) (ed_neg ed_int) ?_
  unfold Sh.c
  rw [G.wf.wide]
  exact lastZ (G.wf.row_len hi)
theorem ed_ac {s : Nat} (hs : s < n) (h : EvD te σ H (.int (s : Int))) : EvD (tOp (rIxL K) (tFld K (tVar 0) "across") te) σ H (.int ((T.ac s : Nat) : Int)) :=
  ed_ixL (ed_fld TX.cl TX.n_across h0 hS.fAcross) h (ixNat (by rw [G.wf.al]; exact hs))
theorem ed_dn {i : Nat} (hi : i < m) (h : EvD te σ H (.int (i : Int))) : EvD (tOp (rIxL K) (tFld K (tVar 0) "down") te) σ H (.int ((T.dn i : Nat) : Int)) :=
  ed_ixL (ed_fld TX.cl TX.n_down h0 hS.fDown) h (ixNat (by rw [G.wf.dl]; exact hi))
theorem ed_scale {j : Nat} (hj : j < m) (h : EvD te σ H (.int (j : Int))) : EvD (tOp (rIxL K) (tFld K (tVar 0) "scales") te) σ H (.int (T.scales.getD j 0)) :=
  ed_ixL (ed_fld TX.cl TX.n_scales h0 hS.fScales) h (ixZ (by rw [G.wf.sl]; exact hj))
theorem ed_wished {j : Nat} (hj : m + j < M) (h : EvD te σ H (.int (j : Int))) : EvD (tOp (rIxL K) (tFld K (tVar 0) "wished") te) σ H (.int (T.wished.getD j 0)) :=
  ed_ixL (ed_fld TX.cl TX.n_wished h0 hS.fWished) h (ixZ (by have := G.wf.wl; omega))
end
def preSooner (T : Sh) (ds : List PyData) (r : PyData) : Prop := ∃ (n m M i o s : Nat), Gd n m M T ∧ i < m ∧ o < m ∧ s < n ∧ ds = [.int i, .int o, .int s] ∧ r = .bool (T.sooner i o s)
theorem nat_lt (a b : Nat) : decide ((a : Int) < (b : Int)) = decide (a < b) := by
  by_cases h : a < b
  · rw [decide_eq_true h, decide_eq_true (by omega)]
  · rw [decide_eq_false h, decide_eq_false (by omega)]
theorem ok_sooner (F : FnP K "sooner" "Sheet.sooner" sSooner f fd) (T : Txt K mg C t8) : FnOk P w K mg base CX0 1 f fd ["self", "r", "other", "s"] (spM C preSooner) := by
  refine F.ok scSooner (fun vs H Q E h => ?_) (fun cdv A outer s H vs Q E hr h => ?_)
  · obtain ⟨p, S, us, ds, r, rfl, _, hd, ⟨_, _, _, _, _, _, _, _, _, _, rfl, _⟩, _⟩ := h
    rw [List.length_cons, hd.length]; rfl
  · obtain ⟨p, S, us, ds, r, rfl, hS, hd, ⟨n, m, M, i, o, s, G, hi, ho, hs, rfl, rfl⟩, k⟩ := h
    obtain rfl := hd.ints_inv (ns := [(i : Int), (o : Int), (s : Int)])
    have mM := G.wf.mM
    have ew := G.wf.wide
    refine ⟨_, PSs.nox (pss_cons (ps_set (i := 4) scSooner.nd rfl (Or.inl rfl) (pe_op op_mulW (pe_ix ix_list (pe_ix ix_list (pe_fld (pv 0) rfl) (pv 1) (fun _ _ => rfl)) (pe_un un_neg pe_int) (fun _ _ => rfl)) (pe_ix ix_list (pe_ix ix_list (pe_fld (pv 0) rfl) (pv 2) (fun _ _ => rfl)) (pv 3) (fun _ _ => rfl))))
      (pss_cons (ps_set (i := 5) scSooner.nd rfl (Or.inl rfl) (pe_op op_mulW (pe_ix ix_list (pe_ix ix_list (pe_fld (pv 0) rfl) (pv 2) (fun _ _ => rfl)) (pe_un un_neg pe_int) (fun _ _ => rfl)) (pe_ix ix_list (pe_ix ix_list (pe_fld (pv 0) rfl) (pv 1) (fun _ _ => rfl)) (pv 3) (fun _ _ => rfl))))
      (pss_one (ps_ret (pe_or (pe_cmpR op_lt (pv 4) (pv 5) (nomark _)) (pe_one (pe_and (pe_cmpR op_eq (pv 4) (pv 5) (nomark _)) (pe_one (pe_cmpR op_lt (pe_ix ix_list (pe_fld (pv 0) rfl) (pv 1) (fun _ _ => rfl)) (pe_ix ix_list (pe_fld (pv 0) rfl) (pv 2) (fun _ _ => rfl)) (nomark _)))))))))), ?_⟩
    have sz : ∀ j, j < m → ∀ t, t ≤ n → Sm 1239 (S.c j t) := fun j hj t ht => G.c j (by omega) t ht
    refine qd_asgI (ed_mul (ed_end T G hS rfl (by omega) (ed_v rfl)) (ed_at T G hS rfl (by omega) (by omega) (ed_v rfl) (ed_v rfl)) (sz i hi _ (by omega)) (sz o ho _ (by omega))) fun H1 e1 => ?_
    refine qd_asgI (ed_mul (ed_end T G (hS.m e1) rfl (by omega) (ed_v rfl)) (ed_at T G (hS.m e1) rfl (by omega) (by omega) (ed_v rfl) (ed_v rfl)) (sz o ho _ (by omega)) (sz i hi _ (by omega))) fun H2 e2 => ?_
    have hS2 := (hS.m e1).m e2
    refine sd_ret (ed_orV (ed_lt (ed_v rfl) (ed_v rfl)) fun _ => ed_andV (ed_eqI (ed_v rfl) (ed_v rfl)) fun _ => ed_lt (ed_dn T G hS2 rfl hi (ed_v rfl)) (ed_dn T G hS2 rfl ho (ed_v rfl))) fun v H3 e3 hv => k v H3 ((e1.trans e2).trans e3) ?_
    unfold Sh.sooner
    rw [nat_lt] at hv
    exact hv

/-! ### goes_out -/
def preGoes (T : Sh) (ds : List PyData) (r : PyData) : Prop := ∃ (n m M s : Nat), Gd n m M T ∧ s < n ∧ ds = [.int s] ∧ r = optD (T.goesOut s)
def optB (f : Nat → Bool) : Option Nat → Bool
  | none => true
  | some b => f b
theorem pick_succ (pp : Nat → Bool) (bt : Nat → Nat → Bool) (i : Nat) : pick pp bt (i + 1) = if pp i && optB (fun b => bt i b) (pick pp bt i) then some i else pick pp bt i := by
  have e : pick pp bt (i + 1) = if pp i && (match pick pp bt i with | none => true | some b => bt i b) then some i else pick pp bt i := by
    unfold pick
    rw [List.range_succ, List.foldl_append]; rfl
  rw [e]
  cases pick pp bt i <;> rfl
theorem ok_goes (F : FnP K "goes_out" "Sheet.goes_out" sGoes f fd) (T : Txt K mg C t8) (MSooner : Met P w K mg base C 1 "sooner" ["self", "r", "other", "s"] (spM C preSooner)) : FnOk P w K mg base CX0 2 f fd ["self", "s"] (spM C preGoes) := by
  refine F.ok scGoes (fun vs H Q E h => ?_) (fun cdv A outer s H vs Q E hr h => ?_)
  · obtain ⟨p, S, us, ds, r, rfl, _, hd, ⟨_, _, _, _, _, _, rfl, _⟩, _⟩ := h
    rw [List.length_cons, hd.length]; rfl
  · obtain ⟨p, S, us, ds, r, rfl, hS, hd, ⟨n, m, M, s, G, hs, rfl, rfl⟩, k⟩ := h
    obtain rfl := hd.ints_inv (ns := [(s : Int)])
    have mM := G.wf.mM
    have ew := G.wf.wide
    have eh := G.wf.high
    have m8 := G.m8
    refine ⟨_, PSs.nox (pss_cons (ps_set (i := 2) scGoes.nd rfl (Or.inl rfl) pe_non)
      (pss_cons (ps_for PassesOwn.never rfl (pi_range1 (by rfl) T.range_ (pa_cons (pe_fld (pv 0) rfl) pa_nil)) (pg_name (i := 3) scGoes.nd rfl (Or.inl rfl) (Or.inl rfl)) (pss_one (ps_if (PW.pt (pw_and (pt_cmpR op_gt (pe_ix ix_list (pe_ix ix_list (pe_fld (pv 0) rfl) (pv 3) (fun _ _ => rfl)) (pv 1) (fun _ _ => rfl)) pe_int (nomark _)) (pw_and1 (PW.pt (pw_or (pt_cmpR op_isN (pv 2) pe_non (nomark _)) (pw_or1 (pt_val (pe_m (pv 0) T.cl MSooner hr (pa_cons (pv 3) (pa_cons (pv 2) (pa_cons (pv 1) pa_nil))))))))))) (pss_one (ps_set (i := 2) scGoes.nd rfl (Or.inl rfl) (pv 3))) pss_nil)))
      (pss_one (ps_ret (pv 2))))), ?_⟩
    refine qd_asg ed_non fun v0 H1 e1 hv0 => ?_
    obtain rfl := optD_inv (o := none) hv0
    have hS1 := hS.m e1
    refine qd_forR (m := S.high) (ea_consD (ed_high T hS1 rfl) ea_nilD) (by omega) fun H2 e2 => ⟨fun i σ' H' => Ex H2 H' ∧ ∃ x, σ' = [some (.ref p), some (.int s), some (optV (pick (fun r => decide (0 < S.c r s)) (fun r o => S.sooner r o s) i)), x], ⟨Ex.refl _, none, rfl⟩, fun i σ' H' hi p' => ?_, fun σ' H' p' => ?_⟩
    · obtain ⟨e3, x, rfl⟩ := p'
      have hS3 := (hS1.m e2).m e3
      have hpk := pick_succ (fun r => decide (0 < S.c r s)) (fun r o => S.sooner r o s) i
      have hok := pick_ok (p := fun r => decide (0 < S.c r s)) (better := fun r o => S.sooner r o s) (fun i hi => by
        cases h : S.sooner i i s
        · rfl
        · rcases Sh.sooner_iff.mp h with h | h <;> omega) (fun i j k hi hj hk h1 h2 => Sh.sooner_iff.mpr (sooner_trans (by simpa using hi) (by simpa using hj) (by simpa using hk) (Sh.sooner_iff.mp h1) (Sh.sooner_iff.mp h2))) i
      generalize pick (fun r => decide (0 < S.c r s)) (fun r o => S.sooner r o s) i = o at *
      have hcell : 0 < S.c i s ↔ decide (0 < S.c i s) = true := by simp
      refine s_when (b := decide (0 < S.c i s) && optB (fun b => S.sooner i b s) o) (et_and (et_D (ed_gt (ed_at T G hS3 rfl (by omega) (by omega) (ed_v rfl) (ed_v rfl)) ed_int)) fun _ => ?_) (fun hb H4 e4 => ?_) (fun hb H4 e4 => ?_)
      · cases o with
        | none => exact et_is (et_or (b := true) (et_test (ev_isN (o := none) rfl)) fun h => by cases h) rfl
        | some b =>
          have hb := (hok.2 b rfl).1
          exact et_or (a := false) (et_test (ev_isN (o := some b) rfl)) fun _ => et_DB (ed_meth rfl hS3 (ea_consD (ed_v rfl) (ea_consD (ed_v rfl) (ea_consD (ed_v rfl) ea_nilD))) ⟨n, m, M, i, b, s, G, by omega, by omega, hs, rfl, rfl⟩)
      · refine sd_asgI (ed_v rfl) fun H5 e5 => ⟨(e3.trans e4).trans e5, some (.int i), ?_⟩
        rw [hpk, if_pos hb]; rfl
      · refine ⟨e3.trans e4, some (.int i), ?_⟩
        rw [hpk, if_neg (by rw [hb]; decide)]; rfl
    · obtain ⟨e3, x, rfl⟩ := p'
      exact sd_ret (ed_var rfl (optV_dq _)) fun v H4 e4 hv => k v H4 (((e1.trans e2).trans e3).trans e4) hv

/-! ### comes_in -/
/-- the numbers barred, as a dict -/
def Bar (H : Hp) (v : V) (n : Nat) (bar : Nat → Bool) : Prop := ∃ a kvs, v = .ref a ∧ H a = some (.dK kvs) ∧ ∀ k : Nat, k < n → (valV kvs (.inl (k : Int))).isSome = bar k
theorem Bar.m {v : V} {n : Nat} {bar : Nat → Bool} (h : Bar H v n bar) (e : Ex H H') : Bar H' v n bar := by
  obtain ⟨a, kvs, h1, h2, h3⟩ := h
  exact ⟨a, kvs, h1, e _ _ h2, h3⟩
def spComes (C : Addr) : Sp := fun vs H Q _ => ∃ p T n m M w bd bar, vs = [.ref p, .int ((w : Nat) : Int), bd] ∧ Gd n m M T ∧ Sht C H p T ∧ m + w < M ∧ Bar H bd n bar ∧ ∀ H', Ex H H' → Q (optV (T.comesIn w bar)) H'
theorem ev_notin {i j : Nat} {v : V} {n s : Nat} {bar : Nat → Bool} (h1 : σ[i]? = some (some (.int (s : Int)))) (h2 : σ[j]? = some (some v)) (hb : Bar H v n bar) (hs : s < n) : Ev (tDNotIn (tVar i) (tVar j)) σ H (.bl (!bar s)) := fun H1 e1 Q q => by
  obtain ⟨a, kvs, rfl, h3, h4⟩ := hb.m e1
  refine ⟨.int s, h1, .ref a, h2, a, _, rfl, .inl ⟨kvs, .inl (s : Int), .inl h3, rfl, rfl⟩, ?_⟩
  rw [h4 s hs]
  exact q H1 (Ex.refl H1)
theorem ok_comes (F : FnP K "comes_in" "Sheet.comes_in" sComes f fd) (T : Txt K mg C t8) : FnOk P w K mg base CX0 1 f fd ["self", "wish", "barred"] (spComes C) := by
  refine F.ok scComes (fun vs H Q E h => ?_) (fun cdv A outer s H vs Q E hr h => ?_)
  · obtain ⟨_, _, _, _, _, _, _, _, rfl, _⟩ := h
    rfl
  · obtain ⟨p, S, n, m, M, w, bd, bar, rfl, G, hS, hw, hB, k⟩ := h
    have hu := hu_of hr
    have mM := G.wf.mM
    have ew := G.wf.wide
    have eh := G.wf.high
    have n8 := G.n8
    refine ⟨_, PSs.nox (pss_cons (ps_set (i := 3) scComes.nd rfl (Or.inl rfl) (pe_ix ix_list (pe_fld (pv 0) rfl) (pe_op op_add (pe_fld (pv 0) rfl) (pv 1)) (fun _ _ => rfl)))
      (pss_cons (ps_set (i := 4) scComes.nd rfl (Or.inl rfl) pe_non)
      (pss_cons (ps_for PassesOwn.never rfl (pi_range1 (by rfl) T.range_ (pa_cons (pe_fld (pv 0) rfl) pa_nil)) (pg_name (i := 5) scComes.nd rfl (Or.inl rfl) (Or.inl rfl)) (pss_one (ps_if (PW.pt (pw_and (pt_cmpR op_gt (pe_ix ix_list (pv 3) (pv 5) (fun _ _ => rfl)) pe_int (nomark _)) (pw_and (pt_cmp (pc_dnotin hu (pv 5) (pv 2))) (pw_and1 (PW.pt (pw_or (pt_cmpR op_isN (pv 4) pe_non (nomark _)) (pw_or1 (pt_cmpR op_lt (pe_ix ix_list (pe_fld (pv 0) rfl) (pv 5) (fun _ _ => rfl)) (pe_ix ix_list (pe_fld (pv 0) rfl) (pv 4) (fun _ _ => rfl)) (nomark _))))))))) (pss_one (ps_set (i := 4) scComes.nd rfl (Or.inl rfl) (pv 5))) pss_nil)))
      (pss_one (ps_ret (pv 4)))))), ?_⟩
    refine qd_asg (ed_row T G hS rfl (i := S.high + w) (by omega) (ed_is (ed_add (ed_high T hS rfl) (ed_v (i := 1) rfl)) (by rw [Int.natCast_add]))) fun gv H1 e1 hg => ?_
    refine qd_asg ed_non fun v0 H2 e2 hv0 => ?_
    obtain rfl := optD_inv (o := none) hv0
    have hS2 := (hS.m e1).m e2
    have hg2 := hg.m e2
    have hB2 := (hB.m e1).m e2
    refine qd_forR (m := S.wide) (ea_consD (ed_wide T hS2 rfl) ea_nilD) (by omega) fun H3 e3 => ⟨fun i σ' H' => Ex H3 H' ∧ ∃ x, σ' = [some (.ref p), some (.int w), some bd, some gv, some (optV (pick (fun s => decide (0 < S.c (S.high + w) s) && !bar s) (fun s b => decide (S.ac s < S.ac b)) i)), x], ⟨Ex.refl _, none, rfl⟩, fun i σ' H' hi p' => ?_, fun σ' H' p' => ?_⟩
    · obtain ⟨e4, x, rfl⟩ := p'
      have hS4 := (hS2.m e3).m e4
      have hB4 := (hB2.m e3).m e4
      have hg4 := (hg2.m e3).m e4
      have hpk := pick_succ (fun s => decide (0 < S.c (S.high + w) s) && !bar s) (fun s b => decide (S.ac s < S.ac b)) i
      have hok := pick_ok (p := fun s => decide (0 < S.c (S.high + w) s) && !bar s) (better := fun s b => decide (S.ac s < S.ac b)) (by simp) (by simp; omega) i
      generalize pick (fun s => decide (0 < S.c (S.high + w) s) && !bar s) (fun s b => decide (S.ac s < S.ac b)) i = o at *
      refine s_when (b := (decide (0 < S.c (S.high + w) i) && !bar i) && optB (fun b => decide (S.ac i < S.ac b)) o) (et_is (et_and (et_D (ed_gt (ed_ixL (ed_var rfl hg4) (ed_v rfl) (ixZ (by rw [G.wf.row_len (by omega)]; omega))) ed_int)) fun _ => et_and (et_B (ev_notin rfl rfl hB4 (by omega))) fun _ => ?_) (by rw [Bool.and_assoc]; rfl)) (fun hb H5 e5 => ?_) (fun hb H5 e5 => ?_)
      · cases o with
        | none => exact et_is (et_or (b := true) (et_test (ev_isN (o := none) rfl)) fun h => by cases h) rfl
        | some b =>
          have hb := (hok.2 b rfl).1
          refine et_is (et_or (a := false) (et_test (ev_isN (o := some b) rfl)) fun _ => et_D (ed_lt (ed_ac T G hS4 rfl (by omega) (ed_v rfl)) (ed_ac T G hS4 rfl (by omega) (ed_v rfl)))) ?_
          rw [nat_lt]; rfl
      · refine sd_asgI (ed_v rfl) fun H6 e6 => ⟨(e4.trans e5).trans e6, some (.int i), ?_⟩
        rw [hpk, if_pos hb]; rfl
      · refine ⟨e4.trans e5, some (.int i), ?_⟩
        rw [hpk, if_neg (by rw [hb]; decide)]; rfl
    · obtain ⟨e4, x, rfl⟩ := p'
      refine sd_ret (ed_var rfl (optV_dq _)) fun v H5 e5 hv => ?_
      obtain rfl := optD_inv hv
      exact k H5 ((((e1.trans e2).trans e3).trans e4).trans e5)
end
end Hd


/-! text S2 -/
set_option Elab.async false
set_option linter.all false
set_option maxRecDepth 100000
set_option maxHeartbeats 4000000
namespace Hd
open PySem PySem.Spec PyProof.Rows L2 Evl
section
variable {P : Program} {w : World} {K : PySem.W.Frag} {mg : Str → Option Value} {base : Heap} {C : Addr} {t8 : Tok} {f : Addr} {fd : FuncData} {p : Addr} {T T' : Sh}
variable {σ : L2.St} {H H' H0 : Hp} {ta tb te tk tl : TE} {t : TT} {tu tz : TS} {D : Ends} {g : Fr} {fs gs : List Fr} {ds rs : List PyData} {d : PyData}
theorem nat_le (a b : Nat) : decide ((a : Int) ≤ (b : Int)) = decide (a ≤ b) := by
  by_cases h : a ≤ b
  · rw [decide_eq_true h, decide_eq_true (by omega)]
  · rw [decide_eq_false h, decide_eq_false (by omega)]
theorem ed_ge {i j : Int} (ha : EvD ta σ H (.int i)) (hb : EvD tb σ H (.int j)) : EvD (tOp (rI0 fun i j => .bl (decide (j ≤ i))) ta tb) σ H (.bool (decide (j ≤ i))) := ed_B0 (g := fun i j => decide (j ≤ i)) ha hb
/-- found[k] = x, found a list that the base does not know -/
theorem sd_setL {Hb : Hp} {l : Addr} {i k : Nat} {xs : List V} (hb : Hb l = none) (e : Ex Hb H) (hl : H l = some (.lst xs)) (hx : DqAll H xs ds) (hf : flatAll ds = true) (hfd : flat d = true) (ht : σ[i]? = some (some (.ref l)))
    (hv : EvD te σ H d) (hk : EvD tk σ H (.int (k : Int))) (hkl : k < ds.length) (c : ∀ H3 xs', Ex Hb H3 → H3 l = some (.lst xs') → DqAll H3 xs' (ds.set k d) → D.nx σ H3) : tAsg te (gSub (tVar i) tk rSetL) D σ H :=
  hv H (Ex.refl H) _ fun v H1 e1 hd => ⟨.ref l, ht, hk H1 e1 _ fun kv H2 e2 hkv => by
    obtain rfl := hkv.int_inv
    have hl2 := (e1.trans e2) _ _ hl
    have hlen := hx.length
    refine ⟨l, xs, (k : Int), k, rfl, rfl, hl2, ?_, c _ _ (Ex.mut ((e.trans e1).trans e2) hb) upd_same ?_⟩
    · unfold ixN
      rw [if_pos (by omega), if_pos (by omega)]
      rfl
    · exact DqAll.set (Dq.flat_upd hl2 d v hfd (hd.m e2)) k (DqAll.flat_upd hl2 ds xs hf (hx.m (e1.trans e2)))⟩
theorem flat_qL (fs : List Fr) : flatAll (fs.map qD) = true := flat_qs fs
theorem set_qD (fs : List Fr) (k : Nat) (f : Fr) : (fs.map qD).set k (qD f) = (fs.set k f).map qD := (List.map_set).symm
variable (CRatio : Cal P w K mg base 2 "ratio" ["top", "bottom"] (spD preRatio))
theorem q_ifSet {Hb : Hp} {l : Addr} {i k : Nat} {xs : List V} {b : Bool} (hb : Hb l = none) (e : Ex Hb H) (hl : H l = some (.lst xs)) (hx : DqAll H xs ds) (hf : flatAll ds = true) (hfd : flat d = true) (ht : σ[i]? = some (some (.ref l)))
    (htt : EvT t σ H b) (hv : b = true → EvD te σ H d) (hk : b = true → EvD tk σ H (.int (k : Int))) (hkl : b = true → k < ds.length) (c : ∀ H3 xs', Ex Hb H3 → H3 l = some (.lst xs') → DqAll H3 xs' (if b then ds.set k d else ds) → tz D σ H3) : tSeq (tIfS t (tAsg te (gSub (tVar i) tk rSetL)) tNext) tz D σ H :=
  q_when htt (fun h H1 e1 => sd_setL (D := { D with nx := tz D }) hb (e.trans e1) (e1 _ _ hl) (hx.m e1) hf hfd ht ((hv h).mono e1) ((hk h).mono e1) (hkl h) fun H3 xs' a1 a2 a3 => c H3 xs' a1 a2 (by rw [if_pos h]; exact a3)) (fun h H1 e1 => c H1 xs (e.trans e1) (e1 _ _ hl) (by rw [if_neg (by rw [h]; decide)]; exact hx.m e1))
/-! ### fit, growth -/
def preFit (T : Sh) (ds rs : List PyData) : Prop := ∃ (n m M : Nat), Gd n m M T ∧ ds = [] ∧ rs = T.fit.map qD
theorem rep_qD (k : Nat) : List.replicate k (qD (0, 1)) = (List.replicate k ((0, 1) : Fr)).map qD := by rw [List.map_replicate]
theorem newl_back {H1 : Hp} {l : Addr} {xs : List V} (e : Ex H H1) (h0 : H l = none) (h1 : H1 l = some (.lst xs)) (hx : DqAll H1 xs rs) : NewL H rs (.ref l) H1 := ⟨l, xs, rfl, h0, h1, hx⟩
theorem sd_retL {l : Addr} {i : Nat} {xs : List V} (ht : σ[i]? = some (some (.ref l))) (h : D.rt (.ref l) H) : tRet (tVar i) D σ H := ⟨.ref l, ht, h⟩
theorem ok_fit (F : FnP K "fit" "Sheet.fit" sFit f fd) (T : Txt K mg C t8) (CRatio : Cal P w K mg base 2 "ratio" ["top", "bottom"] (spD preRatio)) : FnOk P w K mg base CX0 3 f fd ["self"] (spMN C preFit) := by
  refine F.ok scFit (fun vs H Q E h => ?_) (fun cdv A outer s H vs Q E hr h => ?_)
  · obtain ⟨p, S, us, ds, r, rfl, _, hd, ⟨_, _, _, _, rfl, _⟩, _⟩ := h
    rw [List.length_cons, hd.length]; rfl
  · obtain ⟨p, S, us, ds, r, rfl, hS, hd, ⟨n, m, M, G, rfl, rfl⟩, k⟩ := h
    obtain rfl := hd.ints_inv (ns := [])
    have mM := G.wf.mM
    have ew := G.wf.wide
    have eh := G.wf.high
    have n8 := G.n8
    have m8 := G.m8
    refine ⟨_, PSs.nox (pss_cons (ps_set (i := 1) scFit.nd rfl (Or.inl rfl) (pe_op op_rep (pe_lst (pa_cons (pe_tup (pa_cons pe_int (pa_cons pe_int pa_nil))) pa_nil)) (pe_fld (pv 0) rfl)))
      (pss_cons (ps_for PassesOwn.never rfl (pi_range1 (by rfl) T.range_ (pa_cons (pe_fld (pv 0) rfl) pa_nil)) (pg_name (i := 2) scFit.nd rfl (Or.inl rfl) (Or.inl rfl)) (pss_one (ps_if (pt_cmpR op_lt (pe_ix ix_list (pe_fld (pv 0) rfl) (pv 2) (fun _ _ => rfl)) (pe_fld (pv 0) rfl) (nomark _)) (pss_one (ps_asg (pe_c CRatio hr (by rfl) (pa_cons (pe_ix ix_list (pe_ix ix_list (pe_fld (pv 0) rfl) (pv 2) (fun _ _ => rfl)) (pe_un un_neg pe_int) (fun _ _ => rfl)) (pa_cons (pe_fld (pv 0) rfl) pa_nil))) (pg_sub (pv 1) (pe_ix ix_list (pe_fld (pv 0) rfl) (pv 2) (fun _ _ => rfl)) set_list))) pss_nil)))
      (pss_one (ps_ret (pv 1))))), ?_⟩
    refine qd_asg (en_rep (en_lst (ea_consD (ed_pair ed_int ed_int) ea_nilD) (show 1 ≤ 100000 by decide)).ls (ed_wide T hS rfl) (by omega)) fun v H1 e1 hv => ?_
    obtain ⟨l, xs, rfl, hl0, hl1, hlx⟩ := hv
    refine qd_forR (m := S.high) (ea_consD (ed_high T (hS.m e1) rfl) ea_nilD) (by omega) fun H2 e2 => ⟨fun i σ' H' => Ex H H' ∧ ∃ xs x, σ' = [some (.ref p), some (.ref l), x] ∧ H' l = some (.lst xs) ∧ DqAll H' xs ((scat i (fun r => decide (S.dn r < S.wide)) S.dn (fun r => ratio (S.c r S.wide) S.bottom) (List.replicate S.wide (0, 1))).map qD), ⟨e1.trans e2, xs, none, rfl, e2 _ _ hl1, ?_⟩, fun i σ' H' hi p' => ?_, fun σ' H' p' => ?_⟩
    · have := hlx.m e2
      rw [rep_qD] at this
      exact this
    · obtain ⟨e3, xs, x, rfl, h1, h2⟩ := p'
      have hS3 := hS.m e3
      have hsc := scat_succ (n := i) (ok := fun r => decide (S.dn r < S.wide)) (pos := S.dn) (val := fun r => ratio (S.c r S.wide) S.bottom) (init := List.replicate S.wide (0, 1))
      refine s_when (b := decide (S.dn i < S.wide)) (et_D (ed_is (ed_lt (ed_dn T G hS3 rfl (by omega) (ed_v rfl)) (ed_wide T hS3 rfl)) (by rw [nat_lt]))) (fun hb H4 e4 => ?_) (fun hb H4 e4 => ?_)
      · have hb' : S.dn i < S.wide := of_decide_eq_true hb
        rw [if_pos hb, ] at hsc
        have hS4 := hS3.m e4
        refine sd_setL hl0 (e3.trans e4) (e4 _ _ h1) (h2.m e4) (flat_qL _) rfl rfl (ed_call (ea_consD (ed_end T G hS4 rfl (by omega) (ed_v rfl)) (ea_consD (ed_bottom T hS4 rfl) ea_nilD)) ⟨_, _, rfl, G.pos, G.D.mono (by decide), rfl⟩) (ed_dn T G hS4 rfl (by omega) (ed_v rfl)) (by rw [List.length_map, scat_len, List.length_replicate]; exact hb') fun H5 ys e5 g1 g2 => ?_
        refine ⟨e5, ys, some (.int i), rfl, g1, ?_⟩
        rw [set_qD] at g2
        rw [hsc]; exact g2
      · rw [if_neg (by rw [hb]; decide)] at hsc
        refine ⟨e3.trans e4, xs, some (.int i), rfl, e4 _ _ h1, ?_⟩
        rw [hsc]; exact h2.m e4
    · obtain ⟨e3, xs, x, rfl, h1, h2⟩ := p'
      exact ⟨.ref l, rfl, k _ _ e3 ⟨l, xs, rfl, hl0, h1, h2⟩⟩
def preGrowth (T : Sh) (ds rs : List PyData) : Prop := ∃ (n m M s : Nat), Gd n m M T ∧ s < n ∧ ds = [.int s] ∧ rs = (T.growth s).map qD
theorem ok_growth (F : FnP K "growth" "Sheet.growth" sGrowth f fd) (T : Txt K mg C t8) (CRatio : Cal P w K mg base 2 "ratio" ["top", "bottom"] (spD preRatio)) : FnOk P w K mg base CX0 3 f fd ["self", "s"] (spMN C preGrowth) := by
  refine F.ok scGrowth (fun vs H Q E h => ?_) (fun cdv A outer s H vs Q E hr h => ?_)
  · obtain ⟨p, S, us, ds, r, rfl, _, hd, ⟨_, _, _, _, _, _, rfl, _⟩, _⟩ := h
    rw [List.length_cons, hd.length]; rfl
  · obtain ⟨p, S, us, ds, r, rfl, hS, hd, ⟨n, m, M, s, G, hs, rfl, rfl⟩, k⟩ := h
    obtain rfl := hd.ints_inv (ns := [(s : Int)])
    have mM := G.wf.mM
    have ew := G.wf.wide
    have eh := G.wf.high
    have n8 := G.n8
    have m8 := G.m8
    refine ⟨_, PSs.nox (pss_cons (ps_set (i := 2) scGrowth.nd rfl (Or.inl rfl) (pe_op op_rep (pe_lst (pa_cons (pe_tup (pa_cons pe_int (pa_cons pe_int pa_nil))) pa_nil)) (pe_fld (pv 0) rfl)))
      (pss_cons (ps_if (pt_cmpR op_lt (pe_ix ix_list (pe_fld (pv 0) rfl) (pv 1) (fun _ _ => rfl)) (pe_fld (pv 0) rfl) (nomark _)) (pss_one (ps_asg (pe_tup (pa_cons pe_int (pa_cons pe_int pa_nil))) (pg_sub (pv 2) (pe_ix ix_list (pe_fld (pv 0) rfl) (pv 1) (fun _ _ => rfl)) set_list))) pss_nil)
      (pss_cons (ps_for PassesOwn.never rfl (pi_range1 (by rfl) T.range_ (pa_cons (pe_fld (pv 0) rfl) pa_nil)) (pg_name (i := 3) scGrowth.nd rfl (Or.inl rfl) (Or.inl rfl)) (pss_one (ps_if (pt_cmpR op_lt (pe_ix ix_list (pe_fld (pv 0) rfl) (pv 3) (fun _ _ => rfl)) (pe_fld (pv 0) rfl) (nomark _)) (pss_one (ps_asg (pe_c CRatio hr (by rfl) (pa_cons (pe_op op_sub pe_int (pe_ix ix_list (pe_ix ix_list (pe_fld (pv 0) rfl) (pv 3) (fun _ _ => rfl)) (pv 1) (fun _ _ => rfl))) (pa_cons (pe_fld (pv 0) rfl) pa_nil))) (pg_sub (pv 2) (pe_ix ix_list (pe_fld (pv 0) rfl) (pv 3) (fun _ _ => rfl)) set_list))) pss_nil)))
      (pss_one (ps_ret (pv 2)))))), ?_⟩
    refine qd_asg (en_rep (en_lst (ea_consD (ed_pair ed_int ed_int) ea_nilD) (show 1 ≤ 100000 by decide)).ls (ed_wide T hS rfl) (by omega)) fun v H1 e1 hv => ?_
    obtain ⟨l, xs, rfl, hl0, hl1, hlx⟩ := hv
    rw [rep_qD] at hlx
    have hS1 := hS.m e1
    refine q_ifSet (b := decide (S.ac s < S.wide)) (d := qD (1, 1)) (k := S.ac s) hl0 e1 hl1 hlx (flat_qL _) rfl rfl (et_D (ed_is (ed_lt (ed_ac T G hS1 rfl hs (ed_v rfl)) (ed_wide T hS1 rfl)) (by rw [nat_lt]))) (fun _ => ed_pair ed_int ed_int) (fun _ => ed_ac T G hS1 rfl hs (ed_v rfl)) (fun hb => by rw [List.length_map, List.length_replicate]; exact of_decide_eq_true hb) fun H2 ys e2 g1 g2 => ?_
    have hin : (if decide (S.ac s < S.wide) = true then ((List.replicate S.wide ((0, 1) : Fr)).map qD).set (S.ac s) (qD (1, 1)) else (List.replicate S.wide ((0, 1) : Fr)).map qD) = (if S.ac s < S.wide then (List.replicate S.wide ((0, 1) : Fr)).set (S.ac s) (1, 1) else List.replicate S.wide (0, 1)).map qD := by
      by_cases hc : S.ac s < S.wide
      · rw [if_pos (decide_eq_true hc), if_pos hc, set_qD]
      · rw [if_neg (by rw [decide_eq_false hc]; decide), if_neg hc]
    rw [hin] at g2
    have hil : (if S.ac s < S.wide then (List.replicate S.wide ((0, 1) : Fr)).set (S.ac s) (1, 1) else List.replicate S.wide (0, 1)).length = S.wide := by
      split <;> simp
    generalize hinit : (if S.ac s < S.wide then (List.replicate S.wide ((0, 1) : Fr)).set (S.ac s) (1, 1) else List.replicate S.wide (0, 1)) = init at *
    have hS2 := hS.m e2
    refine qd_forR (m := S.high) (ea_consD (ed_high T hS2 rfl) ea_nilD) (by omega) fun H3 e3 => ⟨fun i σ' H' => Ex H H' ∧ ∃ xs x, σ' = [some (.ref p), some (.int s), some (.ref l), x] ∧ H' l = some (.lst xs) ∧ DqAll H' xs ((scat i (fun r => decide (S.dn r < S.wide)) S.dn (fun r => ratio (0 - S.c r s) S.bottom) init).map qD), ⟨e2.trans e3, ys, none, rfl, e3 _ _ g1, g2.m e3⟩, fun i σ' H' hi p' => ?_, fun σ' H' p' => ?_⟩
    · obtain ⟨e4, xs, x, rfl, h1, h2⟩ := p'
      have hS4 := hS.m e4
      have hsc := scat_succ (n := i) (ok := fun r => decide (S.dn r < S.wide)) (pos := S.dn) (val := fun r => ratio (0 - S.c r s) S.bottom) (init := init)
      refine s_when (b := decide (S.dn i < S.wide)) (et_D (ed_is (ed_lt (ed_dn T G hS4 rfl (by omega) (ed_v rfl)) (ed_wide T hS4 rfl)) (by rw [nat_lt]))) (fun hb H5 e5 => ?_) (fun hb H5 e5 => ?_)
      · have hb' : S.dn i < S.wide := of_decide_eq_true hb
        rw [if_pos hb] at hsc
        have hS5 := hS4.m e5
        refine sd_setL hl0 (e4.trans e5) (e5 _ _ h1) (h2.m e5) (flat_qL _) rfl rfl (ed_call (ea_consD (ed_sub ed_int (ed_at T G hS5 rfl (by omega) (by omega) (ed_v rfl) (ed_v rfl))) (ea_consD (ed_bottom T hS5 rfl) ea_nilD)) ⟨_, _, rfl, G.pos, G.D.mono (by decide), rfl⟩) (ed_dn T G hS5 rfl (by omega) (ed_v rfl)) (by rw [List.length_map, scat_len, hil]; exact hb') fun H6 ys e6 g1 g2 => ?_
        refine ⟨e6, ys, some (.int i), rfl, g1, ?_⟩
        rw [set_qD] at g2
        rw [hsc]; exact g2
      · rw [if_neg (by rw [hb]; decide)] at hsc
        refine ⟨e4.trans e5, xs, some (.int i), rfl, e5 _ _ h1, ?_⟩
        rw [hsc]; exact h2.m e5
    · obtain ⟨e4, xs, x, rfl, h1, h2⟩ := p'
      refine ⟨.ref l, rfl, k _ _ e4 ⟨l, xs, rfl, hl0, h1, ?_⟩⟩
      unfold Sh.growth
      rw [hinit]
      exact h2
/-! ### prices -/
def prePrices (T : Sh) (ds rs : List PyData) : Prop := ∃ (n m M : Nat) (gs : List Int) (below : Int), Gd n m M T ∧ n ≤ gs.length ∧ (∀ s, s < n → Sm 5000 (gs.getD s 0)) ∧ 0 < below ∧ Sm 8000 below ∧ ds = [zL gs, .int below] ∧ rs = (T.prices gs below).map qD
theorem ok_prices (F : FnP K "prices" "Sheet.prices" sPrices f fd) (T : Txt K mg C t8) (CRatio : Cal P w K mg base 2 "ratio" ["top", "bottom"] (spD preRatio)) : FnOk P w K mg base CX0 3 f fd ["self", "gains", "below"] (spMN C prePrices) := by
  refine F.ok scPrices (fun vs H Q E h => ?_) (fun cdv A outer s H vs Q E hr h => ?_)
  · obtain ⟨p, S, us, ds, r, rfl, _, hd, ⟨_, _, _, _, _, _, _, _, _, _, rfl, _⟩, _⟩ := h
    rw [List.length_cons, hd.length]; rfl
  · obtain ⟨p, S, us, ds, r, rfl, hS, hd, ⟨n, m, M, gains, below, G, hgl, hgs, hb0, hbs, rfl, rfl⟩, k⟩ := h
    obtain ⟨x, y, rfl, hx, hy⟩ := dq2 hd
    obtain rfl := hy.int_inv
    have mM := G.wf.mM
    have ew := G.wf.wide
    have eh := G.wf.high
    have n8 := G.n8
    have m8 := G.m8
    refine ⟨_, PSs.nox (pss_cons (ps_set (i := 3) scPrices.nd rfl (Or.inl rfl) (pe_op op_rep (pe_lst (pa_cons (pe_tup (pa_cons pe_int (pa_cons pe_int pa_nil))) pa_nil)) (pe_fld (pv 0) rfl)))
      (pss_cons (ps_for PassesOwn.never rfl (pi_range1 (by rfl) T.range_ (pa_cons (pe_fld (pv 0) rfl) pa_nil)) (pg_name (i := 4) scPrices.nd rfl (Or.inl rfl) (Or.inl rfl)) (pss_one (ps_if (pt_cmpR op_ge (pe_ix ix_list (pe_fld (pv 0) rfl) (pv 4) (fun _ _ => rfl)) (pe_fld (pv 0) rfl) (nomark _)) (pss_cons (ps_set (i := 5) scPrices.nd rfl (Or.inl rfl) (pe_op op_sub (pe_ix ix_list (pe_fld (pv 0) rfl) (pv 4) (fun _ _ => rfl)) (pe_fld (pv 0) rfl)))
      (pss_one (ps_asg (pe_c CRatio hr (by rfl) (pa_cons (pe_op op_sub pe_int (pe_op op_mulW (pe_ix ix_list (pv 1) (pv 4) (fun _ _ => rfl)) (pe_ix ix_list (pe_fld (pv 0) rfl) (pv 5) (fun _ _ => rfl)))) (pa_cons (pv 2) pa_nil))) (pg_sub (pv 3) (pv 5) set_list)))) pss_nil)))
      (pss_one (ps_ret (pv 3))))), ?_⟩
    refine qd_asg (en_rep (en_lst (ea_consD (ed_pair ed_int ed_int) ea_nilD) (show 1 ≤ 100000 by decide)).ls (ed_high T hS rfl) (by omega)) fun v H1 e1 hv => ?_
    obtain ⟨l, xs, rfl, hl0, hl1, hlx⟩ := hv
    rw [rep_qD] at hlx
    have hS1 := hS.m e1
    refine qd_forR (m := S.wide) (ea_consD (ed_wide T hS1 rfl) ea_nilD) (by omega) fun H2 e2 => ⟨fun i σ' H' => Ex H H' ∧ ∃ xs y z, σ' = [some (.ref p), some x, some (.int below), some (.ref l), y, z] ∧ H' l = some (.lst xs) ∧ DqAll H' xs ((scat i (fun s => decide (S.wide ≤ S.ac s)) (fun s => S.ac s - S.wide) (fun s => ratio (0 - gains.getD s 0 * S.scales.getD (S.ac s - S.wide) 0) below) (List.replicate S.high (0, 1))).map qD), ⟨e1.trans e2, xs, none, none, rfl, e2 _ _ hl1, hlx.m e2⟩, fun i σ' H' hi p' => ?_, fun σ' H' p' => ?_⟩
    · obtain ⟨e4, xs, y, z, rfl, h1, h2⟩ := p'
      have hS4 := hS.m e4
      have hx4 := hx.m e4
      have hsc := scat_succ (n := i) (ok := fun s => decide (S.wide ≤ S.ac s)) (pos := fun s => S.ac s - S.wide) (val := fun s => ratio (0 - gains.getD s 0 * S.scales.getD (S.ac s - S.wide) 0) below) (init := List.replicate S.high (0, 1))
      refine s_when (b := decide (S.wide ≤ S.ac i)) (et_D (ed_is (ed_ge (ed_ac T G hS4 rfl (by omega) (ed_v rfl)) (ed_wide T hS4 rfl)) (by rw [nat_le]))) (fun hb H5 e5 => ?_) (fun hb H5 e5 => ?_)
      · have hb' : S.wide ≤ S.ac i := of_decide_eq_true hb
        have hac := G.acl i (by omega)
        rw [if_pos hb] at hsc
        have hS5 := hS4.m e5
        refine qd_asgI (n := ((S.ac i - S.wide : Nat) : Int)) (ed_is (ed_sub (ed_ac T G hS5 rfl (by omega) (ed_v rfl)) (ed_wide T hS5 rfl)) (by rw [Int.ofNat_sub hb'])) fun H6 e6 => ?_
        have hS6 := hS5.m e6
        have hj : S.ac i - S.wide < m := by omega
        refine sd_setL hl0 ((e4.trans e5).trans e6) ((e5.trans e6) _ _ h1) (h2.m (e5.trans e6)) (flat_qL _) rfl rfl (ed_call (ea_consD (ed_sub ed_int (ed_mul (ed_ixL (ed_var rfl (hx4.m (e5.trans e6))) (ed_v rfl) (ixZ (by omega))) (ed_scale T G hS6 rfl hj (ed_v rfl)) (hgs i (by omega)) (G.sc _ hj))) (ea_consD (ed_v rfl) ea_nilD)) ⟨_, _, rfl, hb0, hbs, rfl⟩) (ed_v rfl) (by rw [List.length_map, scat_len, List.length_replicate]; omega) fun H7 ys e7 g1 g2 => ?_
        refine ⟨e7, ys, some (.int i), some (.int ((S.ac i - S.wide : Nat) : Int)), rfl, g1, ?_⟩
        rw [set_qD] at g2
        rw [hsc]; exact g2
      · rw [if_neg (by rw [hb]; decide)] at hsc
        refine ⟨e4.trans e5, xs, some (.int i), z, rfl, e5 _ _ h1, ?_⟩
        rw [hsc]; exact h2.m e5
    · obtain ⟨e4, xs, y, z, rfl, h1, h2⟩ := p'
      exact ⟨.ref l, rfl, k _ _ e4 ⟨l, xs, rfl, hl0, h1, h2⟩⟩
def preFirst (T : Sh) (ds rs : List PyData) : Prop := ∃ (n m M : Nat), Gd n m M T ∧ m < M ∧ ds = [] ∧ rs = T.firstPrices.map qD
theorem ok_first (F : FnP K "first_prices" "Sheet.first_prices" sFirst f fd) (T : Txt K mg C t8) (MPrices : Met P w K mg base C 3 "prices" ["self", "gains", "below"] (spMN C prePrices)) : FnOk P w K mg base CX0 4 f fd ["self"] (spMN C preFirst) := by
  refine F.ok scFirst (fun vs H Q E h => ?_) (fun cdv A outer s H vs Q E hr h => ?_)
  · obtain ⟨p, S, us, ds, r, rfl, _, hd, ⟨_, _, _, _, _, rfl, _⟩, _⟩ := h
    rw [List.length_cons, hd.length]; rfl
  · obtain ⟨p, S, us, ds, r, rfl, hS, hd, ⟨n, m, M, G, hm, rfl, rfl⟩, k⟩ := h
    obtain rfl := hd.ints_inv (ns := [])
    have ew := G.wf.wide
    have eh := G.wf.high
    refine ⟨_, PSs.nox (pss_one (ps_ret (pe_m (pv 0) T.cl MPrices hr (pa_cons (pe_ix ix_list (pe_fld (pv 0) rfl) (pe_fld (pv 0) rfl) (fun _ _ => rfl)) (pa_cons (pe_op op_mulW (pe_fld (pv 0) rfl) (pe_ix ix_list (pe_fld (pv 0) rfl) pe_int (fun _ _ => rfl))) pa_nil))))), ?_⟩
    have w0 := G.wd 0 (by omega)
    refine sd_ret (en_meth rfl hS (ea_consD (ed_row T G hS rfl (i := S.high) (by omega) (ed_high T hS rfl)) (ea_consD (ed_mul (ed_bottom T hS rfl) (ed_wished T G hS rfl (j := 0) (by omega) ed_int) G.D w0.1) ea_nilD)) ⟨n, m, M, S.cells.getD S.high [], S.bottom * S.wished.getD 0 0, G, by rw [G.wf.row_len (by omega)]; omega, fun s hs => (G.c _ (by omega) s (by omega)).mono (by decide), Int.mul_pos G.pos w0.2, (G.D.mul w0.1).mono (by decide), rfl, rfl⟩) fun v H1 e1 hv => ?_
    exact k v H1 e1 hv
end
end Hd


/-! text S3 -/
set_option Elab.async false
set_option linter.all false
set_option maxRecDepth 100000
set_option maxHeartbeats 4000000
namespace Hd
open PySem PySem.Spec PyProof.Rows L2 Evl
def nV (k : Nat) : V := .int (k : Int)
/-- the sheet stands at p, on things that the base H0 does not know -/
structure OwnA (C : Addr) (H0 H : Hp) (p : Addr) (T : Sh) (dx : Addr) (sc wd : V) (ce ac dn : Addr) (rs : List Addr) : Prop where
  ex : Ex H0 H
  hsc : Dq H0 sc (zL T.scales)
  hwd : Dq H0 wd (zL T.wished)
  at_ : H p = some (.ins C dx (flds T.wide T.high sc wd (.ref ce) T.bottom (.ref ac) (.ref dn)))
  hce : H ce = some (.lst (rs.map V.ref))
  len : rs.length = T.cells.length
  row : ∀ i (h : i < rs.length), H rs[i] = some (.lst ((T.cells.getD i []).map V.int))
  hac : H ac = some (.lst (T.across.map nV))
  hdn : H dn = some (.lst (T.down.map nV))
  fp : ∀ a, a ∈ p :: ce :: ac :: dn :: rs → H0 a = none
  nd : rs.Nodup
  ceR : ce ∉ rs
  acR : ac ∉ rs
  dnR : dn ∉ rs
  acdn : ac ≠ dn
  ceac : ce ≠ ac
  cedn : ce ≠ dn
def Own (C : Addr) (H0 H : Hp) (p : Addr) (T : Sh) : Prop := ∃ dx sc wd ce ac dn rs, OwnA C H0 H p T dx sc wd ce ac dn rs
section
variable {P : Program} {w : World} {K : PySem.W.Frag} {mg : Str → Option Value} {base : Heap} {C : Addr} {t8 : Tok} {f : Addr} {fd : FuncData} {p : Addr} {T T' : Sh}
variable {σ : L2.St} {H H' H0 H1 : Hp} {ta tb te tk tl : TE} {t : TT} {tu tz : TS} {D : Ends} {g : Fr} {fs gs : List Fr} {ds : List PyData} {d : PyData}
variable {dx : Addr} {sc wd : V} {ce ac dn : Addr} {rs : List Addr}
theorem OwnA.m (O : OwnA C H0 H p T dx sc wd ce ac dn rs) (e : Ex H H') : OwnA C H0 H' p T dx sc wd ce ac dn rs :=
  { O with ex := O.ex.trans e, at_ := e _ _ O.at_, hce := e _ _ O.hce, row := fun i h => e _ _ (O.row i h), hac := e _ _ O.hac, hdn := e _ _ O.hdn }
theorem Own.m (O : Own C H0 H p T) (e : Ex H H') : Own C H0 H' p T := by
  obtain ⟨dx, sc, wd, ce, ac, dn, rs, O⟩ := O
  exact ⟨dx, sc, wd, ce, ac, dn, rs, O.m e⟩
theorem Own.ex (O : Own C H0 H p T) : Ex H0 H := by
  obtain ⟨dx, sc, wd, ce, ac, dn, rs, O⟩ := O
  exact O.ex
theorem dqRows : ∀ {rs : List Addr} {rows : List (List Int)}, rs.length = rows.length → (∀ i (h : i < rs.length), H rs[i] = some (.lst ((rows.getD i []).map V.int))) → DqAll H (rs.map V.ref) (rows.map zL)
  | [], [], _, _ => .nil
  | r :: rs, row :: rows, hl, h => by
    refine .cons (.lst (h 0 (by simp)) (DqAll.ints row)) (dqRows (by simpa using hl) fun i hi => ?_)
    have := h (i + 1) (by simp; omega)
    simpa using this
theorem dqNats (ns : List Nat) : DqAll H (ns.map nV) ((ns.map fun (k : Nat) => (k : Int)).map PyData.int) := by
  have := DqAll.ints (H := H) (ns.map fun (k : Nat) => (k : Int))
  rw [List.map_map] at this
  exact this
theorem OwnA.sht (O : OwnA C H0 H p T dx sc wd ce ac dn rs) : Sht C H p T :=
  ⟨⟨dx, sc, wd, .ref ce, .ref ac, .ref dn, O.at_, O.hsc.m O.ex, O.hwd.m O.ex, .lst O.hce (dqRows O.len O.row), .lst O.hac (dqNats _), .lst O.hdn (dqNats _)⟩⟩
theorem Own.sht (O : Own C H0 H p T) : Sht C H p T := by
  obtain ⟨dx, sc, wd, ce, ac, dn, rs, O⟩ := O
  exact O.sht
theorem OwnA.known (O : OwnA C H0 H p T dx sc wd ce ac dn rs) : ∀ a, a ∈ p :: ce :: ac :: dn :: rs → (∃ xs, H a = some (.lst xs)) ∨ ∃ C dx fs, H a = some (.ins C dx fs) := fun a ha => by
  simp only [List.mem_cons] at ha
  rcases ha with rfl | rfl | rfl | rfl | ha
  · exact .inr ⟨_, _, _, O.at_⟩
  · exact .inl ⟨_, O.hce⟩
  · exact .inl ⟨_, O.hac⟩
  · exact .inl ⟨_, O.hdn⟩
  · obtain ⟨i, hi, rfl⟩ := List.getElem_of_mem ha
    exact .inl ⟨_, O.row i hi⟩
/-- what is new stands apart -/
theorem OwnA.new (O : OwnA C H0 H p T dx sc wd ce ac dn rs) {F : Addr} (h : H F = none) : F ∉ p :: ce :: ac :: dn :: rs := fun hF => by
  rcases O.known F hF with ⟨xs, e⟩ | ⟨_, _, _, e⟩ <;> (rw [h] at e; cases e)
/-- the greatest base -/
theorem OwnA.rebase (O : OwnA C H0 H p T dx sc wd ce ac dn rs) : ∃ H1, Ex H0 H1 ∧ OwnA C H1 H p T dx sc wd ce ac dn rs ∧ ∀ a o, H a = some o → a ∉ p :: ce :: ac :: dn :: rs → H1 a = some o := by
  refine ⟨fun a => if a ∈ p :: ce :: ac :: dn :: rs then none else H a, ?_, ?_, fun a o h1 h2 => by show (if _ then _ else _) = _; rw [if_neg h2]; exact h1⟩
  · have e : Ex H0 (fun a => if a ∈ p :: ce :: ac :: dn :: rs then none else H a) := fun a o h => by
      show (if _ then _ else _) = _
      rw [if_neg fun hm => by rw [O.fp a hm] at h; cases h]
      exact O.ex a o h
    exact e
  · have e : Ex H0 (fun a => if a ∈ p :: ce :: ac :: dn :: rs then none else H a) := fun a o h => by
      show (if _ then _ else _) = _
      rw [if_neg fun hm => by rw [O.fp a hm] at h; cases h]
      exact O.ex a o h
    refine { O with ex := fun a o h => ?_, hsc := O.hsc.m e, hwd := O.hwd.m e, fp := fun a ha => ?_ }
    · have h' : (if a ∈ p :: ce :: ac :: dn :: rs then none else H a) = Option.some o := h
      split at h'
      · cases h'
      · exact h'
    · show (if _ then _ else _) = _
      rw [if_pos ha]
/-- a new row at i -/
theorem OwnA.setRow (O : OwnA C H0 H p T dx sc wd ce ac dn rs) {i : Nat} {F : Addr} {row : List Int} (hi : i < rs.length) (hF : H F = none) (e : Ex H H') (hF2 : H' F = some (.lst (row.map V.int))) :
    OwnA C H0 (upd H' ce (.lst ((rs.set i F).map V.ref))) p { T with cells := T.cells.set i row } dx sc wd ce ac dn (rs.set i F) := by
  have hn := O.new hF
  have hcF : F ≠ ce := fun h => hn (by simp [h])
  have O' := O.m e
  have mem : ∀ a, a ∈ rs.set i F → a ∈ rs ∨ a = F := fun a h => List.mem_or_eq_of_mem_set h
  have nF : F ∉ rs := fun h => hn (by simp [h])
  refine ⟨Ex.mut O'.ex (O.fp ce (by simp)), O.hsc, O.hwd, ?_, upd_same, ?_, fun j hj => ?_, ?_, ?_, fun a ha => ?_, ?_, ?_, ?_, ?_, O.acdn, O.ceac, O.cedn⟩
  · rw [upd_ne (ne_of O'.at_ O'.hce (by intro h; cases h))]; exact O'.at_
  · rw [List.length_set, List.length_set]; exact O.len
  · have hj' : j < rs.length := by simpa using hj
    rw [List.getElem_set]
    show upd H' ce _ _ = some (.lst (((T.cells.set i row).getD j []).map V.int))
    rw [getD_set (by rw [← O.len]; exact hi)]
    by_cases h : i = j
    · rw [if_pos h, if_pos h.symm, upd_ne hcF]; exact hF2
    · rw [if_neg h, if_neg (Ne.symm h), upd_ne (fun he => O.ceR (by rw [← he]; exact List.getElem_mem hj'))]
      exact O'.row j hj'
  · rw [upd_ne (Ne.symm O.ceac)]; exact O'.hac
  · rw [upd_ne (Ne.symm O.cedn)]; exact O'.hdn
  · have h0 : H0 F = none := by
      cases h : H0 F with
      | none => rfl
      | some o => have := O.ex _ _ h; rw [hF] at this; cases this
    simp only [List.mem_cons] at ha
    rcases ha with rfl | rfl | rfl | rfl | ha
    · exact O.fp _ (by simp)
    · exact O.fp _ (by simp)
    · exact O.fp _ (by simp)
    · exact O.fp _ (by simp)
    · rcases mem a ha with h | h
      · exact O.fp a (by simp [h])
      · rw [h]; exact h0
  · rw [List.nodup_iff_pairwise_ne, List.pairwise_iff_getElem]
    intro a b ha hb hab
    rw [List.length_set] at ha hb
    rw [List.getElem_set, List.getElem_set]
    have := List.pairwise_iff_getElem.mp (List.nodup_iff_pairwise_ne.mp O.nd) a b ha hb hab
    split
    · rw [if_neg (by omega)]
      exact fun h => nF (by rw [h]; exact List.getElem_mem hb)
    · split
      · exact fun h => nF (by rw [← h]; exact List.getElem_mem ha)
      · exact this
  · exact fun h => (mem _ h).elim O.ceR fun h => hcF h.symm
  · exact fun h => (mem _ h).elim O.acR fun h => hn (by simp [h])
  · exact fun h => (mem _ h).elim O.dnR fun h => hn (by simp [h])
/-- a number of a row changes -/
theorem OwnA.setCell (O : OwnA C H0 H p T dx sc wd ce ac dn rs) {i : Nat} {row : List Int} (hi : i < rs.length) :
    OwnA C H0 (upd H rs[i] (.lst (row.map V.int))) p { T with cells := T.cells.set i row } dx sc wd ce ac dn rs := by
  have hm : rs[i] ∈ rs := List.getElem_mem hi
  refine ⟨Ex.mut O.ex (O.fp _ (by simp [hm])), O.hsc, O.hwd, ?_, ?_, ?_, fun j hj => ?_, ?_, ?_, O.fp, O.nd, O.ceR, O.acR, O.dnR, O.acdn, O.ceac, O.cedn⟩
  · rw [upd_ne (ne_of O.at_ (O.row i hi) (by intro h; cases h))]; exact O.at_
  · rw [upd_ne (by intro h; exact O.ceR (by rw [h]; exact hm))]; exact O.hce
  · rw [List.length_set]; exact O.len
  · show upd H _ _ _ = some (.lst (((T.cells.set i row).getD j []).map V.int))
    rw [getD_set (by rw [← O.len]; exact hi)]
    by_cases h : j = i
    · subst h; rw [if_pos rfl, upd_same]
    · rw [if_neg h, upd_ne (fun he => h ((List.getElem_inj O.nd).mp he))]; exact O.row j hj
  · rw [upd_ne (by intro h; exact O.acR (by rw [h]; exact hm))]; exact O.hac
  · rw [upd_ne (by intro h; exact O.dnR (by rw [h]; exact hm))]; exact O.hdn
theorem OwnA.setBottom (O : OwnA C H0 H p T dx sc wd ce ac dn rs) (b : Int) : OwnA C H0 (upd H p (.ins C dx (flds T.wide T.high sc wd (.ref ce) b (.ref ac) (.ref dn)))) p { T with bottom := b } dx sc wd ce ac dn rs := by
  have hne : ∀ {a : Addr} {xs : List V}, H a = some (.lst xs) → a ≠ p := fun h => ne_of h O.at_ (by intro h; cases h)
  refine ⟨Ex.mut O.ex (O.fp _ (by simp)), O.hsc, O.hwd, upd_same, ?_, O.len, fun j hj => ?_, ?_, ?_, O.fp, O.nd, O.ceR, O.acR, O.dnR, O.acdn, O.ceac, O.cedn⟩
  · rw [upd_ne (hne O.hce)]; exact O.hce
  · rw [upd_ne (hne (O.row j hj))]; exact O.row j hj
  · rw [upd_ne (hne O.hac)]; exact O.hac
  · rw [upd_ne (hne O.hdn)]; exact O.hdn
theorem OwnA.setDown (O : OwnA C H0 H p T dx sc wd ce ac dn rs) (ns : List Nat) : OwnA C H0 (upd H dn (.lst (ns.map nV))) p { T with down := ns } dx sc wd ce ac dn rs := by
  refine ⟨Ex.mut O.ex (O.fp _ (by simp)), O.hsc, O.hwd, ?_, ?_, O.len, fun j hj => ?_, ?_, upd_same, O.fp, O.nd, O.ceR, O.acR, O.dnR, O.acdn, O.ceac, O.cedn⟩
  · rw [upd_ne (ne_of O.at_ O.hdn (by intro h; cases h))]; exact O.at_
  · rw [upd_ne O.cedn]; exact O.hce
  · rw [upd_ne (by intro h; exact O.dnR (by rw [← h]; exact List.getElem_mem hj))]; exact O.row j hj
  · rw [upd_ne O.acdn]; exact O.hac
theorem OwnA.setAcross (O : OwnA C H0 H p T dx sc wd ce ac dn rs) (ns : List Nat) : OwnA C H0 (upd H ac (.lst (ns.map nV))) p { T with across := ns } dx sc wd ce ac dn rs := by
  refine ⟨Ex.mut O.ex (O.fp _ (by simp)), O.hsc, O.hwd, ?_, ?_, O.len, fun j hj => ?_, upd_same, ?_, O.fp, O.nd, O.ceR, O.acR, O.dnR, O.acdn, O.ceac, O.cedn⟩
  · rw [upd_ne (ne_of O.at_ O.hac (by intro h; cases h))]; exact O.at_
  · rw [upd_ne O.ceac]; exact O.hce
  · rw [upd_ne (by intro h; exact O.acR (by rw [← h]; exact List.getElem_mem hj))]; exact O.row j hj
  · rw [upd_ne (Ne.symm O.acdn)]; exact O.hdn

/-! ### pivot, row by row -/
def rowsTo (T : Sh) (r s : Nat) : Nat → List (List Int)
  | 0 => T.cells
  | i + 1 => if i = r then rowsTo T r s i else (rowsTo T r s i).set i (pivRow (T.cells.getD i []) (T.cells.getD r []) (T.c r s) T.bottom s)
theorem rowsTo_len (r s : Nat) : ∀ k, (rowsTo T r s k).length = T.cells.length
  | 0 => rfl
  | k + 1 => by
    unfold rowsTo
    split
    · exact rowsTo_len r s k
    · rw [List.length_set]; exact rowsTo_len r s k
theorem rowsTo_get (r s : Nat) {j : Nat} (hj : j < T.cells.length) : ∀ k, k ≤ T.cells.length → (rowsTo T r s k).getD j [] = if j < k ∧ j ≠ r then pivRow (T.cells.getD j []) (T.cells.getD r []) (T.c r s) T.bottom s else T.cells.getD j []
  | 0, _ => by rw [if_neg (by omega)]; rfl
  | k + 1, hk => by
    have ih := rowsTo_get r s hj k (by omega)
    unfold rowsTo
    by_cases h : k = r
    · rw [if_pos h, ih]
      by_cases h2 : j < k ∧ j ≠ r
      · rw [if_pos h2, if_pos (by omega)]
      · rw [if_neg h2, if_neg (by omega)]
    · rw [if_neg h, getD_set (by rw [rowsTo_len]; omega), ih]
      by_cases h2 : j = k
      · subst h2
        rw [if_pos rfl, if_pos ⟨by omega, h⟩]
      · rw [if_neg h2]
        by_cases h3 : j < k ∧ j ≠ r
        · rw [if_pos h3, if_pos (by omega)]
        · rw [if_neg h3, if_neg (by omega)]
theorem rowsTo_end {n m M : Nat} {r s : Nat} (W : Wf n m M T) (hr : r < M) : (rowsTo T r s M).set r ((T.cells.getD r []).set s T.bottom) = (T.pivot r s).cells := by
  have hl := W.cl
  refine List.ext_getElem (by rw [List.length_set, rowsTo_len]; simp [Sh.pivot]) fun j h1 h2 => ?_
  have hj : j < M := by rw [List.length_set, rowsTo_len, hl] at h1; exact h1
  have e1 : (T.pivot r s).cells[j] = (T.pivot r s).cells.getD j [] := (getD_lt h2 _).symm
  rw [e1, pivot_cells W hr hj]
  have e2 : ((rowsTo T r s M).set r ((T.cells.getD r []).set s T.bottom))[j] = ((rowsTo T r s M).set r ((T.cells.getD r []).set s T.bottom)).getD j [] := (getD_lt h1 _).symm
  rw [e2, getD_set (by rw [rowsTo_len]; omega), rowsTo_get r s (by omega) M (by omega)]
  by_cases h : j = r
  · subst h; rw [if_pos rfl, if_pos rfl]
  · rw [if_neg h, if_neg h, if_pos ⟨hj, h⟩]
end
end Hd


/-! text S4 -/
set_option Elab.async false
set_option linter.all false
set_option maxRecDepth 100000
set_option maxHeartbeats 4000000
namespace Hd
open PySem PySem.Spec PyProof.Rows L2 Evl
section
variable {P : Program} {w : World} {K : PySem.W.Frag} {mg : Str → Option Value} {base : Heap} {C : Addr} {t8 : Tok} {f : Addr} {fd : FuncData} {p : Addr} {T T' : Sh}
variable {σ : L2.St} {H H' H0 H1 : Hp} {ta tb te tk tl : TE} {t : TT} {tu tz : TS} {D : Ends} {g : Fr} {fs gs : List Fr} {ds : List PyData} {d : PyData}
variable {dx : Addr} {sc wd : V} {ce ac dn : Addr} {rs : List Addr}
/-- for i, x in enumerate(list(a list)), the list itself may change meanwhile -/
theorem qd_forEL {j l : Nat} {a : Addr} {xs : List V} (hc : Ev te σ H (.ref a)) (ha : H a = some (.lst xs)) (k : ∀ H1 L, Ex H H1 → H L = none → H1 L = some (.lst xs) → ∃ Pv : Nat → L2.St → Hp → Prop, Pv 0 σ H1 ∧ (∀ i σ' H', Pv i σ' H' → H' L = some (.lst xs)) ∧
    (∀ (i : Nat) x σ' H' H'', xs[i]? = some x → Pv i σ' H' → Ex H' H'' → tu { D with nx := Pv (i + 1), ct := Pv (i + 1), bk := tz D } ((σ'.set j (some (.int (i : Int)))).set l (some x)) H'') ∧ ∀ σ' H', Pv xs.length σ' H' → tz D σ' H') :
    tSeq (tFor (iEnum K (tCons (tCB (rListS K) (tCons te tNil)) tNil)) (gTup K 2 (gCons (gName j) (gCons (gName l) gNil))) tu) tz D σ H := by
  refine hc H (Ex.refl H) _ fun H1 e1 => ?_
  refine ⟨a, xs, rfl, Or.inl (SqL.of (e1 _ _ ha)), fun L hL => ?_⟩
  obtain ⟨Pv, h0, hk, hs, hd⟩ := k (upd H1 L (.lst xs)) L (e1.trans (Ex.new hL)) (fresh_back e1 hL) upd_same
  refine ⟨L, xs, rfl, SqL.of upd_same, for_it (walk_enum (K := K) (a := L) (xs := xs)) Pv h0 (fun i σ' H' _ p => SqL.of (hk _ _ _ p)) (fun i x σ' Ha Hb hi p y => ?_) (fun σ' H' p => hd σ' H' p)⟩
  obtain ⟨T, x1, x2, rfl, hT, rfl, hx1, hx2⟩ := y
  obtain rfl : V.int ((i : Nat) : Int) = x1 := Option.some.inj hx1
  exact ⟨T, _, rfl, SqT.of upd_same, rfl, _, _, rfl, _, _, rfl, rfl, hs i x2 σ' Ha _ hx2 p (Ex.new hT)⟩
theorem ev_fld {x : Str} {i : Nat} {dx : Addr} {fs : List (Str × V)} {v : V} (c : Cls K C) (n : NoAttr K C x) (h : σ[i]? = some (some (.ref p))) (hp : H p = some (.ins C dx fs)) (hl : fs.lookup x = some v) : Ev (tFld K (tVar i) x) σ H v := fun H1 e1 Q q =>
  ⟨.ref p, h, p, C, dx, fs, v, rfl, e1 _ _ hp, c, n, hl, q H1 (Ex.refl H1)⟩
theorem qd_setL {Hb : Hp} {l : Addr} {i k : Nat} {xs : List V} (hb : Hb l = none) (e : Ex Hb H) (hl : H l = some (.lst xs)) (hx : DqAll H xs ds) (hf : flatAll ds = true) (hfd : flat d = true) (ht : σ[i]? = some (some (.ref l)))
    (hv : EvD te σ H d) (hk : EvD tk σ H (.int (k : Int))) (hkl : k < ds.length) (c : ∀ H3 xs', Ex Hb H3 → H3 l = some (.lst xs') → DqAll H3 xs' (ds.set k d) → tz D σ H3) : tSeq (tAsg te (gSub (tVar i) tk rSetL)) tz D σ H := sd_setL (D := { D with nx := tz D }) hb e hl hx hf hfd ht hv hk hkl c
theorem q_setR {to ti : TE} {l : Addr} {v : V} {k : Nat} {xs : List V} (hv : Ev te σ H v) (ho : Ev to σ H (.ref l)) (hi : Ev ti σ H (.int (k : Int))) (hl : H l = some (.lst xs)) (hk : k < xs.length) (c : ∀ H1, Ex H H1 → tz D σ (upd H1 l (.lst (xs.set k v)))) : tSeq (tAsg te (gSub to ti rSetL)) tz D σ H :=
  hv H (Ex.refl H) _ fun H1 e1 => ho H1 e1 _ fun H2 e2 => hi H2 (e1.trans e2) _ fun H3 e3 => ⟨l, xs, (k : Int), k, rfl, rfl, (e1.trans (e2.trans e3)) _ _ hl, by
    unfold ixN
    rw [if_pos (by omega), if_pos (by omega)]
    rfl, c H3 (e1.trans (e2.trans e3))⟩
theorem ev_var {i : Nat} {v : V} (h : σ[i]? = some (some v)) : Ev (tVar i) σ H v := fun H1 _ Q q => ⟨v, h, q H1 (Ex.refl H1)⟩
theorem ev_ixR {a : Addr} {k : Nat} {x : V} {xs : List V} (ho : Ev ta σ H (.ref a)) (ha : H a = some (.lst xs)) (hi : Ev tb σ H (.int (k : Int))) (hk : xs[k]? = some x) : Ev (tOp (rIxL K) ta tb) σ H x := fun H1 e1 Q q =>
  ho H1 e1 _ fun H2 e2 => hi H2 (e1.trans e2) _ fun H3 e3 => ⟨a, xs, _, x, rfl, rfl, SqL.of ((e1.trans (e2.trans e3)) _ _ ha), atI_nat hk, q H3 (e2.trans e3)⟩
theorem OwnA.lower {HL : Hp} (O : OwnA C HL H p T dx sc wd ce ac dn rs) (e : Ex H0 HL) (h1 : Dq H0 sc (zL T.scales)) (h2 : Dq H0 wd (zL T.wished)) : OwnA C H0 H p T dx sc wd ce ac dn rs :=
  { O with ex := e.trans O.ex, hsc := h1, hwd := h2, fp := fun a ha => fresh_back e (O.fp a ha) }
/-- a[k] = v -/
theorem s_setR {to ti : TE} {l : Addr} {v : V} {k : Nat} {xs : List V} (hv : Ev te σ H v) (ho : Ev to σ H (.ref l)) (hi : Ev ti σ H (.int (k : Int))) (hl : H l = some (.lst xs)) (hk : k < xs.length) (c : ∀ H1, Ex H H1 → D.nx σ (upd H1 l (.lst (xs.set k v)))) : tAsg te (gSub to ti rSetL) D σ H :=
  hv H (Ex.refl H) _ fun H1 e1 => ho H1 e1 _ fun H2 e2 => hi H2 (e1.trans e2) _ fun H3 e3 => ⟨l, xs, (k : Int), k, rfl, rfl, (e1.trans (e2.trans e3)) _ _ hl, by
    unfold ixN
    rw [if_pos (by omega), if_pos (by omega)]
    rfl, c H3 (e1.trans (e2.trans e3))⟩
def spPivot (C : Addr) : Sp := fun vs H Q _ => ∃ p T n m M r s H0, vs = [.ref p, .int ((r : Nat) : Int), .int ((s : Nat) : Int)] ∧ Gd n m M T ∧ Own C H0 H p T ∧ r < m ∧ s < n ∧ ∀ H', Own C H0 H' p (T.pivot r s) → Q .non H'
theorem zipRow {row prow : List Int} {b bot : Int} {s n : Nat} (h1 : row.length = n + 1) (h2 : prow.length = n + 1) : (List.zipWith (fun x y => (x * b - row.getD s 0 * y) / bot) row prow).length = n + 1 := by
  rw [List.length_zipWith]; omega
theorem ok_pivot (F : FnP K "pivot" "Sheet.pivot" sPivot f fd) (T : Txt K mg C t8) : FnOk P w K mg base CX0 1 f fd ["self", "r", "s"] (spPivot C) := by
  refine F.ok scPivot (fun vs H Q E h => ?_) (fun cdv A outer s H vs Q E hr h => ?_)
  · obtain ⟨_, _, _, _, _, _, _, _, rfl, _⟩ := h
    rfl
  · obtain ⟨p, S, n, m, M, r, s, H0, rfl, G, O, hrm, hs, k⟩ := h
    have mM := G.wf.mM
    have ew := G.wf.wide
    have eh := G.wf.high
    have n8 := G.n8
    have m8 := G.m8
    have cl := G.wf.cl
    refine ⟨_, PSs.nox (pss_cons (ps_set (i := 3) scPivot.nd rfl (Or.inr rfl) (pe_ix ix_list (pe_ix ix_list (pe_fld (pv 0) rfl) (pv 1) (fun _ _ => rfl)) (pv 2) (fun _ _ => rfl)))
      (pss_cons (ps_for PassesOwn.never rfl (pi_enum (by rfl) T.enumerate_ (pa_cons (pe_callTy call_list_of (by rfl) T.list_ (by decide +kernel) (pa_cons (pe_fld (pv 0) rfl) pa_nil)) pa_nil)) (pg_tup rfl (pgs_cons (pg_name (i := 4) scPivot.nd rfl (Or.inl rfl) (Or.inl rfl)) (pgs_cons (pg_name (i := 5) scPivot.nd rfl (Or.inl rfl) (Or.inl rfl)) pgs_nil))) (pss_one (ps_if (pt_cmpR op_ne (pv 4) (pv 1) (nomark _)) (pss_cons (ps_set (i := 6) scPivot.nd rfl (Or.inr rfl) (pe_ix ix_list (pv 5) (pv 2) (fun _ _ => rfl)))
      (pss_cons (ps_setLc (g := (gTup K 2 (gCons (gName 9) (gCons (gName 10) gNil)))) (tt := tYes) (te := (tOp (rI CDivW fun i j => .int (i / j)) (tOp (rI0 fun i j => .int (i - j)) (tOp (rI CMulW fun i j => .int (i * j)) (tVar 9) (tVar 3)) (tOp (rI CMulW fun i j => .int (i * j)) (tVar 6) (tVar 10))) (tFld K (tVar 0) "bottom"))) (i := 7) rfl scPivot.nd rfl rfl (sw_true rfl rfl rfl (by decide +kernel)) (pi_zip (by rfl) T.zip_ (pa_cons (pv 5) (pa_cons (pe_ix ix_list (pe_fld (pv 0) rfl) (pv 1) (fun _ _ => rfl)) pa_nil))) (blkOk_by (own := [("x", 9), ("y", 10)]) (N := nPivot) (sc := defScope sPivot) (by decide +kernel)) (fun _ _ _ _ _ => (pg_tup rfl (pgs_cons (pg_name (i := 9) scPivot.nd rfl (Or.inl rfl) (Or.inr rfl)) (pgs_cons (pg_name (i := 10) scPivot.nd rfl (Or.inl rfl) (Or.inr rfl)) pgs_nil)))) (fun _ _ _ _ _ => pts_nil) (fun _ _ _ _ _ => (pe_op op_fdivW (pe_op op_sub (pe_op op_mulW (pv 9) (pv 3)) (pe_op op_mulW (pv 6) (pv 10))) (pe_fld (pv 0) rfl))))
      (pss_cons (ps_asg (pe_op op_sub pe_int (pv 6)) (pg_sub (pv 7) (pv 2) set_list))
      (pss_one (ps_asg (pv 7) (pg_sub (pe_fld (pv 0) rfl) (pv 4) set_list)))))) pss_nil)))
      (pss_cons (ps_asg (pe_fld (pv 0) rfl) (pg_sub (pe_ix ix_list (pe_fld (pv 0) rfl) (pv 1) (fun _ _ => rfl)) (pv 2) set_list))
      (pss_cons (ps_fld (pv 0) (pv 3) rfl)
      (pss_cons (ps_set (i := 8) scPivot.nd rfl (Or.inl rfl) (pe_ix ix_list (pe_fld (pv 0) rfl) (pv 1) (fun _ _ => rfl)))
      (pss_cons (ps_asg (pe_ix ix_list (pe_fld (pv 0) rfl) (pv 2) (fun _ _ => rfl)) (pg_sub (pe_fld (pv 0) rfl) (pv 1) set_list))
      (pss_one (ps_asg (pv 8) (pg_sub (pe_fld (pv 0) rfl) (pv 2) set_list))))))))), ?_⟩
    refine qd_asgI (ed_at T G O.sht rfl (i := r) (s := s) (by omega) (by omega) (ed_v rfl) (ed_v rfl)) fun H1 e1 => ?_
    obtain ⟨dx, sc, wd, ce, ac, dn, rs, A⟩ := O.m e1
    have rl : rs.length = M := A.len.trans cl
    refine qd_forEL (ev_fld T.cl T.n_cells rfl A.at_ rfl) A.hce fun H2 L e2 hL hL2 => ?_
    have A2 := A.m e2
    have nL := A.new hL
    obtain ⟨HL, b1, B, b3⟩ := A2.rebase
    have hLL : HL L = some (.lst (rs.map V.ref)) := b3 L _ hL2 nL
    refine ⟨fun i σ' H' => ∃ rs', OwnA C HL H' p { S with cells := rowsTo S r s i } dx sc wd ce ac dn rs' ∧ (∀ j, i ≤ j → rs'[j]? = rs[j]?) ∧ ∃ x4 x5 x6 x7 x8 x9 x10, σ' = [some (.ref p), some (.int r), some (.int s), some (.int (S.c r s)), x4, x5, x6, x7, x8, x9, x10], ⟨rs, B, fun _ _ => rfl, none, none, none, none, none, none, none, rfl⟩, fun i σ' H' p' => ?_, fun i x σ' H' H'' hx p' e3 => ?_, fun σ' H' p' => ?_⟩
    · obtain ⟨rs', O', _⟩ := p'
      exact O'.ex _ _ hLL
    · obtain ⟨rs', O', hsame, x4, x5, x6, x7, x8, x9, x10, rfl⟩ := p'
      have O3 := O'.m e3
      have hi : i < M := by
        have := (List.getElem?_eq_some_iff.mp hx).1
        rw [List.length_map, rl] at this; exact this
      have rl' : rs'.length = M := by rw [O'.len]; show (rowsTo S r s i).length = M; rw [rowsTo_len, cl]
      have hri : rs'[i]? = rs[i]? := hsame i (Nat.le_refl i)
      rw [List.getElem?_map, ← hri, List.getElem?_eq_getElem (by omega)] at hx
      obtain rfl : V.ref rs'[i] = x := Option.some.inj hx
      have hrow := O3.row i (by omega)
      have grow : (rowsTo S r s i).getD i [] = S.cells.getD i [] := by rw [rowsTo_get r s (by omega) i (by omega), if_neg (by omega)]
      have gprow : (rowsTo S r s i).getD r [] = S.cells.getD r [] := by rw [rowsTo_get r s (by omega) i (by omega), if_neg (by omega)]
      replace hrow : H'' rs'[i] = some (.lst (((rowsTo S r s i).getD i []).map V.int)) := hrow
      rw [grow] at hrow
      refine s_when (b := !decide ((i : Int) = (r : Int))) (et_D (ed_neI (ed_v rfl) (ed_v rfl))) (fun hb H4 e4 => ?_) (fun hb H4 e4 => ?_)
      · have hir : i ≠ r := by
          intro h
          rw [h] at hb
          simp at hb
        have hrow4 := e4 _ _ hrow
        have O4 := O3.m e4
        have hD : Dq H4 (.ref rs'[i]) (zL (S.cells.getD i [])) := .lst hrow4 (DqAll.ints _)
        have lr := G.wf.row_len hi
        have lp := G.wf.row_len (show r < M by omega)
        refine qd_asgI (n := S.c i s) (ed_ixL (k := s) (ed_var rfl hD) (ed_v rfl) (ixZ (by rw [lr]; omega))) fun H5 e5 => ?_
        have O5 := O4.m e5
        have hS5 := O5.sht
        have szr : ∀ k, k ≤ n → Sm 1239 ((S.cells.getD i []).getD k 0) := fun k hk => G.c i hi k hk
        have szp : ∀ k, k ≤ n → Sm 1239 ((S.cells.getD r []).getD k 0) := fun k hk => G.c r (by omega) k hk
        refine qd_asg (en_lcZ (ds := (S.cells.getD i []).map PyData.int) (es := (S.cells.getD r []).map PyData.int) (rs := (List.zipWith (fun x y => (x * S.c r s - (S.cells.getD i []).getD s 0 * y) / S.bottom) (S.cells.getD i []) (S.cells.getD r [])).map PyData.int) (ea_consD (ed_var rfl (hD.m e5)) (ea_consD (ed_is (ed_ixL (k := r) (ed_cells T hS5 rfl) (ed_v rfl) (ixRow (by show r < (rowsTo S r s i).length; rw [rowsTo_len]; omega))) (by show zL ((rowsTo S r s i).getD r []) = _; rw [gprow]; rfl)) ea_nilD)) (by rw [List.length_map, List.length_map, lr, lp]) (flat_ints _) (by rw [List.length_map, List.length_map, zipRow lr lp, lr]) (by rw [List.length_map, lr]; omega) (fun _ _ => rfl) fun q d e rr v u Hq hd he hrr eq hv hu => ?_) fun v H6 e6 hv => ?_
        · have hq : q < n + 1 := by
            have := (List.getElem?_eq_some_iff.mp hd).1
            rw [List.length_map, lr] at this; exact this
          rw [ixZ (by rw [lr]; exact hq)] at hd
          rw [ixZ (by rw [lp]; exact hq)] at he
          rw [ixZ (by rw [zipRow lr lp]; exact hq)] at hrr
          obtain rfl := Option.some.inj hd
          obtain rfl := Option.some.inj he
          obtain rfl := Option.some.inj hrr
          obtain rfl := hv.int_inv
          obtain rfl := hu.int_inv
          have hS6 := hS5.m eq
          refine ed_is (ed_divW (ed_sub (ed_mul (ed_v rfl) (ed_v rfl) (szr q (by omega)) (G.c r (by omega) s (by omega))) (ed_mul (ed_v rfl) (ed_v rfl) (G.c i hi s (by omega)) (szp q (by omega)))) (ed_bottom T hS6 rfl) G.pos G.D) ?_
          rw [getD_lt (xs := List.zipWith _ _ _) (by rw [zipRow lr lp]; exact hq), List.getElem_zipWith, getD_lt (xs := S.cells.getD i []) (by rw [lr]; exact hq), getD_lt (xs := S.cells.getD r []) (by rw [lp]; exact hq)]
          rfl
        obtain ⟨F, ys, rfl, hF0, hF1, hFx⟩ := hv
        refine qd_setL (Hb := H5) hF0 e6 hF1 hFx (flat_ints _) rfl rfl (ed_sub ed_int (ed_v rfl)) (ed_v rfl) (by rw [List.length_map, zipRow lr lp]; omega) fun H7 zs e7 g1 g2 => ?_
        rw [← List.map_set] at g2
        obtain rfl := g2.ints_inv
        have hpr : (List.zipWith (fun x y => (x * S.c r s - (S.cells.getD i []).getD s 0 * y) / S.bottom) (S.cells.getD i []) (S.cells.getD r [])).set s (0 - S.c i s) = pivRow (S.cells.getD i []) (S.cells.getD r []) (S.c r s) S.bottom s := rfl
        rw [hpr] at g1
        have O7 := O5.m e7
        refine s_setR (ev_var rfl) (ev_fld T.cl T.n_cells rfl O7.at_ rfl) (ev_var rfl) O7.hce (by rw [List.length_map, rl']; exact hi) fun H8 e8 => ?_
        have O8 := O5.setRow (i := i) (F := F) (row := pivRow (S.cells.getD i []) (S.cells.getD r []) (S.c r s) S.bottom s) (by omega) hF0 (e7.trans e8) (e8 _ _ g1)
        refine ⟨rs'.set i F, ?_, fun j hj => ?_, some (.int i), some (.ref rs'[i]), some (.int (S.c i s)), some (.ref F), x8, x9, x10, rfl⟩
        · have : rowsTo S r s (i + 1) = (rowsTo S r s i).set i (pivRow (S.cells.getD i []) (S.cells.getD r []) (S.c r s) S.bottom s) := by
            show (if i = r then _ else _) = _
            rw [if_neg hir]
          rw [this]
          rw [List.map_set] at O8
          exact O8
        · rw [List.getElem?_set_ne (by omega)]
          exact hsame j (by omega)
      · have hir : i = r := by
          have h' : (i : Int) = (r : Int) := by simpa using hb
          omega
        refine ⟨rs', ?_, fun j hj => hsame j (by omega), some (.int i), some (.ref rs'[i]), x6, x7, x8, x9, x10, rfl⟩
        have : rowsTo S r s (i + 1) = rowsTo S r s i := by
          show (if i = r then _ else _) = _
          rw [if_pos hir]
        rw [this]
        exact O3.m e4
    · obtain ⟨rs', O', hsame, x4, x5, x6, x7, x8, x9, x10, rfl⟩ := p'
      rw [List.length_map, rl] at O'
      have rl' : rs'.length = M := by rw [O'.len]; show (rowsTo S r s M).length = M; rw [rowsTo_len, cl]
      have hr' : r < rs'.length := by omega
      have gprow : (rowsTo S r s M).getD r [] = S.cells.getD r [] := by rw [rowsTo_get r s (by omega) M (by omega), if_neg (by omega)]
      have hrow := O'.row r hr'
      replace hrow : H' rs'[r] = some (.lst (((rowsTo S r s M).getD r []).map V.int)) := hrow
      rw [gprow] at hrow
      have lp := G.wf.row_len (show r < M by omega)
      -- self.cells[r][s] = self.bottom
      have hix : (rs'.map V.ref)[r]? = some (V.ref rs'[r]) := by rw [List.getElem?_map, List.getElem?_eq_getElem hr']; rfl
      refine q_setR (l := rs'[r]) (v := .int S.bottom) (ev_fld T.cl T.n_bottom rfl O'.at_ rfl) (ev_ixR (ev_fld T.cl T.n_cells rfl O'.at_ rfl) O'.hce (ev_var rfl) hix) (ev_var rfl) hrow (by rw [List.length_map, lp]; omega) fun H3 e3 => ?_
      have O3 := (O'.m e3).setCell (i := r) (row := (S.cells.getD r []).set s S.bottom) hr'
      rw [List.map_set] at O3
      generalize upd H3 rs'[r] _ = H4 at *
      -- self.bottom = by
      refine ⟨.int (S.c r s), rfl, .ref p, rfl, p, C, dx, _, rfl, O3.at_, T.cl, T.n_bottom, show 8 < 1000 by decide, ?_⟩
      have O4 := O3.setBottom (S.c r s)
      have hput : putF "bottom" (V.int (S.c r s)) (flds S.wide S.high sc wd (.ref ce) S.bottom (.ref ac) (.ref dn)) = flds S.wide S.high sc wd (.ref ce) (S.c r s) (.ref ac) (.ref dn) := rfl
      show tSeq _ _ _ _ (upd H4 p (.ins C dx (putF "bottom" (V.int (S.c r s)) (flds S.wide S.high sc wd (.ref ce) S.bottom (.ref ac) (.ref dn)))))
      rw [hput]
      generalize upd H4 p _ = H5 at *
      have hS5 := O4.sht
      refine qd_asgI (n := ((S.dn r : Nat) : Int)) (ed_ixL (ed_fld T.cl T.n_down rfl hS5.fDown) (ed_v rfl) (ixNat (by show r < S.down.length; rw [G.wf.dl]; exact hrm))) fun H6 e6 => ?_
      have O6 := O4.m e6
      have hS6 := O6.sht
      refine q_setR (l := dn) (v := nV (S.ac s)) (k := r) (EvD.ev_int (ed_ixL (ed_fld T.cl T.n_across rfl hS6.fAcross) (ed_v rfl) (ixNat (by show s < S.across.length; rw [G.wf.al]; exact hs)))) (ev_fld T.cl T.n_down rfl O6.at_ rfl) (ev_var rfl) O6.hdn (by rw [List.length_map, G.wf.dl]; exact hrm) fun H7 e7 => ?_
      have O7 := (O6.m e7).setDown (S.down.set r (S.ac s))
      rw [← List.map_set]
      generalize upd H7 dn _ = H8 at *
      refine s_setR (l := ac) (v := nV (S.dn r)) (k := s) (ev_var rfl) (ev_fld T.cl T.n_across rfl O7.at_ rfl) (ev_var rfl) O7.hac (by rw [List.length_map, G.wf.al]; exact hs) fun H9 e9 => ?_
      have O9 := (O7.m e9).setAcross (S.across.set s (S.dn r))
      rw [← List.map_set]
      refine k _ ⟨dx, sc, wd, ce, ac, dn, rs', ?_⟩
      have hend := rowsTo_end (T := S) (r := r) (s := s) G.wf (by omega)
      have O10 := O9.lower b1 A.hsc A.hwd
      have e : (S.pivot r s) = { S with cells := (rowsTo S r s M).set r ((S.cells.getD r []).set s S.bottom), bottom := S.c r s, across := S.across.set s (S.dn r), down := S.down.set r (S.ac s) } := by
        rw [hend]; rfl
      rw [e]
      exact O10
end
end Hd


/-! text S5 -/
set_option Elab.async false
set_option linter.all false
set_option maxRecDepth 100000
set_option maxHeartbeats 4000000
namespace Hd
open PySem PySem.Spec PyProof.Rows L2 Evl
section
variable {P : Program} {w : World} {K : PySem.W.Frag} {mg : Str → Option Value} {base : Heap} {C : Addr} {t8 : Tok} {f : Addr} {fd : FuncData} {p : Addr} {T T' : Sh}
variable {σ : L2.St} {H H' H0 H1 : Hp} {ta tb te tk tl : TE} {t : TT} {tu tz : TS} {D : Ends} {g : Fr} {fs gs : List Fr} {ds : List PyData} {d : PyData}
theorem Own.rebase (O : Own C H0 H p T) : ∃ H1, Ex H0 H1 ∧ Ex H1 H ∧ Own C H1 H p T ∧ ∀ a o, H a = some o → (∀ xs, o ≠ .lst xs) → (∀ C dx fs, o ≠ .ins C dx fs) → H1 a = some o := by
  obtain ⟨dx, sc, wd, ce, ac, dn, rs, A⟩ := O
  obtain ⟨H1, b1, B, b3⟩ := A.rebase
  refine ⟨H1, b1, B.ex, ⟨dx, sc, wd, ce, ac, dn, rs, B⟩, fun a o ha h1 h2 => b3 a o ha fun hm => ?_⟩
  rcases A.known a hm with ⟨xs, e⟩ | ⟨_, _, _, e⟩
  · rw [ha] at e; exact h1 _ (Option.some.inj e)
  · rw [ha] at e; exact h2 _ _ _ (Option.some.inj e)
theorem ev_comes {n m M wi i1 i2 : Nat} {bd : V} {bar : Nat → Bool} (h0 : σ[0]? = some (some (.ref p))) (hS : Sht C H p T) (G : Gd n m M T) (hw : m + wi < M) (hB : Bar H bd n bar) (h1 : σ[i1]? = some (some (.int (wi : Int)))) (h2 : σ[i2]? = some (some bd)) :
    Ev (tMeth C "comes_in" (spComes C) [] E0 (tVar 0) (tCons (tVar i1) (tCons (tVar i2) tNil))) σ H (optV (T.comesIn wi bar)) := fun H1 e1 Q q => by
  obtain ⟨dx, fs, a1, a2⟩ := noMeth (mm := "comes_in") hS (by intros; rfl)
  exact ⟨.ref p, h0, p, dx, fs, rfl, e1 _ _ a1, a2, _, h1, _, h2, p, T, n, m, M, wi, bd, bar, rfl, G, hS.m e1, hw, hB.m e1, fun H2 e2 => q H2 e2⟩
theorem q_pivot {n m M r s i1 i2 : Nat} (h0 : σ[0]? = some (some (.ref p))) (O : Own C H0 H p T) (G : Gd n m M T) (hr : r < m) (hs : s < n) (h1 : σ[i1]? = some (some (.int (r : Int)))) (h2 : σ[i2]? = some (some (.int (s : Int)))) (k : ∀ H', Own C H0 H' p (T.pivot r s) → tz D σ H') :
    tSeq (tDrop (tMeth C "pivot" (spPivot C) [] E0 (tVar 0) (tCons (tVar i1) (tCons (tVar i2) tNil)))) tz D σ H := by
  obtain ⟨dx, fs, a1, a2⟩ := noMeth (mm := "pivot") O.sht (by intros; rfl)
  exact ⟨.ref p, h0, p, dx, fs, rfl, a1, a2, _, h1, _, h2, p, T, n, m, M, r, s, H0, rfl, G, O, hr, hs, fun H' O' => k H' O'⟩
/-- seek: what is asked of the sheet -/
structure SkOk (n m M : Nat) (T : Sh) (w : Nat) (bar : Nat → Bool) : Prop where
  hw : m + w < M
  good : ∀ k, Gd n m M (T.run w bar k)
  ends : ∃ k, (T.run w bar k).move w bar = none
def spSeek (C : Addr) : Sp := fun vs H Q _ => ∃ p T n m M w bd bar H0, vs = [.ref p, .int ((w : Nat) : Int), bd] ∧ SkOk n m M T w bar ∧ Own C H0 H p T ∧ Bar H0 bd n bar ∧ ∀ H', Own C H0 H' p (T.last w bar) → Q (optV ((T.last w bar).comesIn w bar)) H'
theorem ok_seek (F : FnP K "seek" "Sheet.seek" sSeek f fd) (T : Txt K mg C t8) (MComes : Met P w K mg base C 1 "comes_in" ["self", "wish", "barred"] (spComes C)) (MGoes : Met P w K mg base C 2 "goes_out" ["self", "s"] (spM C preGoes)) (MPivot : Met P w K mg base C 1 "pivot" ["self", "r", "s"] (spPivot C)) :
    FnOk P w K mg base CX0 3 f fd ["self", "wish", "barred"] (spSeek C) := by
  refine F.ok scSeek (fun vs H Q E h => ?_) (fun cdv A outer s H vs Q E hr h => ?_)
  · obtain ⟨_, _, _, _, _, _, _, _, _, rfl, _⟩ := h
    rfl
  · obtain ⟨p, S, n, m, M, w, bd, bar, H0, rfl, G, O, hB, k⟩ := h
    obtain ⟨N, hN⟩ := G.ends
    refine ⟨_, PSs.nox (pss_cons (ps_set (i := 3) scSeek.nd rfl (Or.inl rfl) (pe_m (pv 0) T.cl MComes hr (pa_cons (pv 1) (pa_cons (pv 2) pa_nil))))
      (pss_cons (ps_while PassesOwn.never (pt_cmpR op_notN (pv 3) pe_non (nomark _)) (pss_cons (ps_set (i := 4) scSeek.nd rfl (Or.inl rfl) (pe_m (pv 0) T.cl MGoes hr (pa_cons (pv 3) pa_nil)))
      (pss_cons (ps_if (pt_cmpR op_isN (pv 4) pe_non (nomark _)) (pss_one (ps_ret (pv 3))) pss_nil)
      (pss_cons (ps_expr (pe_m (pv 0) T.cl MPivot hr (pa_cons (pv 4) (pa_cons (pv 3) pa_nil))))
      (pss_one (ps_set (i := 3) scSeek.nd rfl (Or.inl rfl) (pe_m (pv 0) T.cl MComes hr (pa_cons (pv 1) (pa_cons (pv 2) pa_nil)))))))))
      (pss_one (ps_ret pe_non)))), ?_⟩
    refine q_asg (ev_comes rfl O.sht (G.good 0) G.hw (hB.m O.ex) rfl rfl) fun H1 e1 => ?_
    refine qd_while (fun c σ' H' => ∃ i x, i ≤ N ∧ c = N - i ∧ Own C H0 H' p (S.run w bar i) ∧ σ' = [some (.ref p), some (.int w), some bd, some (optV ((S.run w bar i).comesIn w bar)), x]) N ⟨0, none, by omega, by omega, O.m e1, rfl⟩ fun c σ' H' hW => ?_
    obtain ⟨i, x, hi, hc, O', rfl⟩ := hW
    have Gi := G.good i
    refine ⟨_, et_test (ev_notN rfl), fun hb H2 e2 => ?_, fun hb H2 e2 => ?_⟩
    · obtain ⟨s0, hs0⟩ := Option.isSome_iff_exists.mp hb
      have O2 := O'.m e2
      obtain ⟨c1, c2, c3, _⟩ := Sh.comesIn_some hs0
      rw [Gi.wf.wide] at c1
      rw [hs0]
      refine qd_asg (ed_meth rfl O2.sht (ea_consD (ed_v rfl) ea_nilD) ⟨n, m, M, s0, Gi, c1, rfl, rfl⟩) fun v H3 e3 hv => ?_
      obtain rfl := optD_inv hv
      have O3 := O2.m e3
      refine q_when (et_test (ev_isN rfl)) (fun hb2 H4 e4 => ?_) (fun hb2 H4 e4 => ?_)
      · have hg : (S.run w bar i).goesOut s0 = none := Option.isNone_iff_eq_none.mp hb2
        have hmv : (S.run w bar i).move w bar = none := by
          unfold Sh.move
          rw [hs0]
          show (match (S.run w bar i).goesOut s0 with | none => none | some r => _) = none
          rw [hg]
        have hl := Sh.last_eq hmv
        have kk := k H4
        rw [hl, hs0] at kk
        exact ⟨_, rfl, kk (O3.m e4)⟩
      · obtain ⟨r0, hr0⟩ := Option.isSome_iff_exists.mp (by simpa using hb2)
        rw [hr0]
        have g1 := (Sh.goesOut_some hr0).1
        rw [Gi.wf.high] at g1
        refine q_pivot rfl (O3.m e4) Gi g1 c1 rfl rfl fun H5 O5 => ?_
        have hmv : (S.run w bar i).move w bar = some ((S.run w bar i).pivot r0 s0) := by
          unfold Sh.move
          rw [hs0]
          show (match (S.run w bar i).goesOut s0 with | none => none | some r => _) = _
          rw [hr0]
        have hrun : S.run w bar (i + 1) = (S.run w bar i).pivot r0 s0 := by
          show (match (S.run w bar i).move w bar with | none => S.run w bar i | some T' => T') = _
          rw [hmv]
        have hiN : i ≠ N := fun h => by rw [h, hN] at hmv; cases hmv
        rw [← hrun] at O5
        refine s_asg (ev_comes rfl O5.sht (G.good (i + 1)) G.hw (hB.m O5.ex) rfl rfl) fun H6 e6 => ?_
        exact ⟨N - (i + 1), by omega, i + 1, _, by omega, rfl, O5.m e6, rfl⟩
    · have hn : (S.run w bar i).comesIn w bar = none := by simpa using hb
      have hmv : (S.run w bar i).move w bar = none := by
        unfold Sh.move
        rw [hn]
      have hl := Sh.last_eq hmv
      have kk := k H2
      rw [hl, hn] at kk
      exact kk (O'.m e2)
end
end Hd


/-! text S6 -/
set_option Elab.async false
set_option linter.all false
set_option maxRecDepth 100000
set_option maxHeartbeats 4000000
namespace Hd
open PySem PySem.Spec PyProof.Rows L2 Evl
def cut (H : Hp) (p : Addr) : Hp := fun a => if a = p then none else H a
theorem cut_ne {H : Hp} {p a : Addr} (h : a ≠ p) : cut H p a = H a := if_neg h
theorem cut_self {H : Hp} {p : Addr} : cut H p p = none := if_pos rfl
section
variable {H H' : Hp} {p : Addr} {C dx : Addr} {fs : List (Str × V)}
mutual
theorem Dq.cut (hp : H p = some (.ins C dx fs)) : ∀ (d : PyData) (v : V), Dq H v d → Dq (cut H p) v d
  | .none, _, h => by cases h; exact .non
  | .bool b, _, h => by cases h; exact .bl b
  | .int i, _, h => by cases h; exact .int i
  | .str x, _, h => by cases h; exact .str x
  | .list ds, _, h => by
    cases h with
    | lst h1 h2 => exact .lst (by rw [cut_ne (ne_of h1 hp (by intro z; cases z))]; exact h1) (DqAll.cut hp ds _ h2)
  | .tuple ds, _, h => by
    cases h with
    | tup h1 h2 => exact .tup (by rw [cut_ne (ne_of h1 hp (by intro z; cases z))]; exact h1) (DqAll.cut hp ds _ h2)
  | .dict _, _, h => by cases h
theorem DqAll.cut (hp : H p = some (.ins C dx fs)) : ∀ (ds : List PyData) (vs : List V), DqAll H vs ds → DqAll (cut H p) vs ds
  | [], _, h => by cases h; exact .nil
  | d :: ds, _, h => by
    cases h with
    | cons h1 h2 => exact .cons (Dq.cut hp d _ h1) (DqAll.cut hp ds _ h2)
end
/-- an instance in the making -/
structure Ini (C p dx : Addr) (fs : List (Str × V)) (B H : Hp) : Prop where
  b0 : B p = none
  at_ : H p = some (.ins C dx fs)
  ex : Ex B H
theorem Ini.m {B : Hp} (I : Ini C p dx fs B H) (e : Ex H H') : Ini C p dx fs (Hd.cut H' p) H' ∧ Ex B (Hd.cut H' p) :=
  ⟨⟨cut_self, e _ _ I.at_, fun a o h => by
    by_cases ha : a = p
    · rw [ha, cut_self] at h; cases h
    · rw [cut_ne ha] at h; exact h⟩, fun a o h => by
      have : a ≠ p := fun h2 => by rw [h2, I.b0] at h; cases h
      rw [cut_ne this]
      exact e _ _ (I.ex _ _ h)⟩
theorem Ini.put {B : Hp} {fs' : List (Str × V)} (I : Ini C p dx fs B H) : Ini C p dx fs' B (upd H p (.ins C dx fs')) := ⟨I.b0, upd_same, Ex.mut I.ex I.b0⟩
end
section
variable {P : Program} {w : World} {K : PySem.W.Frag} {mg : Str → Option Value} {base : Heap} {C : Addr} {t8 : Tok} {f : Addr} {fd : FuncData} {p : Addr} {T T' : Sh}
variable {σ : L2.St} {H H' H0 H1 B : Hp} {ta tb te tk tl : TE} {t : TT} {tu tz : TS} {D : Ends} {g : Fr} {ds es gs : List PyData} {d : PyData} {dx : Addr} {fs : List (Str × V)}
theorem q_fldD {x : Str} {i : Nat} (I : Ini C p dx fs B H) (c : Cls K C) (n : NoAttr K C x) (h0 : σ[i]? = some (some (.ref p))) (hl : fs.length < 1000) (hv : EvD te σ H d) (k : ∀ v B' H', Ini C p dx (putF x v fs) B' H' → Ex B B' → Dq B' v d → tz D σ H') :
    tSeq (sFld K (tVar i) te x) tz D σ H := hv H (Ex.refl H) _ fun v H1 e1 hd => by
  obtain ⟨J, eB⟩ := I.m e1
  exact ⟨.ref p, h0, p, C, dx, fs, rfl, J.at_, c, n, hl, k v _ _ J.put eB (Dq.cut J.at_ d v hd)⟩
theorem q_fldN {x : Str} {i : Nat} (I : Ini C p dx fs B H) (c : Cls K C) (n : NoAttr K C x) (h0 : σ[i]? = some (some (.ref p))) (hl : fs.length < 1000) (hv : EvN te σ H ds) (k : ∀ l xs B' H', Ini C p dx (putF x (.ref l) fs) B' H' → Ex B B' → B l = none → H' l = some (.lst xs) → DqAll B' xs ds → tz D σ H') :
    tSeq (sFld K (tVar i) te x) tz D σ H := hv H (Ex.refl H) _ fun v H1 e1 hd => by
  obtain ⟨J, eB⟩ := I.m e1
  obtain ⟨l, xs, rfl, g0, g1, g2⟩ := hd
  exact ⟨.ref p, h0, p, C, dx, fs, rfl, J.at_, c, n, hl, k l xs _ _ J.put eB (fresh_back I.ex g0) (by rw [upd_ne (ne_of g1 J.at_ (by intro z; cases z))]; exact g1) (DqAll.cut J.at_ ds xs g2)⟩
/-- the rows in the making -/
structure Cel (B H : Hp) (ce : Addr) (rs : List Addr) (rows : List (List Int)) : Prop where
  ex : Ex B H
  ce_ : H ce = some (.lst (rs.map V.ref))
  len : rs.length = rows.length
  row : ∀ i (h : i < rs.length), H rs[i] = some (.lst ((rows.getD i []).map V.int))
  fr : ∀ a ∈ ce :: rs, B a = none
  nd : rs.Nodup
  ceR : ce ∉ rs
theorem Cel.m {ce : Addr} {rs : List Addr} {rows : List (List Int)} (c : Cel B H ce rs rows) (e : Ex H H') : Cel B H' ce rs rows :=
  { c with ex := c.ex.trans e, ce_ := e _ _ c.ce_, row := fun i h => e _ _ (c.row i h) }
theorem Cel.known {ce : Addr} {rs : List Addr} {rows : List (List Int)} (c : Cel B H ce rs rows) : ∀ a ∈ ce :: rs, ∃ xs, H a = some (.lst xs) := fun a ha => by
  rcases List.mem_cons.mp ha with rfl | ha
  · exact ⟨_, c.ce_⟩
  · obtain ⟨i, hi, rfl⟩ := List.getElem_of_mem ha
    exact ⟨_, c.row i hi⟩
theorem Cel.updI {ce : Addr} {rs : List Addr} {rows : List (List Int)} (c : Cel B H ce rs rows) (hb : B p = none) {fs fs' : List (Str × V)} (hp : H p = some (.ins C dx fs)) : Cel B (upd H p (.ins C dx fs')) ce rs rows :=
  { c with ex := Ex.mut c.ex hb, ce_ := by rw [upd_ne (ne_of c.ce_ hp (by intro z; cases z))]; exact c.ce_, row := fun i h => by rw [upd_ne (ne_of (c.row i h) hp (by intro z; cases z))]; exact c.row i h }
theorem Cel.app {ce F : Addr} {rs : List Addr} {rows : List (List Int)} {row : List Int} (c : Cel B H ce rs rows) (hF : H F = none) (e : Ex H H') (hF2 : H' F = some (.lst (row.map V.int))) : Cel B (upd H' ce (.lst (rs.map V.ref ++ [.ref F]))) ce (rs ++ [F]) (rows ++ [row]) := by
  have c' := c.m e
  have hcF : F ≠ ce := fun h => by rw [h, c.ce_] at hF; cases hF
  have nF : F ∉ rs := fun h => by
    obtain ⟨xs, hx⟩ := c.known F (by simp [h])
    rw [hF] at hx; cases hx
  refine ⟨Ex.mut c'.ex (c.fr ce (by simp)), ?_, ?_, fun i hi => ?_, fun a ha => ?_, ?_, ?_⟩
  · rw [upd_same, List.map_append]; rfl
  · rw [List.length_append, List.length_append, c.len]; rfl
  · rw [List.length_append] at hi
    by_cases h : i < rs.length
    · rw [List.getElem_append_left h, getD_app_l (by rw [← c.len]; exact h), upd_ne (fun he => c.ceR (by rw [← he]; exact List.getElem_mem h))]
      exact c'.row i h
    · have hi' : i = rs.length := by simp at hi; omega
      subst hi'
      rw [List.getElem_append_right (Nat.le_refl _)]
      have e1 : (rows ++ [row]).getD rs.length [] = row := by
        have := getD_app_r (xs := rows) (ys := [row]) (i := 0) ([] : List Int)
        rw [Nat.add_zero, ← c.len] at this
        exact this
      rw [e1]
      simp only [Nat.sub_self, List.getElem_cons_zero]
      rw [upd_ne hcF]; exact hF2
  · simp only [List.mem_cons, List.mem_append, List.not_mem_nil, or_false] at ha
    rcases ha with rfl | ha | rfl
    · exact c.fr _ (by simp)
    · exact c.fr a (by simp [ha])
    · exact fresh_back c.ex hF
  · rw [List.nodup_append]
    refine ⟨c.nd, by simp, fun a ha b hb => ?_⟩
    rw [List.mem_singleton.mp hb]
    intro h; exact nF (h ▸ ha)
  · intro h
    rcases List.mem_append.mp h with h | h
    · exact c.ceR h
    · exact hcF (List.mem_singleton.mp h).symm
theorem s_appP {l : Addr} {xs : List V} {Pr : V → Hp → Prop} (hl : H l = some (.lst xs)) (ha : Ev ta σ H (.ref l)) (h : EvP te σ H Pr) (hz : xs.length < 100000) (k : ∀ v H1, Ex H H1 → Pr v H1 → D.nx σ (upd H1 l (.lst (xs ++ [v])))) :
    tDrop (tBM K "list" rAppend ta (tCons te tNil)) D σ H := ha H (Ex.refl H) _ fun H1 e1 =>
  ⟨Or.inl ⟨rfl, xs, SqL.of (e1 l _ hl)⟩, h H1 e1 _ fun v H2 e2 hv => ⟨l, xs, v, rfl, rfl, e2 l _ (e1 l _ hl), sz_lt hz, k v H2 (e1.trans e2) hv⟩⟩
/-- for x, y in zip(..), the lists being of the base -/
theorem qd_forZB {ta : TA} {j l : Nat} {v1 v2 : V} (ha : EvA ta σ H [v1, v2]) (eB : Ex B H) (h1 : Dq B v1 (.list ds)) (h2 : Dq B v2 (.list es)) (hle : ds.length = es.length) (k : ∀ H1, Ex H H1 → ∃ Pv : Nat → L2.St → Hp → Prop, Pv 0 σ H1 ∧ (∀ i σ' H', Pv i σ' H' → Ex B H') ∧
    (∀ i d e v u σ' H' H'', ds[i]? = some d → es[i]? = some e → Pv i σ' H' → Ex H' H'' → Dq H'' v d → Dq H'' u e → tu { D with nx := Pv (i + 1), ct := Pv (i + 1), bk := tz D } ((σ'.set j (some v)).set l (some u)) H'') ∧ ∀ σ' H', Pv ds.length σ' H' → tz D σ' H') :
    tSeq (tFor (iZip K ta) (gTup K 2 (gCons (gName j) (gCons (gName l) gNil))) tu) tz D σ H := ha H (Ex.refl H) _ fun H1 e1 => by
  obtain ⟨a, xs, rfl, hp, hall⟩ := h1.lst_inv
  obtain ⟨b, ys, rfl, hp2, hall2⟩ := h2.lst_inv
  have l1 := hall.length
  have l2 := hall2.length
  obtain ⟨Pv, h0, hk, hs, hd⟩ := k H1 e1
  refine ⟨a, b, xs, ys, rfl, SqL.of (e1 _ _ (eB _ _ hp)), SqL.of (e1 _ _ (eB _ _ hp2)), for_it (walk_zip (K := K) (a := a) (b := b) (xs := xs) (ys := ys) (n := ds.length) (by omega)) Pv h0 (fun i σ' H' _ p => ⟨SqL.of (hk _ _ _ p _ _ hp), SqL.of (hk _ _ _ p _ _ hp2)⟩) (fun i x σ' Ha Hb hi p y => ?_) hd⟩
  obtain ⟨T, x1, x2, rfl, hT, rfl, hx1, hx2⟩ := y
  obtain ⟨d, hd', hdq⟩ := hall.get' hx1
  obtain ⟨e, he', heq⟩ := hall2.get' hx2
  have ex := Ex.new (o := .tup [x1, x2]) hT
  have eg := (hk _ _ _ p).trans ex
  exact ⟨T, _, rfl, SqT.of upd_same, rfl, _, _, rfl, _, _, rfl, rfl, hs i d e x1 x2 σ' Ha _ hd' he' p ex (hdq.m eg) (heq.m eg)⟩
theorem qd_forZ3B {ta : TA} {j l q : Nat} {v1 v2 v3 : V} (ha : EvA ta σ H [v1, v2, v3]) (eB : Ex B H) (h1 : Dq B v1 (.list ds)) (h2 : Dq B v2 (.list es)) (h3 : Dq B v3 (.list gs)) (hle : ds.length = es.length) (hle3 : ds.length = gs.length) (k : ∀ H1, Ex H H1 → ∃ Pv : Nat → L2.St → Hp → Prop, Pv 0 σ H1 ∧ (∀ i σ' H', Pv i σ' H' → Ex B H') ∧
    (∀ i d e g v u z σ' H' H'', ds[i]? = some d → es[i]? = some e → gs[i]? = some g → Pv i σ' H' → Ex H' H'' → Dq H'' v d → Dq H'' u e → Dq H'' z g → tu { D with nx := Pv (i + 1), ct := Pv (i + 1), bk := tz D } (((σ'.set j (some v)).set l (some u)).set q (some z)) H'') ∧ ∀ σ' H', Pv ds.length σ' H' → tz D σ' H') :
    tSeq (tFor (iZip3 K ta) (gTup K 3 (gCons (gName j) (gCons (gName l) (gCons (gName q) gNil)))) tu) tz D σ H := ha H (Ex.refl H) _ fun H1 e1 => by
  obtain ⟨a, xs, rfl, hp, hall⟩ := h1.lst_inv
  obtain ⟨b, ys, rfl, hp2, hall2⟩ := h2.lst_inv
  obtain ⟨c, zs, rfl, hp3, hall3⟩ := h3.lst_inv
  have l1 := hall.length
  have l2 := hall2.length
  have l3 := hall3.length
  obtain ⟨Pv, h0, hk, hs, hd⟩ := k H1 e1
  refine ⟨a, b, c, xs, ys, zs, rfl, SqL.of (e1 _ _ (eB _ _ hp)), SqL.of (e1 _ _ (eB _ _ hp2)), SqL.of (e1 _ _ (eB _ _ hp3)), for_it (walk_zip3 (K := K) (a := a) (b := b) (c := c) (xs := xs) (ys := ys) (zs := zs) (n := ds.length) (by omega) (by omega) (by omega)) Pv h0 (fun i σ' H' _ p => ⟨SqL.of (hk _ _ _ p _ _ hp), SqL.of (hk _ _ _ p _ _ hp2), SqL.of (hk _ _ _ p _ _ hp3)⟩) (fun i x σ' Ha Hb hi p y => ?_) hd⟩
  obtain ⟨T, x1, x2, x3, rfl, hT, rfl, hx1, hx2, hx3⟩ := y
  obtain ⟨d, hd', hdq⟩ := hall.get' hx1
  obtain ⟨e, he', heq⟩ := hall2.get' hx2
  obtain ⟨g, hg', hgq⟩ := hall3.get' hx3
  have ex := Ex.new (o := .tup [x1, x2, x3]) hT
  have eg := (hk _ _ _ p).trans ex
  exact ⟨T, _, rfl, SqT.of upd_same, rfl, _, _, rfl, _, _, rfl, _, _, rfl, rfl, hs i d e g x1 x2 x3 σ' Ha _ hd' he' hg' p ex (hdq.m eg) (heq.m eg) (hgq.m eg)⟩
theorem rgV0 (n : Nat) : rgV 0 (n : Int) = (List.range n).map nV := by
  unfold rgV
  have : ((n : Int) - 0).toNat = n := by omega
  rw [this]
  exact List.map_congr_left fun i _ => by unfold nV; rw [Int.zero_add]
theorem rgV1 (a n : Nat) : rgV (a : Int) ((a : Int) + (n : Int)) = (List.range' a n).map nV := by
  unfold rgV
  have : ((a : Int) + (n : Int) - (a : Int)).toNat = n := by omega
  rw [this, List.range'_eq_map_range, List.map_map]
  exact List.map_congr_left fun i _ => by
    show V.int _ = V.int ((a + i : Nat) : Int)
    rw [Int.natCast_add]
end
end Hd


/-! text S7 -/
set_option Elab.async false
set_option linter.all false
set_option maxRecDepth 100000
set_option maxHeartbeats 4000000
namespace Hd
open PySem PySem.Spec PyProof.Rows L2 Evl
section
variable {P : Program} {w : World} {K : PySem.W.Frag} {mg : Str → Option Value} {base : Heap} {C : Addr} {t8 : Tok} {f : Addr} {fd : FuncData} {p : Addr} {T T' : Sh}
variable {n : Nat} {rows : List (List Fr)} {bounds : List Fr} {wishes : List (List Fr)}
def spInit (C : Addr) : Sp := fun vs H Q _ => ∃ p a b c dx H0 n rows bounds wishes, vs = [.ref p, a, b, c] ∧ H p = some (.ins C dx []) ∧ H0 p = none ∧ Ex H0 H ∧ Dq H0 a (rowsD rows) ∧ Dq H0 b (qL bounds) ∧ Dq H0 c (rowsD wishes) ∧ InOk n rows bounds wishes ∧
  ∀ H' H0', Ex H0 H0' → Own C H0' H' p (mkSheet rows bounds wishes) → Q .non H'
theorem giv_small {fs : List Fr} (h : ∀ f ∈ fs, Giv0 f) : (∀ f ∈ fs, 0 < f.2 ∧ Sm 10 f.2) ∧ ∀ f ∈ fs, 0 < f.2 ∧ Sm 10 f.2 ∧ Sm 40 f.1 := by
  have k : ∀ f ∈ fs, Sm 10 f.2 := fun f hf => by
    have h1 := (h f hf).1.pos
    have h2 := (h f hf).2
    unfold Sm; omega
  exact ⟨fun f hf => ⟨(h f hf).1.pos, k f hf⟩, fun f hf => ⟨(h f hf).1.pos, k f hf, (h f hf).1.top.mono (by decide)⟩⟩
theorem rowGet {rows : List (List Fr)} {i : Nat} {d : PyData} (h : (rows.map qL)[i]? = some d) : i < rows.length ∧ d = qL (rows.getD i []) := by
  rw [List.getElem?_map] at h
  cases hr : rows[i]? with
  | none => rw [hr] at h; cases h
  | some r =>
    rw [hr] at h
    obtain ⟨hi, e⟩ := List.getElem?_eq_some_iff.mp hr
    refine ⟨hi, ?_⟩
    rw [getD_lt hi, e]
    exact (Option.some.inj h).symm
theorem frGet {fs : List Fr} {i : Nat} {d : PyData} (h : (fs.map qD)[i]? = some d) : i < fs.length ∧ d = qD (frD fs i) := by
  rw [List.getElem?_map] at h
  cases hr : fs[i]? with
  | none => rw [hr] at h; cases h
  | some r =>
    rw [hr] at h
    obtain ⟨hi, e⟩ := List.getElem?_eq_some_iff.mp hr
    refine ⟨hi, ?_⟩
    unfold frD
    rw [getD_lt hi, e]
    exact (Option.some.inj h).symm
theorem intGet {ns : List Int} {i : Nat} {d : PyData} (h : (ns.map PyData.int)[i]? = some d) : i < ns.length ∧ d = .int (ns.getD i 0) := by
  rw [List.getElem?_map] at h
  cases hr : ns[i]? with
  | none => rw [hr] at h; cases h
  | some r =>
    rw [hr] at h
    obtain ⟨hi, e⟩ := List.getElem?_eq_some_iff.mp hr
    refine ⟨hi, ?_⟩
    rw [getD_lt hi, e]
    exact (Option.some.inj h).symm
theorem qL_app (fs gs : List Fr) : (fs.map qD) ++ gs.map qD = (fs ++ gs).map qD := (List.map_append).symm
theorem ok_init (F : FnP K "__init__" "Sheet.__init__" sInit f fd) (T : Txt K mg C t8) (CShared : Cal P w K mg base 3 "shared_bottom" ["some"] (spD preShared)) (CWholes : Cal P w K mg base 1 "as_wholes" ["some", "by"] (spN preWholes)) :
    FnOk P w K mg base CX0 4 f fd ["self", "rows", "bounds", "wishes"] (spInit C) := by
  refine F.ok scInit (fun vs H Q E h => ?_) (fun cdv A outer s H vs Q E hr h => ?_)
  · obtain ⟨_, _, _, _, _, _, _, _, _, _, rfl, _⟩ := h
    rfl
  · obtain ⟨p, va, vb, vc, dx, H0, n, rows, bounds, wishes, rfl, hp, hp0, eH, ha, hb, hc, hI, k⟩ := h
    have wl := hI.wl
    have hi8 := hI.hi
    have n8 := hI.wi
    have hbl := hI.bl
    have I0 : Ini C p dx [] H0 H := ⟨hp0, hp, eH⟩
    refine ⟨_, PSs.nox (pss_cons (ps_fld (pv 0) (pe_callB call_len_seq (by rfl) T.len_ PySem.boot_len (pa_cons (pe_ix ix_list (pv 3) pe_int (fun _ _ => rfl)) pa_nil)) rfl)
      (pss_cons (ps_fld (pv 0) (pe_callB call_len_seq (by rfl) T.len_ PySem.boot_len (pa_cons (pv 1) pa_nil)) rfl)
      (pss_cons (ps_fld (pv 0) (pe_lc (g := (gTup K 2 (gCons (gName 4) (gCons (gName 5) gNil)))) (tt := tYes) (te := (tCall (spD preShared) [] E0 (tCons (tOp rCat (tVar 4) (tLst (tCons (tVar 5) tNil))) tNil))) rfl scInit.nd (pi_zip (by rfl) T.zip_ (pa_cons (pv 1) (pa_cons (pv 2) pa_nil))) (blkOk_by (own := [("row", 4), ("bound", 5)]) (N := nInit) (sc := defScope sInit) (by decide +kernel)) (fun _ _ _ _ _ => (pg_tup rfl (pgs_cons (pg_name (i := 4) scInit.nd rfl (Or.inl rfl) (Or.inr rfl)) (pgs_cons (pg_name (i := 5) scInit.nd rfl (Or.inl rfl) (Or.inr rfl)) pgs_nil)))) (fun _ _ _ _ _ => pts_nil) (fun _ _ _ _ _ => (pe_c CShared hr (by rfl) (pa_cons (pe_op op_cat (pv 4) (pe_lst (pa_cons (pv 5) pa_nil))) pa_nil)))) rfl)
      (pss_cons (ps_fld (pv 0) (pe_lc (g := (gName 6)) (tt := tYes) (te := (tCall (spD preShared) [] E0 (tCons (tVar 6) tNil))) rfl scInit.nd (pi_list (pv 3)) (blkOk_by (own := [("wish", 6)]) (N := nInit) (sc := defScope sInit) (by decide +kernel)) (fun _ _ _ _ _ => (pg_name (i := 6) scInit.nd rfl (Or.inl rfl) (Or.inr rfl))) (fun _ _ _ _ _ => pts_nil) (fun _ _ _ _ _ => (pe_c CShared hr (by rfl) (pa_cons (pv 6) pa_nil)))) rfl)
      (pss_cons (ps_fld (pv 0) (pe_lst pa_nil) rfl)
      (pss_cons (ps_for PassesOwn.never rfl (pi_zip3 (by rfl) T.zip_ (pa_cons (pv 1) (pa_cons (pv 2) (pa_cons (pe_fld (pv 0) rfl) pa_nil)))) (pg_tup rfl (pgs_cons (pg_name (i := 4) scInit.nd rfl (Or.inl rfl) (Or.inl rfl)) (pgs_cons (pg_name (i := 5) scInit.nd rfl (Or.inl rfl) (Or.inl rfl)) (pgs_cons (pg_name (i := 7) scInit.nd rfl (Or.inl rfl) (Or.inl rfl)) pgs_nil)))) (pss_one (ps_expr (pe_bm PySem.F.plainAttrs_list PySem.F.slot_list_append PySem.F.type_list_append mt_append (pe_fld (pv 0) rfl) (pa_cons (pe_c CWholes hr (by rfl) (pa_cons (pe_op op_cat (pv 4) (pe_lst (pa_cons (pv 5) pa_nil))) (pa_cons (pv 7) pa_nil))) pa_nil)))))
      (pss_cons (ps_for PassesOwn.never rfl (pi_zip (by rfl) T.zip_ (pa_cons (pv 3) (pa_cons (pe_fld (pv 0) rfl) pa_nil))) (pg_tup rfl (pgs_cons (pg_name (i := 6) scInit.nd rfl (Or.inl rfl) (Or.inl rfl)) (pgs_cons (pg_name (i := 7) scInit.nd rfl (Or.inl rfl) (Or.inl rfl)) pgs_nil))) (pss_one (ps_expr (pe_bm PySem.F.plainAttrs_list PySem.F.slot_list_append PySem.F.type_list_append mt_append (pe_fld (pv 0) rfl) (pa_cons (pe_op op_cat (pe_c CWholes hr (by rfl) (pa_cons (pv 6) (pa_cons (pv 7) pa_nil))) (pe_lst (pa_cons pe_int pa_nil))) pa_nil)))))
      (pss_cons (ps_fld (pv 0) pe_int rfl)
      (pss_cons (ps_fld (pv 0) (pe_listRg rfl (by rfl) T.list_ (prg_1 (by rfl) T.range_ (pe_fld (pv 0) rfl))) rfl)
      (pss_one (ps_fld (pv 0) (pe_listRg rfl (by rfl) T.list_ (prg_2 (by rfl) T.range_ (pe_fld (pv 0) rfl) (pe_op op_add (pe_fld (pv 0) rfl) (pe_fld (pv 0) rfl)))) rfl))))))))))), ?_⟩
    refine q_fldD I0 T.cl T.n_wide rfl (show 0 < 1000 by decide) (ed_len (ed_ixL (k := 0) (d := qL (wishes.getD 0 [])) (ed_var rfl (hc.m eH)) ed_int (by rw [List.getElem?_map, List.getElem?_eq_getElem (by omega), getD_lt (by omega)]; rfl))) fun v B1 H1 I1 b1 hd1 => ?_
    obtain rfl := hd1.int_inv
    have ha1 := ha.m b1
    have hb1 := hb.m b1
    have hc1 := hc.m b1
    refine q_fldD I1 T.cl T.n_high rfl (show 1 < 1000 by decide) (ed_len (ed_var rfl (ha1.m I1.ex))) fun v B2 H2 I2 b2 hd2 => ?_
    obtain rfl := hd2.int_inv
    have ha2 := ha1.m b2
    have hb2 := hb1.m b2
    have hc2 := hc1.m b2
    -- scales
    refine q_fldD (d := zL (mkSheet rows bounds wishes).scales) I2 T.cl T.n_scales rfl (show 2 < 1000 by decide) (EvN.ls (en_lcZ (rs := (mkSheet rows bounds wishes).scales.map PyData.int) (ea_consD (ed_var rfl (ha2.m I2.ex)) (ea_consD (ed_var rfl (hb2.m I2.ex)) ea_nilD)) (by rw [List.length_map, List.length_map, hbl]) (flat_ints _) (by
      rw [List.length_map, List.length_map]
      show (List.zipWith _ _ _).length = _
      rw [List.length_zipWith, hbl, Nat.min_self]) (by rw [List.length_map]; omega) (fun _ _ => rfl) fun i d e rr v u Hq hd he hrr eq hv hu => ?_)) fun v3 B3 H3 I3 b3 hd3 => ?_
    · obtain ⟨hi, rfl⟩ := rowGet hd
      obtain ⟨hi2, rfl⟩ := frGet he
      obtain ⟨hi3, rfl⟩ := intGet hrr
      have hf := hI.frow hi
      rw [hI.scales hi]
      refine ed_call (ea_consD (en_cat (ds := (rows.getD i []).map qD) (es := [frD bounds i].map qD) (ed_var rfl hv) (en_lst (ea_consD (ed_var rfl hu) ea_nilD) (show 1 ≤ 100000 by decide)).ls (by
        have := hf.1
        rw [List.length_append] at this
        rw [List.length_map, List.length_map]; omega)).ls ea_nilD) ⟨rows.getD i [] ++ [frD bounds i], by rw [qL_app]; rfl, by omega, (giv_small hf.2).1, rfl⟩
    have ha3 := ha2.m b3
    have hb3 := hb2.m b3
    have hc3 := hc2.m b3
    -- wished
    refine q_fldD (d := zL (mkSheet rows bounds wishes).wished) I3 T.cl T.n_wished rfl (show 3 < 1000 by decide) (EvN.ls (en_lcL (rs := (mkSheet rows bounds wishes).wished.map PyData.int) (ed_var rfl (hc3.m I3.ex)) (flat_ints _) (by
      rw [List.length_map, List.length_map]
      show (wishes.map _).length = _
      rw [List.length_map]) (by rw [List.length_map]; omega) (fun _ => rfl) fun i d rr v Hq hd hrr eq hv => ?_)) fun v4 B4 H4 I4 b4 hd4 => ?_
    · obtain ⟨hi, rfl⟩ := rowGet hd
      obtain ⟨hi3, rfl⟩ := intGet hrr
      have hf := hI.fwish hi
      rw [hI.wisheds hi]
      exact ed_call (ea_consD (ed_var rfl hv) ea_nilD) ⟨wishes.getD i [], rfl, by omega, (giv_small hf.2).1, rfl⟩
    have ha4 := ha3.m b4
    have hb4 := hb3.m b4
    have hc4 := hc3.m b4
    have hd34 := hd3.m b4
    -- cells
    refine q_fldN I4 T.cl T.n_cells rfl (show 4 < 1000 by decide) (en_lst ea_nilD (by decide)) fun ce xs B5 H5 I5 b5 hce0 hce1 hcx => ?_
    cases hcx
    have c0 : Cel B4 H5 ce [] [] := ⟨b5.trans I5.ex, hce1, rfl, fun i h => by simp at h, fun a ha => by simp at ha; rw [ha]; exact hce0, List.nodup_nil, by simp⟩
    have scl : (mkSheet rows bounds wishes).scales.length = rows.length := hI.wfm.sl
    have wdl : (mkSheet rows bounds wishes).wished.length = wishes.length := by
      show (wishes.map _).length = _
      rw [List.length_map]
    have zl : (List.zipWith (fun row b => asWholes (row ++ [b]) (sharedBottom (row ++ [b]))) rows bounds).length = rows.length := by rw [List.length_zipWith, hbl, Nat.min_self]
    have hcw : (mkSheet rows bounds wishes).cells = List.zipWith (fun row b => asWholes (row ++ [b]) (sharedBottom (row ++ [b]))) rows bounds ++ wishes.map (fun w => asWholes w (sharedBottom w) ++ [0]) := rfl
    generalize hfs5 : putF "cells" (V.ref ce) (putF "wished" v4 (putF "scales" v3 (putF "high" _ (putF "wide" _ [])))) = fs5 at *
    refine qd_forZ3B (B := B4) (ds := rows.map qL) (es := bounds.map qD) (gs := (mkSheet rows bounds wishes).scales.map PyData.int) (ea_cons (ev_var rfl) (ea_cons (ev_var rfl) (ea_cons (ev_fld T.cl T.n_scales rfl I5.at_ (by rw [← hfs5]; rfl)) ea_nil))) c0.ex ha4 hb4 hd34 (by rw [List.length_map, List.length_map, hbl]) (by rw [List.length_map, List.length_map, scl]) fun H6 e6 => ?_
    refine ⟨fun i σ' H' => ∃ rs x4 x5 x6 x7, Cel B4 H' ce rs ((mkSheet rows bounds wishes).cells.take i) ∧ H' p = some (.ins C dx fs5) ∧ σ' = [some (.ref p), some va, some vb, some vc, x4, x5, x6, x7], ⟨[], none, none, none, none, c0.m e6, e6 _ _ I5.at_, rfl⟩, fun i σ' H' p' => ?_, fun i d e g v u z σ' H' H'' hd he hg p' e7 hv hu hz => ?_, fun σ' H' p' => ?_⟩
    · obtain ⟨_, _, _, _, _, c, _⟩ := p'; exact c.ex
    · obtain ⟨rs, x4, x5, x6, x7, c, hp', rfl⟩ := p'
      obtain ⟨hi, rfl⟩ := rowGet hd
      obtain ⟨hi2, rfl⟩ := frGet he
      obtain ⟨hi3, rfl⟩ := intGet hg
      have hf := hI.frow hi
      have c7 := c.m e7
      have hsc := hI.scale hi
      rw [hI.scales hi] at hz
      have rl : rs.length ≤ 20 := by rw [c.len, List.length_take]; omega
      refine s_appP c7.ce_ (ev_fld T.cl T.n_cells rfl (e7 _ _ hp') (by rw [← hfs5]; rfl)) (en_call (es := (asWholes (rows.getD i [] ++ [frD bounds i]) (Hd.scale rows bounds i)).map PyData.int) (ea_consD (en_cat (ds := (rows.getD i []).map qD) (es := [frD bounds i].map qD) (ed_var rfl hv) (en_lst (ea_consD (ed_var rfl hu) ea_nilD) (show 1 ≤ 100000 by decide)).ls (by
        have := hf.1
        rw [List.length_append] at this
        rw [List.length_map, List.length_map]; omega)).ls (ea_consD (ed_var rfl hz) ea_nilD)) ⟨rows.getD i [] ++ [frD bounds i], Hd.scale rows bounds i, by rw [qL_app]; rfl, by omega, (giv_small hf.2).2, (sm_of9 hsc.1 hsc.2.2).mono (by decide), rfl⟩) (by rw [List.length_map]; omega) fun v H8 e8 hvN => ?_
      obtain ⟨F, ys, rfl, hF0, hF1, hFx⟩ := hvN
      obtain rfl := hFx.ints_inv
      have cA := c7.app hF0 e8 hF1
      refine ⟨rs ++ [F], _, _, x6, _, ?_, ?_, rfl⟩
      · have ht : (mkSheet rows bounds wishes).cells.take (i + 1) = (mkSheet rows bounds wishes).cells.take i ++ [asWholes (rows.getD i [] ++ [frD bounds i]) (Hd.scale rows bounds i)] := by
          rw [List.take_add_one]
          congr 1
          have hil : i < (mkSheet rows bounds wishes).cells.length := by rw [hI.wfm.cl]; omega
          rw [List.getElem?_eq_getElem hil, ← hI.crow hi, getD_lt hil]; rfl
        rw [ht]; exact cA
      · rw [upd_ne (ne_of (e8 _ _ (e7 _ _ hp')) (e8 _ _ c7.ce_) (by intro z; cases z))]
        exact e8 _ _ (e7 _ _ hp')
    obtain ⟨rs1, y4, y5, y6, y7, c1, hp1, rfl⟩ := p'
    rw [List.length_map] at c1
    refine qd_forZB (B := B4) (ds := wishes.map qL) (es := (mkSheet rows bounds wishes).wished.map PyData.int) (ea_cons (ev_var rfl) (ea_cons (ev_fld T.cl T.n_wished rfl hp1 (by rw [← hfs5]; rfl)) ea_nil)) c1.ex hc4 hd4 (by rw [List.length_map, List.length_map, wdl]) fun H9 e9 => ?_
    refine ⟨fun i σ' H' => ∃ rs x4 x5 x6 x7, Cel B4 H' ce rs ((mkSheet rows bounds wishes).cells.take (rows.length + i)) ∧ H' p = some (.ins C dx fs5) ∧ σ' = [some (.ref p), some va, some vb, some vc, x4, x5, x6, x7], ⟨rs1, y4, y5, y6, y7, c1.m e9, e9 _ _ hp1, rfl⟩, fun i σ' H' p' => ?_, fun i d e v u σ' H' H'' hd he p' e7 hv hu => ?_, fun σ' H' p' => ?_⟩
    · obtain ⟨_, _, _, _, _, c, _⟩ := p'; exact c.ex
    · obtain ⟨rs, x4, x5, x6, x7, c, hp', rfl⟩ := p'
      obtain ⟨hi, rfl⟩ := rowGet hd
      obtain ⟨hi3, rfl⟩ := intGet he
      have hf := hI.fwish hi
      have c7 := c.m e7
      have hsc := hI.wscale hi
      rw [hI.wisheds hi] at hu
      have rl : rs.length ≤ 20 := by rw [c.len, List.length_take]; omega
      refine s_appP c7.ce_ (ev_fld T.cl T.n_cells rfl (e7 _ _ hp') (by rw [← hfs5]; rfl)) (en_cat (ds := (asWholes (wishes.getD i []) (Hd.wscale wishes i)).map PyData.int) (es := [(0 : Int)].map PyData.int) (en_call (ea_consD (ed_var rfl hv) (ea_consD (ed_var rfl hu) ea_nilD)) ⟨wishes.getD i [], Hd.wscale wishes i, rfl, by omega, (giv_small hf.2).2, (sm_of9 hsc.1 hsc.2.2).mono (by decide), rfl⟩).ls (en_lst (ea_consD ed_int ea_nilD) (show 1 ≤ 100000 by decide)).ls (by rw [List.length_map, List.length_map, asWholes_len, hf.1]; simp; omega)) (by rw [List.length_map]; omega) fun v H8 e8 hvN => ?_
      obtain ⟨F, ys, rfl, hF0, hF1, hFx⟩ := hvN
      rw [← List.map_append] at hFx
      obtain rfl := hFx.ints_inv
      have cA := c7.app hF0 e8 hF1
      refine ⟨rs ++ [F], x4, x5, _, _, ?_, ?_, rfl⟩
      · have ht : (mkSheet rows bounds wishes).cells.take (rows.length + (i + 1)) = (mkSheet rows bounds wishes).cells.take (rows.length + i) ++ [asWholes (wishes.getD i []) (Hd.wscale wishes i) ++ [0]] := by
          rw [← Nat.add_assoc, List.take_add_one]
          congr 1
          have hil : rows.length + i < (mkSheet rows bounds wishes).cells.length := by rw [hI.wfm.cl]; omega
          rw [List.getElem?_eq_getElem hil, ← hI.cwish hi, getD_lt hil]; rfl
        rw [ht]; exact cA
      · rw [upd_ne (ne_of (e8 _ _ (e7 _ _ hp')) (e8 _ _ c7.ce_) (by intro z; cases z))]
        exact e8 _ _ (e7 _ _ hp')
    obtain ⟨rs2, z4, z5, z6, z7, c2, hp2, rfl⟩ := p'
    rw [List.length_map, List.take_of_length_le (by rw [hI.wfm.cl]; omega)] at c2
    have hmk : (wishes.getD 0 []).length = n := hI.w0
    -- bottom
    have d0 := c2.updI (fs' := putF "bottom" (.int 1) fs5) I4.b0 hp2
    refine ⟨.ref p, rfl, p, C, dx, fs5, rfl, hp2, T.cl, T.n_bottom, by rw [← hfs5]; exact (show 5 < 1000 by decide), ?_⟩
    have q0 : upd H' p (.ins C dx (putF "bottom" (.int 1) fs5)) p = some (.ins C dx (putF "bottom" (.int 1) fs5)) := upd_same
    generalize upd H' p (.ins C dx (putF "bottom" (.int 1) fs5)) = G0 at *
    -- across
    refine ⟨.ref p, rfl, p, C, dx, _, .int (n : Int), rfl, q0, T.cl, T.n_wide, ?_, (n : Int), rfl, RgOk.of_le (by omega) (by omega) (by omega) (by omega), fun ac hac => ?_⟩
    · rw [← hfs5, ← hmk]
      show some (V.int (((wishes.getD 0 []).map qD).length : Int)) = _
      rw [List.length_map]
    have e10 := Ex.new (o := .lst (rgV 0 (n : Int))) hac
    have d1 := d0.m e10
    have q1 := e10 _ _ q0
    have a1 : upd G0 ac (.lst (rgV 0 (n : Int))) ac = some (.lst (rgV 0 (n : Int))) := upd_same
    have nac : ac ∉ ce :: rs2 := fun h => by
      obtain ⟨xs, hx⟩ := d0.known ac h
      rw [hac] at hx; cases hx
    have bac : B4 ac = none := fresh_back d0.ex hac
    generalize upd G0 ac (.lst (rgV 0 (n : Int))) = G1 at *
    have d2 := d1.updI (fs' := putF "across" (.ref ac) (putF "bottom" (.int 1) fs5)) I4.b0 q1
    refine ⟨.ref p, rfl, p, C, dx, _, rfl, q1, T.cl, T.n_across, by rw [← hfs5]; exact (show 6 < 1000 by decide), ?_⟩
    have a2 : upd G1 p (.ins C dx (putF "across" (.ref ac) (putF "bottom" (.int 1) fs5))) ac = some (.lst (rgV 0 (n : Int))) := by
      rw [upd_ne (ne_of a1 q1 (by intro z; cases z))]; exact a1
    have q2 : upd G1 p (.ins C dx (putF "across" (.ref ac) (putF "bottom" (.int 1) fs5))) p = some (.ins C dx (putF "across" (.ref ac) (putF "bottom" (.int 1) fs5))) := upd_same
    generalize upd G1 p (.ins C dx (putF "across" (.ref ac) (putF "bottom" (.int 1) fs5))) = G2 at *
    have lwide : List.lookup ("wide" : Str) (putF "across" (V.ref ac) (putF "bottom" (V.int 1) fs5)) = some (.int (n : Int)) := by
      rw [← hfs5, ← hmk]
      show some (V.int (((wishes.getD 0 []).map qD).length : Int)) = _
      rw [List.length_map]
    have lhigh : List.lookup ("high" : Str) (putF "across" (V.ref ac) (putF "bottom" (V.int 1) fs5)) = some (.int (rows.length : Int)) := by
      rw [← hfs5]
      show some (V.int ((rows.map qL).length : Int)) = _
      rw [List.length_map]
    -- down
    refine ⟨.ref p, rfl, p, C, dx, _, .int (n : Int), rfl, q2, T.cl, T.n_wide, lwide, ?_⟩
    show tOp _ _ _ _ _ _
    refine (ed_add (ed_ofInt (ev_fld T.cl T.n_wide rfl q2 lwide)) (ed_ofInt (ev_fld T.cl T.n_high rfl q2 lhigh))).ev_int G2 (Ex.refl G2) _ fun G3 e12 => ?_
    have d3 := d2.m e12
    have q3 := e12 _ _ q2
    have a3 := e12 _ _ a2
    refine ⟨(n : Int), (n : Int) + (rows.length : Int), rfl, rfl, RgOk.of_le (by omega) (by omega) (by omega) (by omega), fun dn hdn => ?_⟩
    have e13 := Ex.new (o := .lst (rgV (n : Int) ((n : Int) + (rows.length : Int)))) hdn
    have d4 := d3.m e13
    have q4 := e13 _ _ q3
    have a4 := e13 _ _ a3
    have w4 : upd G3 dn (.lst (rgV (n : Int) ((n : Int) + (rows.length : Int)))) dn = some (.lst (rgV (n : Int) ((n : Int) + (rows.length : Int)))) := upd_same
    have ndn : dn ∉ ce :: rs2 := fun h => by
      obtain ⟨xs, hx⟩ := d3.known dn h
      rw [hdn] at hx; cases hx
    have bdn : B4 dn = none := fresh_back d3.ex hdn
    have acdn : ac ≠ dn := fun h => by rw [h, hdn] at a3; cases a3
    generalize upd G3 dn (.lst (rgV (n : Int) ((n : Int) + (rows.length : Int)))) = G4 at *
    have d5 := d4.updI (fs' := putF "down" (.ref dn) (putF "across" (.ref ac) (putF "bottom" (.int 1) fs5))) I4.b0 q4
    refine ⟨.ref p, rfl, p, C, dx, _, rfl, q4, T.cl, T.n_down, by rw [← hfs5]; exact (show 7 < 1000 by decide), ?_⟩
    have a5 : upd G4 p (.ins C dx (putF "down" (.ref dn) (putF "across" (.ref ac) (putF "bottom" (.int 1) fs5)))) ac = some (.lst (rgV 0 (n : Int))) := by
      rw [upd_ne (ne_of a4 q4 (by intro z; cases z))]; exact a4
    have w5 : upd G4 p (.ins C dx (putF "down" (.ref dn) (putF "across" (.ref ac) (putF "bottom" (.int 1) fs5)))) dn = some (.lst (rgV (n : Int) ((n : Int) + (rows.length : Int)))) := by
      rw [upd_ne (ne_of w4 q4 (by intro z; cases z))]; exact w4
    have q5 : upd G4 p (.ins C dx (putF "down" (.ref dn) (putF "across" (.ref ac) (putF "bottom" (.int 1) fs5)))) p = some (.ins C dx (putF "down" (.ref dn) (putF "across" (.ref ac) (putF "bottom" (.int 1) fs5)))) := upd_same
    refine k _ B4 (b1.trans (b2.trans (b3.trans b4))) ⟨dx, v3, v4, ce, ac, dn, rs2, ?_⟩
    rw [rgV0] at a5
    rw [rgV1] at w5
    refine ⟨d5.ex, hd34, hd4, ?_, d5.ce_, d5.len, d5.row, ?_, ?_, fun a ha => ?_, d5.nd, d5.ceR, fun h => nac (by simp [h]), fun h => ndn (by simp [h]), acdn, fun h => nac (by simp [h]), fun h => ndn (by simp [h])⟩
    · rw [q5, ← hfs5]
      show some (HO.ins C dx (flds (((wishes.getD 0 []).map qD).length : Int) ((rows.map qL).length : Int) v3 v4 (.ref ce) 1 (.ref ac) (.ref dn))) = _
      rw [List.length_map, List.length_map]
      rfl
    · show _ = some (HO.lst ((List.range (wishes.getD 0 []).length).map nV))
      rw [hmk]; exact a5
    · show _ = some (HO.lst ((List.range' (wishes.getD 0 []).length rows.length).map nV))
      rw [hmk]; exact w5
    · simp only [List.mem_cons] at ha
      rcases ha with rfl | rfl | rfl | rfl | ha
      · exact I4.b0
      · exact d5.fr _ (by simp)
      · exact bac
      · exact bdn
      · exact d5.fr _ (by simp [ha])
end
end Hd


/-! text S8 -/
set_option Elab.async false
set_option linter.all false
set_option maxRecDepth 100000
set_option maxHeartbeats 4000000
namespace Hd
open PySem PySem.Spec PyProof.Rows L2 Evl
def Alone.dat : Alone → PyData
  | .endless fit way => .tuple [.str "endless", qL fit, qL way]
  | .best fit prices => .tuple [.str "best", qL fit, qL prices]
section
variable {n : Nat} {rows : List (List Fr)} {bounds : List Fr} {wishes : List (List Fr)} {T : Sh}
theorem rc_gd (h : InOk n rows bounds wishes) (R : Rc n rows.length (rows.length + wishes.length) (mkSheet rows bounds wishes) T) : Gd n rows.length (rows.length + wishes.length) T := by
  have hl := rc_le h R
  refine ⟨R.wf, h.wi, h.hi, R.inv.pos, hl.1, hl.2, fun j hj => (sc_le h R hj).1, fun j hj => wd_le h R (by omega), fun s hs => R.inv.acl s hs, fun i hi => ?_⟩
  have e : T.tab.dn i = T.dn i := if_pos (by rw [R.wf.high]; exact hi)
  rw [← e]
  have h1 := R.inv.dnl i (by omega)
  apply Classical.byContradiction
  intro hc
  have h2 := R.inv.dni i (T.tab.dn i - n) (by omega) (by omega) (by rw [R.inv.dnw (T.tab.dn i - n) (by omega) (by omega)]; omega)
  omega
theorem rc_run (h : InOk n rows bounds wishes) (R : Rc n rows.length (rows.length + wishes.length) (mkSheet rows bounds wishes) T) {w : Nat} {bar : Nat → Bool} (hw : w < wishes.length) (k : Nat) : Rc n rows.length (rows.length + wishes.length) (mkSheet rows bounds wishes) (T.run w bar k) := by
  have h1 := run_inv (bar := bar) (w := w) R.wf R.inv (by omega) k
  have h2 := run_sc (T := T) (w := w) (bar := bar) k
  exact ⟨h1.1, h1.2, h2.1.trans R.sc, h2.2.trans R.wd⟩
theorem rc_sk (h : InOk n rows bounds wishes) (R : Rc n rows.length (rows.length + wishes.length) (mkSheet rows bounds wishes) T) {w : Nat} {bar : Nat → Bool} (hw : w < wishes.length) : SkOk n rows.length (rows.length + wishes.length) T w bar :=
  ⟨by omega, fun k => rc_gd h (rc_run h R hw k), run_ends (bar := bar) (w := w) R.wf R.inv (by omega) (by decide) h.ale h.ble⟩
end
section
variable {P : Program} {w : World} {K : PySem.W.Frag} {mg : Str → Option Value} {base : Heap} {C : Addr} {t8 : Tok} {f f0 : Addr} {fd fd0 : FuncData} {p : Addr} {T T' : Sh}
variable {σ : L2.St} {H H' H0 H1 Hb : Hp} {te tk tl : TE} {ta tr : TA} {t : TT} {tu tz : TS} {D : Ends} {g : Fr} {ds es : List PyData} {d : PyData}
variable {n : Nat} {rows : List (List Fr)} {bounds : List Fr} {wishes : List (List Fr)}
theorem qd_make {i : Nat} (ha : EaD ta σ H [rowsD rows, qL bounds, rowsD wishes]) (hI : InOk n rows bounds wishes) (k : ∀ p H0' H', Ex H H0' → Own C H0' H' p (mkSheet rows bounds wishes) → tz D (σ.set i (some (.ref p))) H') :
    tSeq (tAsg (tMake C (spInit C) [] E0 ta) (gName i)) tz D σ H := ha H (Ex.refl H) _ fun vs H1 e1 hd => by
  intro x dx hx hdx hne
  obtain ⟨a, b, c, rfl, h1, h2, h3⟩ : ∃ a b c, vs = [a, b, c] ∧ Dq H1 a (rowsD rows) ∧ Dq H1 b (qL bounds) ∧ Dq H1 c (rowsD wishes) := by
    cases hd with
    | cons q1 hd => cases hd with
      | cons q2 hd => cases hd with
        | cons q3 hd => cases hd; exact ⟨_, _, _, rfl, q1, q2, q3⟩
  have hx2 : upd H1 dx (.own x) x = none := by rw [upd_ne (Ne.symm hne)]; exact hx
  exact ⟨x, a, b, c, dx, H1, n, rows, bounds, wishes, rfl, upd_same, hx, (Ex.new hdx).trans (Ex.new hx2), h1, h2, h3, hI, fun H' H0' e0 O => ⟨rfl, k x H0' H' (e1.trans e0) O⟩⟩
theorem Own.dict {dd : Addr} {kvs : List (Key × V)} {bar : Nat → Bool} (O : Own C H0 H p T) (hd : H dd = some (.dK kvs)) (hb : ∀ k : Nat, k < n → (valV kvs (.inl (k : Int))).isSome = bar k) : ∃ H1, Ex H0 H1 ∧ Own C H1 H p T ∧ Bar H1 (.ref dd) n bar := by
  obtain ⟨H1, b1, b2, O', b3⟩ := O.rebase
  exact ⟨H1, b1, O', dd, kvs, rfl, b3 dd _ hd (fun _ h => by cases h) (fun _ _ _ h => by cases h), hb⟩
theorem q_seek {n m M wi i j : Nat} {bar : Nat → Bool} {bd : V} (h0 : σ[i]? = some (some (.ref p))) (O : Own C H0 H p T) (S : SkOk n m M T wi bar) (hB : Bar H0 bd n bar) (ha : EvA ta σ H [.int (wi : Int), bd])
    (k : ∀ H', Own C H0 H' p (T.last wi bar) → tz D (σ.set j (some (optV ((T.last wi bar).comesIn wi bar)))) H') : tSeq (tAsg (tMeth C "seek" (spSeek C) [] E0 (tVar i) ta) (gName j)) tz D σ H := by
  obtain ⟨dx, fs, a1, a2⟩ := noMeth (mm := "seek") O.sht (by intros; rfl)
  exact ⟨.ref p, h0, p, dx, fs, rfl, a1, a2, ha H (Ex.refl H) _ fun H2 e2 => ⟨p, T, n, m, M, wi, bd, bar, H0, rfl, S, O.m e2, hB, fun H' O' => k H' O'⟩⟩
/-- the first seek: nothing is barred -/
theorem q_seek0 {n m M i j : Nat} (h0 : σ[i]? = some (some (.ref p))) (O : Own C H0 H p T) (S : SkOk n m M T 0 noBar)
    (k : ∀ H0' H', Ex H0 H0' → Own C H0' H' p (T.last 0 noBar) → tz D (σ.set j (some (optV ((T.last 0 noBar).comesIn 0 noBar)))) H') : tSeq (tAsg (tMeth C "seek" (spSeek C) [] E0 (tVar i) (tCons (tC (.int 0)) (tCons tDNewK tNil))) (gName j)) tz D σ H := by
  obtain ⟨dx, fs, a1, a2⟩ := noMeth (mm := "seek") O.sht (by intros; rfl)
  refine ⟨.ref p, h0, p, dx, fs, rfl, a1, a2, fun dd hdd => ?_⟩
  have O1 := O.m (Ex.new (o := .dK []) hdd)
  obtain ⟨H1, b1, O2, hB⟩ := O1.dict (n := n) (bar := noBar) upd_same (fun k _ => rfl)
  exact ⟨p, T, n, m, M, 0, .ref dd, noBar, H1, rfl, S, O2, hB, fun H' O' => k H1 H' b1 O'⟩
theorem rows1 (fs : List Fr) : [qL fs] = [fs].map qL := rfl
/-! ### solve -/
def preSolve (ds : List PyData) (r : PyData) : Prop := ∃ (n : Nat) (rows : List (List Fr)) (bounds wish : List Fr), ds = [rowsD rows, qL bounds, qL wish] ∧ InOk n rows bounds [wish] ∧ r = (solveM rows bounds wish).dat
theorem ok_solve (F : FnP K "solve" "solve" sSolve f fd) (T : Txt K mg C t8) (CAsk : Cal P w K mg base 1 "ask_small" ["rows", "wish"] (spD preAsk)) (MK : Mk K C f0) (GInit : FnOk P w K mg base CX0 4 f0 fd0 ["self", "rows", "bounds", "wishes"] (spInit C)) (bInit : Binds K fd0 ["self", "rows", "bounds", "wishes"] [])
    (MSeek : Met P w K mg base C 3 "seek" ["self", "wish", "barred"] (spSeek C)) (MFit : Met P w K mg base C 3 "fit" ["self"] (spMN C preFit)) (MGrowth : Met P w K mg base C 3 "growth" ["self", "s"] (spMN C preGrowth)) (MFirst : Met P w K mg base C 4 "first_prices" ["self"] (spMN C preFirst)) :
    FnOk P w K mg base CX0 6 f fd ["rows", "bounds", "wish"] (spD preSolve) := by
  refine F.ok scSolve (fun vs H Q E h => ?_) (fun cdv A outer s H vs Q E hr h => ?_)
  · obtain ⟨ds, r, h1, ⟨_, _, _, _, rfl, _⟩, _⟩ := h
    exact h1.length
  · obtain ⟨ds, r, h1, ⟨n, rows, bounds, wish, rfl, hI, rfl⟩, k⟩ := h
    obtain ⟨a, b, c, rfl, ha, hb, hc⟩ := dq3 h1
    have hw : wish.length = n := hI.wn wish (by simp)
    have hi8 := hI.hi
    have n8 := hI.wi
    refine ⟨_, PSs.nox (pss_cons (ps_expr (pe_c CAsk hr (by rfl) (pa_cons (pv 0) (pa_cons (pv 2) pa_nil))))
      (pss_cons (ps_set (i := 3) scSolve.nd rfl (Or.inl rfl) (pe_make MK GInit hr (by rfl) T.sheet bInit .nil pass0 (pa_cons (pv 0) (pa_cons (pv 1) (pa_cons (pe_lst (pa_cons (pv 2) pa_nil)) pa_nil)))))
      (pss_cons (ps_set (i := 4) scSolve.nd rfl (Or.inl rfl) (pe_m (pv 3) T.cl MSeek hr (pa_cons pe_int (pa_cons pe_dnewK pa_nil))))
      (pss_cons (ps_if (pt_cmpR op_notN (pv 4) pe_non (nomark _)) (pss_one (ps_ret (pe_tup (pa_cons pe_str (pa_cons (pe_m0 (pv 3) T.cl MFit hr) (pa_cons (pe_m (pv 3) T.cl MGrowth hr (pa_cons (pv 4) pa_nil)) pa_nil)))))) pss_nil)
      (pss_one (ps_ret (pe_tup (pa_cons pe_str (pa_cons (pe_m0 (pv 3) T.cl MFit hr) (pa_cons (pe_m0 (pv 3) T.cl MFirst hr) pa_nil)))))))))), ?_⟩
    refine q_drop (EvD.ev_non (ed_call (ea_consD (ed_var rfl ha) (ea_consD (ed_var rfl hc) ea_nilD)) ⟨rows.map qL, wish.map qD, rfl, by rw [List.length_map]; omega, by rw [List.length_map]; omega, rfl⟩)) fun H1 e1 => ?_
    refine qd_make (n := n) (rows := rows) (bounds := bounds) (wishes := [wish]) (ea_consD (ed_var rfl (ha.m e1)) (ea_consD (ed_var rfl (hb.m e1)) (ea_consD (en_lst (ea_consD (ed_var rfl (hc.m e1)) ea_nilD) (show 1 ≤ 100000 by decide)).ls ea_nilD))) hI fun p H2 H3 e2 O => ?_
    refine q_seek0 rfl O (rc_sk hI hI.rc0 (by simp)) fun H4 H5 e4 O5 => ?_
    obtain ⟨R, _, _, _⟩ := hI.rc0.last (w := 0) (bar := noBar) hI (by simp)
    have G := rc_gd hI R
    have hsol : solveM rows bounds wish = ((mkSheet rows bounds [wish]).last 0 noBar).tellA := rfl
    rw [hsol] at k
    generalize (mkSheet rows bounds [wish]).last 0 noBar = S at *
    unfold Sh.tellA at k
    have eb := (e1.trans e2).trans (e4.trans O5.ex)
    refine q_when (et_test (ev_notN rfl)) (fun hb2 H6 e6 => ?_) (fun hb2 H6 e6 => ?_)
    · obtain ⟨s0, hs0⟩ := Option.isSome_iff_exists.mp hb2
      rw [hs0] at k ⊢
      have c1 := (Sh.comesIn_some hs0).1
      rw [G.wf.wide] at c1
      have hS := O5.sht.m e6
      exact sd_ret (ed_tup (ea_consD ed_str (ea_consD (en_meth rfl hS ea_nilD ⟨_, _, _, G, rfl, rfl⟩).ls (ea_consD (en_meth rfl hS (ea_consD (ed_v rfl) ea_nilD) ⟨_, _, _, s0, G, c1, rfl, rfl⟩).ls ea_nilD))) (show 3 ≤ 100000 by decide)) fun v H7 e7 hv => k v H7 (eb.trans (e6.trans e7)) hv
    · have hn : S.comesIn 0 noBar = none := by simpa using hb2
      rw [hn] at k
      have hS := O5.sht.m e6
      exact sd_ret (ed_tup (ea_consD ed_str (ea_consD (en_meth rfl hS ea_nilD ⟨_, _, _, G, rfl, rfl⟩).ls (ea_consD (en_meth rfl hS ea_nilD ⟨_, _, _, G, by simp, rfl, rfl⟩).ls ea_nilD))) (show 3 ≤ 100000 by decide)) fun v H7 e7 hv => k v H7 (eb.trans (e6.trans e7)) hv
end
end Hd


/-! text S9 -/
set_option Elab.async false
set_option linter.all false
set_option maxRecDepth 100000
set_option maxHeartbeats 4000000
namespace Hd
open PySem PySem.Spec PyProof.Rows L2 Evl
section
variable {P : Program} {w : World} {K : PySem.W.Frag} {mg : Str → Option Value} {base : Heap} {C : Addr} {t8 : Tok} {f f0 : Addr} {fd fd0 : FuncData} {p : Addr} {T T' : Sh}
variable {σ : L2.St} {H H' H0 H1 Hb : Hp} {te tk tl : TE} {ta tr : TA} {t : TT} {tu tz : TS} {D : Ends} {g : Fr} {ds es : List PyData} {d : PyData}
theorem cutLast (xs : List V) : cutV xs none (some (-1)) = xs.dropLast := by
  unfold cutV
  have e1 : HT.sIx xs.length 0 none = 0 := rfl
  have e2 : HT.sIx xs.length xs.length (some (-1)) = xs.length - 1 := by
    show (if (-1 : Int) < 0 then ((-1 : Int) + (xs.length : Int)).toNat else min (-1 : Int).toNat xs.length) = _
    rw [if_pos (by decide)]; omega
  rw [e1, e2, List.drop_zero, Nat.sub_zero, List.dropLast_eq_take]
theorem DqAll.dl {vs : List V} (h : DqAll H vs ds) : DqAll H vs.dropLast ds.dropLast := by
  rw [List.dropLast_eq_take, List.dropLast_eq_take, h.length]
  exact h.take _
/-- a[:-1] -/
theorem en_dl (h : EvD te σ H (.list ds)) : EvN (tSl (rSlL K) te tNoPart (tPart (tUn (rU fun i => .int (-i)) (tC (.int 1))))) σ H ds.dropLast := fun H1 e1 Q q =>
  h H1 e1 _ fun v H2 e2 hd => by
    show tPart (tUn (rU fun i => V.int (-i)) (tC (.int 1))) σ H2 (fun u H3 => rSlL K v none u H3 Q)
    show tUn (rU fun i => V.int (-i)) (tC (.int 1)) σ H2 (fun x H1 => ∃ i, x = .int i ∧ rSlL K v none (some i) H1 Q)
    refine (EvD.ev_int (ed_neg ed_int)) H2 (e1.trans e2) _ fun H3 e3 => ⟨-1, rfl, ?_⟩
    obtain ⟨a, xs, rfl, hp, hall⟩ := (hd.m e3).lst_inv
    refine ⟨a, xs, rfl, SqL.of hp, fun l hl => ?_⟩
    rw [cutLast]
    exact q _ _ ((e2.trans e3).trans (Ex.new hl)) ⟨l, _, rfl, fresh_back (e1.trans (e2.trans e3)) hl, upd_same, hall.dl.m (Ex.new hl)⟩
/-- arguments that come to data, their lists not known to the base -/
def EaN (ta : TA) (σ : L2.St) (H Hb : Hp) (ds : List PyData) : Prop := ∀ H1, Ex H H1 → ∀ Q : List V → Hp → Prop, (∀ vs H2, Ex H1 H2 → DqAll H2 vs ds → (∀ l xs, V.ref l ∈ vs → H2 l = some (.lst xs) → Hb l = none) → Q vs H2) → ta σ H1 Q
theorem ea_nilN : EaN tNil σ H Hb [] := fun H1 _ _ q => q [] H1 (Ex.refl H1) .nil fun l xs h => by cases h
theorem ea_consN (eb : Ex Hb H) (h : EvN te σ H es) (hr : EaN tr σ H Hb ds) : EaN (tCons te tr) σ H Hb (.list es :: ds) := fun H1 e1 _ q =>
  h H1 e1 _ fun v H2 e2 hv => hr H2 (e1.trans e2) _ fun vs H3 e3 ps hf => by
    obtain ⟨l, xs, rfl, g0, g1, g2⟩ := hv
    refine q (.ref l :: vs) H3 (e2.trans e3) (.cons (.lst (e3 _ _ g1) (g2.m e3)) ps) fun m ys hm hl => ?_
    rcases List.mem_cons.mp hm with h | h
    · cases h; exact fresh_back eb g0
    · exact hf m ys h hl
theorem ea_consF {i : Nat} {l : Addr} {xs : List V} (h0 : σ[i]? = some (some (.ref l))) (hl : H l = some (.lst xs)) (hx : DqAll H xs es) (hb : Hb l = none) (hr : EaN tr σ H Hb ds) : EaN (tCons (tVar i) tr) σ H Hb (.list es :: ds) := fun H1 e1 _ q =>
  ⟨.ref l, h0, hr H1 e1 _ fun vs H3 e3 ps hf => by
    refine q (.ref l :: vs) H3 e3 (.cons (.lst ((e1.trans e3) _ _ hl) (hx.m (e1.trans e3))) ps) fun m ys hm hl' => ?_
    rcases List.mem_cons.mp hm with h | h
    · cases h; exact hb
    · exact hf m ys h hl'⟩
theorem ea_consT (h : EvD te σ H (.tuple es)) (hr : EaN tr σ H Hb ds) : EaN (tCons te tr) σ H Hb (.tuple es :: ds) := fun H1 e1 _ q =>
  h H1 e1 _ fun v H2 e2 hv => hr H2 (e1.trans e2) _ fun vs H3 e3 ps hf => by
    obtain ⟨a, xs, rfl, g1, g2⟩ := hv.tup_inv
    refine q (.ref a :: vs) H3 (e2.trans e3) (.cons (.tup (e3 _ _ g1) (g2.m e3)) ps) fun m ys hm hl => ?_
    rcases List.mem_cons.mp hm with h | h
    · cases h; rw [e3 _ _ g1] at hl; cases hl
    · exact hf m ys h hl
theorem ea_consS {x : Str} (hr : EaN tr σ H Hb ds) : EaN (tCons (tC (.str x)) tr) σ H Hb (.str x :: ds) := fun H1 e1 _ q =>
  hr H1 e1 _ fun vs H3 e3 ps hf => q (.str x :: vs) H3 e3 (.cons (.str x) ps) fun m ys hm hl => by
    rcases List.mem_cons.mp hm with h | h
    · cases h
    · exact hf m ys h hl
/-- a told tuple: its data, its lists not known to the base -/
def Told (Hb : Hp) (d : PyData) (v : V) (H : Hp) : Prop := Dq H v d ∧ ∃ t ys, v = .ref t ∧ H t = some (.tup ys) ∧ ∀ l xs, V.ref l ∈ ys → H l = some (.lst xs) → Hb l = none
theorem ep_told (h : EaN ta σ H Hb ds) (hl : ds.length ≤ 100000) : EvP (tTup ta) σ H (Told Hb (.tuple ds)) := fun H1 e1 _ q =>
  h H1 e1 _ fun vs H2 e2 ps hf => ⟨by rw [ps.length]; exact sz_of hl, fun p hp => q _ _ (e2.trans (Ex.new hp)) ⟨.tup upd_same (ps.m (Ex.new hp)), p, vs, rfl, upd_same, fun l xs hm hl2 => by
    by_cases he : l = p
    · rw [he, upd_same] at hl2; cases hl2
    · rw [upd_ne he] at hl2; exact hf l xs hm hl2⟩⟩
def spNext : Sp := fun vs H Q _ => ∃ (n : Nat) (rows : List (List Fr)) (bounds wish second : List Fr), DqAll H vs [rowsD rows, qL bounds, qL wish, qL second] ∧ InOk n rows bounds [wish, second] ∧ ∀ v H', Ex H H' → Told H (solveNext rows bounds wish second).dat v H' → Q v H'
theorem putK_len {κ : Type} [DecidableEq κ] (kvs : List (κ × V)) (k : κ) (v : V) : (putK kvs k v).length ≤ kvs.length + 1 := by
  unfold putK
  split
  · rw [List.length_map]; omega
  · rw [List.length_append]; simp
theorem ok_next (F : FnP K "solve_next" "solve_next" sNext f fd) (T : Txt K mg C t8) (CAsk : Cal P w K mg base 1 "ask_small" ["rows", "wish"] (spD preAsk)) (MK : Mk K C f0) (GInit : FnOk P w K mg base CX0 4 f0 fd0 ["self", "rows", "bounds", "wishes"] (spInit C)) (bInit : Binds K fd0 ["self", "rows", "bounds", "wishes"] [])
    (MSeek : Met P w K mg base C 3 "seek" ["self", "wish", "barred"] (spSeek C)) (MFit : Met P w K mg base C 3 "fit" ["self"] (spMN C preFit)) (MGrowth : Met P w K mg base C 3 "growth" ["self", "s"] (spMN C preGrowth)) (MFirst : Met P w K mg base C 4 "first_prices" ["self"] (spMN C preFirst))
    (MPrices : Met P w K mg base C 3 "prices" ["self", "gains", "below"] (spMN C prePrices)) (CLift : Cal P w K mg base 1 "lift_of" ["gains", "more"] (spD preLift)) (CRatio : Cal P w K mg base 2 "ratio" ["top", "bottom"] (spD preRatio)) :
    FnOk P w K mg base CX0 6 f fd ["rows", "bounds", "wish", "second"] spNext := by
  refine F.ok scNext (fun vs H Q E h => ?_) (fun cdv A outer s H vs Q E hr h => ?_)
  · obtain ⟨_, _, _, _, _, h1, _⟩ := h
    exact h1.length
  · obtain ⟨n, rows, bounds, wish, second, h1, hI, k⟩ := h
    have hu := hu_of hr
    obtain ⟨a, b, c, d, rfl, ha, hb, hc, hd⟩ := dq4 h1
    have hw : wish.length = n := hI.wn wish (by simp)
    have hi8 := hI.hi
    have n8 := hI.wi
    refine ⟨_, PSs.nox (pss_cons (ps_expr (pe_c CAsk hr (by rfl) (pa_cons (pv 0) (pa_cons (pv 2) pa_nil))))
      (pss_cons (ps_set (i := 4) scNext.nd rfl (Or.inl rfl) (pe_make MK GInit hr (by rfl) T.sheet bInit .nil pass0 (pa_cons (pv 0) (pa_cons (pv 1) (pa_cons (pe_lst (pa_cons (pv 2) (pa_cons (pv 3) pa_nil))) pa_nil)))))
      (pss_cons (ps_set (i := 5) scNext.nd rfl (Or.inl rfl) (pe_m (pv 4) T.cl MSeek hr (pa_cons pe_int (pa_cons pe_dnewK pa_nil))))
      (pss_cons (ps_if (pt_cmpR op_notN (pv 5) pe_non (nomark _)) (pss_one (ps_ret (pe_tup (pa_cons pe_str (pa_cons (pe_m0 (pv 4) T.cl MFit hr) (pa_cons (pe_m (pv 4) T.cl MGrowth hr (pa_cons (pv 5) pa_nil)) pa_nil)))))) pss_nil)
      (pss_cons (ps_set (i := 6) scNext.nd rfl (Or.inl rfl) pe_dnewK)
      (pss_cons (ps_for PassesOwn.never rfl (pi_range1 (by rfl) T.range_ (pa_cons (pe_fld (pv 4) rfl) pa_nil)) (pg_name (i := 7) scNext.nd rfl (Or.inl rfl) (Or.inl rfl)) (pss_one (ps_if (pt_cmpR op_lt (pe_ix ix_list (pe_ix ix_list (pe_fld (pv 4) rfl) (pe_fld (pv 4) rfl) (fun _ _ => rfl)) (pv 7) (fun _ _ => rfl)) pe_int (nomark _)) (pss_one (ps_dput hu (pv 6) (pv 7) pe_bl rfl)) pss_nil)))
      (pss_cons (ps_set (i := 5) scNext.nd rfl (Or.inl rfl) (pe_m (pv 4) T.cl MSeek hr (pa_cons pe_int (pa_cons (pv 6) pa_nil))))
      (pss_cons (ps_if (pt_cmpR op_notN (pv 5) pe_non (nomark _)) (pss_one (ps_ret (pe_tup (pa_cons pe_str (pa_cons (pe_m0 (pv 4) T.cl MFit hr) (pa_cons (pe_m0 (pv 4) T.cl MFirst hr) (pa_cons (pe_m (pv 4) T.cl MGrowth hr (pa_cons (pv 5) pa_nil)) pa_nil))))))) pss_nil)
      (pss_cons (ps_set (i := 8) scNext.nd rfl (Or.inl rfl) (pe_slice sl_list (pe_ix ix_list (pe_fld (pv 4) rfl) (pe_fld (pv 4) rfl) (fun _ _ => rfl)) po_none (po_some (pe_un un_neg pe_int))))
      (pss_cons (ps_set (i := 9) scNext.nd rfl (Or.inl rfl) (pe_slice sl_list (pe_ix ix_list (pe_fld (pv 4) rfl) (pe_op op_add (pe_fld (pv 4) rfl) pe_int) (fun _ _ => rfl)) po_none (po_some (pe_un un_neg pe_int))))
      (pss_cons (ps_asg (pe_c CLift hr (by rfl) (pa_cons (pv 8) (pa_cons (pv 9) pa_nil))) (pg_tup rfl (pgs_cons (pg_name (i := 10) scNext.nd rfl (Or.inr rfl) (Or.inl rfl)) (pgs_cons (pg_name (i := 11) scNext.nd rfl (Or.inr rfl) (Or.inl rfl)) pgs_nil))))
      (pss_cons (ps_setLc (g := (gTup K 2 (gCons (gName 15) (gCons (gName 16) gNil)))) (tt := tYes) (te := (tOp (rI0 fun i j => .int (i + j)) (tOp (rI CMulW fun i j => .int (i * j)) (tVar 15) (tVar 10)) (tOp (rI CMulW fun i j => .int (i * j)) (tVar 16) (tVar 11)))) (i := 12) rfl scNext.nd rfl rfl (sw_true rfl rfl rfl (by decide +kernel)) (pi_zip (by rfl) T.zip_ (pa_cons (pv 8) (pa_cons (pv 9) pa_nil))) (blkOk_by (own := [("gain", 15), ("extra", 16)]) (N := nNext) (sc := defScope sNext) (by decide +kernel)) (fun _ _ _ _ _ => (pg_tup rfl (pgs_cons (pg_name (i := 15) scNext.nd rfl (Or.inl rfl) (Or.inr rfl)) (pgs_cons (pg_name (i := 16) scNext.nd rfl (Or.inl rfl) (Or.inr rfl)) pgs_nil)))) (fun _ _ _ _ _ => pts_nil) (fun _ _ _ _ _ => (pe_op op_add (pe_op op_mulW (pv 15) (pv 10)) (pe_op op_mulW (pv 16) (pv 11)))))
      (pss_cons (ps_set (i := 13) scNext.nd rfl (Or.inl rfl) (pe_m (pv 4) T.cl MPrices hr (pa_cons (pv 12) (pa_cons (pe_op op_mulW (pe_op op_mulW (pe_fld (pv 4) rfl) (pv 11)) (pe_ix ix_list (pe_fld (pv 4) rfl) pe_int (fun _ _ => rfl))) pa_nil))))
      (pss_cons (ps_set (i := 14) scNext.nd rfl (Or.inl rfl) (pe_c CRatio hr (by rfl) (pa_cons (pe_op op_mulW (pv 10) (pe_ix ix_list (pe_fld (pv 4) rfl) pe_int (fun _ _ => rfl))) (pa_cons (pe_op op_mulW (pv 11) (pe_ix ix_list (pe_fld (pv 4) rfl) pe_int (fun _ _ => rfl))) pa_nil))))
      (pss_one (ps_ret (pe_tup (pa_cons pe_str (pa_cons (pe_m0 (pv 4) T.cl MFit hr) (pa_cons (pe_m0 (pv 4) T.cl MFirst hr) (pa_cons (pv 13) (pa_cons (pv 14) pa_nil)))))))))))))))))))))), ?_⟩
    refine q_drop (EvD.ev_non (ed_call (ea_consD (ed_var rfl ha) (ea_consD (ed_var rfl hc) ea_nilD)) ⟨rows.map qL, wish.map qD, rfl, by rw [List.length_map]; omega, by rw [List.length_map]; omega, rfl⟩)) fun H1 e1 => ?_
    refine qd_make (n := n) (rows := rows) (bounds := bounds) (wishes := [wish, second]) (ea_consD (ed_var rfl (ha.m e1)) (ea_consD (ed_var rfl (hb.m e1)) (ea_consD (en_lst (ea_consD (ed_var rfl (hc.m e1)) (ea_consD (ed_var rfl (hd.m e1)) ea_nilD)) (show 2 ≤ 100000 by decide)).ls ea_nilD))) hI fun p H2 H3 e2 O => ?_
    refine q_seek0 rfl O (rc_sk hI hI.rc0 (by simp)) fun H4 H5 e4 O5 => ?_
    obtain ⟨R, _, _, _⟩ := hI.rc0.last (w := 0) (bar := noBar) hI (by simp)
    have G := rc_gd hI R
    have hsol : solveNext rows bounds wish second = ((mkSheet rows bounds [wish, second]).last 0 noBar).tell1 := rfl
    rw [hsol] at k
    generalize (mkSheet rows bounds [wish, second]).last 0 noBar = S at *
    unfold Sh.tell1 at k
    have eb := (e1.trans e2).trans e4
    refine q_when (et_test (ev_notN rfl)) (fun hb2 H6 e6 => ?_) (fun hb2 H6 e6 => ?_)
    · obtain ⟨s0, hs0⟩ := Option.isSome_iff_exists.mp hb2
      rw [hs0] at k ⊢
      have c1 := (Sh.comesIn_some hs0).1
      rw [G.wf.wide] at c1
      have hS := O5.sht.m e6
      have eb6 := (eb.trans O5.ex).trans e6
      exact sd_ret (ep_told (Hb := H) (ea_consS (ea_consN eb6 (en_meth rfl hS ea_nilD ⟨_, _, _, G, rfl, rfl⟩) (ea_consN eb6 (en_meth rfl hS (ea_consD (ed_v rfl) ea_nilD) ⟨_, _, _, s0, G, c1, rfl, rfl⟩) ea_nilN))) (show 3 ≤ 100000 by decide)) fun v H7 e7 hv => k v H7 (eb6.trans e7) hv
    have hn : S.comesIn 0 noBar = none := by simpa using hb2
    rw [hn] at k
    replace k : ∀ v H', Ex H H' → Told H ((S.last 1 S.barOf).tell2 S.barOf).dat v H' → Q v H' := k
    -- barred
    have O6 := O5.m e6
    have ew := G.wf.wide
    have eh := G.wf.high
    intro bd hbd
    have O7 := O6.m (Ex.new (o := .dK []) hbd)
    have e67 : Ex H6 (upd H6 bd (.dK [])) := Ex.new hbd
    have q7 : upd H6 bd (.dK []) bd = some (.dK []) := upd_same
    generalize upd H6 bd (.dK []) = H7 at *
    refine qd_forR (m := S.wide) (ea_consD (ed_fld T.cl T.n_wide rfl O7.sht.fWide) ea_nilD) (by omega) fun H8 e8 => ⟨fun i σ' H' => Ex H6 H' ∧ ∃ kvs x, H' bd = some (.dK kvs) ∧ kvs.length ≤ i ∧ (∀ k : Nat, (valV kvs (.inl (k : Int))).isSome = (decide (k < i) && S.barOf k)) ∧ σ' = [some a, some b, some c, some d, some (.ref p), some (optV (S.comesIn 0 noBar)), some (.ref bd), x, none, none, none, none, none, none, none, none, none], ⟨e67.trans e8, [], none, e8 _ _ q7, Nat.le_refl 0, fun k => rfl, rfl⟩, fun i σ' H' hi p' => ?_, fun σ' H' p' => ?_⟩
    · obtain ⟨e9, kvs, x, hk1, hk2, hk3, rfl⟩ := p'
      have O9 := O6.m e9
      have hS9 := O9.sht
      have hc := G.c S.high (by rw [eh]; simp) i (by omega)
      have hkl : kvs.length < sizeLine := sz_lt (show kvs.length < 100000 by omega)
      refine s_when (b := decide (S.c S.high i < 0)) (et_D (ed_lt (ed_ixL (ed_ixL (ed_fld T.cl T.n_cells (i := 4) rfl hS9.fCells) (ed_fld T.cl T.n_high (i := 4) rfl hS9.fHigh) (ixRow (by rw [G.wf.cl, eh]; simp))) (ed_v rfl) (ixZ (by rw [G.wf.row_len (by rw [eh]; simp)]; omega))) ed_int)) (fun hb3 H10 e10 => ?_) (fun hb3 H10 e10 => ?_)
      · refine ⟨.ref bd, rfl, .int (i : Int), rfl, bd, _, rfl, .inl ⟨kvs, .inl (i : Int), e10 _ _ hk1, rfl, hkl, rfl⟩, ?_⟩
        refine ⟨Ex.mut (e9.trans e10) hbd, _, some (.int i), upd_same, Nat.le_trans (length_putK _ _ _) (by omega), fun k => ?_, rfl⟩
        rw [valV_put]
        by_cases hki : k = i
        · subst hki
          rw [if_pos rfl]
          show true = _
          unfold Sh.barOf
          rw [hb3, decide_eq_true (by omega)]; rfl
        · have hne : ¬ ((.inl (k : Int) : Key) = .inl (i : Int)) := fun h => by
            have h' := Sum.inl.inj h
            omega
          rw [if_neg hne, hk3]
          congr 1
          by_cases h2 : k < i
          · rw [decide_eq_true h2, decide_eq_true (by omega)]
          · rw [decide_eq_false h2, decide_eq_false (by omega)]
      · refine ⟨e9.trans e10, kvs, some (.int i), e10 _ _ hk1, by omega, fun k => ?_, rfl⟩
        rw [hk3]
        by_cases hki : k = i
        · subst hki
          rw [decide_eq_false (by omega)]
          unfold Sh.barOf
          rw [hb3]; simp
        · congr 1
          by_cases h2 : k < i
          · rw [decide_eq_true h2, decide_eq_true (by omega)]
          · rw [decide_eq_false h2, decide_eq_false (by omega)]
    obtain ⟨e9, kvs, x, hk1, hk2, hk3, rfl⟩ := p'
    have O9 := O6.m e9
    obtain ⟨HB, b9, O10, hB⟩ := O9.dict (n := n) (bar := S.barOf) hk1 fun k hk => by rw [hk3, decide_eq_true (by omega)]; rfl
    obtain ⟨R2, _, _, _⟩ := R.last (w := 1) (bar := S.barOf) hI (by simp)
    refine q_seek (wi := 1) rfl O10 (rc_sk hI R (by simp)) hB (ea_cons ev_c (ea_cons (ev_var rfl) ea_nil)) fun H11 O11 => ?_
    have G2 := rc_gd hI R2
    have hbar : S.barOf = S.barOf := rfl
    generalize S.last 1 S.barOf = S2 at *
    generalize hbq : S.barOf = bar at *
    unfold Sh.tell2 at k
    have eb2 := (eb.trans b9).trans O11.ex
    refine q_when (et_test (ev_notN rfl)) (fun hb4 H12 e12 => ?_) (fun hb4 H12 e12 => ?_)
    · obtain ⟨s0, hs0⟩ := Option.isSome_iff_exists.mp hb4
      rw [hs0] at k ⊢
      have c1 := (Sh.comesIn_some hs0).1
      rw [G2.wf.wide] at c1
      have hS := O11.sht.m e12
      have eb12 := eb2.trans e12
      exact sd_ret (ep_told (Hb := H) (ea_consS (ea_consN eb12 (en_meth rfl hS ea_nilD ⟨_, _, _, G2, rfl, rfl⟩) (ea_consN eb12 (en_meth rfl hS ea_nilD ⟨_, _, _, G2, by simp, rfl, rfl⟩) (ea_consN eb12 (en_meth rfl hS (ea_consD (ed_v rfl) ea_nilD) ⟨_, _, _, s0, G2, c1, rfl, rfl⟩) ea_nilN)))) (show 4 ≤ 100000 by decide)) fun v H13 e13 hv => k v H13 (eb12.trans e13) hv
    have hn2 : S2.comesIn 1 bar = none := by simpa using hb4
    rw [hn2] at k
    have hS := O11.sht.m e12
    have eb12 := eb2.trans e12
    have ew2 := G2.wf.wide
    have eh2 := G2.wf.high
    have g0 : ∀ s, s < n → (S2.gains 0).dropLast.getD s 0 = S2.c (rows.length + 0) s := fun s hs => by
      obtain ⟨h1, h2⟩ := dl_get hI R2 (w := 0) (by simp) hs
      rw [getD_lt h1, h2]
    have g1 : ∀ s, s < n → (S2.gains 1).dropLast.getD s 0 = S2.c (rows.length + 1) s := fun s hs => by
      obtain ⟨h1, h2⟩ := dl_get hI R2 (w := 1) (by simp) hs
      rw [getD_lt h1, h2]
    have l0 : (S2.gains 0).dropLast.length = n := dl_len hI R2 (w := 0) (by simp)
    have l1 : (S2.gains 1).dropLast.length = n := dl_len hI R2 (w := 1) (by simp)
    have c0 : ∀ s, s < n → Sm 1239 (S2.c (rows.length + 0) s) := fun s hs => G2.c _ (by simp) s (by omega)
    have c1 : ∀ s, s < n → Sm 1239 (S2.c (rows.length + 1) s) := fun s hs => G2.c _ (by simp) s (by omega)
    have m0 : ∀ x ∈ (S2.gains 0).dropLast, Sm 2000 x := fun x hx => by
      obtain ⟨i, hi, rfl⟩ := List.getElem_of_mem hx
      rw [← getD_lt hi 0, g0 i (by omega)]; exact (c0 i (by omega)).mono (by decide)
    have m1 : ∀ x ∈ (S2.gains 1).dropLast, Sm 2000 x := fun x hx => by
      obtain ⟨i, hi, rfl⟩ := List.getElem_of_mem hx
      rw [← getD_lt hi 0, g1 i (by omega)]; exact (c1 i (by omega)).mono (by decide)
    -- gains, more
    refine qd_asg (en_dl (ds := (S2.gains 0).map PyData.int) (ed_ixL (ed_fld T.cl T.n_cells (i := 4) rfl hS.fCells) (ed_fld T.cl T.n_high (i := 4) rfl hS.fHigh) (ixRow (by rw [G2.wf.cl, eh2]; simp)))).ls fun gv H13 e13 hgv => ?_
    have hS13 := hS.m e13
    refine qd_asg (en_dl (ds := (S2.gains 1).map PyData.int) (ed_ixL (k := S2.high + 1) (ed_fld T.cl T.n_cells (i := 4) rfl hS13.fCells) (ed_is (ed_add (ed_fld T.cl T.n_high (i := 4) rfl hS13.fHigh) ed_int) (by rw [Int.natCast_add]; rfl)) (ixRow (by rw [G2.wf.cl, eh2]; simp)))).ls fun mv H14 e14 hmv => ?_
    have hgv14 := hgv.m e14
    rw [← List.map_dropLast] at hgv14 hmv
    have hS14 := hS13.m e14
    -- the lift
    obtain ⟨lf1, lf2, _, _⟩ := liftF_ok hI R2 (by simp)
    have lle := liftF_le hI R2 (by simp)
    refine qd_pair (d1 := .int S2.liftF.1) (d2 := .int S2.liftF.2) (ed_call (ea_consD (ed_var rfl hgv14) (ea_consD (ed_var rfl hmv) ea_nilD)) ⟨(S2.gains 0).dropLast, (S2.gains 1).dropLast, rfl, by rw [l0, l1], by omega, m0, m1, rfl⟩) fun t1 t2 H15 e15 ht1 ht2 => ?_
    obtain rfl := ht1.int_inv
    obtain rfl := ht2.int_inv
    have hgv15 := hgv14.m e15
    have hmv15 := hmv.m e15
    have hS15 := hS14.m e15
    have w0 := wd_le hI R2 (w := 0) (by simp)
    have w1 := wd_le hI R2 (w := 1) (by simp)
    have zl : (bothOf (S2.gains 0).dropLast (S2.gains 1).dropLast S2.liftF).length = n := by
      unfold bothOf
      rw [List.length_zipWith, l0, l1, Nat.min_self]
    have bget : ∀ s, s < n → (bothOf (S2.gains 0).dropLast (S2.gains 1).dropLast S2.liftF).getD s 0 = S2.c (rows.length + 0) s * S2.liftF.1 + S2.c (rows.length + 1) s * S2.liftF.2 := fun s hs => both_get hI R2 (by simp) _ hs
    -- both
    refine qd_asg (en_lcZ (ds := (S2.gains 0).dropLast.map PyData.int) (es := (S2.gains 1).dropLast.map PyData.int) (rs := (bothOf (S2.gains 0).dropLast (S2.gains 1).dropLast S2.liftF).map PyData.int) (ea_consD (ed_var rfl hgv15) (ea_consD (ed_var rfl hmv15) ea_nilD)) (by rw [List.length_map, List.length_map, l0, l1]) (flat_ints _) (by rw [List.length_map, List.length_map, zl, l0]) (by rw [List.length_map, l0]; omega) (fun _ _ => rfl) fun q d e rr v u Hq hd he hrr eq hv hu => ?_).ls fun bv H16 e16 hbv => ?_
    · obtain ⟨hq, rfl⟩ := intGet hd
      obtain ⟨_, rfl⟩ := intGet he
      obtain ⟨_, rfl⟩ := intGet hrr
      rw [l0] at hq
      rw [g0 q hq] at hv
      rw [g1 q hq] at hu
      rw [bget q hq]
      exact ed_add (ed_mul (ed_var rfl hv) (ed_v rfl) (c0 q hq) lle.1) (ed_mul (ed_var rfl hu) (ed_v rfl) (c1 q hq) lle.2)
    have hS16 := hS15.m e16
    have eb16 := (((eb12.trans e13).trans e14).trans e15).trans e16
    have hbel : 0 < S2.bottom * S2.liftF.2 * S2.wished.getD 1 0 := Int.mul_pos (Int.mul_pos G2.pos (by omega)) w1.2
    -- others
    refine qd_asg (en_meth (rs := S2.others.map qD) (i := 4) rfl hS16 (ea_consD (ed_var rfl hbv) (ea_consD (ed_mul (ed_mul (ed_fld T.cl T.n_bottom (i := 4) rfl hS16.fBottom) (ed_v rfl) G2.D lle.2) (ed_ixL (k := 1) (ed_fld T.cl T.n_wished (i := 4) rfl hS16.fWished) ed_int (ixZ (by have := G2.wf.wl; simp at this; omega))) (G2.D.mul lle.2) w1.1) ea_nilD))
      ⟨n, _, _, bothOf (S2.gains 0).dropLast (S2.gains 1).dropLast S2.liftF, S2.bottom * S2.liftF.2 * S2.wished.getD 1 0, G2, by omega, fun s hs => by
        rw [bget s hs]
        exact (((c0 s hs).mul lle.1).add ((c1 s hs).mul lle.2)).mono (by decide), hbel, ((G2.D.mul lle.2).mul w1.1).mono (by decide), rfl, rfl⟩) fun ov H17 e17 hov => ?_
    obtain ⟨ol, oxs, rfl, ol0, ol1, olx⟩ := hov
    have hS17 := hS16.m e17
    have eb17 := eb16.trans e17
    -- lift
    refine qd_asg (ed_call (d := qD S2.lift) (ea_consD (ed_mul (ed_v rfl) (ed_ixL (k := 0) (ed_fld T.cl T.n_wished (i := 4) rfl hS17.fWished) ed_int (ixZ (by have := G2.wf.wl; simp at this; omega))) lle.1 w0.1) (ea_consD (ed_mul (ed_v rfl) (ed_ixL (k := 1) (ed_fld T.cl T.n_wished (i := 4) rfl hS17.fWished) ed_int (ixZ (by have := G2.wf.wl; simp at this; omega))) lle.2 w1.1) ea_nilD)) ⟨_, _, rfl, Int.mul_pos (by omega) w1.2, (lle.2.mul w1.1).mono (by decide), rfl⟩) fun lv H18 e18 hlv => ?_
    have hS18 := hS17.m e18
    have eb18 := eb17.trans e18
    exact sd_ret (ep_told (Hb := H) (ea_consS (ea_consN eb18 (en_meth rfl hS18 ea_nilD ⟨_, _, _, G2, rfl, rfl⟩) (ea_consN eb18 (en_meth rfl hS18 ea_nilD ⟨_, _, _, G2, by simp, rfl, rfl⟩) (ea_consF rfl (e18 _ _ ol1) (olx.m e18) (fresh_back eb16 ol0) (ea_consT (ed_var rfl hlv) ea_nilN))))) (show 5 ≤ 100000 by decide)) fun v H19 e19 hv => k v H19 (eb18.trans e19) hv
end
end Hd


/-! text L0 -/
set_option Elab.async false
set_option linter.all false
set_option maxRecDepth 100000
set_option maxHeartbeats 4000000
namespace Hd
open PySem PySem.Spec PyProof.Rows L2 Evl
section
variable {H H' Hb : Hp} {p D : Addr} {xs : List V}
theorem Ex.cut (e : Ex H H') : Ex (cut H D) (cut H' D) := fun a o h => by
  by_cases ha : a = D
  · rw [ha, cut_self] at h; cases h
  · rw [cut_ne ha] at h ⊢
    exact e _ _ h
theorem cut_ex : Ex (Hd.cut H D) H := fun a o h => by
  by_cases ha : a = D
  · rw [ha, cut_self] at h; cases h
  · rw [cut_ne ha] at h; exact h
theorem cut_upd {o : HO} : Hd.cut (upd H D o) D = Hd.cut H D := by
  funext a
  by_cases ha : a = D
  · rw [ha, cut_self, cut_self]
  · rw [cut_ne ha, cut_ne ha, upd_ne ha]
mutual
theorem Dq.cutF (hp : H D = some (.lst xs)) : ∀ (d : PyData) (v : V), flat d = true → Dq H v d → Dq (cut H D) v d
  | .none, _, _, h => by cases h; exact .non
  | .bool b, _, _, h => by cases h; exact .bl b
  | .int i, _, _, h => by cases h; exact .int i
  | .str x, _, _, h => by cases h; exact .str x
  | .list ds, _, f, h => by simp [flat] at f
  | .tuple ds, _, f, h => by
    cases h with
    | tup h1 h2 => exact .tup (by rw [cut_ne (ne_of h1 hp (by intro z; cases z))]; exact h1) (DqAll.cutF hp ds _ (by simpa [flat] using f) h2)
  | .dict _, _, _, h => by cases h
theorem DqAll.cutF (hp : H D = some (.lst xs)) : ∀ (ds : List PyData) (vs : List V), flatAll ds = true → DqAll H vs ds → DqAll (cut H D) vs ds
  | [], _, _, h => by cases h; exact .nil
  | d :: ds, _, f, h => by
    have f' : flat d = true ∧ flatAll ds = true := by simpa [flatAll] using f
    cases h with
    | cons h1 h2 => exact .cons (Dq.cutF hp d _ f'.1 h1) (DqAll.cutF hp ds _ f'.2 h2)
end
/-- a new list of flat things stands apart from a list that was there -/
theorem NewL.cut {ds : List PyData} {v : V} (hD : H D = some (.lst xs)) (e : Ex H H') (h : NewL H ds v H') (hf : flatAll ds = true) : Dq (Hd.cut H' D) v (.list ds) := by
  obtain ⟨l, ys, rfl, g0, g1, g2⟩ := h
  have hne : l ≠ D := fun h => by rw [h, hD] at g0; cases g0
  exact .lst (by rw [cut_ne hne]; exact g1) (DqAll.cutF (e _ _ hD) ds ys hf g2)
end
section
variable {K : PySem.W.Frag} {σ : L2.St} {H H' Hb : Hp} {ta : TA} {tb te tl : TE} {tu tz : TS} {D : Ends} {ds es : List PyData} {d : PyData} {vs : List Nat} {rss : List (List PyData)}
/-- [a new list for x in a list of data] -/
theorem en_lcLL {j : Nat} (hl : EvD tl σ H (.list ds)) (hf : ∀ rs ∈ rss, flatAll rs = true) (hn : rss.length = ds.length) (hz : ds.length ≤ 40000) (hw : ∀ x, wipe ((wipe σ vs).set j (some x)) vs = wipe σ vs)
    (he : ∀ (i : Nat) d rs v H1, ds[i]? = some d → rss[i]? = some rs → Ex H H1 → Dq H1 v d → EvN te ((wipe σ vs).set j (some v)) H1 rs) : EvN (tLc (iList K tl) (gName j) tYes te vs) σ H (rss.map PyData.list) := fun H0 e0 Q q => hl H0 e0 _ fun v H1 e1 hd => by
  obtain ⟨a, xs, rfl, hp, hall⟩ := hd.lst_inv
  refine ⟨a, rfl, ⟨xs, SqL.of hp⟩, fun D hD => ?_⟩
  refine lc_it (walk_list (K := K) (a := a) (xs := xs)) (fun i H' => Ex H1 H' ∧ ∃ ys, H' D = some (.lst ys) ∧ DqAll (Hd.cut H' D) ys ((rss.take i).map PyData.list)) ⟨Ex.new hD, [], upd_same, by simp; exact .nil⟩ (fun i H' _ p => SqL.of (p.1 _ _ hp)) (fun i x Ha Hb hi p y => ?_) (fun H' p => ?_)
  · obtain ⟨p1, ys, p2, p3⟩ := p
    obtain ⟨rfl, hx⟩ := y
    obtain ⟨d, hd, hdq⟩ := hall.get' hx
    have hil : i < rss.length := by rw [hn]; exact (List.getElem?_eq_some_iff.mp hd).1
    have hr : rss[i]? = some rss[i] := List.getElem?_eq_getElem hil
    refine ⟨hw x, ?_⟩
    refine he i d rss[i] x Hb hd hr ((e0.trans e1).trans p1) (hdq.m p1) Hb (Ex.refl Hb) _ fun v H4 e4 hv => ?_
    have hl := p3.length
    refine ⟨ys, e4 _ _ p2, ?_, Ex.mut (p1.trans e4) hD, _, upd_same, ?_⟩
    · rw [hl, List.length_map, List.length_take]
      exact sz_lt (by omega)
    · rw [cut_upd, List.take_add_one, hr, List.map_append]
      exact (p3.m (Ex.cut e4)).append (.one (hv.cut p2 e4 (hf _ (List.mem_of_getElem? hr))))
  · obtain ⟨p1, ys, p2, p3⟩ := p
    rw [List.take_of_length_le (by rw [hn, hall.length]; exact Nat.le_refl _)] at p3
    exact q _ _ (e1.trans p1) ⟨D, ys, rfl, fresh_back (e0.trans e1) hD, p2, p3.m cut_ex⟩
theorem q_appP {l : Addr} {xs : List V} {Pr : V → Hp → Prop} (hl : H l = some (.lst xs)) (ha : Ev tb σ H (.ref l)) (h : EvP te σ H Pr) (hz : xs.length < 100000) (k : ∀ v H1, Ex H H1 → Pr v H1 → tz D σ (upd H1 l (.lst (xs ++ [v])))) :
    tSeq (tDrop (tBM K "list" rAppend tb (tCons te tNil))) tz D σ H := s_appP (D := { D with nx := tz D }) hl ha h hz k
/-- solve_next called -/
theorem ep_next {n : Nat} {rows : List (List Fr)} {bounds wish second : List Fr} (ha : EaD ta σ H [rowsD rows, qL bounds, qL wish, qL second]) (hI : InOk n rows bounds [wish, second]) : EvP (tCall spNext [] E0 ta) σ H (Told H (solveNext rows bounds wish second).dat) := fun H1 e1 _ q =>
  ha H1 e1 _ fun vs H2 e2 hd => ⟨n, rows, bounds, wish, second, by rw [List.append_nil]; exact hd, hI, fun v H3 e3 ht => q v H3 (e2.trans e3) ⟨ht.1, by
    obtain ⟨t, ys, h1, h2, h3⟩ := ht.2
    exact ⟨t, ys, h1, h2, fun l xs hm hl => fresh_back (e1.trans e2) (h3 l xs hm hl)⟩⟩⟩
/-- repr of data -/
theorem ed_repr {L : Nat} (h : EvD te σ H d) (hs : Shw d L) (hL : L ≤ 16000000) (hdp : d.depth ≤ 60) (hd : ∃ ds, d = .list ds ∨ d = .tuple ds) : EvD (tCB (rReprD K) (tCons te tNil)) σ H (.str d.shown) := fun H1 e1 Q q =>
  h H1 e1 _ fun v H2 e2 hv => by
    have hr : ∃ a, v = .ref a := by
      obtain ⟨ds, rfl | rfl⟩ := hd
      · obtain ⟨a, _, e, _⟩ := hv.lst_inv; exact ⟨a, e⟩
      · obtain ⟨a, _, e, _⟩ := hv.tup_inv; exact ⟨a, e⟩
    obtain ⟨a, rfl⟩ := hr
    exact ⟨a, d, rfl, hv.dp K, hs.sh, hs.noD, hdp, Nat.le_trans hs.len (Nat.le_trans hL (by decide)), q _ H2 e2 (.str _)⟩
/-! the told lists are turned and lengthened -/
theorem cut14 {ys : List V} (h : 3 ≤ ys.length) : cutV ys (some 1) (some 4) = (ys.drop 1).take 3 ∧ ¬ (HT.sIx ys.length 0 (some 1) = 0 ∧ HT.sIx ys.length ys.length (some 4) = ys.length) := by
  have e1 : HT.sIx ys.length 0 (some 1) = 1 := by
    rw [show (1 : Int) = ((1 : Nat) : Int) from rfl, HT.sIx_nat]; omega
  have e2 : HT.sIx ys.length ys.length (some 4) = min 4 ys.length := by
    rw [show (4 : Int) = ((4 : Nat) : Int) from rfl, HT.sIx_nat]
  unfold cutV
  rw [e1, e2]
  refine ⟨?_, by omega⟩
  by_cases h4 : 4 ≤ ys.length
  · rw [Nat.min_eq_left h4]
  · have h3 : ys.length = 3 := by omega
    rw [h3]
    show List.take 2 (ys.drop 1) = List.take 3 (ys.drop 1)
    rw [List.take_of_length_le (by rw [List.length_drop]; omega), List.take_of_length_le (by rw [List.length_drop]; omega)]
theorem q_spoil {i j : Nat} {v vw : V} {dw : PyData} (hv : σ[i]? = some (some v)) (ht : Told Hb (.tuple ds) v H) (eb : Ex Hb H) (h3 : 3 ≤ ds.length) (hl : ∀ k e, 1 ≤ k → k < 4 → ds[k]? = some e → ∃ es : List PyData, e = .list es ∧ es.length ≤ 8) (hw : Dq H vw dw) (hwf : flat dw = true) (h0 : σ.set j none = σ) (hj : j < σ.length)
    (k : ∀ x H', Ex Hb H' → Dq H' vw dw → tz D (σ.set j x) H') :
    tSeq (tFor (iTup K (tSl (rSlT K) (tVar i) (tPart (tC (.int 1))) (tPart (tC (.int 4))))) (gName j) (tSeq (tDrop (tBM0 K "list" rReverse (tVar j))) (tDrop (tBM K "list" rAppend (tVar j) (tCons (tC .non) tNil))))) tz D σ H := by
  obtain ⟨hd, t, ys, rfl, hy, hfr⟩ := ht
  obtain ⟨a', ys', e1, hy', hall⟩ := hd.tup_inv
  cases e1
  rw [hy] at hy'
  cases hy'
  have hlen := hall.length
  obtain ⟨c1, c2⟩ := cut14 (ys := ys) (by omega)
  -- the parts
  have parts : ∀ x ∈ (ys.drop 1).take 3, ∃ l, x = .ref l ∧ Hb l = none ∧ ∃ xs, H l = some (.lst xs) ∧ xs.length ≤ 8 := fun x hx => by
    obtain ⟨q, hq, rfl⟩ := List.getElem_of_mem hx
    rw [List.length_take, List.length_drop] at hq
    rw [List.getElem_take, List.getElem_drop]
    have hq2 : 1 + q < ys.length := by omega
    obtain ⟨e, he, hdq⟩ := hall.get' (List.getElem?_eq_getElem hq2)
    obtain ⟨es, rfl, hes⟩ := hl (1 + q) e (by omega) (by omega) he
    obtain ⟨l, xs, el, hlx, hxs⟩ := hdq.lst_inv
    refine ⟨l, el, hfr l xs ?_ hlx, xs, hlx, by rw [hxs.length]; exact hes⟩
    rw [← el]; exact List.getElem_mem hq2
  refine ⟨.ref t, hv, ?_⟩
  show tPart (tC (.int 1)) σ H (fun l H2 => tPart (tC (.int 4)) σ H2 (fun u H3 => rSlT K (.ref t) l u H3 _))
  refine ⟨1, rfl, 4, rfl, t, ys, rfl, SqT.of hy, c2, fun p hp => ?_⟩
  rw [c1]
  have hps : ((ys.drop 1).take 3).length ≤ 3 := by rw [List.length_take]; omega
  generalize (ys.drop 1).take 3 = ps at *
  refine ⟨p, rfl, ⟨ps, SqT.of upd_same⟩, for_tup (K := K) (a := p) (xs := ps) (fun i σ' H' => (∃ x, σ' = σ.set j x) ∧ Ex Hb H' ∧ H' p = some (.tup ps) ∧ Dq H' vw dw ∧ ∀ l, V.ref l ∈ ps → ∃ xs, H' l = some (.lst xs) ∧ xs.length ≤ 8 + i) ⟨⟨none, h0.symm⟩, eb.trans (Ex.new hp), upd_same, hw.m (Ex.new hp), fun l hm => ?_⟩ (fun i σ' H' _ p => SqT.of p.2.2.1) (fun i x σ' H' hx p => ?_) (fun σ' H' p => ?_)⟩
  · obtain ⟨l', e, _, xs, hx, hxl⟩ := parts _ hm
    cases e
    exact ⟨xs, Ex.new hp _ _ hx, by omega⟩
  · obtain ⟨⟨z, rfl⟩, p1, p2, p3, p4⟩ := p
    have hm : x ∈ ps := List.mem_of_getElem? hx
    have hi3 : i < ps.length := (List.getElem?_eq_some_iff.mp hx).1
    obtain ⟨l, rfl, hbl, _⟩ := parts x hm
    obtain ⟨xs, hlx, hxl⟩ := p4 l hm
    have hv' : ((σ.set j z).set j (some (.ref l)))[j]? = some (some (.ref l)) := by
      rw [List.getElem?_set_self (by rw [List.length_set]; exact hj)]
    -- reverse
    refine ⟨.ref l, hv', Or.inl ⟨rfl, xs, SqL.of hlx⟩, l, xs, rfl, rfl, hlx, ?_⟩
    refine s_appP (l := l) (xs := xs.reverse) upd_same (ev_var hv') (EvP.of_ev (P := fun _ _ => True) ev_c fun _ _ => trivial) (by rw [List.length_reverse]; omega) fun v H1 e1 _ => ?_
    have m1 : ∀ {o : HO}, (∀ ys, o ≠ .lst ys) → ∀ {q : Addr}, H' q = some o → upd H1 l (.lst (xs.reverse ++ [v])) q = some o := fun {o} ho {q} hq => by
      have hne : q ≠ l := ne_of hq hlx (ho xs)
      rw [upd_ne hne]
      exact e1 _ _ (by rw [upd_ne hne]; exact hq)
    refine ⟨⟨some (.ref l), by rw [List.set_set]⟩, Ex.mut ((Ex.mut p1 hbl).trans e1) hbl, m1 (by intro ys h; cases h) p2, ?_, fun l2 hm2 => ?_⟩
    · have w1 := Dq.flat_upd (acc' := xs.reverse) hlx dw vw hwf p3
      have w2 := w1.m e1
      exact Dq.flat_upd (e1 _ _ upd_same) dw vw hwf w2
    · by_cases h : l2 = l
      · subst h
        refine ⟨_, upd_same, ?_⟩
        rw [List.length_append, List.length_reverse]
        show xs.length + 1 ≤ 8 + (i + 1)
        omega
      · obtain ⟨xs2, hx2, hl2⟩ := p4 l2 hm2
        refine ⟨xs2, ?_, by omega⟩
        rw [upd_ne h]
        exact e1 _ _ (by rw [upd_ne h]; exact hx2)
  · obtain ⟨⟨z, rfl⟩, p1, p2, p3, p4⟩ := p
    exact k z H' p1 p3
end
end Hd


/-! text L1 -/
set_option Elab.async false
set_option linter.all false
set_option maxRecDepth 100000
set_option maxHeartbeats 4000000
namespace Hd
open PySem PySem.Spec PyProof.Rows L2 Evl
/-! ### what the law makes of its script -/
def lHigh (ns : List Int) : Nat := (cellAt ns 0 % 9).toNat
def lWide (ns : List Int) : Nat := (1 + cellAt ns 0 / 9 % 8).toNat
def lSort (ns : List Int) : Int := cellAt ns 0 / 72 % 4
def lZero (ns : List Int) : Int := cellAt ns 0 / 288 % 2
def lAt (ns : List Int) (i : Nat) : Nat := 2 + lWide ns + lHigh ns + i * lWide ns
def lBounds (ns : List Int) : List Fr := (List.range (lHigh ns)).map fun k => lawBound (cellAt ns (((2 + lWide ns + k : Nat)) : Int)) (lSort ns) (lZero ns)
def lRow (ns : List Int) (i : Nat) : List Fr := (List.range (lWide ns)).map fun k => lawNumber (cellAt ns ((lAt ns i + k : Nat) : Int)) (lSort ns)
def lRows (ns : List Int) : List (List Fr) := (List.range (lHigh ns)).map (lRow ns)
def lWish (ns : List Int) : List Fr := lawWish ns 2 (lWide ns) (lSort ns) (lRows ns)
def lSecond (ns : List Int) : List Fr := (List.range (lWide ns)).map fun k => lawNumber (cellAt ns ((lAt ns (lHigh ns) + k : Nat) : Int) + 3 * (k : Int) * (k : Int)) (lSort ns)
theorem lAt_succ (ns : List Int) (i : Nat) : lAt ns (i + 1) = lAt ns i + lWide ns := by
  unfold lAt
  rw [Nat.succ_mul]; omega
theorem lHigh_eq (ns : List Int) : ((lHigh ns : Nat) : Int) = cellAt ns 0 % 9 := by
  have := Int.emod_nonneg (cellAt ns 0) (show (9 : Int) ≠ 0 by decide)
  unfold lHigh; omega
theorem lHigh_le (ns : List Int) : lHigh ns ≤ 8 := by
  have := Int.emod_lt_of_pos (cellAt ns 0) (show (0 : Int) < 9 by decide)
  have := Int.emod_nonneg (cellAt ns 0) (show (9 : Int) ≠ 0 by decide)
  unfold lHigh; omega
theorem lWide_eq (ns : List Int) : ((lWide ns : Nat) : Int) = 1 + cellAt ns 0 / 9 % 8 := by
  have := Int.emod_nonneg (cellAt ns 0 / 9) (show (8 : Int) ≠ 0 by decide)
  unfold lWide; omega
theorem lWide_le (ns : List Int) : lWide ns ≤ 8 := by
  have := Int.emod_lt_of_pos (cellAt ns 0 / 9) (show (0 : Int) < 8 by decide)
  have := Int.emod_nonneg (cellAt ns 0 / 9) (show (8 : Int) ≠ 0 by decide)
  unfold lWide; omega
theorem giv_num (c s : Int) : Giv0 (lawNumber c s) := lawNumber_bd c s
theorem lRow_ok (ns : List Int) (i : Nat) : (lRow ns i).length = lWide ns ∧ ∀ f ∈ lRow ns i, Giv0 f := by
  refine ⟨by unfold lRow; rw [List.length_map, List.length_range], fun f hf => ?_⟩
  obtain ⟨k, _, rfl⟩ := List.mem_map.mp hf
  exact giv_num _ _
theorem lRows_len (ns : List Int) : (lRows ns).length = lHigh ns := by unfold lRows; rw [List.length_map, List.length_range]
theorem lRows_get (ns : List Int) {i : Nat} (h : i < (lRows ns).length) : (lRows ns)[i] = lRow ns i := by simp [lRows]
theorem lBounds_len (ns : List Int) : (lBounds ns).length = lHigh ns := by unfold lBounds; rw [List.length_map, List.length_range]
theorem lRows_ok (ns : List Int) : ∀ r ∈ lRows ns, r.length = lWide ns ∧ ∀ f ∈ r, Giv0 f := fun r hr => by
  obtain ⟨i, _, rfl⟩ := List.mem_map.mp hr
  exact lRow_ok ns i
theorem lSecond_ok (ns : List Int) : (lSecond ns).length = lWide ns ∧ ∀ f ∈ lSecond ns, Giv0 f := by
  refine ⟨by unfold lSecond; rw [List.length_map, List.length_range], fun f hf => ?_⟩
  obtain ⟨k, _, rfl⟩ := List.mem_map.mp hf
  exact giv_num _ _
theorem lWish_ok (ns : List Int) : (lWish ns).length = lWide ns ∧ ∀ f ∈ lWish ns, Giv0 f := by
  unfold lWish lawWish
  split
  · refine ⟨List.length_replicate, fun f hf => ?_⟩
    rw [(List.mem_replicate.mp hf).2]
    exact ⟨⟨Sm.zero, Sm.one (by decide), by decide⟩, by decide⟩
  · split
    · rename_i h1 h2
      have hl : 0 < (lRows ns).length := List.length_pos_iff.mpr h2.2
      have i1 := Int.emod_nonneg (cellAt ns 1 / 6) (show ((lRows ns).length : Int) ≠ 0 by omega)
      have i2 := Int.emod_lt_of_pos (cellAt ns 1 / 6) (show (0 : Int) < (lRows ns).length by omega)
      rw [getD_lt (by omega)]
      exact lRows_ok ns _ (List.getElem_mem _)
    · refine ⟨by rw [List.length_map, List.length_range], fun f hf => ?_⟩
      obtain ⟨k, _, rfl⟩ := List.mem_map.mp hf
      exact giv_num _ _
theorem lBounds_ok (ns : List Int) : ∀ f ∈ lBounds ns, Giv0 f ∧ 0 ≤ f.1 := fun f hf => by
  obtain ⟨k, _, rfl⟩ := List.mem_map.mp hf
  have := lawBound_bd (cellAt ns (((2 + lWide ns + k : Nat)) : Int)) (lSort ns) (lZero ns)
  exact ⟨⟨this.1, this.2.1⟩, this.2.2⟩
theorem lIn2 (ns : List Int) : InOk (lWide ns) (lRows ns) (lBounds ns) [lWish ns, lSecond ns] := by
  refine ⟨by rw [lBounds_len, lRows_len], by rw [lRows_len]; exact lHigh_le ns, lWide_le ns, by simp, fun r hr => (lRows_ok ns r hr).1, fun r hr => ?_, fun r hr => (lRows_ok ns r hr).2, lBounds_ok ns, fun r hr => ?_⟩
  · rcases List.mem_cons.mp hr with rfl | hr
    · exact (lWish_ok ns).1
    · rw [List.mem_singleton.mp hr]; exact (lSecond_ok ns).1
  · rcases List.mem_cons.mp hr with rfl | hr
    · exact (lWish_ok ns).2
    · rw [List.mem_singleton.mp hr]; exact (lSecond_ok ns).2
theorem lIn1 (ns : List Int) : InOk (lWide ns) (lRows ns) (lBounds ns) [lWish ns] := by
  refine ⟨by rw [lBounds_len, lRows_len], by rw [lRows_len]; exact lHigh_le ns, lWide_le ns, by simp, fun r hr => (lRows_ok ns r hr).1, fun r hr => ?_, fun r hr => (lRows_ok ns r hr).2, lBounds_ok ns, fun r hr => ?_⟩
  · rw [List.mem_singleton.mp hr]; exact (lWish_ok ns).1
  · rw [List.mem_singleton.mp hr]; exact (lWish_ok ns).2
theorem lGiv (ns : List Int) : Giv (lRows ns) (lBounds ns) (lWish ns) := by
  refine ⟨by rw [lRows_len]; exact lHigh_le ns, by rw [(lWish_ok ns).1]; exact lWide_le ns, fun r hr => by rw [(lRows_ok ns r hr).1, (lWish_ok ns).1], by rw [lBounds_len, lRows_len], fun r hr f hf => ((lRows_ok ns r hr).2 f hf).1, fun f hf => (lBounds_ok ns f hf).1.1, fun f hf => ((lWish_ok ns).2 f hf).1⟩
theorem dE1 : decide (("endless" : Str) = ("endless" : Str)) = true := by decide +kernel
theorem dE2 : decide (("endless next" : Str) = ("endless" : Str)) = false := by decide +kernel
theorem dE3 : decide (("best" : Str) = ("endless" : Str)) = false := by decide +kernel
/-- the shape of what is told: its word, its fit, its lists -/
theorem res_shape (r : Res) {high wide : Nat} (h : r.Fit high wide) (hh : high ≤ 8) (hw : wide ≤ 8) : ∃ x rest, r.dat = .tuple (.str x :: qL r.fit :: rest) ∧ decide (x = ("endless" : Str)) = r.isE ∧ 3 ≤ (PyData.str x :: qL r.fit :: rest).length ∧ r.fit.length = wide ∧ BdL 1400 r.fit ∧
    ∀ k e, 1 ≤ k → k < 4 → (PyData.str x :: qL r.fit :: rest)[k]? = some e → ∃ es : List PyData, e = .list es ∧ es.length ≤ 8 := by
  have lm : ∀ fs : List Fr, fs.length ≤ 8 → ∃ es : List PyData, qL fs = .list es ∧ es.length ≤ 8 := fun fs hl => ⟨fs.map qD, rfl, by rw [List.length_map]; exact hl⟩
  cases r with
  | endless fit way =>
    obtain ⟨a, b⟩ := h
    refine ⟨_, _, rfl, dE1, (show 3 ≤ 3 by decide), a.1, a.2, fun k e h1 h4 he => ?_⟩
    match k, h1, h4 with
    | 1, _, _ => cases he; exact lm fit (by omega)
    | 2, _, _ => cases he; exact lm way (by omega)
    | 3, _, _ => cases he
  | next fit prices way =>
    obtain ⟨a, b, c⟩ := h
    refine ⟨_, _, rfl, dE2, (show 3 ≤ 4 by decide), a.1, a.2, fun k e h1 h4 he => ?_⟩
    match k, h1, h4 with
    | 1, _, _ => cases he; exact lm fit (by omega)
    | 2, _, _ => cases he; exact lm prices (by omega)
    | 3, _, _ => cases he; exact lm way (by omega)
  | best fit prices others lift =>
    obtain ⟨a, b, c, _⟩ := h
    refine ⟨_, _, rfl, dE3, (show 3 ≤ 5 by decide), a.1, a.2, fun k e h1 h4 he => ?_⟩
    match k, h1, h4 with
    | 1, _, _ => cases he; exact lm fit (by omega)
    | 2, _, _ => cases he; exact lm prices (by omega)
    | 3, _, _ => cases he; exact lm others (by omega)
theorem alone_shape (r : Alone) {high wide : Nat} (h : r.Fit high wide) : ∃ x rest, r.dat = .tuple (.str x :: qL r.fit :: rest) ∧ decide (x = ("endless" : Str)) = r.isE ∧ r.fit.length = wide ∧ BdL 1400 r.fit := by
  cases r with
  | endless fit way => exact ⟨_, _, rfl, dE1, h.1.1, h.1.2⟩
  | best fit prices => exact ⟨_, _, rfl, dE3, h.1.1, h.1.2⟩
section
variable {P : Program} {w : World} {K : PySem.W.Frag} {mg : Str → Option Value} {base : Heap} {C : Addr} {t8 : Tok} {f f0 : Addr} {fd fd0 : FuncData} {p : Addr}
theorem Told.m {Hb H H' : Hp} {d : PyData} {v : V} {ds : List PyData} (hd : d = .tuple ds) (h : Told Hb d v H) (e : Ex H H') : Told Hb d v H' := by
  subst hd
  obtain ⟨h1, t, ys, rfl, h2, h3⟩ := h
  refine ⟨h1.m e, t, ys, rfl, e _ _ h2, fun l xs hm hl => ?_⟩
  obtain ⟨t', ys', e1, h4, hall⟩ := h1.tup_inv
  cases e1
  rw [h2] at h4
  cases h4
  obtain ⟨i, hi, ei⟩ := List.getElem_of_mem hm
  obtain ⟨d, _, hdq⟩ := hall.get' (List.getElem?_eq_getElem hi)
  rw [ei] at hdq
  cases hdq with
  | lst g1 g2 => exact h3 l _ hm g1
  | tup g1 g2 => rw [e _ _ g1] at hl; cases hl
theorem ed_lwish {σ : L2.St} {H : Hp} {i2 i3 i4 i0 : Nat} {a : Addr} {ns : List Int} {at_ so : Int} {wide : Nat} {rows : List (List Fr)} {v : V} (h0 : σ[i0]? = some (some (.ref a))) (hS : SqL K H a (ns.map V.int)) (h2 : σ[i2]? = some (some (.int (wide : Int)))) (h3 : σ[i3]? = some (some (.int so))) (h4 : σ[i4]? = some (some v)) (hv : Dq H v (rowsD rows))
    (ha : 0 ≤ at_) (hw : wide ≤ 8) (hr : rows.length ≤ 8) (hrl : ∀ r ∈ rows, r.length ≤ 8) : EvD (tCall (spLWish K) [] E0 (tCons (tVar i0) (tCons (tC (.int at_)) (tCons (tVar i2) (tCons (tVar i3) (tCons (tVar i4) tNil)))))) σ H (qL (lawWish ns at_ wide so rows)) := fun H1 e1 Q q =>
  ⟨_, h0, _, h2, _, h3, _, h4, a, ns, at_, so, wide, rows, v, rfl, ex_l e1 hS, hv.m e1, ha, hw, hr, hrl, fun u H' e hd => q u H' e hd⟩
theorem ep_nextR {σ : L2.St} {H : Hp} {ta : TA} {n : Nat} {rows : List (List Fr)} {bounds wish second : List Fr} {res : Res} (ha : EaD ta σ H [rowsD rows, qL bounds, qL wish, qL second]) (hI : InOk n rows bounds [wish, second]) (e : solveNext rows bounds wish second = res) : EvP (tCall spNext [] E0 ta) σ H (Told H res.dat) := by
  rw [← e]
  exact ep_next ha hI
theorem law_body (T : Txt K mg C t8) (CLCell : Cal P w K mg base 1 "_law_cell_at" ["_law_script", "_law_k"] (spCell K)) (CLBound : Cal P w K mg base 4 "_law_bound" ["_law_cell", "_law_sort", "_law_zeros"] (spD preLBound))
  (CLNum : Cal P w K mg base 3 "_law_number" ["_law_cell", "_law_sort"] (spD preLNum)) (CLWish : Cal P w K mg base 4 "_law_wish" ["_law_script", "_law_at", "_law_wide", "_law_sort", "_law_rows"] (spLWish K))
  (CNext : Cal P w K mg base 6 "solve_next" ["rows", "bounds", "wish", "second"] spNext) (CLRight : Cal P w K mg base 4 "_law_right" ["_law_found", "_law_rows", "_law_bounds", "_law_wishes"] (spD preLRight))
  (CLDot : Cal P w K mg base 1 "_law_dot" ["_law_some", "_law_more"] (spD preLDot)) (CSolve : Cal P w K mg base 6 "solve" ["rows", "bounds", "wish"] (spD preSolve)) (CLLess : Cal P w K mg base 1 "_law_less" ["_law_one", "_law_other"] (spD preLLess))
  {A : Around} {outer : List Env} {s : Shared} {H : Hp} {cdv : Value} {E : XK} {Q : VK} {a : Addr} {ns : List Int} (hr : Room 6 (A.deeper (envOfC "law" (defScope sLaw) s.heap.objs.size f cdv))) (hg : (A.deeper (envOfC "law" (defScope sLaw) s.heap.objs.size f cdv)).guards = some [])
  (hS : SqL K H a (ns.map V.int)) (k : ∀ H', Q (.bl true) H') :
  ∃ t, PSs (cxOf CX0 P w K mg base nLaw "law" (defScope sLaw) f cdv A outer s H E) (defBody sLaw) t ∧ t { nx := fun _ H' => Q .non H', rt := Q } (L2.start nLaw [.ref a]) H := by
  have hu := hu_of hr
  have hu64 := hr.units
  have hh8 := lHigh_le ns
  have hw8 := lWide_le ns
  have hhe := lHigh_eq ns
  have hwe := lWide_eq ns
  refine ⟨_, PSs.nox (pss_cons (ps_set (i := 1) scLaw.nd rfl (Or.inl rfl) (pe_c CLCell hr (by rfl) (pa_cons (pv 0) (pa_cons pe_int pa_nil))))
      (pss_cons (ps_set (i := 2) scLaw.nd rfl (Or.inl rfl) (pe_op op_mod (pv 1) pe_int))
      (pss_cons (ps_set (i := 3) scLaw.nd rfl (Or.inl rfl) (pe_op op_add pe_int (pe_op op_mod (pe_op op_fdiv (pv 1) pe_int) pe_int)))
      (pss_cons (ps_set (i := 4) scLaw.nd rfl (Or.inr rfl) (pe_op op_mod (pe_op op_fdiv (pv 1) pe_int) pe_int))
      (pss_cons (ps_set (i := 5) scLaw.nd rfl (Or.inr rfl) (pe_op op_mod (pe_op op_fdiv (pv 1) pe_int) pe_int))
      (pss_cons (ps_set (i := 6) scLaw.nd rfl (Or.inr rfl) (pe_op op_add pe_int (pv 3)))
      (pss_cons (ps_setLc (g := (gName 18)) (tt := tYes) (te := (tCall (spD preLBound) [] E0 (tCons (tCall (spCell K) [] E0 (tCons (tVar 0) (tCons (tOp (rI0 fun i j => .int (i + j)) (tVar 6) (tVar 18)) tNil))) (tCons (tVar 4) (tCons (tVar 5) tNil))))) (i := 7) rfl scLaw.nd rfl rfl (sw_true rfl rfl rfl (by decide +kernel)) (pi_range1 (by rfl) T.range_ (pa_cons (pv 2) pa_nil)) (blkOk_by (own := [("_law_k", 18)]) (N := nLaw) (sc := defScope sLaw) (by decide +kernel)) (fun _ _ _ _ _ => (pg_name (i := 18) scLaw.nd rfl (Or.inl rfl) (Or.inr rfl))) (fun _ _ _ _ _ => pts_nil) (fun _ _ _ _ _ => (pe_c CLBound hr (by rfl) (pa_cons (pe_c CLCell hr (by rfl) (pa_cons (pv 0) (pa_cons (pe_op op_add (pv 6) (pv 18)) pa_nil))) (pa_cons (pv 4) (pa_cons (pv 5) pa_nil))))))
      (pss_cons (ps_set (i := 6) scLaw.nd rfl (Or.inr rfl) (pe_op op_add (pv 6) (pv 2)))
      (pss_cons (ps_set (i := 8) scLaw.nd rfl (Or.inl rfl) (pe_lst pa_nil))
      (pss_cons (ps_for PassesOwn.never rfl (pi_range1 (by rfl) T.range_ (pa_cons (pv 2) pa_nil)) (pg_name (i := 9) scLaw.nd rfl (Or.inl rfl) (Or.inl rfl)) (pss_cons (ps_expr (pe_bm PySem.F.plainAttrs_list PySem.F.slot_list_append PySem.F.type_list_append mt_append (pv 8) (pa_cons (pe_lc (g := (gName 18)) (tt := tYes) (te := (tCall (spD preLNum) [] E0 (tCons (tCall (spCell K) [] E0 (tCons (tVar 0) (tCons (tOp (rI0 fun i j => .int (i + j)) (tVar 6) (tVar 18)) tNil))) (tCons (tVar 4) tNil)))) rfl scLaw.nd (pi_range1 (by rfl) T.range_ (pa_cons (pv 3) pa_nil)) (blkOk_by (own := [("_law_k", 18)]) (N := nLaw) (sc := defScope sLaw) (by decide +kernel)) (fun _ _ _ _ _ => (pg_name (i := 18) scLaw.nd rfl (Or.inl rfl) (Or.inr rfl))) (fun _ _ _ _ _ => pts_nil) (fun _ _ _ _ _ => (pe_c CLNum hr (by rfl) (pa_cons (pe_c CLCell hr (by rfl) (pa_cons (pv 0) (pa_cons (pe_op op_add (pv 6) (pv 18)) pa_nil))) (pa_cons (pv 4) pa_nil))))) pa_nil)))
      (pss_one (ps_set (i := 6) scLaw.nd rfl (Or.inr rfl) (pe_op op_add (pv 6) (pv 3))))))
      (pss_cons (ps_set (i := 10) scLaw.nd rfl (Or.inl rfl) (pe_c CLWish hr (by rfl) (pa_cons (pv 0) (pa_cons pe_int (pa_cons (pv 3) (pa_cons (pv 4) (pa_cons (pv 8) pa_nil)))))))
      (pss_cons (ps_setLc (g := (gName 18)) (tt := tYes) (te := (tCall (spD preLNum) [] E0 (tCons (tOp (rI0 fun i j => .int (i + j)) (tCall (spCell K) [] E0 (tCons (tVar 0) (tCons (tOp (rI0 fun i j => .int (i + j)) (tVar 6) (tVar 18)) tNil))) (tOp (rI CMulW fun i j => .int (i * j)) (tOp (rI CMulW fun i j => .int (i * j)) (tC (.int 3)) (tVar 18)) (tVar 18))) (tCons (tVar 4) tNil)))) (i := 11) rfl scLaw.nd rfl rfl (sw_true rfl rfl rfl (by decide +kernel)) (pi_range1 (by rfl) T.range_ (pa_cons (pv 3) pa_nil)) (blkOk_by (own := [("_law_k", 18)]) (N := nLaw) (sc := defScope sLaw) (by decide +kernel)) (fun _ _ _ _ _ => (pg_name (i := 18) scLaw.nd rfl (Or.inl rfl) (Or.inr rfl))) (fun _ _ _ _ _ => pts_nil) (fun _ _ _ _ _ => (pe_c CLNum hr (by rfl) (pa_cons (pe_op op_add (pe_c CLCell hr (by rfl) (pa_cons (pv 0) (pa_cons (pe_op op_add (pv 6) (pv 18)) pa_nil))) (pe_op op_mulW (pe_op op_mulW pe_int (pv 18)) (pv 18))) (pa_cons (pv 4) pa_nil)))))
      (pss_cons (ps_set (i := 12) scLaw.nd rfl (Or.inl rfl) (pe_tup (pa_cons (pe_lc (g := (gName 19)) (tt := tYes) (te := (tCB (rListS K) (tCons (tVar 19) tNil))) rfl scLaw.nd (pi_list (pv 8)) (blkOk_by (own := [("_law_row", 19)]) (N := nLaw) (sc := defScope sLaw) (by decide +kernel)) (fun _ _ _ _ _ => (pg_name (i := 19) scLaw.nd rfl (Or.inl rfl) (Or.inr rfl))) (fun _ _ _ _ _ => pts_nil) (fun _ _ _ _ _ => (pe_callTy call_list_of (by rfl) T.list_ (by decide +kernel) (pa_cons (pv 19) pa_nil)))) (pa_cons (pe_callTy call_list_of (by rfl) T.list_ (by decide +kernel) (pa_cons (pv 7) pa_nil)) (pa_cons (pe_callTy call_list_of (by rfl) T.list_ (by decide +kernel) (pa_cons (pv 10) pa_nil)) (pa_cons (pe_callTy call_list_of (by rfl) T.list_ (by decide +kernel) (pa_cons (pv 11) pa_nil)) pa_nil))))))
      (pss_cons (ps_set (i := 13) scLaw.nd rfl (Or.inl rfl) (pe_c CNext hr (by rfl) (pa_cons (pe_ix ix_tup (pv 12) pe_int (fun _ _ => rfl)) (pa_cons (pe_ix ix_tup (pv 12) pe_int (fun _ _ => rfl)) (pa_cons (pe_ix ix_tup (pv 12) pe_int (fun _ _ => rfl)) (pa_cons (pe_ix ix_tup (pv 12) pe_int (fun _ _ => rfl)) pa_nil))))))
      (pss_cons (ps_if (PW.pt (pw_or (pt_cmpR (op_neD hu64) (pv 12) (pe_tup (pa_cons (pv 8) (pa_cons (pv 7) (pa_cons (pv 10) (pa_cons (pv 11) pa_nil))))) (nomark _)) (pw_or1 (pt_not (pt_val (pe_c CLRight hr (by rfl) (pa_cons (pv 13) (pa_cons (pv 8) (pa_cons (pv 7) (pa_cons (pe_tup (pa_cons (pv 10) (pa_cons (pv 11) pa_nil))) pa_nil)))))))))) (pss_one (ps_ret pe_bl)) pss_nil)
      (pss_cons (ps_set (i := 14) scLaw.nd rfl (Or.inl rfl) (pe_callB (call_reprD hg hu64) (by rfl) T.repr_ (by decide +kernel) (pa_cons (pv 13) pa_nil)))
      (pss_cons (ps_set (i := 15) scLaw.nd rfl (Or.inl rfl) (pe_c CLDot hr (by rfl) (pa_cons (pv 10) (pa_cons (pe_ix ix_tup (pv 13) pe_int (fun _ _ => rfl)) pa_nil))))
      (pss_cons (ps_for PassesOwn.never rfl (pi_tup (pe_slice sl_tup (pv 13) (po_some pe_int) (po_some pe_int))) (pg_name (i := 16) scLaw.nd rfl (Or.inl rfl) (Or.inl rfl)) (pss_cons (ps_expr (pe_bm0 PySem.F.plainAttrs_list PySem.F.slot_list_reverse PySem.F.type_list_reverse mt_reverse (pv 16)))
      (pss_one (ps_expr (pe_bm PySem.F.plainAttrs_list PySem.F.slot_list_append PySem.F.type_list_append mt_append (pv 16) (pa_cons pe_non pa_nil))))))
      (pss_cons (ps_set (i := 13) scLaw.nd rfl (Or.inl rfl) (pe_c CNext hr (by rfl) (pa_cons (pv 8) (pa_cons (pv 7) (pa_cons (pv 10) (pa_cons (pv 11) pa_nil))))))
      (pss_cons (ps_if (pt_cmpR op_ne (pe_callB (call_reprD hg hu64) (by rfl) T.repr_ (by decide +kernel) (pa_cons (pv 13) pa_nil)) (pv 14) (nomark _)) (pss_one (ps_ret pe_bl)) pss_nil)
      (pss_cons (ps_set (i := 17) scLaw.nd rfl (Or.inl rfl) (pe_c CSolve hr (by rfl) (pa_cons (pv 8) (pa_cons (pv 7) (pa_cons (pv 10) pa_nil)))))
      (pss_cons (ps_if (pt_cmpR op_ne (pe_cmpR op_eq (pe_ix ix_tup (pv 17) pe_int (fun _ _ => rfl)) pe_str (nomark _)) (pe_cmpR op_eq (pe_ix ix_tup (pv 13) pe_int (fun _ _ => rfl)) pe_str (nomark _)) (nomark _)) (pss_one (ps_ret pe_bl)) pss_nil)
      (pss_one (ps_ret (pe_or (pe_cmpR op_eq (pe_ix ix_tup (pv 13) pe_int (fun _ _ => rfl)) pe_str (nomark _)) (pe_one (pe_cmpR op_eq (pe_ix ix_tup (pe_c CLLess hr (by rfl) (pa_cons (pe_c CLDot hr (by rfl) (pa_cons (pv 10) (pa_cons (pe_ix ix_tup (pv 17) pe_int (fun _ _ => rfl)) pa_nil))) (pa_cons (pv 15) pa_nil))) pe_int (fun _ _ => rfl)) pe_int (nomark _)))))))))))))))))))))))))))), ?_⟩
  refine qd_asgI (ed_cell rfl hS ed_int (by decide)) fun H1 e1 => ?_
  refine qd_asgI (n := ((lHigh ns : Nat) : Int)) (ed_is (ed_mod (ed_v rfl) ed_int (by decide)) (by rw [hhe])) fun H2 e2 => ?_
  refine qd_asgI (n := ((lWide ns : Nat) : Int)) (ed_is (ed_add ed_int (ed_mod (ed_div (ed_v rfl) ed_int ⟨by decide, by decide⟩) ed_int (by decide))) (by rw [hwe])) fun H3 e3 => ?_
  refine qd_asgI (n := lSort ns) (ed_mod (ed_div (ed_v rfl) ed_int ⟨by decide, by decide⟩) ed_int (by decide)) fun H4 e4 => ?_
  refine qd_asgI (n := lZero ns) (ed_mod (ed_div (ed_v rfl) ed_int ⟨by decide, by decide⟩) ed_int (by decide)) fun H5 e5 => ?_
  refine qd_asgI (n := ((2 + lWide ns : Nat) : Int)) (ed_is (ed_add ed_int (ed_v rfl)) (by rw [Int.natCast_add]; rfl)) fun H6 e6 => ?_
  have e06 := ((((e1.trans e2).trans e3).trans e4).trans e5).trans e6
  have hS6 := ex_l e06 hS
  -- bounds
  refine qd_asg (en_lcR (m := lHigh ns) (rs := (lBounds ns).map qD) (ea_consD (ed_v rfl) ea_nilD) (flat_qs _) (by rw [List.length_map, lBounds_len]) (by omega) (fun _ => rfl) fun i r Hq hr' eq => ?_).ls fun vb H7 e7 hb => ?_
  · obtain ⟨hi, rfl⟩ := frGet hr'
    rw [lBounds_len] at hi
    have er : frD (lBounds ns) i = lawBound (cellAt ns ((2 + lWide ns + i : Nat) : Int)) (lSort ns) (lZero ns) := by
      unfold frD lBounds
      rw [getD_lt (by rw [List.length_map, List.length_range]; exact hi), List.getElem_map, List.getElem_range]
    rw [er]
    refine ed_call (ea_consD (ed_cell rfl (ex_l eq hS6) (ed_is (ed_add (ed_v rfl) (ed_v rfl)) (by rw [← Int.natCast_add])) (by omega)) (ea_consD (ed_v rfl) (ea_consD (ed_v rfl) ea_nilD))) ⟨_, _, _, rfl, rfl⟩
  refine qd_asgI (n := ((lAt ns 0 : Nat) : Int)) (ed_is (ed_add (ed_v rfl) (ed_v rfl)) (by rw [← Int.natCast_add]; unfold lAt; congr 2; omega)) fun H8 e8 => ?_
  -- rows
  refine qd_asg (en_lst ea_nilD (by decide)) fun vr H9 e9 hvr => ?_
  obtain ⟨R, xs0, rfl, hR0, hR1, hRx⟩ := hvr
  cases hRx
  have hb8 := hb.m e8
  refine qd_forR (m := lHigh ns) (ea_consD (ed_v rfl) ea_nilD) (by omega) fun H10 e10 => ⟨fun i σ' H' => Ex H8 H' ∧ ∃ xs x9, H' R = some (.lst xs) ∧ DqAll (Hd.cut H' R) xs (((lRows ns).take i).map qL) ∧ σ' = [some (.ref a), some (.int (cellAt ns 0)), some (.int (lHigh ns)), some (.int (lWide ns)), some (.int (lSort ns)), some (.int (lZero ns)), some (.int (lAt ns i)), some vb, some (.ref R), x9, none, none, none, none, none, none, none, none, none, none], ⟨e9.trans e10, [], none, e10 _ _ hR1, .nil, rfl⟩, fun i σ' H' hi p' => ?_, fun σ' H' p' => ?_⟩
  · obtain ⟨p1, xs, x9, p2, p3, rfl⟩ := p'
    have hSi := ex_l ((e7.trans e8).trans p1) hS6
    have hxl := p3.length
    refine q_appP (l := R) p2 (ev_var rfl) (en_lcR (m := lWide ns) (rs := (lRow ns i).map qD) (ea_consD (ed_v rfl) ea_nilD) (flat_qs _) (by rw [List.length_map, (lRow_ok ns i).1]) (by omega) (fun _ => rfl) fun q r Hq hr' eq => ?_) (by rw [hxl, List.length_map, List.length_take, lRows_len]; omega) fun v H11 e11 hv => ?_
    · obtain ⟨hq, rfl⟩ := frGet hr'
      rw [(lRow_ok ns i).1] at hq
      have er : frD (lRow ns i) q = lawNumber (cellAt ns ((lAt ns i + q : Nat) : Int)) (lSort ns) := by
        unfold frD lRow
        rw [getD_lt (by rw [List.length_map, List.length_range]; exact hq), List.getElem_map, List.getElem_range]
      rw [er]
      refine ed_call (ea_consD (ed_cell rfl (ex_l eq hSi) (ed_is (ed_add (ed_v rfl) (ed_v rfl)) (by rw [← Int.natCast_add])) (by omega)) (ea_consD (ed_v rfl) ea_nilD)) ⟨_, _, rfl, rfl⟩
    · refine sd_asgI (n := ((lAt ns (i + 1) : Nat) : Int)) (ed_is (ed_add (ed_v rfl) (ed_v rfl)) (by rw [← Int.natCast_add, lAt_succ])) fun H12 e12 => ?_
      have hil : i < (lRows ns).length := by rw [lRows_len]; exact hi
      have ht : (lRows ns).take (i + 1) = (lRows ns).take i ++ [lRow ns i] := by
        rw [List.take_add_one, List.getElem?_eq_getElem hil]
        congr 1
        show [(lRows ns)[i]] = _
        rw [lRows_get]
      have hrow : Dq (Hd.cut H11 R) v (qL (lRow ns i)) := hv.cut p2 e11 (flat_qs _)
      refine ⟨(Ex.mut (p1.trans e11) hR0).trans e12, _, some (.int i), e12 _ _ upd_same, ?_, rfl⟩
      rw [ht, List.map_append]
      refine DqAll.m ?_ (Ex.cut e12)
      rw [cut_upd]
      exact (p3.m (Ex.cut e11)).append (.one hrow)
  obtain ⟨p1, xs, x9, p2, p3, rfl⟩ := p'
  rw [List.take_of_length_le (by rw [lRows_len]; exact Nat.le_refl _)] at p3
  have hrows : Dq H' (.ref R) (rowsD (lRows ns)) := .lst p2 (p3.m cut_ex)
  have hS10 := ex_l ((e7.trans e8).trans p1) hS6
  have hbs := hb8.m p1
  -- the wishes
  refine qd_asg (ed_lwish (at_ := 2) (rows := lRows ns) rfl hS10 rfl rfl rfl hrows (by decide) hw8 (by rw [lRows_len]; exact hh8) (fun r hr => by rw [(lRows_ok ns r hr).1]; exact hw8)) fun vw H11 e11 hw => ?_
  have hS11 := ex_l e11 hS10
  have hrows11 := hrows.m e11
  have hb11 := hbs.m e11
  refine qd_asg (en_lcR (m := lWide ns) (rs := (lSecond ns).map qD) (ea_consD (ed_v rfl) ea_nilD) (flat_qs _) (by rw [List.length_map, (lSecond_ok ns).1]) (by omega) (fun _ => rfl) fun q r Hq hr' eq => ?_).ls fun vs H12 e12 hse => ?_
  · obtain ⟨hq, rfl⟩ := frGet hr'
    rw [(lSecond_ok ns).1] at hq
    have er : frD (lSecond ns) q = lawNumber (cellAt ns ((lAt ns (lHigh ns) + q : Nat) : Int) + 3 * (q : Int) * (q : Int)) (lSort ns) := by
      unfold frD lSecond
      rw [getD_lt (by rw [List.length_map, List.length_range]; exact hq), List.getElem_map, List.getElem_range]
    rw [er]
    have s3 : Sm 10 3 := by unfold Sm; decide
    have sq : Sm 10 (q : Int) := by unfold Sm; omega
    refine ed_call (ea_consD (ed_add (ed_cell rfl (ex_l eq hS11) (ed_is (ed_add (ed_v rfl) (ed_v rfl)) (by rw [← Int.natCast_add])) (by omega)) (ed_mul (ed_mul ed_int (ed_v rfl) s3 sq) (ed_v rfl) (s3.mul sq) sq)) (ea_consD (ed_v rfl) ea_nilD)) ⟨_, _, rfl, rfl⟩
  have hrows12 := hrows11.m e12
  have hb12 := hb11.m e12
  have hw12 := hw.m e12
  have hI2 := lIn2 ns
  have hI1 := lIn1 ns
  have hG := lGiv ns
  have hrw : lawWish ns 2 (lWide ns) (lSort ns) (lRows ns) = lWish ns := rfl
  rw [hrw] at hw12
  have lr := lRows_len ns
  have lb := lBounds_len ns
  have lw := lWish_ok ns
  have ls := lSecond_ok ns
  have lrk := lRows_ok ns
  have hfit := next_fit hI2
  have hright := next_right hI2
  have hsame := same_worth hI1 hI2
  have hafit := alone_fit hI1
  rw [lr] at hfit hafit
  generalize hres : solveNext (lRows ns) (lBounds ns) (lWish ns) (lSecond ns) = res at *
  generalize hal : solveM (lRows ns) (lBounds ns) (lWish ns) = al at *
  generalize lRows ns = rows at *
  generalize lBounds ns = bounds at *
  generalize lWish ns = wish at *
  generalize lSecond ns = second at *
  obtain ⟨xf, rest, hdat, hxf, h3, hfl, hfb, hparts⟩ := res_shape res hfit hh8 hw8
  obtain ⟨xa, resta, hdata, hxa, hafl, hafb⟩ := alone_shape al hafit
  -- handed
  have hmm : rows.map qL = (rows.map fun r => r.map qD).map PyData.list := by rw [List.map_map]; rfl
  refine qd_asg (ed_tup (ds := [rowsD rows, qL bounds, qL wish, qL second]) (ea_consD (ed_is (en_lcLL (rss := rows.map fun r => r.map qD) (ed_var rfl hrows12) (fun rs hrs => by
    obtain ⟨r, _, rfl⟩ := List.mem_map.mp hrs
    exact flat_qs r) (by rw [List.length_map, List.length_map]) (by rw [List.length_map]; omega) (fun _ => rfl) fun i d rs v Hq hd hrs eq hv => ?_).ls (by rw [← hmm]; rfl)) (ea_consD (en_list (ed_var rfl hb12)).ls (ea_consD (en_list (ed_var rfl hw12)).ls (ea_consD (en_list (ed_var rfl hse)).ls ea_nilD)))) (show 4 ≤ 100000 by decide)) fun vh H13 e13 hh => ?_
  · obtain ⟨hi, rfl⟩ := rowGet hd
    have er : rs = (rows.getD i []).map qD := by
      rw [List.getElem?_map, List.getElem?_eq_getElem hi] at hrs
      rw [getD_lt hi]
      exact (Option.some.inj hrs).symm
    subst er
    exact en_list (ed_var rfl hv)
  have hrows13 := hrows12.m e13
  have hb13 := hb12.m e13
  have hw13 := hw12.m e13
  have hse13 := hse.m e13
  -- solve_next, first
  refine qd_asg (ep_nextR (ea_consD (ed_ixT (k := 0) (ed_var rfl hh) ed_int rfl) (ea_consD (ed_ixT (k := 1) (ed_var rfl hh) ed_int rfl) (ea_consD (ed_ixT (k := 2) (ed_var rfl hh) ed_int rfl) (ea_consD (ed_ixT (k := 3) (ed_var rfl hh) ed_int rfl) ea_nilD)))) hI2 hres) fun vf H14 e14 hf => ?_
  have hrows14 := hrows13.m e14
  have hb14 := hb13.m e14
  have hw14 := hw13.m e14
  have hse14 := hse13.m e14
  have hh14 := hh.m e14
  have lay4 : SeqAt.shaped (.tuple [rowsD rows, qL bounds, qL wish, qL second]) = true := by
    refine shaped_of (n := 4) ⟨?_, ?_⟩
    · show PyData.canLayAll0 [rowsD rows, qL bounds, qL wish, qL second] = true
      refine lay_all fun d hd => ?_
      simp only [List.mem_cons, List.not_mem_nil, or_false] at hd
      rcases hd with rfl | rfl | rfl | rfl
      · exact (lay_rows rows).1
      · exact (lay_qL bounds).1
      · exact (lay_qL wish).1
      · exact (lay_qL second).1
    · show PyData.depthAll [rowsD rows, qL bounds, qL wish, qL second] + 1 ≤ 4
      have := depth_all (n := 3) (ds := [rowsD rows, qL bounds, qL wish, qL second]) fun d hd => by
        simp only [List.mem_cons, List.not_mem_nil, or_false] at hd
        rcases hd with rfl | rfl | rfl | rfl
        · exact (lay_rows rows).2
        · exact Nat.le_trans (lay_qL bounds).2 (by decide)
        · exact Nat.le_trans (lay_qL wish).2 (by decide)
        · exact Nat.le_trans (lay_qL second).2 (by decide)
      omega
  have heqv : PyData.eqv (.tuple [rowsD rows, qL bounds, qL wish, qL second]) (.tuple [rowsD rows, qL bounds, qL wish, qL second]) = true := by
    refine PySem.SeqAt.eqv_refl _ ?_
    unfold SeqAt.shaped at lay4
    exact (Bool.and_eq_true_iff.mp lay4).1
  refine q_when (b := (!PyData.eqv (.tuple [rowsD rows, qL bounds, qL wish, qL second]) (.tuple [rowsD rows, qL bounds, qL wish, qL second])) || !lawRight res rows bounds wish second) (et_or (et_D (ed_neD (ed_var rfl hh14) (ed_tup (ea_consD (ed_var rfl hrows14) (ea_consD (ed_var rfl hb14) (ea_consD (ed_var rfl hw14) (ea_consD (ed_var rfl hse14) ea_nilD)))) (show 4 ≤ 100000 by decide)) lay4 lay4)) fun _ => et_not (et_DB (ed_call (ea_consD (ed_var rfl hf.1) (ea_consD (ed_var rfl hrows14) (ea_consD (ed_var rfl hb14) (ea_consD (ed_tup (ea_consD (ed_var rfl hw14) (ea_consD (ed_var rfl hse14) ea_nilD)) (show 2 ≤ 100000 by decide)) ea_nilD)))) ⟨res, rows, bounds, wish, second, rfl, hG, by rw [ls.1, lw.1], fun f hf => (ls.2 f hf).1, by rw [lr, lw.1]; exact hfit.ok, rfl⟩))) (fun hbq => by rw [heqv, hright] at hbq; cases hbq) (fun _ H15 e15 => ?_)
  have hrows15 := hrows14.m e15
  have hb15 := hb14.m e15
  have hw15 := hw14.m e15
  have hse15 := hse14.m e15
  have hf15 := hf.m hdat e15
  -- repr, worth
  have hshw := hfit.shw hh8 hw8
  have hdep := dat_depth res
  refine qd_asg (ed_repr (ed_var rfl hf15.1) hshw (by decide) hdep ⟨_, .inr hdat⟩) fun vk H16 e16 hk => ?_
  obtain rfl := hk.str_inv
  have hf16 := hf15.m hdat e16
  have hw16 := hw15.m e16
  have hf16' := hf16.1
  rw [hdat] at hf16'
  refine qd_asg (ed_dot (ed_var rfl hw16) (ed_ixT (k := 1) (ed_var rfl hf16') ed_int rfl) (by rw [lw.1, hfl]) (by rw [lw.1]; exact hw8) (up31 fun f hf => (lw.2 f hf).1) (up14 hfb)) fun vo H17 e17 hvo => ?_
  have hf17 := hf16.m hdat e17
  rw [hdat] at hf17
  have e1317 := ((e14.trans e15).trans e16).trans e17
  -- the told lists are spoilt
  refine q_spoil (Hb := H13) (vw := vo) (dw := qD (lawDot wish res.fit)) rfl hf17 e1317 h3 hparts hvo rfl rfl (by simp) fun x16 H18 e18 hvo18 => ?_
  have hrows18 := hrows13.m e18
  have hb18 := hb13.m e18
  have hw18 := hw13.m e18
  have hse18 := hse13.m e18
  -- solve_next, second
  refine qd_asg (ep_nextR (ea_consD (ed_var rfl hrows18) (ea_consD (ed_var rfl hb18) (ea_consD (ed_var rfl hw18) (ea_consD (ed_var rfl hse18) ea_nilD)))) hI2 hres) fun vf2 H19 e19 hf2 => ?_
  refine q_when (b := false) (et_is (et_D (ed_neS (ed_repr (ed_var rfl hf2.1) hshw (by decide) hdep ⟨_, .inr hdat⟩) (ed_var rfl (.str _)))) (by simp)) (fun h => by cases h) (fun _ H20 e20 => ?_)
  have e1820 := e19.trans e20
  have hrows20 := hrows18.m e1820
  have hb20 := hb18.m e1820
  have hw20 := hw18.m e1820
  have hvo20 := hvo18.m e1820
  have hf20 := hf2.1.m e20
  rw [hdat] at hf20
  -- solve
  refine qd_asg (ed_call (d := al.dat) (ea_consD (ed_var rfl hrows20) (ea_consD (ed_var rfl hb20) (ea_consD (ed_var rfl hw20) ea_nilD))) ⟨lWide ns, rows, bounds, wish, rfl, hI1, by rw [hal]⟩) fun va H21 e21 ha => ?_
  rw [hdata] at ha
  have hf21 := hf20.m e21
  refine q_when (b := false) (et_is (et_D (ed_neB (ed_eqS (ed_ixT (k := 0) (ed_var rfl ha) ed_int rfl) ed_str) (ed_eqS (ed_ixT (k := 0) (ed_var rfl hf21) ed_int rfl) ed_str))) (by rw [hxa, hxf, hsame.1]; simp)) (fun h => by cases h) (fun _ H22 e22 => ?_)
  have ha22 := ha.m e22
  have hf22 := hf21.m e22
  have hw22 := (hw20.m e21).m e22
  have hvo22 := (hvo20.m e21).m e22
  have bdw : ∀ f ∈ wish, Bd 2000 f := up31 fun f hf => (lw.2 f hf).1
  have hd1 := dot_bd (fs := wish) (gs := al.fit) (by rw [lw.1]; exact hw8) bdw (up14 hafb)
  have hd2 := dot_bd (fs := wish) (gs := res.fit) (by rw [lw.1]; exact hw8) bdw (up14 hfb)
  refine sd_ret (ed_orV (ed_eqS (ed_ixT (k := 0) (ed_var rfl hf22) ed_int rfl) ed_str) fun _ => ed_eqI (ed_q0 (ed_less (ed_dot (ed_var rfl hw22) (ed_ixT (k := 1) (ed_var rfl ha22) ed_int rfl) (by rw [lw.1, hafl]) (by rw [lw.1]; exact hw8) bdw (up14 hafb)) (ed_var rfl hvo22) (hd1.mono (by decide)) (hd2.mono (by decide)))) ed_int) fun v H23 e23 hv => ?_
  obtain rfl := hv.bl_inv
  have fin : (decide (xf = ("endless" : Str)) || decide ((lawLess (lawDot wish al.fit) (lawDot wish res.fit)).1 = 0)) = true := by
    rw [hxf]
    cases hE : res.isE with
    | true => rfl
    | false => rw [decide_eq_true (hsame.2 hE)]; rfl
  show Q _ H23
  rw [fin]
  exact k H23
end
end Hd


/-! text Hd -/
set_option Elab.async false
set_option linter.all false
set_option maxRecDepth 100000
set_option maxHeartbeats 0
namespace Hd
open PySem PySem.Spec PyProof.Rows L2
def dDivisor : He.DefD := ⟨("divisor", none), "divisor", "divisor", defArgs sDivisor, defBody sDivisor, defScope sDivisor, [], []⟩
def dRatio : He.DefD := ⟨("ratio", none), "ratio", "ratio", defArgs sRatio, defBody sRatio, defScope sRatio, [], []⟩
def dShared : He.DefD := ⟨("shared_bottom", none), "shared_bottom", "shared_bottom", defArgs sShared, defBody sShared, defScope sShared, [], []⟩
def dWholes : He.DefD := ⟨("as_wholes", none), "as_wholes", "as_wholes", defArgs sWholes, defBody sWholes, defScope sWholes, [], []⟩
def dInit : He.DefD := ⟨("Sheet", some "__init__"), "__init__", "Sheet.__init__", defArgs sInit, defBody sInit, defScope sInit, [], []⟩
def dPivot : He.DefD := ⟨("Sheet", some "pivot"), "pivot", "Sheet.pivot", defArgs sPivot, defBody sPivot, defScope sPivot, [], []⟩
def dComes : He.DefD := ⟨("Sheet", some "comes_in"), "comes_in", "Sheet.comes_in", defArgs sComes, defBody sComes, defScope sComes, [], []⟩
def dGoes : He.DefD := ⟨("Sheet", some "goes_out"), "goes_out", "Sheet.goes_out", defArgs sGoes, defBody sGoes, defScope sGoes, [], []⟩
def dSooner : He.DefD := ⟨("Sheet", some "sooner"), "sooner", "Sheet.sooner", defArgs sSooner, defBody sSooner, defScope sSooner, [], []⟩
def dSeek : He.DefD := ⟨("Sheet", some "seek"), "seek", "Sheet.seek", defArgs sSeek, defBody sSeek, defScope sSeek, [], []⟩
def dFit : He.DefD := ⟨("Sheet", some "fit"), "fit", "Sheet.fit", defArgs sFit, defBody sFit, defScope sFit, [], []⟩
def dGrowth : He.DefD := ⟨("Sheet", some "growth"), "growth", "Sheet.growth", defArgs sGrowth, defBody sGrowth, defScope sGrowth, [], []⟩
def dPrices : He.DefD := ⟨("Sheet", some "prices"), "prices", "Sheet.prices", defArgs sPrices, defBody sPrices, defScope sPrices, [], []⟩
def dFirst : He.DefD := ⟨("Sheet", some "first_prices"), "first_prices", "Sheet.first_prices", defArgs sFirst, defBody sFirst, defScope sFirst, [], []⟩
def dAsk : He.DefD := ⟨("ask_small", none), "ask_small", "ask_small", defArgs sAsk, defBody sAsk, defScope sAsk, [], []⟩
def dSolve : He.DefD := ⟨("solve", none), "solve", "solve", defArgs sSolve, defBody sSolve, defScope sSolve, [], []⟩
def dLift : He.DefD := ⟨("lift_of", none), "lift_of", "lift_of", defArgs sLift, defBody sLift, defScope sLift, [], []⟩
def dNext : He.DefD := ⟨("solve_next", none), "solve_next", "solve_next", defArgs sNext, defBody sNext, defScope sNext, [], []⟩
def dLCell : He.DefD := ⟨("_law_cell_at", none), "_law_cell_at", "_law_cell_at", defArgs sLCell, defBody sLCell, defScope sLCell, [], []⟩
def dLDiv : He.DefD := ⟨("_law_divisor", none), "_law_divisor", "_law_divisor", defArgs sLDiv, defBody sLDiv, defScope sLDiv, [], []⟩
def dLLow : He.DefD := ⟨("_law_lowest", none), "_law_lowest", "_law_lowest", defArgs sLLow, defBody sLLow, defScope sLLow, [], []⟩
def dLNum : He.DefD := ⟨("_law_number", none), "_law_number", "_law_number", defArgs sLNum, defBody sLNum, defScope sLNum, [], []⟩
def dLBound : He.DefD := ⟨("_law_bound", none), "_law_bound", "_law_bound", defArgs sLBound, defBody sLBound, defScope sLBound, [], []⟩
def dLList : He.DefD := ⟨("_law_list", none), "_law_list", "_law_list", defArgs sLList, defBody sLList, defScope sLList, [], []⟩
def dLDot : He.DefD := ⟨("_law_dot", none), "_law_dot", "_law_dot", defArgs sLDot, defBody sLDot, defScope sLDot, [], []⟩
def dLLess : He.DefD := ⟨("_law_less", none), "_law_less", "_law_less", defArgs sLLess, defBody sLLess, defScope sLLess, [], []⟩
def dLTimes : He.DefD := ⟨("_law_times", none), "_law_times", "_law_times", defArgs sLTimes, defBody sLTimes, defScope sLTimes, [], []⟩
def dLFits : He.DefD := ⟨("_law_fits", none), "_law_fits", "_law_fits", defArgs sLFits, defBody sLFits, defScope sLFits, [], []⟩
def dLWay : He.DefD := ⟨("_law_is_way", none), "_law_is_way", "_law_is_way", defArgs sLWay, defBody sLWay, defScope sLWay, [], []⟩
def dLBest : He.DefD := ⟨("_law_is_best", none), "_law_is_best", "_law_is_best", defArgs sLBest, defBody sLBest, defScope sLBest, [], []⟩
def dLNext : He.DefD := ⟨("_law_is_next", none), "_law_is_next", "_law_is_next", defArgs sLNext, defBody sLNext, defScope sLNext, [], []⟩
def dLRight : He.DefD := ⟨("_law_right", none), "_law_right", "_law_right", defArgs sLRight, defBody sLRight, defScope sLRight, [], []⟩
def dLWish : He.DefD := ⟨("_law_wish", none), "_law_wish", "_law_wish", defArgs sLWish, defBody sLWish, defScope sLWish, [], []⟩
def dLaw : He.DefD := ⟨("law", none), "law", "law", defArgs sLaw, defBody sLaw, defScope sLaw, [], []⟩
def fn : List He.DefD := [dDivisor, dRatio, dShared, dWholes, dInit, dPivot, dComes, dGoes, dSooner, dSeek, dFit, dGrowth, dPrices, dFirst, dAsk, dSolve, dLift, dNext, dLCell, dLDiv, dLLow, dLNum, dLBound, dLList, dLDot, dLLess, dLTimes, dLFits, dLWay, dLBest, dLNext, dLRight, dLWish, dLaw]
def fa : List He.Fa := [.glo "divisor", .glo "ratio", .glo "shared_bottom", .glo "as_wholes", .glo "ask_small", .glo "solve", .glo "lift_of", .glo "solve_next", .glo "_law_cell_at", .glo "_law_divisor", .glo "_law_lowest", .glo "_law_number", .glo "_law_bound", .glo "_law_list", .glo "_law_dot", .glo "_law_less", .glo "_law_times", .glo "_law_fits", .glo "_law_is_way", .glo "_law_is_best", .glo "_law_is_next", .glo "_law_right", .glo "_law_wish", .glo "law", .glo "Sheet", .free "len", .free "range", .free "zip", .free "enumerate", .free "isinstance", .free "list", .free "tuple", .free "int", .free "bool", .free "abs", .free "repr", .int "MOST" 8, .cls "Sheet", .mkr "Sheet", .noat "Sheet" "wide", .noat "Sheet" "high", .noat "Sheet" "scales", .noat "Sheet" "wished", .noat "Sheet" "cells", .noat "Sheet" "bottom", .noat "Sheet" "across", .noat "Sheet" "down", .meth "Sheet" "pivot", .meth "Sheet" "comes_in", .meth "Sheet" "goes_out", .meth "Sheet" "sooner", .meth "Sheet" "seek", .meth "Sheet" "fit", .meth "Sheet" "growth", .meth "Sheet" "prices", .meth "Sheet" "first_prices"]
abbrev R : PySem.W.OpenRow := PySem.W.OpenLaw.row PySem.Challenge.rw_hushduel_k37_whole_second_wishes
abbrev hk : PySem.W.Hook := He.hookD 5 fa fn
def ob (s : PySem.W.SharedT) : He.AlD := He.obsDG 5 fa fn (HandSHeadRun.getT s)
theorem ob_eq (s : PySem.W.SharedT) : ob s = hk.obs s.abs := He.obsDG_eq (HandSHeadRun.getT_eq s)
def loose : List Str := ["DuelError", "NoNumber", "TooGreat", "divisor", "ratio", "MOST", "shared_bottom", "as_wholes", "Sheet", "ask_small", "solve", "lift_of", "solve_next", "_law_cell_at", "_law_divisor", "_law_lowest", "_law_number", "_law_bound", "_law_list", "_law_dot", "_law_less", "_law_times", "_law_fits", "_law_is_way", "_law_is_best", "_law_is_next", "_law_right", "_law_wish"]
theorem run (w : World) : HandSHeadRun.RunEq R (PySem.W.view R.prog [32]) hk ob 4000 loose w := by
  intro os
  kernel_rfl
end Hd


/-! text End -/
set_option Elab.async false
set_option linter.all false
set_option maxRecDepth 100000
set_option maxHeartbeats 4000000
/-! The end of the law: a call by the claim's caller, no guard stands (repr asks for that). -/
namespace Hd
open PySem PySem.Spec PyProof.Rows L2 Evl
section
variable {P : Program} {w : World} {K : PySem.W.Frag} {mg mb : Str → Option Value} {f a : Addr} {fd : FuncData} {s : Shared} {H : Hp} {vals : List Value} {ns : List Int}
/-- the law's def called by callerA -/
theorem call_law {base : Heap} {Q : VK} (F : FnP K "law" "law" sLaw f fd) (hr : Room 7 callerA) (e0 : Env0 P w K mg base callerA [] s H) (hbd : BindsTo s fd ⟨[.ref a], []⟩ [("_law_script", .ref a)])
    (body : ∀ cdv : Value, ∃ t, PSs (cxOf CX0 P w K mg base nLaw "law" (defScope sLaw) f cdv callerA [] s H fun _ _ _ => False) (defBody sLaw) t ∧ t { nx := fun _ H' => Q .non H', rt := Q } (L2.start nLaw [.ref a]) H) :
    codeAny (model P w) callerA (.call (.ref f) ⟨[.ref a], []⟩) (CR CX0 [] P w H s Q fun _ _ _ => False) s := by
  obtain ⟨oc, od, dV, kV, doc, pm, an, cdv, ct, osl, efd, at_f, code, _, _⟩ := F.ex
  subst efd
  have known : ∀ b o, base.get? b = some o → s.heap.get? b = some o := fun b o g => (e0.bs b o g).1
  have inK : K.In s.heap := e0.mod.kin.keeps known
  have noLim : s.heap.NoLimit := e0.mod.nolimit.keeps known
  have bind1 := hbd
  refine codeAny_call_function hr.depth (inK _ _ at_f) rfl scLaw.co scLaw.gen rfl (PySem.W.codeRec_of inK code) ?_
  refine bind1 _ _ _ _ ?_
  refine wpAny_newFunctionEnv_cells scLaw.kind (fun y hy => ?_) fun env henv s1 hin => ?_
  · obtain rfl : y = (("_law_script" : Str), Value.ref a) := List.mem_singleton.mp hy
    exact (scLaw.par "_law_script" (by simp)).elim Or.inl fun q => Or.inr ⟨q, PySem.W.cellsFrom_some _ _ _ (Or.inl q)⟩
  · subst henv
    obtain ⟨t, der, holds⟩ := body cdv
    have start0 := inv_start (CX := CX0) (E := fun _ _ _ => False) (us := [.ref a]) (vs := [.ref a]) scLaw hr.hd e0 rfl (.cons rfl .nil) hin
    refine ⟨noLim.keeps hin.toInCall.keep, codeAny_func (wpAny_mono (der.run [] s1 _ H _ start0 holds) ?_ fun _ _ z => z)⟩
    intro fl s2 hfl
    cases fl with
    | brk => exact (hfl.elim fun _ h => h.elim fun _ h => h.2.elim)
    | cont => exact (hfl.elim fun _ h => h.elim fun _ h => h.2.elim)
    | next =>
      obtain ⟨σ2, H2, J, q⟩ := hfl
      exact ⟨.non, H2, J.os, J.bare, J.base, J.hok, rfl, q⟩
    | ret u =>
      obtain ⟨v, σ2, H2, J, hv, q⟩ := hfl
      exact ⟨v, H2, J.os, J.bare, J.base, J.hok, hv, q⟩
/-- the state of the claim's caller, seen through an abstract heap that tracks no dict and nothing of the module -/
theorem env_law (KX : K.In s.heap) (hns : s.heap.Ns mainGlobals mg) (hb : s.heap.Ns builtinsNs mb) (hbb : ∀ x : Str, x ≠ "__name__" → mb x = bootBuiltins x) (hlim : s.heap.NoLimit) (hg : s.gens = #[]) (hok : HOk P w H s.heap)
    (nd : ∀ b o es ep, s.heap.get? b = some o → o.data = .dict es ep → H b = none) (nk : ∀ b o, K.lookup b = some o → H b = none) :
    Env0 P w K mg (hidT s.heap H) callerA [] s H ∧ K.In (hidT s.heap H) ∧ (hidT s.heap H).Ns mainGlobals mg := by
  have up : ∀ {b : Addr} {m : Str → Option Value}, s.heap.Ns b m → (hidT s.heap H).Ns b m := by
    rintro b m ⟨o, es, ep, g, q, r⟩
    exact ⟨o, es, ep, hidT_get g (nd b o es ep g q), q, r⟩
  have inK : K.In (hidT s.heap H) := fun b o g => hidT_get (KX b o g) (nk b o g)
  obtain ⟨mc, l1, l2⟩ := hlim
  have md : Mod K mg (hidT s.heap H) := ⟨inK, up hns, ⟨mb, up hb, hbb⟩, ⟨mc, up l1, l2⟩⟩
  exact ⟨⟨rfl, md, fun b o g => of_hidT g, Nat.le_of_eq (hidT_size _ _), trivial, fun b hb => by simp [frs] at hb, hok, .of_eq hg⟩, inK, up hns⟩
/-- what stands at the end -/
theorem end_law {r : Result} {s' : Shared} (only : ∀ b u, H b = some u → ∃ o xs, u = .frz o (.lst xs)) (hok : HOk P w H s.heap) (h : CR CX0 [] P w H s (fun v _ => v = .bl true) (fun _ _ _ => False) r s') :
    r = .ok (.ret (.bool true)) ∧ OldK s.heap s'.heap ∧ s'.os = s.os ∧ AllBare s'.gens := by
  cases r with
  | error e => exact h.elim
  | ok fl =>
    cases fl with
    | next => exact False.elim h
    | brk => exact False.elim h
    | cont => exact False.elim h
    | ret u =>
      obtain ⟨v, H2, os, bare, un, hok2, rv, hv⟩ := h
      replace hv : v = .bl true := hv
      subst hv
      obtain rfl : u = Value.bool true := rv
      refine ⟨rfl, OldK.of_keep fun b o g => ?_, os, bare⟩
      cases hH : H b with
      | none => exact un.keep b o g hH (by simp [frs]) (by simp)
      | some u =>
        obtain ⟨o1, xs, rfl⟩ := only b u hH
        have g1 := (hok b _ hH).1
        rw [g] at g1
        cases g1
        exact (hok2 b _ (un.frzs b o _ hH)).1
theorem law_true (F : FnP K "law" "law" sLaw f fd) (KX : K.In s.heap) (hns : s.heap.Ns mainGlobals mg) (hb : s.heap.Ns builtinsNs mb) (hbb : ∀ x : Str, x ≠ "__name__" → mb x = bootBuiltins x) (hlim : s.heap.NoLimit) (hg : s.gens = #[])
    (ha : s.heap.get? a = some { cls := .type "list", data := .seq vals.toArray }) (hi : IntsAre vals ns) (hl : ns.length ≤ sizeLine) (hr : Room 7 callerA) (hbd : BindsTo s fd ⟨[.ref a], []⟩ [("_law_script", .ref a)])
    (body : ∀ (base : Heap) (H : Hp) (cdv : Value), K.In base → base.Ns mainGlobals mg → SqL K H a (ns.map V.int) → ∃ t, PSs (cxOf CX0 P w K mg base nLaw "law" (defScope sLaw) f cdv callerA [] s H fun _ _ _ => False) (defBody sLaw) t ∧ t { nx := fun _ H' => (V.non : V) = .bl true, rt := fun v _ => v = .bl true } (L2.start nLaw [.ref a]) H) :
    codeAny (model P w) callerA (.call (.ref f) ⟨[.ref a], []⟩) (fun r s' => r = .ok (.ret (.bool true)) ∧ OldK s.heap s'.heap ∧ s'.os = s.os ∧ AllBare s'.gens) s := by
  have rv := vals_ints hi
  have go : ∀ H : Hp, (∀ b u, H b = some u → ∃ o xs, u = .frz o (.lst xs)) → HOk P w H s.heap → SqL K H a (ns.map V.int) → (∀ b o es ep, s.heap.get? b = some o → o.data = .dict es ep → H b = none) → (∀ b o, K.lookup b = some o → H b = none) →
      codeAny (model P w) callerA (.call (.ref f) ⟨[.ref a], []⟩) (fun r s' => r = .ok (.ret (.bool true)) ∧ OldK s.heap s'.heap ∧ s'.os = s.os ∧ AllBare s'.gens) s := fun H only hok hS nd nk => by
    obtain ⟨e0, inK, nsB⟩ := env_law (mb := mb) KX hns hb hbb hlim hg hok nd nk
    exact codeAny_mono (call_law F hr e0 hbd fun cdv => body _ H cdv inK nsB hS) fun r s' q => end_law only hok q
  by_cases hk : K.lookup a = none
  · -- the script is tracked, frozen
    refine go (fun b => if b = a then some (.frz { cls := .type "list", data := .seq vals.toArray } (.lst (ns.map V.int))) else none) (fun b u q => ?_) (fun b u q => ?_) (Or.inl (Or.inr ⟨_, if_pos rfl⟩)) (fun b o es ep g q => ?_) (fun b o g => ?_)
    · replace q : (if b = a then some (HO.frz { cls := .type "list", data := .seq vals.toArray } (.lst (ns.map V.int))) else none) = some u := q
      by_cases e : b = a
      · rw [if_pos e] at q; exact ⟨_, _, (Option.some.inj q).symm⟩
      · rw [if_neg e] at q; cases q
    · replace q : (if b = a then some (HO.frz { cls := .type "list", data := .seq vals.toArray } (.lst (ns.map V.int))) else none) = some u := q
      by_cases e : b = a
      · rw [if_pos e] at q
        subst e
        obtain rfl := Option.some.inj q
        exact ⟨ha, by rw [List.length_map]; exact hl, vals, _, rv, ha⟩
      · rw [if_neg e] at q; cases q
    · by_cases e : b = a
      · rw [e, ha] at g
        obtain rfl := Option.some.inj g
        cases q
      · exact if_neg e
    · by_cases e : b = a
      · rw [e, hk] at g; cases g
      · exact if_neg e
  · -- the script is one of the module's own lists
    obtain ⟨o, ho⟩ := Option.ne_none_iff_exists'.mp hk
    have g := KX a o ho
    rw [ha] at g
    obtain rfl := Option.some.inj g
    refine go (fun _ => none) (fun b u q => by cases q) (fun b u q => by cases q) (Or.inr ⟨_, vals.toArray, _, ho, rfl, rfl, rfl, by rw [List.size_toArray, hi.length]; exact hl, by simpa using rv⟩) (fun _ _ _ _ _ _ => rfl) fun _ _ _ => rfl
end
end Hd


/-! text Fin -/
set_option Elab.async false
set_option linter.all false
set_option maxRecDepth 100000
set_option maxHeartbeats 0
namespace Hd
open PySem PySem.Spec PyProof.Rows L2 Evl
/-- every def keeps its promise, hence the law's body does what it should -/
theorem law_facts {P : Program} {w : World} {K : PySem.W.Frag} {h : Heap} {mg : Str → Option Value} {f : Addr} (X : K.In h) (G : h.Ns mainGlobals mg) (hfa : mg ("law" : Str) = some (.ref f)) (c : He.SaysD fa fn K) :
    ∃ fd : FuncData, FnP K "law" "law" sLaw f fd ∧ (∀ (s : Shared) (v : Value), BindsTo s fd ⟨[v], []⟩ [("_law_script", v)]) ∧ ∀ (base : Heap) (s : Shared) (H : Hp) (cdv : Value) (a : Addr) (ns : List Int), K.In base → base.Ns mainGlobals mg → SqL K H a (ns.map V.int) →
      ∃ t, PSs (cxOf CX0 P w K mg base nLaw "law" (defScope sLaw) f cdv callerA [] s H fun _ _ _ => False) (defBody sLaw) t ∧ t { nx := fun _ H' => (V.non : V) = .bl true, rt := fun v _ => v = .bl true } (L2.start nLaw [.ref a]) H := by
  obtain ⟨fdLaw, FLaw⟩ := c.def_ 33 (d := dLaw) rfl
  have e0 := hfa.symm.trans (He.glo_ok X G (c.fact 23 (f := .glo "law") rfl))
  cases e0
  obtain ⟨t8, hMost⟩ := He.int_ok X G (c.fact 36 (f := .int "MOST" 8) rfl)
  have T : Txt K mg (He.ga K "Sheet") t8 := ⟨He.cls_ok (c.fact 37 (f := .cls "Sheet") rfl), He.glo_ok X G (c.fact 24 (f := .glo "Sheet") rfl), hMost, He.noat_ok (c.fact 39 (f := .noat "Sheet" "wide") rfl), He.noat_ok (c.fact 40 (f := .noat "Sheet" "high") rfl), He.noat_ok (c.fact 41 (f := .noat "Sheet" "scales") rfl), He.noat_ok (c.fact 42 (f := .noat "Sheet" "wished") rfl), He.noat_ok (c.fact 43 (f := .noat "Sheet" "cells") rfl), He.noat_ok (c.fact 44 (f := .noat "Sheet" "bottom") rfl), He.noat_ok (c.fact 45 (f := .noat "Sheet" "across") rfl), He.noat_ok (c.fact 46 (f := .noat "Sheet" "down") rfl), He.free_ok X G (c.fact 25 (f := .free "len") rfl), He.free_ok X G (c.fact 26 (f := .free "range") rfl), He.free_ok X G (c.fact 27 (f := .free "zip") rfl), He.free_ok X G (c.fact 28 (f := .free "enumerate") rfl), He.free_ok X G (c.fact 29 (f := .free "isinstance") rfl), He.free_ok X G (c.fact 30 (f := .free "list") rfl), He.free_ok X G (c.fact 31 (f := .free "tuple") rfl), He.free_ok X G (c.fact 32 (f := .free "int") rfl), He.free_ok X G (c.fact 33 (f := .free "bool") rfl), He.free_ok X G (c.fact 34 (f := .free "abs") rfl), He.free_ok X G (c.fact 35 (f := .free "repr") rfl)⟩
  have MK : Mk K (He.ga K "Sheet") (He.ma K (He.ga K "Sheet") "__init__") := He.mkr_ok (c.fact 38 (f := .mkr "Sheet") rfl)
  obtain ⟨fdDivisor, FDivisor⟩ := c.def_ 0 (d := dDivisor) rfl
  obtain ⟨fdRatio, FRatio⟩ := c.def_ 1 (d := dRatio) rfl
  obtain ⟨fdShared, FShared⟩ := c.def_ 2 (d := dShared) rfl
  obtain ⟨fdWholes, FWholes⟩ := c.def_ 3 (d := dWholes) rfl
  obtain ⟨fdLift, FLift⟩ := c.def_ 16 (d := dLift) rfl
  obtain ⟨fdAsk, FAsk⟩ := c.def_ 14 (d := dAsk) rfl
  obtain ⟨fdLCell, FLCell⟩ := c.def_ 18 (d := dLCell) rfl
  obtain ⟨fdLDiv, FLDiv⟩ := c.def_ 19 (d := dLDiv) rfl
  obtain ⟨fdLLow, FLLow⟩ := c.def_ 20 (d := dLLow) rfl
  obtain ⟨fdLNum, FLNum⟩ := c.def_ 21 (d := dLNum) rfl
  obtain ⟨fdLBound, FLBound⟩ := c.def_ 22 (d := dLBound) rfl
  obtain ⟨fdLDot, FLDot⟩ := c.def_ 24 (d := dLDot) rfl
  obtain ⟨fdLLess, FLLess⟩ := c.def_ 25 (d := dLLess) rfl
  obtain ⟨fdLTimes, FLTimes⟩ := c.def_ 26 (d := dLTimes) rfl
  obtain ⟨fdLList, FLList⟩ := c.def_ 23 (d := dLList) rfl
  obtain ⟨fdLFits, FLFits⟩ := c.def_ 27 (d := dLFits) rfl
  obtain ⟨fdLWay, FLWay⟩ := c.def_ 28 (d := dLWay) rfl
  obtain ⟨fdLBest, FLBest⟩ := c.def_ 29 (d := dLBest) rfl
  obtain ⟨fdLNext, FLNext⟩ := c.def_ 30 (d := dLNext) rfl
  obtain ⟨fdLRight, FLRight⟩ := c.def_ 31 (d := dLRight) rfl
  obtain ⟨fdLWish, FLWish⟩ := c.def_ 32 (d := dLWish) rfl
  obtain ⟨fdSooner, FSooner⟩ := c.def_ 8 (d := dSooner) rfl
  obtain ⟨fdGoes, FGoes⟩ := c.def_ 7 (d := dGoes) rfl
  obtain ⟨fdComes, FComes⟩ := c.def_ 6 (d := dComes) rfl
  obtain ⟨fdFit, FFit⟩ := c.def_ 10 (d := dFit) rfl
  obtain ⟨fdGrowth, FGrowth⟩ := c.def_ 11 (d := dGrowth) rfl
  obtain ⟨fdPrices, FPrices⟩ := c.def_ 12 (d := dPrices) rfl
  obtain ⟨fdFirst, FFirst⟩ := c.def_ 13 (d := dFirst) rfl
  obtain ⟨fdPivot, FPivot⟩ := c.def_ 5 (d := dPivot) rfl
  obtain ⟨fdSeek, FSeek⟩ := c.def_ 9 (d := dSeek) rfl
  obtain ⟨fdInit, FInit⟩ := c.def_ 4 (d := dInit) rfl
  obtain ⟨fdSolve, FSolve⟩ := c.def_ 15 (d := dSolve) rfl
  obtain ⟨fdNext, FNext⟩ := c.def_ 17 (d := dNext) rfl
  have bLaw := FunD.bindsA (ps := ["_law_script"]) FLaw fun _ _ _ _ _ _ us hl => match us, hl with | [_], _ => rfl
  refine ⟨fdLaw, FLaw, fun s v => bLaw s [v] rfl, fun base s H cdv a ns _ _ hS => ?_⟩
  have bDivisor : Binds K fdDivisor ["first", "second"] [] := FunD.bindsN FDivisor fun _ _ _ _ _ _ us hl => match us, hl with | [_, _], _ => rfl
  have GDivisor := ok_divisor (P := P) (w := w) (mg := mg) (base := base) FDivisor T
  have CDivisor : Cal P w K mg base _ "divisor" ["first", "second"] _ := ⟨⟨_, _, GDivisor, He.glo_ok X G (c.fact 0 (f := .glo "divisor") rfl), FDivisor.kp, bDivisor⟩⟩
  have bRatio : Binds K fdRatio ["top", "bottom"] [] := FunD.bindsN FRatio fun _ _ _ _ _ _ us hl => match us, hl with | [_, _], _ => rfl
  have GRatio := ok_ratio (P := P) (w := w) (mg := mg) (base := base) FRatio CDivisor
  have CRatio : Cal P w K mg base _ "ratio" ["top", "bottom"] _ := ⟨⟨_, _, GRatio, He.glo_ok X G (c.fact 1 (f := .glo "ratio") rfl), FRatio.kp, bRatio⟩⟩
  have bShared : Binds K fdShared ["some"] [] := FunD.bindsN FShared fun _ _ _ _ _ _ us hl => match us, hl with | [_], _ => rfl
  have GShared := ok_shared (P := P) (w := w) (mg := mg) (base := base) FShared CRatio
  have CShared : Cal P w K mg base _ "shared_bottom" ["some"] _ := ⟨⟨_, _, GShared, He.glo_ok X G (c.fact 2 (f := .glo "shared_bottom") rfl), FShared.kp, bShared⟩⟩
  have bWholes : Binds K fdWholes ["some", "by"] [] := FunD.bindsN FWholes fun _ _ _ _ _ _ us hl => match us, hl with | [_, _], _ => rfl
  have GWholes := ok_wholes (P := P) (w := w) (mg := mg) (base := base) FWholes
  have CWholes : Cal P w K mg base _ "as_wholes" ["some", "by"] _ := ⟨⟨_, _, GWholes, He.glo_ok X G (c.fact 3 (f := .glo "as_wholes") rfl), FWholes.kp, bWholes⟩⟩
  have bLift : Binds K fdLift ["gains", "more"] [] := FunD.bindsN FLift fun _ _ _ _ _ _ us hl => match us, hl with | [_, _], _ => rfl
  have GLift := ok_lift (P := P) (w := w) (mg := mg) (base := base) FLift T
  have CLift : Cal P w K mg base _ "lift_of" ["gains", "more"] _ := ⟨⟨_, _, GLift, He.glo_ok X G (c.fact 6 (f := .glo "lift_of") rfl), FLift.kp, bLift⟩⟩
  have bAsk : Binds K fdAsk ["rows", "wish"] [] := FunD.bindsN FAsk fun _ _ _ _ _ _ us hl => match us, hl with | [_, _], _ => rfl
  have GAsk := ok_ask (P := P) (w := w) (mg := mg) (base := base) FAsk T
  have CAsk : Cal P w K mg base _ "ask_small" ["rows", "wish"] _ := ⟨⟨_, _, GAsk, He.glo_ok X G (c.fact 4 (f := .glo "ask_small") rfl), FAsk.kp, bAsk⟩⟩
  have bLCell : Binds K fdLCell ["_law_script", "_law_k"] [] := FunD.bindsN FLCell fun _ _ _ _ _ _ us hl => match us, hl with | [_, _], _ => rfl
  have GLCell := ok_lcell (P := P) (w := w) (mg := mg) (base := base) FLCell T
  have CLCell : Cal P w K mg base _ "_law_cell_at" ["_law_script", "_law_k"] _ := ⟨⟨_, _, GLCell, He.glo_ok X G (c.fact 8 (f := .glo "_law_cell_at") rfl), FLCell.kp, bLCell⟩⟩
  have bLDiv : Binds K fdLDiv ["_law_one", "_law_other"] [] := FunD.bindsN FLDiv fun _ _ _ _ _ _ us hl => match us, hl with | [_, _], _ => rfl
  have GLDiv := ok_ldiv (P := P) (w := w) (mg := mg) (base := base) FLDiv T
  have CLDiv : Cal P w K mg base _ "_law_divisor" ["_law_one", "_law_other"] _ := ⟨⟨_, _, GLDiv, He.glo_ok X G (c.fact 9 (f := .glo "_law_divisor") rfl), FLDiv.kp, bLDiv⟩⟩
  have bLLow : Binds K fdLLow ["_law_top", "_law_bottom"] [] := FunD.bindsN FLLow fun _ _ _ _ _ _ us hl => match us, hl with | [_, _], _ => rfl
  have GLLow := ok_llow (P := P) (w := w) (mg := mg) (base := base) FLLow CLDiv
  have CLLow : Cal P w K mg base _ "_law_lowest" ["_law_top", "_law_bottom"] _ := ⟨⟨_, _, GLLow, He.glo_ok X G (c.fact 10 (f := .glo "_law_lowest") rfl), FLLow.kp, bLLow⟩⟩
  have bLNum : Binds K fdLNum ["_law_cell", "_law_sort"] [] := FunD.bindsN FLNum fun _ _ _ _ _ _ us hl => match us, hl with | [_, _], _ => rfl
  have GLNum := ok_lnum (P := P) (w := w) (mg := mg) (base := base) FLNum CLLow
  have CLNum : Cal P w K mg base _ "_law_number" ["_law_cell", "_law_sort"] _ := ⟨⟨_, _, GLNum, He.glo_ok X G (c.fact 11 (f := .glo "_law_number") rfl), FLNum.kp, bLNum⟩⟩
  have bLBound : Binds K fdLBound ["_law_cell", "_law_sort", "_law_zeros"] [] := FunD.bindsN FLBound fun _ _ _ _ _ _ us hl => match us, hl with | [_, _, _], _ => rfl
  have GLBound := ok_lbound (P := P) (w := w) (mg := mg) (base := base) FLBound T CLNum
  have CLBound : Cal P w K mg base _ "_law_bound" ["_law_cell", "_law_sort", "_law_zeros"] _ := ⟨⟨_, _, GLBound, He.glo_ok X G (c.fact 12 (f := .glo "_law_bound") rfl), FLBound.kp, bLBound⟩⟩
  have bLDot : Binds K fdLDot ["_law_some", "_law_more"] [] := FunD.bindsN FLDot fun _ _ _ _ _ _ us hl => match us, hl with | [_, _], _ => rfl
  have GLDot := ok_ldot (P := P) (w := w) (mg := mg) (base := base) FLDot T
  have CLDot : Cal P w K mg base _ "_law_dot" ["_law_some", "_law_more"] _ := ⟨⟨_, _, GLDot, He.glo_ok X G (c.fact 14 (f := .glo "_law_dot") rfl), FLDot.kp, bLDot⟩⟩
  have bLLess : Binds K fdLLess ["_law_one", "_law_other"] [] := FunD.bindsN FLLess fun _ _ _ _ _ _ us hl => match us, hl with | [_, _], _ => rfl
  have GLLess := ok_lless (P := P) (w := w) (mg := mg) (base := base) FLLess
  have CLLess : Cal P w K mg base _ "_law_less" ["_law_one", "_law_other"] _ := ⟨⟨_, _, GLLess, He.glo_ok X G (c.fact 15 (f := .glo "_law_less") rfl), FLLess.kp, bLLess⟩⟩
  have bLTimes : Binds K fdLTimes ["_law_one", "_law_other"] [] := FunD.bindsN FLTimes fun _ _ _ _ _ _ us hl => match us, hl with | [_, _], _ => rfl
  have GLTimes := ok_ltimes (P := P) (w := w) (mg := mg) (base := base) FLTimes
  have CLTimes : Cal P w K mg base _ "_law_times" ["_law_one", "_law_other"] _ := ⟨⟨_, _, GLTimes, He.glo_ok X G (c.fact 16 (f := .glo "_law_times") rfl), FLTimes.kp, bLTimes⟩⟩
  have bLList : Binds K fdLList ["_law_found", "_law_many"] [] := FunD.bindsN FLList fun _ _ _ _ _ _ us hl => match us, hl with | [_, _], _ => rfl
  have GLList := ok_llist (P := P) (w := w) (mg := mg) (base := base) FLList T CLDiv
  have CLList : Cal P w K mg base _ "_law_list" ["_law_found", "_law_many"] _ := ⟨⟨_, _, GLList, He.glo_ok X G (c.fact 13 (f := .glo "_law_list") rfl), FLList.kp, bLList⟩⟩
  have bLFits : Binds K fdLFits ["_law_rows", "_law_bounds", "_law_fit"] [] := FunD.bindsN FLFits fun _ _ _ _ _ _ us hl => match us, hl with | [_, _, _], _ => rfl
  have GLFits := ok_lfits (P := P) (w := w) (mg := mg) (base := base) CLDot CLLess FLFits T
  have CLFits : Cal P w K mg base _ "_law_fits" ["_law_rows", "_law_bounds", "_law_fit"] _ := ⟨⟨_, _, GLFits, He.glo_ok X G (c.fact 17 (f := .glo "_law_fits") rfl), FLFits.kp, bLFits⟩⟩
  have bLWay : Binds K fdLWay ["_law_rows", "_law_wish_here", "_law_way"] [] := FunD.bindsN FLWay fun _ _ _ _ _ _ us hl => match us, hl with | [_, _, _], _ => rfl
  have GLWay := ok_lway (P := P) (w := w) (mg := mg) (base := base) CLDot CLList FLWay T
  have CLWay : Cal P w K mg base _ "_law_is_way" ["_law_rows", "_law_wish_here", "_law_way"] _ := ⟨⟨_, _, GLWay, He.glo_ok X G (c.fact 18 (f := .glo "_law_is_way") rfl), FLWay.kp, bLWay⟩⟩
  have bLBest : Binds K fdLBest ["_law_rows", "_law_bounds", "_law_wish_here", "_law_fit", "_law_prices"] [] := FunD.bindsN FLBest fun _ _ _ _ _ _ us hl => match us, hl with | [_, _, _, _, _], _ => rfl
  have GLBest := ok_lbest (P := P) (w := w) (mg := mg) (base := base) CLDot CLLess CLList FLBest T
  have CLBest : Cal P w K mg base _ "_law_is_best" ["_law_rows", "_law_bounds", "_law_wish_here", "_law_fit", "_law_prices"] _ := ⟨⟨_, _, GLBest, He.glo_ok X G (c.fact 19 (f := .glo "_law_is_best") rfl), FLBest.kp, bLBest⟩⟩
  have bLNext : Binds K fdLNext ["_law_rows", "_law_bounds", "_law_wishes", "_law_fit", "_law_others", "_law_lift"] [] := FunD.bindsN FLNext fun _ _ _ _ _ _ us hl => match us, hl with | [_, _, _, _, _, _], _ => rfl
  have GLNext := ok_lnext (P := P) (w := w) (mg := mg) (base := base) CLDot CLLess CLTimes CLList FLNext T
  have CLNext : Cal P w K mg base _ "_law_is_next" ["_law_rows", "_law_bounds", "_law_wishes", "_law_fit", "_law_others", "_law_lift"] _ := ⟨⟨_, _, GLNext, He.glo_ok X G (c.fact 20 (f := .glo "_law_is_next") rfl), FLNext.kp, bLNext⟩⟩
  have bLRight : Binds K fdLRight ["_law_found", "_law_rows", "_law_bounds", "_law_wishes"] [] := FunD.bindsN FLRight fun _ _ _ _ _ _ us hl => match us, hl with | [_, _, _, _], _ => rfl
  have GLRight := ok_lright (P := P) (w := w) (mg := mg) (base := base) FLRight T CLDot CLList CLFits CLWay CLBest CLNext
  have CLRight : Cal P w K mg base _ "_law_right" ["_law_found", "_law_rows", "_law_bounds", "_law_wishes"] _ := ⟨⟨_, _, GLRight, He.glo_ok X G (c.fact 21 (f := .glo "_law_right") rfl), FLRight.kp, bLRight⟩⟩
  have bLWish : Binds K fdLWish ["_law_script", "_law_at", "_law_wide", "_law_sort", "_law_rows"] [] := FunD.bindsN FLWish fun _ _ _ _ _ _ us hl => match us, hl with | [_, _, _, _, _], _ => rfl
  have GLWish := ok_lwish (P := P) (w := w) (mg := mg) (base := base) FLWish T CLCell CLNum
  have CLWish : Cal P w K mg base _ "_law_wish" ["_law_script", "_law_at", "_law_wide", "_law_sort", "_law_rows"] _ := ⟨⟨_, _, GLWish, He.glo_ok X G (c.fact 22 (f := .glo "_law_wish") rfl), FLWish.kp, bLWish⟩⟩
  have bSooner : Binds K fdSooner ["self", "r", "other", "s"] [] := FunD.bindsN FSooner fun _ _ _ _ _ _ us hl => match us, hl with | [_, _, _, _], _ => rfl
  have GSooner := ok_sooner (P := P) (w := w) (mg := mg) (base := base) (C := He.ga K "Sheet") FSooner T
  have MSooner : Met P w K mg base (He.ga K "Sheet") _ "sooner" ["self", "r", "other", "s"] _ := ⟨⟨_, _, GSooner, He.meth_ok (c.fact 50 (f := .meth "Sheet" "sooner") rfl), bSooner⟩⟩
  have bGoes : Binds K fdGoes ["self", "s"] [] := FunD.bindsN FGoes fun _ _ _ _ _ _ us hl => match us, hl with | [_, _], _ => rfl
  have GGoes := ok_goes (P := P) (w := w) (mg := mg) (base := base) (C := He.ga K "Sheet") FGoes T MSooner
  have MGoes : Met P w K mg base (He.ga K "Sheet") _ "goes_out" ["self", "s"] _ := ⟨⟨_, _, GGoes, He.meth_ok (c.fact 49 (f := .meth "Sheet" "goes_out") rfl), bGoes⟩⟩
  have bComes : Binds K fdComes ["self", "wish", "barred"] [] := FunD.bindsN FComes fun _ _ _ _ _ _ us hl => match us, hl with | [_, _, _], _ => rfl
  have GComes := ok_comes (P := P) (w := w) (mg := mg) (base := base) (C := He.ga K "Sheet") FComes T
  have MComes : Met P w K mg base (He.ga K "Sheet") _ "comes_in" ["self", "wish", "barred"] _ := ⟨⟨_, _, GComes, He.meth_ok (c.fact 48 (f := .meth "Sheet" "comes_in") rfl), bComes⟩⟩
  have bFit : Binds K fdFit ["self"] [] := FunD.bindsN FFit fun _ _ _ _ _ _ us hl => match us, hl with | [_], _ => rfl
  have GFit := ok_fit (P := P) (w := w) (mg := mg) (base := base) (C := He.ga K "Sheet") FFit T CRatio
  have MFit : Met P w K mg base (He.ga K "Sheet") _ "fit" ["self"] _ := ⟨⟨_, _, GFit, He.meth_ok (c.fact 52 (f := .meth "Sheet" "fit") rfl), bFit⟩⟩
  have bGrowth : Binds K fdGrowth ["self", "s"] [] := FunD.bindsN FGrowth fun _ _ _ _ _ _ us hl => match us, hl with | [_, _], _ => rfl
  have GGrowth := ok_growth (P := P) (w := w) (mg := mg) (base := base) (C := He.ga K "Sheet") FGrowth T CRatio
  have MGrowth : Met P w K mg base (He.ga K "Sheet") _ "growth" ["self", "s"] _ := ⟨⟨_, _, GGrowth, He.meth_ok (c.fact 53 (f := .meth "Sheet" "growth") rfl), bGrowth⟩⟩
  have bPrices : Binds K fdPrices ["self", "gains", "below"] [] := FunD.bindsN FPrices fun _ _ _ _ _ _ us hl => match us, hl with | [_, _, _], _ => rfl
  have GPrices := ok_prices (P := P) (w := w) (mg := mg) (base := base) (C := He.ga K "Sheet") FPrices T CRatio
  have MPrices : Met P w K mg base (He.ga K "Sheet") _ "prices" ["self", "gains", "below"] _ := ⟨⟨_, _, GPrices, He.meth_ok (c.fact 54 (f := .meth "Sheet" "prices") rfl), bPrices⟩⟩
  have bFirst : Binds K fdFirst ["self"] [] := FunD.bindsN FFirst fun _ _ _ _ _ _ us hl => match us, hl with | [_], _ => rfl
  have GFirst := ok_first (P := P) (w := w) (mg := mg) (base := base) (C := He.ga K "Sheet") FFirst T MPrices
  have MFirst : Met P w K mg base (He.ga K "Sheet") _ "first_prices" ["self"] _ := ⟨⟨_, _, GFirst, He.meth_ok (c.fact 55 (f := .meth "Sheet" "first_prices") rfl), bFirst⟩⟩
  have bPivot : Binds K fdPivot ["self", "r", "s"] [] := FunD.bindsN FPivot fun _ _ _ _ _ _ us hl => match us, hl with | [_, _, _], _ => rfl
  have GPivot := ok_pivot (P := P) (w := w) (mg := mg) (base := base) (C := He.ga K "Sheet") FPivot T
  have MPivot : Met P w K mg base (He.ga K "Sheet") _ "pivot" ["self", "r", "s"] _ := ⟨⟨_, _, GPivot, He.meth_ok (c.fact 47 (f := .meth "Sheet" "pivot") rfl), bPivot⟩⟩
  have bSeek : Binds K fdSeek ["self", "wish", "barred"] [] := FunD.bindsN FSeek fun _ _ _ _ _ _ us hl => match us, hl with | [_, _, _], _ => rfl
  have GSeek := ok_seek (P := P) (w := w) (mg := mg) (base := base) (C := He.ga K "Sheet") FSeek T MComes MGoes MPivot
  have MSeek : Met P w K mg base (He.ga K "Sheet") _ "seek" ["self", "wish", "barred"] _ := ⟨⟨_, _, GSeek, He.meth_ok (c.fact 51 (f := .meth "Sheet" "seek") rfl), bSeek⟩⟩
  have bInit : Binds K fdInit ["self", "rows", "bounds", "wishes"] [] := FunD.bindsN FInit fun _ _ _ _ _ _ us hl => match us, hl with | [_, _, _, _], _ => rfl
  have GInit := ok_init (P := P) (w := w) (mg := mg) (base := base) (C := He.ga K "Sheet") FInit T CShared CWholes
  have bSolve : Binds K fdSolve ["rows", "bounds", "wish"] [] := FunD.bindsN FSolve fun _ _ _ _ _ _ us hl => match us, hl with | [_, _, _], _ => rfl
  have GSolve := ok_solve (P := P) (w := w) (mg := mg) (base := base) (C := He.ga K "Sheet") FSolve T CAsk MK GInit bInit MSeek MFit MGrowth MFirst
  have CSolve : Cal P w K mg base _ "solve" ["rows", "bounds", "wish"] _ := ⟨⟨_, _, GSolve, He.glo_ok X G (c.fact 5 (f := .glo "solve") rfl), FSolve.kp, bSolve⟩⟩
  have bNext : Binds K fdNext ["rows", "bounds", "wish", "second"] [] := FunD.bindsN FNext fun _ _ _ _ _ _ us hl => match us, hl with | [_, _, _, _], _ => rfl
  have GNext := ok_next (P := P) (w := w) (mg := mg) (base := base) (C := He.ga K "Sheet") FNext T CAsk MK GInit bInit MSeek MFit MGrowth MFirst MPrices CLift CRatio
  have CNext : Cal P w K mg base _ "solve_next" ["rows", "bounds", "wish", "second"] _ := ⟨⟨_, _, GNext, He.glo_ok X G (c.fact 7 (f := .glo "solve_next") rfl), FNext.kp, bNext⟩⟩
  have hr : Room 6 (callerA.deeper (envOfC "law" (defScope sLaw) s.heap.objs.size (He.ga K "law") cdv)) := Room.deeper (k := 6) ⟨rfl, by decide +kernel, by decide +kernel⟩ _
  exact law_body (Q := fun v _ => v = V.bl true) T CLCell CLBound CLNum CLWish CNext CLRight CLDot CSolve CLLess hr rfl hS fun _ => rfl
end Hd
open PySem PySem.W PySem.Calls PyProof.Rows
theorem PySem.Challenge.cw_hushduel_k37_whole_second_wishes_holds : PySem.Challenge.rw_hushduel_k37_whole_second_wishes.Holds := by
  w_on; o_law
  refine HandSHeadRun.head_any (r := OpenLaw.row PySem.Challenge.rw_hushduel_k37_whole_second_wishes) (q := view (OpenLaw.row PySem.Challenge.rw_hushduel_k37_whole_second_wishes).prog [32]) (H := Hd.hk) (ob := Hd.ob) (M := 4000) (loose := Hd.loose) (d := HandSHeadRun.topDef (OpenLaw.row PySem.Challenge.rw_hushduel_k37_whole_second_wishes).prog 32) (kwd := []) Hd.ob_eq
    (by kernel_rfl) (fun s => by kernel_rfl) Hd.run (by kernel_rfl) (by kernel_rfl) (by kernel_rfl) (by rfl) (by first | assumption | decide +kernel) (by decide +kernel) ⟨rfl, rfl, rfl, rfl, rfl, by decide +kernel⟩ ?hw ?hc
  case hw => w_witness2
  case hc =>
    refine Att.attach_call (l := PySem.Challenge.rw_hushduel_k37_whole_second_wishes) (n := 63) rfl (by kernel_rfl) fun w s0 s1 mg mb fa o pm cd doc a vs ns Gd Y ho hd hcd hmg hobj hints hlen hgen => ?_
    obtain ⟨K, KX, c⟩ := Y
    have hmg2 : mg ("law" : PySem.Str) = some (.ref fa) := by
      have e : (HandSHeadRun.topDef (OpenLaw.row PySem.Challenge.rw_hushduel_k37_whole_second_wishes).prog 32).name = ("law" : PySem.Str) := by kernel_rfl
      rw [← e]
      exact hmg
    obtain ⟨fd, F, hb, hF⟩ := Hd.law_facts (P := (PySem.Challenge.rw_hushduel_k37_whole_second_wishes).prog) (w := w) KX Gd.T.g hmg2 c
    exact Hd.law_true F KX Gd.T.g Gd.T.b Gd.T.builtins Gd.T.nolimit hgen hobj hints (Nat.le_trans hlen (by decide)) ⟨rfl, by decide +kernel, by decide +kernel⟩ (hb s1 (.ref a)) fun base H cdv h1 h2 hS => hF base s1 H cdv a ns h1 h2 hS

