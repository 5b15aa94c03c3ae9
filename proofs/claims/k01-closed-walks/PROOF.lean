import PyProof.Rows.All
import Wide.All
import OpenK.AllK
import Wide.FinOn
import HandS.ForMost
import HandS.SlotsOwn
import HandS.IsInst
import HandS.Star
import HandS.Zip
import HandS.DictComp
import HandS.TupSets
import HandS.TupMul
import HandS.TupLe
import HandS.Wide
import HandS.TupAny
import HandS.Conv
import HandS.Property
import KE.KAssignIn
import HandS.Sort
import KE.SortData
import KE.DataMinMax
import PyProof.FactsAll.subtypes_4
import HandS.Small
import HandS.Style
import PySem.Challenge.RW_fivealike_k01_whole_closed_walks
set_option Elab.async false
set_option autoImplicit false
set_option linter.all false
/-! Sorted lists of pairs, plain. -/
namespace FP
def pairLe (p q : Int × Int) : Bool := decide (p.1 < q.1 ∨ (p.1 = q.1 ∧ p.2 ≤ q.2))
def PLt (p q : Int × Int) : Prop := p.1 < q.1 ∨ (p.1 = q.1 ∧ p.2 < q.2)
instance (p q : Int × Int) : Decidable (PLt p q) := by unfold PLt; infer_instance
/-- each once, where it came first -/
def nubF (acc : List (Int × Int)) : List (Int × Int) → List (Int × Int)
  | [] => acc
  | x :: r => nubF (if x ∈ acc then acc else acc ++ [x]) r
def nub (l : List (Int × Int)) : List (Int × Int) := nubF [] l
def sortP (l : List (Int × Int)) : List (Int × Int) := (nub l).mergeSort pairLe
theorem mem_nubF : ∀ (l acc : List (Int × Int)) (x : Int × Int), x ∈ nubF acc l ↔ x ∈ acc ∨ x ∈ l
  | [], acc, x => by simp [nubF]
  | y :: r, acc, x => by
    unfold nubF
    rw [mem_nubF r]
    by_cases h : y ∈ acc
    · rw [if_pos h, List.mem_cons]
      constructor
      · rintro (a | a)
        · exact .inl a
        · exact .inr (.inr a)
      · rintro (a | a | a)
        · exact .inl a
        · exact .inl (a ▸ h)
        · exact .inr a
    · rw [if_neg h, List.mem_append, List.mem_singleton, List.mem_cons, or_assoc]
theorem nodup_nubF : ∀ (l acc : List (Int × Int)), acc.Nodup → (nubF acc l).Nodup
  | [], acc, h => h
  | y :: r, acc, h => by
    unfold nubF
    apply nodup_nubF r
    by_cases hy : y ∈ acc
    · rw [if_pos hy]; exact h
    · rw [if_neg hy]
      refine List.nodup_append.mpr ⟨h, by simp, fun a ha b hb e => ?_⟩
      rw [List.mem_singleton] at hb
      exact hy (hb ▸ e ▸ ha)
theorem mem_nub {l : List (Int × Int)} {x : Int × Int} : x ∈ nub l ↔ x ∈ l := by unfold nub; rw [mem_nubF]; simp
theorem nodup_nub (l : List (Int × Int)) : (nub l).Nodup := nodup_nubF l [] List.nodup_nil
theorem mem_sortP {l : List (Int × Int)} {x : Int × Int} : x ∈ sortP l ↔ x ∈ l := by unfold sortP; rw [List.mem_mergeSort, mem_nub]
theorem nubF_len : ∀ (l acc : List (Int × Int)), (nubF acc l).length ≤ acc.length + l.length
  | [], acc => by simp [nubF]
  | y :: r, acc => by
    unfold nubF
    have := nubF_len r (if y ∈ acc then acc else acc ++ [y])
    by_cases h : y ∈ acc
    · rw [if_pos h] at this ⊢; simp only [List.length_cons]; omega
    · rw [if_neg h] at this ⊢; simp only [List.length_cons, List.length_append, List.length_nil] at this ⊢; omega
theorem sortP_len (l : List (Int × Int)) : (sortP l).length ≤ l.length := by
  unfold sortP
  rw [List.length_mergeSort]
  have := nubF_len l []
  simpa [nub] using this
theorem pairwise_and {α : Type} {R S : α → α → Prop} {l : List α} (h1 : l.Pairwise R) (h2 : l.Pairwise S) : l.Pairwise (fun a b => R a b ∧ S a b) := by
  induction h1 with
  | nil => exact .nil
  | cons h _ ih =>
    cases h2 with
    | cons h' t' => exact .cons (fun a ha => ⟨h a ha, h' a ha⟩) (ih t')
/-- nodup and upwards: strictly upwards -/
theorem strict_of {l : List (Int × Int)} (h1 : l.Nodup) (h2 : l.Pairwise fun p q => pairLe p q = true) : l.Pairwise PLt := by
  refine (pairwise_and h1 h2).imp fun {a b} h => ?_
  obtain ⟨n, e⟩ := h
  unfold pairLe at e
  rw [decide_eq_true_eq] at e
  rcases e with e | ⟨e1, e2⟩
  · exact .inl e
  · refine .inr ⟨e1, ?_⟩
    have : a.2 ≠ b.2 := fun z => n (Prod.ext e1 z)
    omega
theorem sortP_strict (l : List (Int × Int)) : (sortP l).Pairwise PLt := by
  refine strict_of ?_ ?_
  · exact (List.mergeSort_perm (nub l) pairLe).nodup_iff.mpr (nodup_nub l)
  · refine List.pairwise_mergeSort (fun a b c h1 h2 => ?_) (fun a b => ?_) (nub l)
    · unfold pairLe at *
      rw [decide_eq_true_eq] at *
      omega
    · unfold pairLe
      rw [Bool.or_eq_true, decide_eq_true_eq, decide_eq_true_eq]
      omega
theorem PLt.irrefl (p : Int × Int) : ¬ PLt p p := by unfold PLt; omega
theorem PLt.asymm {p q : Int × Int} (h : PLt p q) : ¬ PLt q p := by unfold PLt at *; omega
theorem PLt.trans {p q r : Int × Int} (h : PLt p q) (h' : PLt q r) : PLt p r := by unfold PLt at *; omega
/-- two strictly ascending lists with the same members are one -/
theorem strict_ext : ∀ {l m : List (Int × Int)}, l.Pairwise PLt → m.Pairwise PLt → (∀ x, x ∈ l ↔ x ∈ m) → l = m
  | [], [], _, _, _ => rfl
  | [], y :: m, _, _, h => absurd ((h y).mpr List.mem_cons_self) (by simp)
  | x :: l, [], _, _, h => absurd ((h x).mp List.mem_cons_self) (by simp)
  | x :: l, y :: m, .cons h1 t1, .cons h2 t2, h => by
    have e : x = y := by
      rcases List.mem_cons.mp ((h x).mp List.mem_cons_self) with z | z
      · exact z
      · rcases List.mem_cons.mp ((h y).mpr List.mem_cons_self) with w | w
        · exact w.symm
        · exact absurd (h1 y w) (h2 x z).asymm
    subst e
    congr 1
    refine strict_ext t1 t2 fun z => ?_
    constructor
    · intro hz
      rcases List.mem_cons.mp ((h z).mp (List.mem_cons_of_mem _ hz)) with w | w
      · exact absurd (h1 z hz) (by rw [w]; exact PLt.irrefl _)
      · exact w
    · intro hz
      rcases List.mem_cons.mp ((h z).mpr (List.mem_cons_of_mem _ hz)) with w | w
      · exact absurd (h2 z hz) (by rw [w]; exact PLt.irrefl _)
      · exact w
theorem sortP_of {l m : List (Int × Int)} (hm : m.Pairwise PLt) (h : ∀ x, x ∈ m ↔ x ∈ l) : sortP l = m :=
  strict_ext (sortP_strict l) hm fun x => by rw [mem_sortP, h]
end FP
set_option Elab.async false
set_option autoImplicit false
set_option linter.all false
/-! Webs, plain. -/
namespace FP
structure Wb where
  cols : List Int
  ts : List (Int × Int)
def Wb.n (w : Wb) : Nat := w.cols.length
structure OkW (w : Wb) : Prop where
  few : w.cols.length ≤ 40
  col : ∀ c ∈ w.cols, -1 ≤ c ∧ c ≤ 9
  tie : ∀ t ∈ w.ts, 0 ≤ t.1 ∧ t.1 < t.2 ∧ t.2 < (w.cols.length : Int)
  asc : w.ts.Pairwise PLt
  lim : w.ts.length ≤ 5000
def Wb.adj (w : Wb) (a b : Int) : Bool := decide ((a, b) ∈ w.ts ∨ (b, a) ∈ w.ts)
theorem Wb.adj_comm (w : Wb) (a b : Int) : w.adj a b = w.adj b a := by
  unfold Wb.adj
  exact decide_eq_decide.mpr or_comm
/-- the points -/
def pts (n : Nat) : List Int := (List.range n).map fun (i : Nat) => (i : Int)
theorem mem_pts {n : Nat} {x : Int} : x ∈ pts n ↔ 0 ≤ x ∧ x < n := by
  unfold pts
  rw [List.mem_map]
  constructor
  · rintro ⟨i, hi, rfl⟩
    rw [List.mem_range] at hi
    omega
  · intro h
    exact ⟨x.toNat, by rw [List.mem_range]; omega, by omega⟩
theorem pts_len (n : Nat) : (pts n).length = n := by unfold pts; simp
theorem pts_get {n i : Nat} (h : i < n) : (pts n)[i]? = some (i : Int) := by
  unfold pts
  rw [List.getElem?_map, List.getElem?_range h]
  rfl
theorem pts_asc (n : Nat) : (pts n).Pairwise (· < ·) := by
  unfold pts
  rw [List.pairwise_map]
  exact List.pairwise_lt_range.imp fun h => by omega
theorem pts_nodup (n : Nat) : (pts n).Nodup := List.nodup_iff_pairwise_ne.mpr ((pts_asc n).imp fun h z => by omega)
/-- the neighbours, ascending -/
def Wb.nb (w : Wb) (a : Int) : List Int := (pts w.n).filter fun b => w.adj a b
theorem Wb.mem_nb {w : Wb} (o : OkW w) {a b : Int} : b ∈ w.nb a ↔ w.adj a b = true := by
  unfold Wb.nb
  rw [List.mem_filter, mem_pts]
  constructor
  · exact fun h => h.2
  · intro h
    refine ⟨?_, h⟩
    unfold Wb.adj at h
    rw [decide_eq_true_eq] at h
    unfold Wb.n
    rcases h with h | h
    · have := o.tie _ h
      simp only at this
      omega
    · have := o.tie _ h
      simp only at this
      omega
theorem Wb.nb_nodup (w : Wb) (a : Int) : (w.nb a).Nodup := (pts_nodup w.n).filter _
theorem Wb.nb_asc (w : Wb) (a : Int) : (w.nb a).Pairwise (· ≤ ·) := ((pts_asc w.n).filter _).imp fun h => by omega
theorem Wb.nb_len (w : Wb) (a : Int) : (w.nb a).length ≤ w.n := by
  have := List.length_filter_le (fun b => w.adj a b) (pts w.n)
  rw [pts_len] at this
  exact this
theorem Wb.adj_lt {w : Wb} (o : OkW w) {a b : Int} (h : w.adj a b = true) : 0 ≤ a ∧ a < w.n ∧ 0 ≤ b ∧ b < w.n ∧ a ≠ b := by
  unfold Wb.adj at h
  rw [decide_eq_true_eq] at h
  unfold Wb.n
  rcases h with h | h
  · have := o.tie _ h
    simp only at this
    omega
  · have := o.tie _ h
    simp only at this
    omega
end FP
set_option Elab.async false
set_option autoImplicit false
set_option linter.all false
/-! Maps of a pattern counted, plain. -/
namespace FP
def Wb.col (w : Wb) (a : Int) : Int := w.cols.getD a.toNat 0
/-- the image of a point -/
def imAt (im : List Int) (a : Int) : Int := im.getD a.toNat 0
/-- the images of the neighbours that have one -/
def goals (p : Wb) (im : List Int) : List Int := ((p.nb im.length).filter fun a => decide (a < (im.length : Int))).map (imAt im)
def places (p w : Wb) (im : List Int) : List Int := (pts w.n).filter fun x => decide (p.col im.length ∈ [-1, w.col x])
def fitL (p w : Wb) (im : List Int) : List Int := (places p w im).filter fun x => (goals p im).all fun g => w.adj x g
/-- how many ways are left -/
def cnt (p w : Wb) : Nat → List Int → Int
  | 0, _ => 1
  | k + 1, im => ((fitL p w im).map fun x => cnt p w k (im ++ [x])).sum
/-- maps of p into w -/
def homs (p w : Wb) : Int := cnt p w p.n []
theorem fitL_lt {p w : Wb} {im : List Int} {x : Int} (h : x ∈ fitL p w im) : 0 ≤ x ∧ x < w.n := by
  unfold fitL places at h
  rw [List.mem_filter, List.mem_filter, mem_pts] at h
  exact h.1.1
theorem fitL_len (p w : Wb) (im : List Int) : (fitL p w im).length ≤ w.n := by
  unfold fitL places
  have h1 := List.length_filter_le (fun x => (goals p im).all fun g => w.adj x g) ((pts w.n).filter fun x => decide (p.col im.length ∈ [-1, w.col x]))
  have h2 := List.length_filter_le (fun x => decide (p.col im.length ∈ [-1, w.col x])) (pts w.n)
  rw [pts_len] at h2
  omega
end FP
set_option Elab.async false
set_option autoImplicit false
set_option linter.all false
/-! Tables of numbers, plain. -/
namespace FP
def sumN (n : Nat) (f : Int → Int) : Int := ((pts n).map f).sum
def mulM (n : Nat) (f g : Int → Int → Int) : Int → Int → Int := fun a b => sumN n fun c => f a c * g c b
def idM : Int → Int → Int := fun a b => if a = b then 1 else 0
def adjI (ts : List (Int × Int)) : Int → Int → Int := fun a b => if (a, b) ∈ ts ∨ (b, a) ∈ ts then 1 else 0
def powM (n : Nat) (f : Int → Int → Int) : Nat → Int → Int → Int
  | 0 => idM
  | k + 1 => mulM n (powM n f k) f
end FP
set_option Elab.async false
set_option autoImplicit false
set_option linter.all false
/-! Sums and tables, plain. -/
namespace FP
theorem sum_congr {α : Type} {l : List α} {f g : α → Int} (h : ∀ x ∈ l, f x = g x) : (l.map f).sum = (l.map g).sum := by rw [List.map_congr_left h]
theorem sumN_congr {n : Nat} {f g : Int → Int} (h : ∀ x : Int, 0 ≤ x → x < n → f x = g x) : sumN n f = sumN n g := sum_congr fun x hx => by
  rw [mem_pts] at hx
  exact h x hx.1 hx.2
theorem sum_add {α : Type} (l : List α) (f g : α → Int) : (l.map fun x => f x + g x).sum = (l.map f).sum + (l.map g).sum := by
  induction l with
  | nil => rfl
  | cons a l ih => simp only [List.map_cons, List.sum_cons, ih]; omega
theorem sum_mul_left {α : Type} (l : List α) (c : Int) (f : α → Int) : (l.map fun x => c * f x).sum = c * (l.map f).sum := by
  induction l with
  | nil => simp
  | cons a l ih => simp only [List.map_cons, List.sum_cons, ih, Int.mul_add]
theorem sum_mul_right {α : Type} (l : List α) (c : Int) (f : α → Int) : (l.map fun x => f x * c).sum = (l.map f).sum * c := by
  induction l with
  | nil => simp
  | cons a l ih => simp only [List.map_cons, List.sum_cons, ih, Int.add_mul]
theorem sum_zero {α : Type} (l : List α) : (l.map fun _ => (0 : Int)).sum = 0 := by
  induction l with
  | nil => rfl
  | cons a l ih => simp only [List.map_cons, List.sum_cons, ih]; rfl
theorem sum_comm {α β : Type} (l : List α) (m : List β) (f : α → β → Int) : (l.map fun a => (m.map fun b => f a b).sum).sum = (m.map fun b => (l.map fun a => f a b).sum).sum := by
  induction l with
  | nil => simp only [List.map_nil, List.sum_nil]; rw [sum_zero]
  | cons a l ih => simp only [List.map_cons, List.sum_cons, ih, sum_add]
theorem sumN_add (n : Nat) (f g : Int → Int) : sumN n (fun x => f x + g x) = sumN n f + sumN n g := sum_add _ _ _
theorem sumN_mul_left (n : Nat) (c : Int) (f : Int → Int) : sumN n (fun x => c * f x) = c * sumN n f := sum_mul_left _ _ _
theorem sumN_mul_right (n : Nat) (c : Int) (f : Int → Int) : sumN n (fun x => f x * c) = sumN n f * c := sum_mul_right _ _ _
theorem sumN_comm (n m : Nat) (f : Int → Int → Int) : sumN n (fun a => sumN m fun b => f a b) = sumN m fun b => sumN n fun a => f a b := sum_comm _ _ _
theorem sumN_zero (n : Nat) : sumN n (fun _ => 0) = 0 := sum_zero _
/-- a filter is a factor -/
theorem sum_filter {α : Type} (l : List α) (p : α → Bool) (f : α → Int) : ((l.filter p).map f).sum = (l.map fun x => if p x = true then f x else 0).sum := by
  induction l with
  | nil => rfl
  | cons a l ih =>
    rw [List.filter_cons]
    by_cases h : p a = true
    · rw [if_pos h, List.map_cons, List.sum_cons, List.map_cons, List.sum_cons, ih, if_pos h]
    · rw [if_neg h, List.map_cons, List.sum_cons, ih, if_neg h, Int.zero_add]
theorem pts_succ (n : Nat) : pts (n + 1) = pts n ++ [(n : Int)] := by
  unfold pts
  rw [List.range_succ, List.map_append]
  rfl
theorem sumN_succ (n : Nat) (f : Int → Int) : sumN (n + 1) f = sumN n f + f n := by
  unfold sumN
  rw [pts_succ, List.map_append, List.sum_append]
  simp
theorem sumN_zero' (f : Int → Int) : sumN 0 f = 0 := rfl
/-- one item alone -/
theorem sumN_single {n : Nat} {a : Int} (h0 : 0 ≤ a) (h : a < n) (f : Int → Int) : sumN n (fun x => if x = a then f x else 0) = f a := by
  induction n with
  | zero => omega
  | succ n ih =>
    rw [sumN_succ]
    by_cases e : a = n
    · subst e
      rw [if_pos rfl]
      have : sumN n (fun x => if x = (n : Int) then f x else 0) = sumN n fun _ => 0 := sumN_congr fun x _ hx => by rw [if_neg (by omega)]
      rw [this, sumN_zero]
      omega
    · rw [if_neg (Ne.symm e), ih (by omega)]
      omega
theorem sumN_bound {n : Nat} {f : Int → Int} {k : Nat} (h : ∀ x : Int, 0 ≤ x → x < n → -(k : Int) ≤ f x ∧ f x ≤ k) : -((n * k : Nat) : Int) ≤ sumN n f ∧ sumN n f ≤ ((n * k : Nat) : Int) := by
  induction n with
  | zero => rw [sumN_zero']; simp
  | succ n ih =>
    rw [sumN_succ]
    have h1 := ih fun x a b => h x a (by omega)
    have h2 := h n (by omega) (by omega)
    have e : ((n + 1) * k : Nat) = n * k + k := Nat.succ_mul n k
    rw [e]
    omega
/-- entries between 0 and n^k -/
theorem powM_bound {n : Nat} {f : Int → Int → Int} (h : ∀ a b, 0 ≤ f a b ∧ f a b ≤ 1) : ∀ (k : Nat) (a b : Int), 0 ≤ powM n f k a b ∧ powM n f k a b ≤ ((n ^ k : Nat) : Int)
  | 0, a, b => by
    show 0 ≤ idM a b ∧ idM a b ≤ _
    unfold idM
    rw [Nat.pow_zero]
    split <;> simp
  | k + 1, a, b => by
    show 0 ≤ sumN n (fun c => powM n f k a c * f c b) ∧ sumN n (fun c => powM n f k a c * f c b) ≤ _
    have ih := powM_bound (n := n) h k a
    have key : ∀ m : Nat, 0 ≤ sumN m (fun c => powM n f k a c * f c b) ∧ sumN m (fun c => powM n f k a c * f c b) ≤ ((m * n ^ k : Nat) : Int) := by
      intro m
      induction m with
      | zero => rw [sumN_zero']; simp
      | succ m im =>
        rw [sumN_succ]
        obtain ⟨i1, i2⟩ := ih m
        obtain ⟨j1, j2⟩ := h m b
        have p1 : 0 ≤ powM n f k a m * f m b := Int.mul_nonneg i1 j1
        have p2 : powM n f k a m * f m b ≤ powM n f k a m * 1 := Int.mul_le_mul_of_nonneg_left j2 i1
        rw [Int.mul_one] at p2
        have e : ((m + 1) * n ^ k : Nat) = m * n ^ k + n ^ k := Nat.succ_mul m _
        rw [e]
        omega
    have := key n
    rw [Nat.pow_succ, Nat.mul_comm]
    exact this
theorem adjI_01 (ts : List (Int × Int)) (a b : Int) : 0 ≤ adjI ts a b ∧ adjI ts a b ≤ 1 := by
  unfold adjI
  split <;> omega
def tr (n : Nat) (f : Int → Int → Int) : Int := sumN n fun a => f a a
def tot (n : Nat) (f : Int → Int → Int) : Int := sumN n fun a => sumN n fun b => f a b
theorem tr_pow_bound {n : Nat} {ts : List (Int × Int)} (hn : n ≤ 6) {k : Nat} (hk : k ≤ 6) : -(2 ^ 64 : Int) < tr n (powM n (adjI ts) k) ∧ tr n (powM n (adjI ts) k) < 2 ^ 64 := by
  have h1 : n ^ k ≤ 6 ^ 6 := Nat.le_trans (Nat.pow_le_pow_left hn k) (Nat.pow_le_pow_right (by decide) hk)
  have h2 := sumN_bound (n := n) (f := fun a => powM n (adjI ts) k a a) (k := 6 ^ 6) fun x _ _ => by
    have := powM_bound (adjI_01 ts) (n := n) k x x
    have h3 : ((n ^ k : Nat) : Int) ≤ ((6 ^ 6 : Nat) : Int) := Int.ofNat_le.mpr h1
    omega
  unfold tr
  have h4 : ((n * 6 ^ 6 : Nat) : Int) ≤ 6 * 46656 := by
    have : n * 6 ^ 6 ≤ 6 * 6 ^ 6 := Nat.mul_le_mul_right _ hn
    have e : (6 : Nat) * 6 ^ 6 = 6 * 46656 := by decide
    rw [e] at this
    exact Int.ofNat_le.mpr this
  omega
/-- the opposite table -/
def opM (ts : List (Int × Int)) : Int → Int → Int := fun a b => 1 - adjI ts a b - idM a b
theorem opM_b (ts : List (Int × Int)) (a b : Int) : -((1 : Nat) : Int) ≤ opM ts a b ∧ opM ts a b ≤ ((1 : Nat) : Int) := by
  unfold opM idM
  have := adjI_01 ts a b
  split <;> omega
theorem opM2_b {n : Nat} (ts : List (Int × Int)) (a b : Int) : -(n : Int) ≤ mulM n (opM ts) (opM ts) a b ∧ mulM n (opM ts) (opM ts) a b ≤ n := by
  have := sumN_bound (n := n) (f := fun c => opM ts a c * opM ts c b) (k := 1) fun x _ _ => by
    have h1 := opM_b ts a x
    have h2 := opM_b ts x b
    have e1 : opM ts a x = -1 ∨ opM ts a x = 0 ∨ opM ts a x = 1 := by omega
    have e2 : opM ts x b = -1 ∨ opM ts x b = 0 ∨ opM ts x b = 1 := by omega
    rcases e1 with e1 | e1 | e1 <;> rcases e2 with e2 | e2 | e2 <;> rw [e1, e2] <;> decide
  rw [Nat.mul_one] at this
  exact this
end FP
set_option Elab.async false
set_option autoImplicit false
set_option linter.all false
set_option maxRecDepth 100000
/-! A layer of judgements over plain data: what an expression, a statement of the text gives, told without heaps. -/
namespace FA
open PySem L2 SlX

/-- data, without heaps -/
inductive D where
  | non | bl (b : Bool) | int (i : Int) | str (x : Str) | ty (n : String)
  | tup (xs : List D) | lst (xs : List D) | dic (kvs : List (Key × D)) | rng (lo hi : Int) | adr (a : Addr) | obj (C : Addr) (fs : List D)

mutual
inductive At (K : PySem.W.Frag) (H : Hp) : V → D → Prop
  | non : At K H .non .non
  | bl {b : Bool} : At K H (.bl b) (.bl b)
  | int {i : Int} : At K H (.int i) (.int i)
  | str {x : Str} : At K H (.str x) (.str x)
  | ty {n : String} : At K H (.ty n) (.ty n)
  | tup {p : Addr} {vs : List V} {ds : List D} : SqT K H p vs → AtL K H vs ds → At K H (.ref p) (.tup ds)
  | lst {p : Addr} {vs : List V} {ds : List D} : SqL K H p vs → AtL K H vs ds → At K H (.ref p) (.lst ds)
  | dic {p : Addr} {kvs : List (Key × V)} {es : List (Key × D)} : Rd H p (.dK kvs) → AtK K H kvs es → At K H (.ref p) (.dic es)
  | adr {a : Addr} : At K H (.ref a) (.adr a)
  | rng {p : Addr} {lo hi : Int} : H p = some (.rng lo hi) → At K H (.ref p) (.rng lo hi)
  | obj {p C dx : Addr} {vs : List V} {ds : List D} : Slt H p C dx (vs.map some) → AtL K H vs ds → At K H (.ref p) (.obj C ds)
inductive AtL (K : PySem.W.Frag) (H : Hp) : List V → List D → Prop
  | nil : AtL K H [] []
  | cons {v : V} {d : D} {vs : List V} {ds : List D} : At K H v d → AtL K H vs ds → AtL K H (v :: vs) (d :: ds)
inductive AtK (K : PySem.W.Frag) (H : Hp) : List (Key × V) → List (Key × D) → Prop
  | nil : AtK K H [] []
  | cons {k : Key} {v : V} {d : D} {vs : List (Key × V)} {ds : List (Key × D)} : At K H v d → AtK K H vs ds → AtK K H ((k, v) :: vs) ((k, d) :: ds)
end

section
variable {K : PySem.W.Frag} {H H' : Hp}
theorem same_rd {a : Addr} {u : HO} (e : Same H H') (h : Rd H a u) : Rd H' a u := by
  rcases h with h | ⟨o, h⟩
  · exact .inl (e a _ h)
  · exact .inr ⟨o, e a _ h⟩
theorem same_t {a : Addr} {xs : List V} (e : Same H H') (h : SqT K H a xs) : SqT K H' a xs := by
  rcases h with h | h
  · exact .inl (same_rd e h)
  · exact .inr h
theorem same_slt {a C dx : Addr} {vs : List (Option V)} (e : Same H H') (h : Slt H a C dx vs) : Slt H' a C dx vs := by
  rcases h with ⟨h, z⟩ | ⟨h, z⟩
  · exact .inl ⟨e _ _ h, z⟩
  · exact .inr ⟨e _ _ h, e _ _ z⟩
mutual
theorem At.mono (e : Same H H') : ∀ {v : V} {d : D}, At K H v d → At K H' v d
  | _, _, .non => .non
  | _, _, .bl => .bl
  | _, _, .int => .int
  | _, _, .str => .str
  | _, _, .ty => .ty
  | _, _, .tup h l => .tup (same_t e h) (AtL.mono e l)
  | _, _, .lst h l => .lst (e.seq h) (AtL.mono e l)
  | _, _, .dic h l => .dic (same_rd e h) (AtK.mono e l)
  | _, _, .adr => .adr
  | _, _, .rng h => .rng (e _ _ h)
  | _, _, .obj h l => .obj (same_slt e h) (AtL.mono e l)
theorem AtL.mono (e : Same H H') : ∀ {v : List V} {d : List D}, AtL K H v d → AtL K H' v d
  | _, _, .nil => .nil
  | _, _, .cons h l => .cons (At.mono e h) (AtL.mono e l)
theorem AtK.mono (e : Same H H') : ∀ {v : List (Key × V)} {d : List (Key × D)}, AtK K H v d → AtK K H' v d
  | _, _, .nil => .nil
  | _, _, .cons h l => .cons (At.mono e h) (AtK.mono e l)
end
theorem AtL.length : ∀ {vs : List V} {ds : List D}, AtL K H vs ds → vs.length = ds.length
  | _, _, .nil => rfl
  | _, _, .cons _ l => by simp only [List.length_cons, AtL.length l]
theorem AtL.get : ∀ {vs : List V} {ds : List D} {i : Nat} {d : D}, AtL K H vs ds → ds[i]? = some d → ∃ v, vs[i]? = some v ∧ At K H v d
  | _, _, _, _, .nil, e => by simp at e
  | _, _, 0, _, .cons r _, e => by simp at e; subst e; exact ⟨_, rfl, r⟩
  | _, _, i + 1, d, .cons _ t, e => by
    obtain ⟨u, h1, h2⟩ := AtL.get (i := i) (d := d) t (by simpa using e)
    exact ⟨u, by simpa using h1, h2⟩
theorem AtL.get' : ∀ {vs : List V} {ds : List D} {i : Nat} {v : V}, AtL K H vs ds → vs[i]? = some v → ∃ d, ds[i]? = some d ∧ At K H v d
  | _, _, _, _, .nil, e => by simp at e
  | _, _, 0, _, .cons r _, e => by simp at e; subst e; exact ⟨_, rfl, r⟩
  | _, _, i + 1, d, .cons _ t, e => by
    obtain ⟨u, h1, h2⟩ := AtL.get' (i := i) (v := d) t (by simpa using e)
    exact ⟨u, by simpa using h1, h2⟩
theorem AtL.app : ∀ {vs ws : List V} {ds es : List D}, AtL K H vs ds → AtL K H ws es → AtL K H (vs ++ ws) (ds ++ es)
  | _, _, _, _, .nil, s => s
  | _, _, _, _, .cons r t, s => .cons r (AtL.app t s)
theorem AtL.put {v : V} {d : D} (r : At K H v d) : ∀ {vs : List V} {ds : List D} (i : Nat), AtL K H vs ds → AtL K H (vs.set i v) (ds.set i d)
  | _, _, _, .nil => .nil
  | _, _, 0, .cons _ t => .cons r t
  | _, _, i + 1, .cons q t => .cons q (AtL.put r i t)
/-- ints -/
theorem AtL.ints : ∀ {ns : List Int}, AtL K H (ns.map V.int) (ns.map D.int)
  | [] => .nil
  | _ :: _ => .cons .int AtL.ints
theorem AtL.of_ints : ∀ {ns : List Int} {vs : List V}, AtL K H vs (ns.map D.int) → vs = ns.map V.int
  | [], _, .nil => rfl
  | _ :: _, _, .cons .int t => by rw [AtL.of_ints t]; rfl
theorem AtL.bools : ∀ {ns : List Bool}, AtL K H (ns.map V.bl) (ns.map D.bl)
  | [] => .nil
  | _ :: _ => .cons .bl AtL.bools
theorem AtL.of_bools : ∀ {ns : List Bool} {vs : List V}, AtL K H vs (ns.map D.bl) → vs = ns.map V.bl
  | [], _, .nil => rfl
  | _ :: _, _, .cons .bl t => by rw [AtL.of_bools t]; rfl
end

/-- what a slot of a def is known to hold: nothing is known; a datum; a list, a dict of its own that it may change -/
inductive E1 where
  | non | val (d : D) | own (t : Option Addr) (ds : List D) | ownd (kvs : List (Key × D))
abbrev Es := List E1

/-- does slot i hold p, an object of its own -/
def OwnAt (σ : L2.St) (es : Es) (i : Nat) (p : Addr) : Prop := σ[i]? = some (some (V.ref p)) ∧ ((∃ t ds, es[i]? = some (E1.own t ds)) ∨ ∃ kvs, es[i]? = some (E1.ownd kvs))

structure Sta (K : PySem.W.Frag) (σ : L2.St) (H H0 F : Hp) (es : Es) : Prop where
  h0 : Same H0 H
  f : Same F H
  ff : ∀ a o, F a = some o → H0 a = none
  len : σ.length = es.length
  val : ∀ (i : Nat) (d : D), es[i]? = some (E1.val d) → ∃ v, σ[i]? = some (some v) ∧ At K H0 v d
  own : ∀ (i : Nat) (t : Option Addr) (ds : List D), es[i]? = some (E1.own t ds) → ∃ p vs, (∀ a, t = some a → a = p) ∧ σ[i]? = some (some (V.ref p)) ∧ H p = some (HO.lst vs) ∧ AtL K H0 vs ds ∧ H0 p = none ∧ F p = none
  ownd : ∀ (i : Nat) (ds : List (Key × D)), es[i]? = some (E1.ownd ds) → ∃ p vs, σ[i]? = some (some (V.ref p)) ∧ H p = some (HO.dK vs) ∧ AtK K H0 vs ds ∧ H0 p = none ∧ F p = none
  dis : ∀ (i j : Nat) (p : Addr), OwnAt σ es i p → OwnAt σ es j p → i = j

section
variable {K : PySem.W.Frag} {σ : L2.St} {H H' H0 H0' F F' : Hp} {es : Es}
theorem Sta.ownH (s : Sta K σ H H0 F es) {i : Nat} {p : Addr} (h : OwnAt σ es i p) : (∃ o, H p = some o) ∧ H0 p = none ∧ F p = none := by
  obtain ⟨e, ⟨t, ds, h⟩ | ⟨ds, h⟩⟩ := h
  · obtain ⟨q, vs, _, e2, hp, _, h0, hf⟩ := s.own i t ds h
    rw [e] at e2
    cases e2
    exact ⟨⟨_, hp⟩, h0, hf⟩
  · obtain ⟨q, vs, e2, hp, _, h0, hf⟩ := s.ownd i ds h
    rw [e] at e2
    cases e2
    exact ⟨⟨_, hp⟩, h0, hf⟩
/-- the heap grows; what is known may grow too, but not by what stood -/
theorem Sta.grow (s : Sta K σ H H0 F es) (a : Same H H') (b : Same H0 H0') (c : Same H0' H') (n : ∀ p o, H p = some o → H0 p = none → H0' p = none) : Sta K σ H' H0' F es where
  h0 := c
  f := s.f.trans a
  ff := fun x o h => n x o (s.f x o h) (s.ff x o h)
  len := s.len
  val := fun i d h => by
    obtain ⟨v, e, h⟩ := s.val i d h
    exact ⟨v, e, h.mono b⟩
  own := fun i t ds h => by
    obtain ⟨p, vs, ht, e, hp, hl, h1, h2⟩ := s.own i t ds h
    exact ⟨p, vs, ht, e, a _ _ hp, hl.mono b, n _ _ hp h1, h2⟩
  ownd := fun i ds h => by
    obtain ⟨p, vs, e, hp, hl, h1, h2⟩ := s.ownd i ds h
    exact ⟨p, vs, e, a _ _ hp, hl.mono b, n _ _ hp h1, h2⟩
  dis := s.dis
theorem same_new {p : Addr} {o : HO} (h : H p = none) : Same H (upd H p o) := fun a u e => by
  rw [upd_ne (ne_of_none e h)]
  exact e
theorem same_upd {p : Addr} {o : HO} (s : Same H0 H) : Same (upd H0 p o) (upd H p o) := fun a u e => by
  by_cases h : a = p
  · subst h
    rw [upd_same] at e ⊢
    exact e
  · rw [upd_ne h] at e ⊢
    exact s a u e
/-- a new object, told -/
theorem Sta.new (s : Sta K σ H H0 F es) {p : Addr} {o : HO} (h : H p = none) : Sta K σ (upd H p o) (upd H0 p o) F es :=
  s.grow (same_new h) (same_new (s.h0.free h)) (same_upd s.h0) fun q u e n => by
    rw [upd_ne (ne_of_none e h)]
    exact n
/-- a new object, not told -/
theorem Sta.new' (s : Sta K σ H H0 F es) {p : Addr} {o : HO} (h : H p = none) : Sta K σ (upd H p o) H0 F es :=
  s.grow (same_new h) (Same.refl _) (s.h0.trans (same_new h)) fun _ _ _ n => n
/-- an untold object is told from now on -/
theorem Sta.tell (s : Sta K σ H H0 F es) {p : Addr} {o : HO} (h : H p = some o) (hf : F p = none) (hn : ∀ i, ¬ OwnAt σ es i p) (h1 : H0 p = none) : Sta K σ H (upd H0 p o) F es where
  h0 := fun a u e => by
    by_cases q : a = p
    · subst q
      rw [upd_same] at e
      cases e
      exact h
    · rw [upd_ne q] at e
      exact s.h0 a u e
  f := s.f
  ff := fun x u e => by rw [upd_ne (ne_of_none e hf)]; exact s.ff x u e
  len := s.len
  val := fun i d e => by
    obtain ⟨v, e, h⟩ := s.val i d e
    exact ⟨v, e, h.mono (same_new h1)⟩
  own := fun i t ds e => by
    obtain ⟨q, vs, ht, e', hp, hl, h2, h3⟩ := s.own i t ds e
    refine ⟨q, vs, ht, e', hp, hl.mono (same_new h1), ?_, h3⟩
    rw [upd_ne (fun z => hn i ⟨by rw [← z]; exact e', .inl ⟨t, ds, e⟩⟩)]
    exact h2
  ownd := fun i ds e => by
    obtain ⟨q, vs, e', hp, hl, h2, h3⟩ := s.ownd i ds e
    refine ⟨q, vs, e', hp, hl.mono (same_new h1), ?_, h3⟩
    rw [upd_ne (fun z => hn i ⟨by rw [← z]; exact e', .inr ⟨ds, e⟩⟩)]
    exact h2
  dis := s.dis
/-- a told frame: another one -/
theorem Sta.reF (s : Sta K σ H H0 F es) (h1 : Same F' H) (h2 : ∀ a o, F' a = some o → H0 a = none) (h3 : ∀ i p, OwnAt σ es i p → F' p = none) : Sta K σ H H0 F' es where
  h0 := s.h0
  f := h1
  ff := h2
  len := s.len
  val := s.val
  own := fun i t ds e => by
    obtain ⟨q, vs, ht, e', hp, hl, q2, q3⟩ := s.own i t ds e
    exact ⟨q, vs, ht, e', hp, hl, q2, h3 i q ⟨e', .inl ⟨t, ds, e⟩⟩⟩
  ownd := fun i ds e => by
    obtain ⟨q, vs, e', hp, hl, q2, q3⟩ := s.ownd i ds e
    exact ⟨q, vs, e', hp, hl, q2, h3 i q ⟨e', .inr ⟨ds, e⟩⟩⟩
  dis := s.dis
theorem ownAt_set_val {x : Option V} {d : D} {i j : Nat} {p : Addr} (hl : σ.length = es.length) (h : OwnAt (σ.set i x) (es.set i (.val d)) j p) : j ≠ i ∧ OwnAt σ es j p := by
  by_cases e : j = i
  · subst e
    by_cases hj : j < es.length
    · obtain ⟨_, ⟨t, ds, h⟩ | ⟨ds, h⟩⟩ := h
      · rw [List.getElem?_set_self hj] at h; cases h
      · rw [List.getElem?_set_self hj] at h; cases h
    · obtain ⟨_, ⟨t, ds, h⟩ | ⟨ds, h⟩⟩ := h
      · rw [List.getElem?_eq_none (by simp; omega)] at h; cases h
      · rw [List.getElem?_eq_none (by simp; omega)] at h; cases h
  · refine ⟨e, ?_⟩
    unfold OwnAt at h ⊢
    rw [List.getElem?_set_ne (Ne.symm e), List.getElem?_set_ne (Ne.symm e)] at h
    exact h
/-- a slot takes a datum -/
theorem Sta.set (s : Sta K σ H H0 F es) {i : Nat} {v : V} {d : D} (h : At K H0 v d) : Sta K (σ.set i (some v)) H H0 F (es.set i (.val d)) where
  h0 := s.h0
  f := s.f
  ff := s.ff
  len := by simp [s.len]
  val := fun j c e => by
    by_cases q : j = i
    · subst q
      have hj : j < es.length := by
        have := (List.getElem?_eq_some_iff.mp e).1
        simpa using this
      rw [List.getElem?_set_self hj] at e
      cases e
      exact ⟨v, List.getElem?_set_self (by rw [s.len]; exact hj), h⟩
    · rw [List.getElem?_set_ne (Ne.symm q)] at e ⊢
      exact s.val j c e
  own := fun j t ds e => by
    by_cases q : j = i
    · subst q
      have hj : j < es.length := by
        have := (List.getElem?_eq_some_iff.mp e).1
        simpa using this
      rw [List.getElem?_set_self hj] at e
      cases e
    · rw [List.getElem?_set_ne (Ne.symm q)] at e ⊢
      exact s.own j t ds e
  ownd := fun j ds e => by
    by_cases q : j = i
    · subst q
      have hj : j < es.length := by
        have := (List.getElem?_eq_some_iff.mp e).1
        simpa using this
      rw [List.getElem?_set_self hj] at e
      cases e
    · rw [List.getElem?_set_ne (Ne.symm q)] at e ⊢
      exact s.ownd j ds e
  dis := fun a b p ha hb => s.dis a b p (ownAt_set_val s.len ha).2 (ownAt_set_val s.len hb).2
/-- a slot takes a list of its own -/
theorem Sta.setOwn (s : Sta K σ H H0 F es) {i : Nat} {p : Addr} {vs : List V} {ds : List D} (hp : H p = some (.lst vs)) (hl : AtL K H0 vs ds) (h1 : H0 p = none) (h2 : F p = none) (hn : ∀ j, ¬ OwnAt σ es j p) :
    Sta K (σ.set i (some (.ref p))) H H0 F (es.set i (.own none ds)) where
  h0 := s.h0
  f := s.f
  ff := s.ff
  len := by simp [s.len]
  val := fun j c e => by
    by_cases q : j = i
    · subst q
      have hj : j < es.length := by
        have := (List.getElem?_eq_some_iff.mp e).1
        simpa using this
      rw [List.getElem?_set_self hj] at e
      cases e
    · rw [List.getElem?_set_ne (Ne.symm q)] at e ⊢
      exact s.val j c e
  own := fun j t es' e => by
    by_cases q : j = i
    · subst q
      have hj : j < es.length := by
        have := (List.getElem?_eq_some_iff.mp e).1
        simpa using this
      rw [List.getElem?_set_self hj] at e
      cases e
      exact ⟨p, vs, fun _ z => (nomatch z), List.getElem?_set_self (by rw [s.len]; exact hj), hp, hl, h1, h2⟩
    · rw [List.getElem?_set_ne (Ne.symm q)] at e ⊢
      exact s.own j t es' e
  ownd := fun j es' e => by
    by_cases q : j = i
    · subst q
      have hj : j < es.length := by
        have := (List.getElem?_eq_some_iff.mp e).1
        simpa using this
      rw [List.getElem?_set_self hj] at e
      cases e
    · rw [List.getElem?_set_ne (Ne.symm q)] at e ⊢
      exact s.ownd j es' e
  dis := fun a b q ha hb => by
    have hh : ∀ c, OwnAt (σ.set i (some (.ref p))) (es.set i (.own none ds)) c q → c ≠ i → OwnAt σ es c q := fun c hc hne => by
      unfold OwnAt at hc ⊢
      rw [List.getElem?_set_ne (Ne.symm hne), List.getElem?_set_ne (Ne.symm hne)] at hc
      exact hc
    have hi : ∀ c, OwnAt (σ.set i (some (.ref p))) (es.set i (.own none ds)) c q → c = i → q = p := fun c hc hne => by
      subst hne
      have hj : c < σ.length := by
        have := (List.getElem?_eq_some_iff.mp hc.1).1
        simpa using this
      have := hc.1
      rw [List.getElem?_set_self hj] at this
      cases this
      rfl
    by_cases xa : a = i
    · by_cases xb : b = i
      · rw [xa, xb]
      · have e1 := hi a ha xa
        exact absurd (hh b hb xb) (by rw [e1]; exact hn b)
    · by_cases xb : b = i
      · have e1 := hi b hb xb
        exact absurd (hh a ha xa) (by rw [e1]; exact hn a)
      · exact s.dis a b q (hh a ha xa) (hh b hb xb)
/-- a list of its own changes -/
theorem Sta.change (s : Sta K σ H H0 F es) {i : Nat} {p : Addr} {ds ds' : List D} {vs' : List V} {t : Option Addr} (hi : es[i]? = some (.own t ds)) (hs : σ[i]? = some (some (.ref p))) (hl : AtL K H0 vs' ds') : Sta K σ (upd H p (.lst vs')) H0 F (es.set i (.own t ds')) := by
  have oi : OwnAt σ es i p := ⟨hs, .inl ⟨t, ds, hi⟩⟩
  obtain ⟨_, n0, nf⟩ := s.ownH oi
  have tp : ∀ a, t = some a → a = p := fun a z => by
    obtain ⟨p', _, ht, e, _⟩ := s.own i t ds hi
    rw [hs] at e
    cases e
    exact ht a z
  have hj : i < es.length := (List.getElem?_eq_some_iff.mp hi).1
  have other : ∀ j q, OwnAt σ es j q → j ≠ i → q ≠ p := fun j q h hne e => hne (s.dis j i p (by rw [← e]; exact h) oi)
  refine ⟨fun a u e => ?_, fun a u e => ?_, s.ff, by simp [s.len], fun j c e => ?_, fun j t' c e => ?_, fun j c e => ?_, fun a b q ha hb => ?_⟩
  · rw [upd_ne (ne_of_none e n0)]; exact s.h0 a u e
  · rw [upd_ne (ne_of_none e nf)]; exact s.f a u e
  · by_cases q : j = i
    · subst q; rw [List.getElem?_set_self hj] at e; cases e
    · rw [List.getElem?_set_ne (Ne.symm q)] at e; exact s.val j c e
  · by_cases q : j = i
    · subst q; rw [List.getElem?_set_self hj] at e; cases e
      exact ⟨p, vs', tp, hs, upd_same, hl, n0, nf⟩
    · rw [List.getElem?_set_ne (Ne.symm q)] at e
      obtain ⟨r, vs, ht, e', hp, hl', h2, h3⟩ := s.own j t' c e
      exact ⟨r, vs, ht, e', by rw [upd_ne (other j r ⟨e', .inl ⟨t', c, e⟩⟩ q)]; exact hp, hl', h2, h3⟩
  · by_cases q : j = i
    · subst q; rw [List.getElem?_set_self hj] at e; cases e
    · rw [List.getElem?_set_ne (Ne.symm q)] at e
      obtain ⟨r, vs, e', hp, hl', h2, h3⟩ := s.ownd j c e
      exact ⟨r, vs, e', by rw [upd_ne (other j r ⟨e', .inr ⟨c, e⟩⟩ q)]; exact hp, hl', h2, h3⟩
  · have hh : ∀ c, OwnAt σ (es.set i (.own t ds')) c q → OwnAt σ es c q := fun c hc => by
      by_cases z : c = i
      · subst z
        exact ⟨hc.1, .inl ⟨t, ds, hi⟩⟩
      · unfold OwnAt at hc ⊢
        rw [List.getElem?_set_ne (Ne.symm z)] at hc
        exact hc
    exact s.dis a b q (hh a ha) (hh b hb)
end
def wipeE (es : Es) : List Nat → Es
  | [] => es
  | i :: r => (wipeE es r).set i .non
theorem Sta.wipe1 {K : PySem.W.Frag} {σ : L2.St} {H H0 F : Hp} {es : Es} (s : Sta K σ H H0 F es) (i : Nat) : Sta K (σ.set i none) H H0 F (es.set i .non) := by
  have back : ∀ {j : Nat} {c : E1}, (es.set i .non)[j]? = some c → c ≠ .non → j ≠ i ∧ es[j]? = some c := fun {j c} e hc => by
    by_cases q : j = i
    · subst q
      have hj : j < es.length := by
        have := (List.getElem?_eq_some_iff.mp e).1
        simpa using this
      rw [List.getElem?_set_self hj] at e
      cases e
      exact absurd rfl hc
    · rw [List.getElem?_set_ne (Ne.symm q)] at e
      exact ⟨q, e⟩
  refine ⟨s.h0, s.f, s.ff, by simp [s.len], fun j c e => ?_, fun j t c e => ?_, fun j c e => ?_, fun a b q ha hb => ?_⟩
  · obtain ⟨n, e⟩ := back e (by intro z; cases z)
    rw [List.getElem?_set_ne (Ne.symm n)]
    exact s.val j c e
  · obtain ⟨n, e⟩ := back e (by intro z; cases z)
    rw [List.getElem?_set_ne (Ne.symm n)]
    exact s.own j t c e
  · obtain ⟨n, e⟩ := back e (by intro z; cases z)
    rw [List.getElem?_set_ne (Ne.symm n)]
    exact s.ownd j c e
  · have hh : ∀ c, OwnAt (σ.set i none) (es.set i .non) c q → OwnAt σ es c q := fun c hc => by
      obtain ⟨h1, ⟨t, ds, h⟩ | ⟨ds, h⟩⟩ := hc
      · obtain ⟨n, e⟩ := back h (by intro z; cases z)
        rw [List.getElem?_set_ne (Ne.symm n)] at h1
        exact ⟨h1, .inl ⟨t, ds, e⟩⟩
      · obtain ⟨n, e⟩ := back h (by intro z; cases z)
        rw [List.getElem?_set_ne (Ne.symm n)] at h1
        exact ⟨h1, .inr ⟨ds, e⟩⟩
    exact s.dis a b q (hh a ha) (hh b hb)
end FA
set_option Elab.async false
set_option autoImplicit false
set_option linter.all false
set_option maxRecDepth 100000
/-! Judgements: what a term of rules gives over known data. -/
namespace FA
open PySem L2 SlX

/-- a step of the heaps: the whole one and the told part grow, what stood untold stays untold -/
structure Stp (H H0 H' H0' : Hp) : Prop where
  a : Same H H'
  b : Same H0 H0'
  c : Same H0' H'
  n : ∀ (p : Addr) (o : HO), H p = some o → H0 p = none → H0' p = none
theorem Stp.refl {H H0 : Hp} (h : Same H0 H) : Stp H H0 H H0 := ⟨Same.refl _, Same.refl _, h, fun _ _ _ n => n⟩
theorem Stp.trans {H H0 H1 H01 H2 H02 : Hp} (x : Stp H H0 H1 H01) (y : Stp H1 H01 H2 H02) : Stp H H0 H2 H02 :=
  ⟨x.a.trans y.a, x.b.trans y.b, y.c, fun p o h n => y.n p o (x.a p o h) (x.n p o h n)⟩
theorem Stp.new {H H0 : Hp} {p : Addr} {o : HO} (s : Same H0 H) (h : H p = none) : Stp H H0 (upd H p o) (upd H0 p o) :=
  ⟨same_new h, same_new (s.free h), same_upd s, fun q u e n => by rw [upd_ne (ne_of_none e h)]; exact n⟩
theorem Stp.new' {H H0 : Hp} {p : Addr} {o : HO} (s : Same H0 H) (h : H p = none) : Stp H H0 (upd H p o) H0 :=
  ⟨same_new h, Same.refl _, s.trans (same_new h), fun _ _ _ n => n⟩
theorem Sta.stp {K : PySem.W.Frag} {σ : L2.St} {H H' H0 H0' F : Hp} {es : Es} (s : Sta K σ H H0 F es) (x : Stp H H0 H' H0') : Sta K σ H' H0' F es := s.grow x.a x.b x.c x.n

/-- what is wanted of a value that is z -/
def Bk (K : PySem.W.Frag) (H H0 : Hp) (z : D) (Q : VK) : Prop := ∀ (w : V) (H' H0' : Hp), Stp H H0 H' H0' → At K H0' w z → Q w H'
section
variable {K : PySem.W.Frag} {H H' H0 H0' : Hp} {z : D} {Q : VK}
theorem Bk.here (b : Bk K H H0 z Q) (s : Same H0 H) {w : V} (h : At K H0 w z) : Q w H := b w H H0 (Stp.refl s) h
theorem Bk.step (b : Bk K H H0 z Q) (x : Stp H H0 H' H0') : Bk K H' H0' z Q := fun w _ _ y h => b w _ _ (x.trans y) h
theorem Bk.tup (b : Bk K H H0 z Q) (s : Same H0 H) {vs : List V} {ds : List D} (e : z = .tup ds) (h : AtL K H0 vs ds) {p : Addr} (hp : H p = none) : Q (.ref p) (upd H p (.tup vs)) := by
  subst e
  exact b _ _ _ (Stp.new s hp) (.tup (.inl (.inl upd_same)) (h.mono (same_new (s.free hp))))
theorem Bk.lst (b : Bk K H H0 z Q) (s : Same H0 H) {vs : List V} {ds : List D} (e : z = .lst ds) (h : AtL K H0 vs ds) {p : Addr} (hp : H p = none) : Q (.ref p) (upd H p (.lst vs)) := by
  subst e
  exact b _ _ _ (Stp.new s hp) (.lst (.inl (.inl upd_same)) (h.mono (same_new (s.free hp))))
end

/-! ### judgements -/
/-- a value -/
def EvE (K : PySem.W.Frag) (te : TE) (es : Es) (z : D) : Prop := ∀ (σ : L2.St) (H H0 F : Hp), Sta K σ H H0 F es → ∀ Q : VK, Bk K H H0 z Q → te σ H Q
/-- a new list, untold -/
def EvF (K : PySem.W.Frag) (te : TE) (es : Es) (ds : List D) : Prop := ∀ (σ : L2.St) (H H0 F : Hp), Sta K σ H H0 F es → ∀ Q : VK,
  (∀ (p : Addr) (vs : List V) (H' H0' : Hp), H p = none → Stp H H0 H' H0' → H' p = some (.lst vs) → H0' p = none → AtL K H0' vs ds → Q (.ref p) H') → te σ H Q
/-- a test -/
def EvT (K : PySem.W.Frag) (tt : TT) (es : Es) (b : Bool) : Prop := ∀ (σ : L2.St) (H H0 F : Hp), Sta K σ H H0 F es → ∀ Q : Bool → Hp → Prop, (∀ H' H0' : Hp, Stp H H0 H' H0' → Q b H') → tt σ H Q
/-- arguments -/
def EvA (K : PySem.W.Frag) (ta : TA) (es : Es) (ds : List D) : Prop := ∀ (σ : L2.St) (H H0 F : Hp), Sta K σ H H0 F es → ∀ Q : List V → Hp → Prop, (∀ (vs : List V) (H' H0' : Hp), Stp H H0 H' H0' → AtL K H0' vs ds → Q vs H') → ta σ H Q
/-- operators by values -/
def RvE (K : PySem.W.Frag) (r : R2) (x y z : D) : Prop := ∀ (u v : V) (H H0 : Hp), Same H0 H → At K H0 u x → At K H0 v y → ∀ Q : VK, Bk K H H0 z Q → r u v H Q
def RuE (K : PySem.W.Frag) (r : V → Hp → VK → Prop) (x z : D) : Prop := ∀ (u : V) (H H0 : Hp), Same H0 H → At K H0 u x → ∀ Q : VK, Bk K H H0 z Q → r u H Q
def RcE (K : PySem.W.Frag) (r : List V → Hp → VK → Prop) (ds : List D) (z : D) : Prop := ∀ (vs : List V) (H H0 : Hp), Same H0 H → AtL K H0 vs ds → ∀ Q : VK, Bk K H H0 z Q → r vs H Q
/-- a value, and the slots behind it -/
def EvX (K : PySem.W.Frag) (te : TE) (es : Es) (P : D → Es → Prop) : Prop := ∀ (σ : L2.St) (H H0 F : Hp), Sta K σ H H0 F es → ∀ Q : VK,
  (∀ (v : V) (H' H0' : Hp) (d : D) (es' : Es), P d es' → Sta K σ H' H0' F es' → Same H0 H0' → At K H0' v d → Q v H') → te σ H Q

section
variable {K : PySem.W.Frag} {es : Es} {ta tb te tc tx : TE} {t u : TT} {x y z d : D} {r : R2} {ds : List D}
theorem EvE.toX (h : EvE K te es z) : EvX K te es fun d es' => d = z ∧ es' = es := fun σ H H0 F s Q q => h σ H H0 F s Q fun w H' H0' x a => q w H' H0' z es ⟨rfl, rfl⟩ (s.stp x) x.b a
theorem own_ne {σ : L2.St} {H H0 F : Hp} (s : Sta K σ H H0 F es) {p : Addr} (h : H p = none) (i : Nat) : ¬ OwnAt σ es i p := fun o => by
  obtain ⟨⟨u, e⟩, _⟩ := s.ownH o
  rw [h] at e
  cases e
theorem stp_tell {H H0 H' H0' : Hp} {p : Addr} {o : HO} (x : Stp H H0 H' H0') (h : H p = none) (h' : H' p = some o) (h0 : H0' p = none) : Stp H H0 H' (upd H0' p o) :=
  ⟨x.a, x.b.trans (same_new h0), fun a u e => by
    by_cases q : a = p
    · subst q
      rw [upd_same] at e
      cases e
      exact h'
    · rw [upd_ne q] at e
      exact x.c a u e, fun q u e n => by rw [upd_ne (ne_of_none e h)]; exact x.n q u e n⟩
theorem EvF.e (h : EvF K te es ds) : EvE K te es (.lst ds) := fun σ H H0 F s Q q => h σ H H0 F s Q fun p vs H' H0' hp x h1 h2 a =>
  q _ _ _ (stp_tell x hp h1 h2) (.lst (.inl (.inl upd_same)) (a.mono (same_new h2)))
theorem ev_is (h : EvE K te es z) (e : z = d) : EvE K te es d := e ▸ h
theorem et_is {a b : Bool} (h : EvT K t es a) (e : a = b) : EvT K t es b := e ▸ h
theorem ef_is {cs : List D} (h : EvF K te es ds) (e : ds = cs) : EvF K te es cs := e ▸ h

theorem ev_var {i : Nat} (h : es[i]? = some (.val d)) : EvE K (tVar i) es d := fun σ H H0 F s Q q => by
  obtain ⟨v, e, a⟩ := s.val i d h
  exact ⟨v, e, q.here s.h0 a⟩
theorem ev_int {i : Int} : EvE K (tC (.int i)) es (.int i) := fun _ _ _ _ s _ q => q.here s.h0 .int
theorem ev_bl {b : Bool} : EvE K (tC (.bl b)) es (.bl b) := fun _ _ _ _ s _ q => q.here s.h0 .bl
theorem ev_non : EvE K (tC .non) es .non := fun _ _ _ _ s _ q => q.here s.h0 .non
theorem ev_str {b : Str} : EvE K (tC (.str b)) es (.str b) := fun _ _ _ _ s _ q => q.here s.h0 .str
theorem ev_ty {n : String} : EvE K (tC (.ty n)) es (.ty n) := fun _ _ _ _ s _ q => q.here s.h0 .ty
theorem ev_adr {a : Addr} : EvE K (tC (.ref a)) es (.adr a) := fun _ _ _ _ s _ q => q.here s.h0 .adr
theorem ev_op (ha : EvE K ta es x) (hb : EvE K tb es y) (hr : RvE K r x y z) : EvE K (tOp r ta tb) es z := fun σ H H0 F s Q q =>
  ha σ H H0 F s _ fun u H1 H01 s1 a1 => hb σ H1 H01 F (s.stp s1) _ fun v H2 H02 s2 a2 => hr u v H2 H02 s2.c (a1.mono s2.b) a2 Q (q.step (s1.trans s2))
theorem ev_un {r : V → Hp → VK → Prop} (ha : EvE K ta es x) (hr : RuE K r x z) : EvE K (tUn r ta) es z := fun σ H H0 F s Q q =>
  ha σ H H0 F s _ fun u H1 H01 s1 a1 => hr u H1 H01 s1.c a1 Q (q.step s1)
theorem ev_cb {r : List V → Hp → VK → Prop} {tl : TA} (ha : EvA K tl es ds) (hr : RcE K r ds z) : EvE K (tCB r tl) es z := fun σ H H0 F s Q q =>
  ha σ H H0 F s _ fun u H1 H01 s1 a1 => hr u H1 H01 s1.c a1 Q (q.step s1)
theorem ea_nil : EvA K tNil es [] := fun _ H H0 _ s _ q => q [] H H0 (Stp.refl s.h0) .nil
theorem ea_cons {tr : TA} (h : EvE K ta es x) (hr : EvA K tr es ds) : EvA K (tCons ta tr) es (x :: ds) := fun σ H H0 F s Q q =>
  h σ H H0 F s _ fun u H1 H01 s1 a1 => hr σ H1 H01 F (s.stp s1) _ fun vs H2 H02 s2 a2 => q _ H2 H02 (s1.trans s2) (.cons (a1.mono s2.b) a2)
theorem ea1 (h : EvE K ta es x) : EvA K (tCons ta tNil) es [x] := ea_cons h ea_nil
theorem ea2 (h : EvE K ta es x) (h2 : EvE K tb es y) : EvA K (tCons ta (tCons tb tNil)) es [x, y] := ea_cons h (ea1 h2)
theorem ea3 (h : EvE K ta es x) (h2 : EvE K tb es y) (h3 : EvE K tc es z) : EvA K (tCons ta (tCons tb (tCons tc tNil))) es [x, y, z] := ea_cons h (ea2 h2 h3)
/-- *e among the items -/
theorem ea_starT {tr : TA} {cs : List D} (h : EvE K ta es (.tup cs)) (hr : EvA K tr es ds) : EvA K (StX.tStar K ta tr) es (cs ++ ds) := fun σ H H0 F s Q q =>
  h σ H H0 F s _ fun u H1 H01 s1 a1 => by
    cases a1 with
    | tup hs hl => exact ⟨_, _, rfl, .inl (same_t s1.c hs), hr σ H1 H01 F (s.stp s1) _ fun vs H2 H02 s2 a2 => q _ H2 H02 (s1.trans s2) ((hl.mono s2.b).app a2)⟩
theorem ea_starL {tr : TA} {cs : List D} (h : EvE K ta es (.lst cs)) (hr : EvA K tr es ds) : EvA K (StX.tStar K ta tr) es (cs ++ ds) := fun σ H H0 F s Q q =>
  h σ H H0 F s _ fun u H1 H01 s1 a1 => by
    cases a1 with
    | lst hs hl => exact ⟨_, _, rfl, .inr (s1.c.seq hs), hr σ H1 H01 F (s.stp s1) _ fun vs H2 H02 s2 a2 => q _ H2 H02 (s1.trans s2) ((hl.mono s2.b).app a2)⟩
theorem sz_le {n : Nat} (h : n ≤ 100000) : n ≤ sizeLine := Nat.le_trans h (by decide)
theorem sz_lt {n : Nat} (h : n < 100000) : n < sizeLine := Nat.lt_of_lt_of_le h (by decide)
theorem ev_tup {tl : TA} (h : EvA K tl es ds) (hl : ds.length ≤ 100000) : EvE K (tTup tl) es (.tup ds) := fun σ H H0 F s Q q =>
  h σ H H0 F s _ fun vs H1 H01 s1 a1 => ⟨by rw [a1.length]; exact sz_le hl, fun _ hp => (q.step s1).tup s1.c rfl a1 hp⟩
theorem ef_lst {tl : TA} (h : EvA K tl es ds) (hl : ds.length ≤ 100000) : EvF K (tLst tl) es ds := fun σ H H0 F s Q q =>
  h σ H H0 F s _ fun vs H1 H01 s1 a1 => ⟨by rw [a1.length]; exact sz_le hl, fun p hp => q p vs _ H01 (s1.a.free hp) (s1.trans (Stp.new' s1.c hp)) upd_same (s1.c.free hp) a1⟩
theorem ev_lst {tl : TA} (h : EvA K tl es ds) (hl : ds.length ≤ 100000) : EvE K (tLst tl) es (.lst ds) := (ef_lst h hl).e

/-! ints -/
theorem rv_I0 {g : Int → Int → Int} {i j : Int} : RvE K (rI0 fun i j => .int (g i j)) (.int i) (.int j) (.int (g i j)) := fun u v H H0 s a b Q q => by
  cases a; cases b
  exact ⟨i, j, rfl, rfl, q.here s .int⟩
theorem rv_I {C : Int → Int → Prop} {g : Int → Int → Int} {i j : Int} (hc : C i j) : RvE K (rI C fun i j => .int (g i j)) (.int i) (.int j) (.int (g i j)) := fun u v H H0 s a b Q q => by
  cases a; cases b
  exact ⟨i, j, rfl, rfl, hc, q.here s .int⟩
theorem rv_B0 {g : Int → Int → Bool} {i j : Int} : RvE K (rI0 fun i j => .bl (g i j)) (.int i) (.int j) (.bl (g i j)) := fun u v H H0 s a b Q q => by
  cases a; cases b
  exact ⟨i, j, rfl, rfl, q.here s .bl⟩
theorem rv_eqI {i j : Int} : RvE K rEq (.int i) (.int j) (.bl (decide (i = j))) := fun u v H H0 s a b Q q => by
  cases a; cases b
  refine ⟨rfl, ?_⟩
  have e : decide (V.int i = V.int j) = decide (i = j) := by
    by_cases h : i = j
    · subst h; simp
    · have : ¬ V.int i = V.int j := fun z => h (V.int.inj z)
      rw [decide_eq_false h, decide_eq_false this]
  rw [e]
  exact q.here s .bl
theorem rv_neI {i j : Int} : RvE K rNe (.int i) (.int j) (.bl (!decide (i = j))) := fun u v H H0 s a b Q q => by
  cases a; cases b
  refine ⟨rfl, ?_⟩
  have e : decide (V.int i = V.int j) = decide (i = j) := by
    by_cases h : i = j
    · subst h; simp
    · have : ¬ V.int i = V.int j := fun z => h (V.int.inj z)
      rw [decide_eq_false h, decide_eq_false this]
  rw [e]
  exact q.here s .bl
theorem ru_neg {i : Int} : RuE K (rU fun i => .int (-i)) (.int i) (.int (-i)) := fun u H H0 s a Q q => by
  cases a
  exact ⟨i, rfl, q.here s .int⟩
/-- a[i], a tuple, a list -/
theorem atI_get? {α : Type} {xs : List α} {i : Int} {v : α} (h : atI xs i = some v) : ∃ j, xs[j]? = some v ∧ ixN xs.length i = some j := by
  unfold atI at h
  cases e : ixN xs.length i with
  | none => rw [e] at h; cases h
  | some j => rw [e] at h; exact ⟨j, h, rfl⟩
theorem AtL.atI {H : Hp} {vs : List V} {i : Int} (l : AtL K H vs ds) (h : L2.atI ds i = some d) : ∃ v, L2.atI vs i = some v ∧ At K H v d := by
  obtain ⟨j, e, n⟩ := atI_get? h
  obtain ⟨v, e2, a⟩ := l.get e
  refine ⟨v, ?_, a⟩
  unfold L2.atI
  rw [l.length, n]
  exact e2
theorem rv_ixT {i : Int} (h : atI ds i = some d) : RvE K (rIxT K) (.tup ds) (.int i) d := fun u v H H0 s a b Q q => by
  cases a with
  | tup hs hl =>
    cases b
    obtain ⟨w, e, aw⟩ := hl.atI h
    exact ⟨_, _, i, w, rfl, rfl, same_t s hs, e, q.here s aw⟩
theorem rv_ixL {i : Int} (h : atI ds i = some d) : RvE K (rIxL K) (.lst ds) (.int i) d := fun u v H H0 s a b Q q => by
  cases a with
  | lst hs hl =>
    cases b
    obtain ⟨w, e, aw⟩ := hl.atI h
    exact ⟨_, _, i, w, rfl, rfl, s.seq hs, e, q.here s aw⟩
/-- an attribute that is a slot -/
theorem ev_sl {C p : Addr} {f : Str} {i : Nat} {fs : List D} (h : EvE K ta es (.obj C fs)) (c : SCls K C) (sl : Slot1 K C f p i) (e : fs[i]? = some d) : EvE K (tSl K ta f) es d := fun σ H H0 F s Q q =>
  h σ H H0 F s _ fun u H1 H01 s1 a1 => by
    cases a1 with
    | obj hs hl =>
      obtain ⟨v, e1, a⟩ := hl.get e
      exact ⟨_, C, _, p, _, i, v, rfl, same_slt s1.c hs, c, sl, by rw [List.getElem?_map, e1]; rfl, (q.step s1).here s1.c a⟩

/-! tests -/
theorem et_test {b : Bool} (h : EvE K te es (.bl b)) : EvT K (tTest te) es b := fun σ H H0 F s Q q => h σ H H0 F s _ fun w H1 H01 s1 a1 => by
  cases a1
  exact ⟨b, rfl, q H1 H01 s1⟩
theorem et_B {b : Bool} (h : EvE K te es (.bl b)) : EvT K (tB te) es b := fun σ H H0 F s Q q => h σ H H0 F s _ fun w H1 H01 s1 a1 => by
  cases a1
  exact ⟨b, rfl, q H1 H01 s1⟩
theorem et_yes : EvT K tYes es true := fun σ H H0 F s Q q => q H H0 (Stp.refl s.h0)
theorem et_not {a : Bool} (h : EvT K t es a) : EvT K (tNot t) es (!a) := fun σ H H0 F s Q q => h σ H H0 F s _ fun H1 H01 s1 => q H1 H01 s1
theorem et_and {a b : Bool} (h1 : EvT K t es a) (h2 : a = true → EvT K u es b) : EvT K (tAnd t u) es (a && b) := fun σ H H0 F s Q q => h1 σ H H0 F s _ fun H1 H01 s1 => by
  cases a with
  | true => exact h2 rfl σ H1 H01 F (s.stp s1) _ fun H2 H02 s2 => q H2 H02 (s1.trans s2)
  | false => exact q H1 H01 s1
theorem et_or {a b : Bool} (h1 : EvT K t es a) (h2 : a = false → EvT K u es b) : EvT K (tOr t u) es (a || b) := fun σ H H0 F s Q q => h1 σ H H0 F s _ fun H1 H01 s1 => by
  cases a with
  | false => exact h2 rfl σ H1 H01 F (s.stp s1) _ fun H2 H02 s2 => q H2 H02 (s1.trans s2)
  | true => exact q H1 H01 s1
theorem ev_and {a b : Bool} (h1 : EvE K ta es (.bl a)) (h2 : a = true → EvE K tb es (.bl b)) : EvE K (tAndV ta tb) es (.bl (a && b)) := fun σ H H0 F s Q q => h1 σ H H0 F s _ fun w H1 H01 s1 a1 => by
  cases a1
  refine ⟨a, rfl, ?_⟩
  cases a with
  | true => exact h2 rfl σ H1 H01 F (s.stp s1) Q (q.step s1)
  | false => exact (q.step s1).here s1.c .bl
theorem ev_or {a b : Bool} (h1 : EvE K ta es (.bl a)) (h2 : a = false → EvE K tb es (.bl b)) : EvE K (tOrV ta tb) es (.bl (a || b)) := fun σ H H0 F s Q q => h1 σ H H0 F s _ fun w H1 H01 s1 a1 => by
  cases a1
  refine ⟨a, rfl, ?_⟩
  cases a with
  | false => exact h2 rfl σ H1 H01 F (s.stp s1) Q (q.step s1)
  | true => exact (q.step s1).here s1.c .bl
theorem ev_not {a : Bool} (h1 : EvE K ta es (.bl a)) : EvE K (tNotV ta) es (.bl (!a)) := fun σ H H0 F s Q q => h1 σ H H0 F s _ fun w H1 H01 s1 a1 => by
  cases a1
  exact ⟨a, rfl, (q.step s1).here s1.c .bl⟩
theorem ev_if {b : Bool} (h : EvT K t es b) (h1 : b = true → EvE K ta es z) (h2 : b = false → EvE K tb es z) : EvE K (tIf t ta tb) es z := fun σ H H0 F s Q q => h σ H H0 F s _ fun H1 H01 s1 => by
  cases b with
  | true => exact h1 rfl σ H1 H01 F (s.stp s1) Q (q.step s1)
  | false => exact h2 rfl σ H1 H01 F (s.stp s1) Q (q.step s1)
end
end FA
set_option Elab.async false
set_option autoImplicit false
set_option linter.all false
set_option maxRecDepth 100000
/-! What is walked, comprehensions, statements, defs. -/
namespace FA
open PySem L2 SlX

/-- the iterator J yields xs, one after another, as long as what is told stands -/
def Yl (K : PySem.W.Frag) (J : It) (H0 : Hp) (xs : List D) : Prop := ∀ H1 H01 : Hp, Same H0 H01 → Same H01 H1 →
  (∀ (i : Nat) (x : D), xs[i]? = some x → J.go i H1 ∧ ∀ (v : V) (H2 : Hp), J.yld i H1 v H2 → ∃ H02 : Hp, Stp H1 H01 H2 H02 ∧ At K H02 v x) ∧ J.stop xs.length H1
theorem Yl.mono {K : PySem.W.Frag} {J : It} {H0 H0' : Hp} {xs : List D} (y : Yl K J H0 xs) (s : Same H0 H0') : Yl K J H0' xs := fun H1 H01 a b => y H1 H01 (s.trans a) b
def IterE (K : PySem.W.Frag) (wi : TI) (es : Es) (xs : List D) : Prop := ∀ (σ : L2.St) (H H0 F : Hp), Sta K σ H H0 F es → ∀ R : It → Hp → Prop,
  (∀ (J : It) (H' H0' : Hp), Stp H H0 H' H0' → Yl K J H0' xs → R J H') → wi σ H R
section
variable {K : PySem.W.Frag} {es : Es} {te ta tb : TE} {xs ys : List D}
theorem sqT_inj {H : Hp} {a : Addr} {xs ys : List V} (h : SqT K H a xs) (h' : SqT K H a ys) (hk : K.lookup a = none ∨ H a = none) : xs = ys := by
  have key : ∀ {u w : HO}, Rd H a u → Rd H a w → (∀ o z, u ≠ .frz o z) → (∀ o z, w ≠ .frz o z) → u = w := fun {u w} r r' nu nw => by
    rcases r with r | ⟨o, r⟩
    · rcases r' with r' | ⟨o', r'⟩
      · rw [r] at r'; cases r'; rfl
      · rw [r] at r'; cases r'; exact absurd rfl (nu _ _)
    · rcases r' with r' | ⟨o', r'⟩
      · rw [r] at r'; cases r'; exact absurd rfl (nw _ _)
      · rw [r] at r'; cases r'; rfl
  rcases h with r | ⟨o, its, n, l, hc, hd, hz, rv⟩
  · rcases h' with r' | ⟨o', its', n', l', _⟩
    · have e := key r r' (fun _ _ z => nomatch z) (fun _ _ z => nomatch z)
      cases e; rfl
    · rcases hk with q | q
      · rw [q] at l'; cases l'
      · rcases r with r | ⟨_, r⟩ <;> (rw [q] at r; cases r)
  · rcases h' with r' | ⟨o', its', n', l', hc', hd', hz', rv'⟩
    · rcases hk with q | q
      · rw [q] at l; cases l
      · rcases r' with r' | ⟨_, r'⟩ <;> (rw [q] at r'; cases r')
    · rw [l] at l'; cases l'
      rw [hd] at hd'; cases hd'
      exact rv.inj rv'
theorem it_tup (h : EvE K te es (.tup xs)) : IterE K (iTup K te) es xs := fun σ H H0 F s R q => h σ H H0 F s _ fun w H1 H01 s1 a1 => by
  cases a1 with
  | tup hs hl =>
    refine ⟨_, rfl, ⟨_, same_t s1.c hs⟩, q _ H1 H01 s1 fun H2 H02 sa sb => ⟨fun i x e => ?_, ?_⟩⟩
    · obtain ⟨v, e1, a⟩ := hl.get e
      have hs2 := same_t sb (same_t sa hs)
      refine ⟨⟨_, v, hs2, e1⟩, fun u H3 ⟨e2, y⟩ => ?_⟩
      subst e2
      have e3 := y _ hs2
      rw [e1] at e3
      cases e3
      exact ⟨H02, Stp.refl sb, a.mono sa⟩
    · exact ⟨_, same_t sb (same_t sa hs), by rw [hl.length]; exact Nat.le_refl _⟩
theorem it_lst (h : EvE K te es (.lst xs)) : IterE K (iList K te) es xs := fun σ H H0 F s R q => h σ H H0 F s _ fun w H1 H01 s1 a1 => by
  cases a1 with
  | lst hs hl =>
    refine ⟨_, rfl, ⟨_, s1.c.seq hs⟩, q _ H1 H01 s1 fun H2 H02 sa sb => ⟨fun i x e => ?_, ?_⟩⟩
    · obtain ⟨v, e1, a⟩ := hl.get e
      have hs2 := sb.seq (sa.seq hs)
      refine ⟨⟨_, v, hs2, e1⟩, fun u H3 ⟨e2, y⟩ => ?_⟩
      subst e2
      have e3 := y _ hs2
      rw [e1] at e3
      cases e3
      exact ⟨H02, Stp.refl sb, a.mono sa⟩
    · exact ⟨_, sb.seq (sa.seq hs), by rw [hl.length]; exact Nat.le_refl _⟩
theorem yl_range {lo : Int} {n : Nat} {H0 : Hp} : Yl K (Itr lo n) H0 ((List.range n).map fun (i : Nat) => D.int (lo + i)) := fun H1 H01 _ sb => ⟨fun i x e => by
  rw [List.getElem?_map] at e
  have hi : i < n := by
    by_cases h : i < n
    · exact h
    · rw [List.getElem?_eq_none (by simp; omega)] at e
      cases e
  rw [List.getElem?_range hi] at e
  cases e
  refine ⟨hi, fun v H2 ⟨e1, e2⟩ => ?_⟩
  subst e1 e2
  exact ⟨H01, Stp.refl sb, .int⟩, by show n ≤ _; simp⟩
theorem it_rng1 {n : Int} (h : EvE K te es (.int n)) (h1 : 0 ≤ n) (h2 : n ≤ 1000000) : IterE K (iRng1 (tCons te tNil)) es ((List.range n.toNat).map fun (i : Nat) => D.int (i : Int)) := fun σ H H0 F s R q => h σ H H0 F s _ fun w H1 H01 s1 a1 => by
  cases a1
  refine ⟨n, rfl, by omega, by omega, q _ H1 H01 s1 ?_⟩
  have y := yl_range (K := K) (lo := 0) (n := n.toNat) (H0 := H01)
  have e : ((List.range n.toNat).map fun (i : Nat) => D.int (0 + (i : Int))) = ((List.range n.toNat).map fun (i : Nat) => D.int (i : Int)) := List.map_congr_left fun i _ => by rw [Int.zero_add]
  rw [e] at y
  exact y
theorem it_rng2 {m n : Int} (h : EvE K ta es (.int m)) (h' : EvE K tb es (.int n)) (h1 : -1000000 ≤ m ∧ m ≤ 1000000) (h2 : -1000000 ≤ n ∧ n ≤ 1000000) : IterE K (iRng2 (tCons ta (tCons tb tNil))) es ((List.range (n - m).toNat).map fun (i : Nat) => D.int (m + i)) :=
  fun σ H H0 F s R q => h σ H H0 F s _ fun w H1 H01 s1 a1 => h' σ H1 H01 F (s.stp s1) _ fun w2 H2 H02 s2 a2 => by
  cases a1; cases a2
  exact ⟨m, n, rfl, ⟨by omega, by omega, by omega, by omega⟩, q _ H2 H02 (s1.trans s2) yl_range⟩
/-- enumerate(list) -/
def enumD (xs : List D) : List D := (xs.zipIdx).map fun p => D.tup [.int (p.2 : Int), p.1]
theorem enumD_get {i : Nat} {z : D} (h : (enumD xs)[i]? = some z) : ∃ x, xs[i]? = some x ∧ z = .tup [.int (i : Int), x] := by
  unfold enumD at h
  rw [List.getElem?_map, List.getElem?_zipIdx] at h
  cases e : xs[i]? with
  | none => rw [e] at h; cases h
  | some x =>
    rw [e] at h
    simp at h
    exact ⟨x, rfl, h.symm⟩
theorem it_enum (h : EvE K te es (.lst xs)) : IterE K (iEnum K (tCons te tNil)) es (enumD xs) := fun σ H H0 F s R q => h σ H H0 F s _ fun w H1 H01 s1 a1 => by
  cases a1 with
  | lst hs hl =>
    refine ⟨_, _, rfl, s1.c.seq hs, q _ H1 H01 s1 fun H2 H02 sa sb => ⟨fun i z e => ?_, ?_⟩⟩
    · obtain ⟨x, e0, rfl⟩ := enumD_get e
      obtain ⟨v, e1, a⟩ := hl.get e0
      have hs2 := sb.seq (sa.seq hs)
      refine ⟨⟨_, v, hs2, e1⟩, fun u H3 ⟨T, y, eu, hT, e2, yy⟩ => ?_⟩
      subst eu e2
      have e3 := yy _ hs2
      rw [e1] at e3
      cases e3
      refine ⟨_, Stp.new sb hT, .tup (.inl (.inl upd_same)) (.cons .int (.cons ((a.mono sa).mono (same_new (sb.free hT))) .nil))⟩
    · exact ⟨_, sb.seq (sa.seq hs), by rw [hl.length]; unfold enumD; simp⟩
/-- zip of two tuples -/
def zipD (xs ys : List D) : List D := (xs.zip ys).map fun p => D.tup [p.1, p.2]
theorem zipD_get {i : Nat} {z : D} (h : (zipD xs ys)[i]? = some z) : ∃ x y, xs[i]? = some x ∧ ys[i]? = some y ∧ z = .tup [x, y] := by
  unfold zipD at h
  rw [List.getElem?_map] at h
  cases e : (xs.zip ys)[i]? with
  | none => rw [e] at h; cases h
  | some p =>
    rw [e] at h
    cases h
    rw [List.getElem?_zip_eq_some] at e
    exact ⟨_, _, e.1, e.2, rfl⟩
theorem it_zipT (h : EvE K ta es (.tup xs)) (h' : EvE K tb es (.tup ys)) : IterE K (RZ.iZipA K (tCons ta (tCons tb tNil))) es (zipD xs ys) := fun σ H H0 F s R q => h σ H H0 F s _ fun w H1 H01 s1 a1 =>
  h' σ H1 H01 F (s.stp s1) _ fun w2 H2 H02 s2 a2 => by
  cases a1 with
  | tup hs hl =>
    cases a2 with
    | tup hs' hl' =>
      refine ⟨_, _, _, _, rfl, .inr ⟨same_t s2.c (same_t s2.b hs), same_t s2.c hs', q _ H2 H02 (s1.trans s2) fun H3 H03 sa sb => ⟨fun i z e => ?_, ?_⟩⟩⟩
      · obtain ⟨x, y, e0, e0', rfl⟩ := zipD_get e
        obtain ⟨v, e1, a⟩ := (hl.mono s2.b).get e0
        obtain ⟨v', e1', a'⟩ := hl'.get e0'
        have g1 := same_t sb (same_t sa (same_t s2.b hs))
        have g2 := same_t sb (same_t sa hs')
        refine ⟨⟨_, _, v, v', g1, g2, e1, e1'⟩, fun u H4 ⟨T, y1, y2, eu, hT, e2, yy, yy'⟩ => ?_⟩
        subst eu e2
        have e3 := yy _ g1
        rw [e1] at e3
        cases e3
        have e4 := yy' _ g2
        rw [e1'] at e4
        cases e4
        exact ⟨_, Stp.new sb hT, .tup (.inl (.inl upd_same)) (.cons ((a.mono sa).mono (same_new (sb.free hT))) (.cons ((a'.mono sa).mono (same_new (sb.free hT))) .nil))⟩
      · refine ⟨_, _, same_t sb (same_t sa (same_t s2.b hs)), same_t sb (same_t sa hs'), ?_⟩
        rw [hl.length, hl'.length]
        unfold zipD
        simp
        omega
end

/-! ### targets -/
/-- the target g, given x, makes of es the slots es'; it touches the slots vs alone -/
def GE (K : PySem.W.Frag) (g : TG) (vs : List Nat) (es : Es) (x : D) (es' : Es) : Prop := ∀ (v : V) (σ : L2.St) (H H0 F : Hp), Sta K σ H H0 F es → At K H0 v x → ∀ Q : L2.St → Hp → Prop,
  (∀ σ' : L2.St, Sta K σ' H H0 F es' → σ'.length = σ.length → (∀ i, i ∉ vs → σ'[i]? = σ[i]?) → Q σ' H) → g v σ H Q
def GsE (K : PySem.W.Frag) (g : TGs) (vs : List Nat) (es : Es) (xs : List D) (es' : Es) : Prop := ∀ (us : List V) (σ : L2.St) (H H0 F : Hp), Sta K σ H H0 F es → AtL K H0 us xs → ∀ Q : L2.St → Hp → Prop,
  (∀ σ' : L2.St, Sta K σ' H H0 F es' → σ'.length = σ.length → (∀ i, i ∉ vs → σ'[i]? = σ[i]?) → Q σ' H) → g us σ H Q
section
variable {K : PySem.W.Frag} {es es1 es2 : Es} {x : D} {xs : List D} {vs : List Nat}
theorem ge_name {i : Nat} (hi : i ∈ vs) : GE K (gName i) vs es x (es.set i (.val x)) := fun v σ H H0 F s a Q q => q _ (s.set a) (List.length_set ..) fun j hj => List.getElem?_set_ne fun e => hj (by rw [← e]; exact hi)
theorem gse_nil : GsE K gNil vs es [] es := fun us σ H H0 F s a Q q => by
  cases a
  exact ⟨rfl, q σ s rfl fun _ _ => rfl⟩
theorem gse_cons {g : TG} {gs : TGs} (h : GE K g vs es x es1) (hs : GsE K gs vs es1 xs es2) : GsE K (gCons g gs) vs es (x :: xs) es2 := fun us σ H H0 F s a Q q => by
  cases a with
  | cons a1 a2 => exact ⟨_, _, rfl, h _ σ H H0 F s a1 _ fun σ1 s1 l1 k1 => hs _ σ1 H H0 F s1 a2 _ fun σ2 s2 l2 k2 => q σ2 s2 (l2.trans l1) fun i hi => (k2 i hi).trans (k1 i hi)⟩
theorem ge_tup {gs : TGs} {n : Nat} (h : GsE K gs vs es xs es1) (hn : xs.length = n) : GE K (gTup K n gs) vs es (.tup xs) es1 := fun v σ H H0 F s a Q q => by
  cases a with
  | tup hs hl => exact ⟨_, _, rfl, same_t s.h0 hs, by rw [hl.length, hn], h _ σ H H0 F s hl Q q⟩
/-- two names -/
theorem ge_two {i j : Nat} {y : D} (hi : i ∈ vs) (hj : j ∈ vs) : GE K (gTup K 2 (gCons (gName i) (gCons (gName j) gNil))) vs es (.tup [x, y]) ((es.set i (.val x)).set j (.val y)) :=
  ge_tup (gse_cons (ge_name hi) (gse_cons (ge_name hj) gse_nil)) rfl
end

/-! ### comprehensions -/
theorem wipe_get (σ : L2.St) (i : Nat) : ∀ vs : List Nat, (wipe σ vs)[i]? = if i ∈ vs then (if i < σ.length then some none else none) else σ[i]?
  | [] => by simp [wipe]
  | v :: vs => by
    have ih := wipe_get σ i vs
    unfold wipe
    by_cases h : v = i
    · subst h
      rw [if_pos List.mem_cons_self]
      by_cases hl : v < σ.length
      · rw [if_pos hl]
        exact List.getElem?_set_self (by rw [wipe_length]; exact hl)
      · rw [if_neg hl]
        exact List.getElem?_eq_none (by rw [List.length_set, wipe_length]; omega)
    · rw [List.getElem?_set_ne h, ih]
      have e : (i ∈ v :: vs) ↔ i ∈ vs := by
        constructor
        · intro z
          rcases List.mem_cons.mp z with z | z
          · exact absurd z.symm h
          · exact z
        · exact List.mem_cons_of_mem _
      by_cases hm : i ∈ vs
      · rw [if_pos hm, if_pos (e.mpr hm)]
      · rw [if_neg hm, if_neg (fun z => hm (e.mp z))]
theorem wipe_same {σ σ' : L2.St} {vs : List Nat} (hl : σ'.length = σ.length) (h : ∀ i, i ∉ vs → σ'[i]? = (wipe σ vs)[i]?) : wipe σ' vs = wipe σ vs := by
  refine List.ext_getElem? fun i => ?_
  rw [wipe_get σ' i vs, wipe_get σ i vs]
  by_cases hm : i ∈ vs
  · rw [if_pos hm, if_pos hm, hl]
  · rw [if_neg hm, if_neg hm, h i hm, wipe_get, if_neg hm]
theorem Sta.wipe {K : PySem.W.Frag} {σ : L2.St} {H H0 F : Hp} {es : Es} (s : Sta K σ H H0 F es) : ∀ vs : List Nat, Sta K (L2.wipe σ vs) H H0 F (wipeE es vs)
  | [] => s
  | v :: vs => (s.wipe vs).wipe1 v
section
variable {K : PySem.W.Frag} {es : Es} {wi wi1 : TI} {g g1 : TG} {tt tt1 : TT} {te : TE} {vs vs1 : List Nat} {α β : Type}
theorem take_get {xs : List α} {n : Nat} (hn : n < xs.length) : xs.take (n + 1) = xs.take n ++ [xs[n]] := by
  rw [List.take_succ, List.getElem?_eq_getElem hn]; rfl
/-- [elt for target in iter if test] -/
theorem ef_lc_at (xs : List α) (e : α → D) (f : α → Bool) (h : α → D) (es' : α → Es) (σ : L2.St) (H H0 F : Hp) (s : Sta K σ H H0 F es)
    (hi : ∀ R : It → Hp → Prop, (∀ (J : It) (H' H0' : Hp), Stp H H0 H' H0' → Yl K J H0' (xs.map e) → R J H') → wi σ H R) (hg : ∀ x ∈ xs, GE K g vs (wipeE es vs) (e x) (es' x))
    (ht : ∀ x ∈ xs, EvT K tt (es' x) (f x)) (he : ∀ x ∈ xs, f x = true → EvE K te (es' x) (h x)) (hz : xs.length ≤ 100000) (Q : VK)
    (q : ∀ (p : Addr) (vs : List V) (H' H0' : Hp), H p = none → Stp H H0 H' H0' → H' p = some (.lst vs) → H0' p = none → AtL K H0' vs ((xs.filter f).map h) → Q (.ref p) H') : tLc wi g tt te vs σ H Q :=
  hi _ fun J H1 H01 s1 yl Dl hD => by
  have s' := s.stp s1
  -- the state at a turn
  let W : Nat → Nat → Hp → Prop := fun i m H' => m = xs.length - i ∧ i ≤ xs.length ∧ ∃ (H0' : Hp) (ws : List V), Stp H1 H01 H' H0' ∧ H' Dl = some (.lst ws) ∧ H0' Dl = none ∧ AtL K H0' ws (((xs.take i).filter f).map h)
  refine ⟨W, ⟨xs.length, rfl, Nat.zero_le _, H01, [], Stp.new' s'.h0 hD, upd_same, s'.h0.free hD, by simp; exact .nil⟩, ?_⟩
  rintro i m H2 ⟨rfl, hil, H02, ws, s2, hws, hn, al⟩
  obtain ⟨y1, y2⟩ := yl H2 H02 s2.b s2.c
  by_cases hlt : i < xs.length
  · refine .inr ?_
    obtain ⟨go, y⟩ := y1 i (e xs[i]) (by rw [List.getElem?_map, List.getElem?_eq_getElem hlt]; rfl)
    refine ⟨go, fun H' => W (i + 1) (xs.length - (i + 1)) H', fun H' w => ⟨_, by omega, w⟩, fun v H3 hy => ?_⟩
    obtain ⟨H03, s3, a3⟩ := y v H3 hy
    have s23 := s2.trans s3
    have st3 : Sta K (wipe σ vs) H3 H03 F (wipeE es vs) := (s'.stp s23).wipe vs
    have e4 : ∀ {c : Bool}, f xs[i] = c → ((xs.take (i + 1)).filter f).map h = ((xs.take i).filter f).map h ++ (if c = true then [h xs[i]] else []) := fun {c} hc => by
      rw [take_get hlt, List.filter_append, List.map_append, List.filter_cons, hc]
      cases c <;> rfl
    have n3 : ∀ {H' H0' : Hp}, Stp H2 H02 H' H0' → H' Dl = some (.lst ws) ∧ H0' Dl = none := fun {H' H0'} z => ⟨z.a _ _ hws, z.n _ _ hws hn⟩
    refine hg xs[i] (List.getElem_mem hlt) v _ H3 H03 F st3 a3 _ fun σ2 st4 l4 k4 => ⟨wipe_same (l4.trans (wipe_length σ vs)) k4, ?_⟩
    refine ht xs[i] (List.getElem_mem hlt) σ2 H3 H03 F st4 _ fun H4 H04 s4 => ?_
    cases hf : f xs[i] with
    | false =>
      have s24 := s3.trans s4
      show W (i + 1) (xs.length - (i + 1)) H4
      refine ⟨rfl, hlt, H04, ws, s2.trans s24, (n3 s24).1, (n3 s24).2, ?_⟩
      rw [e4 hf]
      simpa using al.mono s24.b
    | true =>
      show te σ2 H4 _
      refine he xs[i] (List.getElem_mem hlt) hf σ2 H4 H04 F (st4.stp s4) _ fun w H5 H05 s5 a5 => ?_
      have s25 := (s3.trans s4).trans s5
      refine ⟨ws, (n3 s25).1, ?_, rfl, hlt, H05, ws ++ [w], ?_, upd_same, (n3 s25).2, ?_⟩
      · rw [al.length, List.length_map]
        have z1 := List.length_filter_le f (xs.take i)
        have z2 : (xs.take i).length ≤ i := by rw [List.length_take]; omega
        exact sz_lt (by omega)
      · have s15 := s2.trans s25
        refine ⟨fun a o z => ?_, s15.b, fun a o z => ?_, s15.n⟩
        · rw [upd_ne (ne_of_none z hD)]; exact s15.a a o z
        · rw [upd_ne (ne_of_none z (n3 s25).2)]; exact s15.c a o z
      · rw [e4 hf]
        exact (al.mono s25.b).app (.cons a5 .nil)
  · have ei : i = xs.length := by omega
    subst ei
    refine .inl ⟨by simpa using y2, ?_⟩
    rw [List.take_length] at al
    exact q Dl ws H2 H02 (s1.a.free hD) (s1.trans s2) hws hn al
theorem ef_lc (xs : List α) (e : α → D) (f : α → Bool) (h : α → D) (es' : α → Es) (hi : IterE K wi es (xs.map e)) (hg : ∀ x ∈ xs, GE K g vs (wipeE es vs) (e x) (es' x))
    (ht : ∀ x ∈ xs, EvT K tt (es' x) (f x)) (he : ∀ x ∈ xs, f x = true → EvE K te (es' x) (h x)) (hz : xs.length ≤ 100000) : EvF K (tLc wi g tt te vs) es ((xs.filter f).map h) := fun σ H H0 F s Q q =>
  ef_lc_at xs e f h es' σ H H0 F s (fun R r => hi σ H H0 F s R r) hg ht he hz Q q
end
end FA
set_option Elab.async false
set_option autoImplicit false
set_option linter.all false
set_option maxRecDepth 100000
/-! Comprehensions of two clauses, statements, defs. -/
namespace FA
open PySem L2 SlX
section
variable {K : PySem.W.Frag} {es : Es} {wi wi1 : TI} {g g1 : TG} {tt tt1 : TT} {te : TE} {vs vs1 : List Nat} {α β : Type}
/-- [elt for target in iter] -/
theorem ef_lcm (xs : List α) (e : α → D) (h : α → D) (es' : α → Es) (hi : IterE K wi es (xs.map e)) (hg : ∀ x ∈ xs, GE K g vs (wipeE es vs) (e x) (es' x))
    (he : ∀ x ∈ xs, EvE K te (es' x) (h x)) (hz : xs.length ≤ 100000) : EvF K (tLc wi g tYes te vs) es (xs.map h) := by
  have := ef_lc (K := K) (tt := tYes) (te := te) xs e (fun _ => true) h es' hi hg (fun x _ => et_yes) (fun x hx _ => he x hx) hz
  rw [List.filter_eq_self.mpr (fun _ _ => rfl)] at this
  exact this
theorem wipeE_length (es : Es) : ∀ vs : List Nat, (wipeE es vs).length = es.length
  | [] => rfl
  | v :: vs => by unfold wipeE; rw [List.length_set, wipeE_length es vs]
/-- what two clauses give -/
def two (xs : List α) (f : α → Bool) (ys : α → List β) (k : α → β → Bool) (h : α → β → D) : List D := ((xs.filter f).map fun x => ((ys x).filter (k x)).map (h x)).flatten
theorem two_len (xs : List α) (f : α → Bool) (ys : α → List β) (k : α → β → Bool) (h : α → β → D) {n : Nat} (hn : ∀ x ∈ xs, (ys x).length ≤ n) : (two xs f ys k h).length ≤ xs.length * n := by
  induction xs with
  | nil => simp [two]
  | cons a r ih =>
    have ih := ih fun x hx => hn x (List.mem_cons_of_mem _ hx)
    have h1 := hn a List.mem_cons_self
    have h2 := List.length_filter_le (k a) (ys a)
    have e : (two (a :: r) f ys k h).length ≤ (ys a).length + (two r f ys k h).length := by
      unfold two
      rw [List.filter_cons]
      cases f a with
      | true => simp only [if_true, List.map_cons, List.flatten_cons, List.length_append, List.length_map]; omega
      | false => simp only [Bool.false_eq_true, if_false]; omega
    rw [List.length_cons, Nat.succ_mul]
    omega
theorem two_take {xs : List α} {f : α → Bool} {ys : α → List β} {k : α → β → Bool} {h : α → β → D} {i : Nat} (hi : i < xs.length) :
    two (xs.take (i + 1)) f ys k h = two (xs.take i) f ys k h ++ (if f xs[i] = true then ((ys xs[i]).filter (k xs[i])).map (h xs[i]) else []) := by
  unfold two
  rw [take_get hi, List.filter_append, List.map_append, List.flatten_append, List.filter_cons]
  cases f xs[i] with
  | true => simp
  | false => simp
/-- [elt for g in wi if tt for g1 in wi1 if tt1] -/
theorem ef_lc2 (xs : List α) (e : α → D) (f : α → Bool) (es' : α → Es) (ys : α → List β) (e1 : α → β → D) (k : α → β → Bool) (es2 : α → β → Es) (h : α → β → D)
    (hi : IterE K wi es (xs.map e)) (hg : ∀ x ∈ xs, GE K g vs (wipeE es vs) (e x) (es' x)) (ht : ∀ x ∈ xs, EvT K tt (es' x) (f x))
    (hi1 : ∀ x ∈ xs, f x = true → IterE K wi1 (es' x) ((ys x).map (e1 x))) (hg1 : ∀ x ∈ xs, f x = true → ∀ y ∈ ys x, GE K g1 vs1 (wipeE (es' x) vs1) (e1 x y) (es2 x y))
    (ht1 : ∀ x ∈ xs, f x = true → ∀ y ∈ ys x, EvT K tt1 (es2 x y) (k x y)) (he : ∀ x ∈ xs, f x = true → ∀ y ∈ ys x, k x y = true → EvE K te (es2 x y) (h x y))
    (n : Nat) (hn : ∀ x ∈ xs, (ys x).length ≤ n) (hz : xs.length * n ≤ 50000) (hz1 : n ≤ 40000) : EvF K (tLc2 wi g tt wi1 g1 tt1 te vs vs1) es (two xs f ys k h) := fun σ H H0 F s Q q =>
  hi σ H H0 F s _ fun J H1 H01 s1 yl Dl hD => by
  have s' := s.stp s1
  let W : Nat → Nat → Hp → Prop := fun i m H' => m = xs.length - i ∧ i ≤ xs.length ∧ ∃ (H0' : Hp) (ws : List V), Stp H1 H01 H' H0' ∧ H' Dl = some (.lst ws) ∧ H0' Dl = none ∧ AtL K H0' ws (two (xs.take i) f ys k h)
  refine ⟨W, ⟨xs.length, rfl, Nat.zero_le _, H01, [], Stp.new' s'.h0 hD, upd_same, s'.h0.free hD, by simp [two]; exact .nil⟩, ?_⟩
  rintro i m H2 ⟨rfl, hil, H02, ws, s2, hws, hn0, al⟩
  obtain ⟨y1, y2⟩ := yl H2 H02 s2.b s2.c
  by_cases hlt : i < xs.length
  · refine .inr ?_
    have mem := List.getElem_mem hlt
    obtain ⟨go, y⟩ := y1 i (e xs[i]) (by rw [List.getElem?_map, List.getElem?_eq_getElem hlt]; rfl)
    refine ⟨go, fun H' => W (i + 1) (xs.length - (i + 1)) H', fun H' w => ⟨_, by omega, w⟩, fun v H3 hy => ?_⟩
    obtain ⟨H03, s3, a3⟩ := y v H3 hy
    have fd : F Dl = none := s'.f.free hD
    have sd : ∀ {H' H0' : Hp} {us : List V}, Stp H1 H01 H' H0' → H' Dl = some (.lst us) → H0' Dl = none → Sta K (wipe σ vs) H' H0' (upd F Dl (.lst us)) (wipeE es vs) := fun {H' H0' us} x hx h0 =>
      ((s'.stp x).wipe vs).reF (fun a o z => by
        by_cases e : a = Dl
        · subst e
          rw [upd_same] at z
          cases z
          exact hx
        · rw [upd_ne e] at z
          exact (s'.stp x).f a o z) (fun a o z => by
        by_cases e : a = Dl
        · rw [e]; exact h0
        · rw [upd_ne e] at z
          exact (s'.stp x).ff a o z) fun c p oc => by
        obtain ⟨⟨u, hu⟩, _, _⟩ := (s'.wipe vs).ownH oc
        have e : p ≠ Dl := fun z => by rw [z, hD] at hu; cases hu
        rw [upd_ne e]
        exact ((s'.wipe vs).ownH oc).2.2
    have st3 : Sta K (wipe σ vs) H3 H03 (upd F Dl (.lst ws)) (wipeE es vs) := sd (s2.trans s3) (s3.a _ _ hws) (s3.n _ _ hws hn0)
    refine hg xs[i] mem v _ H3 H03 _ st3 a3 _ fun σ2 st4 l4 k4 => ⟨wipe_same (l4.trans (wipe_length σ vs)) k4, ?_⟩
    refine ht xs[i] mem σ2 H3 H03 _ st4 _ fun H4 H04 s4 => ?_
    have s24 := s3.trans s4
    have n4 : H4 Dl = some (.lst ws) ∧ H04 Dl = none := ⟨s24.a _ _ hws, s24.n _ _ hws hn0⟩
    cases hf : f xs[i] with
    | false =>
      show W (i + 1) (xs.length - (i + 1)) H4
      refine ⟨rfl, hlt, H04, ws, s2.trans s24, n4.1, n4.2, ?_⟩
      rw [two_take hlt, hf]
      simpa using al.mono s24.b
    | true =>
      show wi1 σ2 H4 _
      refine hi1 xs[i] mem hf σ2 H4 H04 _ (st4.stp s4) _ fun J1 H5 H05 s5 yl1 => ?_
      have st5 := (st4.stp s4).stp s5
      have s25 := s24.trans s5
      let A := two (xs.take i) f ys k h
      let W1 : Nat → Nat → Hp → Prop := fun j m H' => m = (ys xs[i]).length - j ∧ j ≤ (ys xs[i]).length ∧ ∃ (H0' : Hp) (us : List V), (Same H05 H0' ∧ Same H0' H' ∧ Same H1 H' ∧ (∀ p o, H1 p = some o → H01 p = none → H0' p = none) ∧ (∀ p o, H5 p = some o → p ≠ Dl → H' p = some o) ∧ (∀ p o, H5 p = some o → H05 p = none → H0' p = none)) ∧ H' Dl = some (.lst us) ∧ H0' Dl = none ∧
        AtL K H0' us (A ++ (((ys xs[i]).take j).filter (k xs[i])).map (h xs[i]))
      have s15 := s2.trans s25
      refine ⟨W1, ⟨_, rfl, Nat.zero_le _, H05, ws, ⟨Same.refl _, s15.c, s15.a, s15.n, fun _ _ z _ => z, fun _ _ _ z => z⟩, s25.a _ _ hws, s25.n _ _ hws hn0, by simpa using al.mono s25.b⟩, ?_⟩
      rintro j m H6 ⟨rfl, hjl, H06, us, ⟨b1, b2, b3, b4, b5, b6⟩, hus, hn6, al6⟩
      obtain ⟨z1, z2⟩ := yl1 H6 H06 b1 b2
      by_cases hjt : j < (ys xs[i]).length
      · refine .inr ?_
        have memj := List.getElem_mem hjt
        obtain ⟨go1, yy⟩ := z1 j (e1 xs[i] (ys xs[i])[j]) (by rw [List.getElem?_map, List.getElem?_eq_getElem hjt]; rfl)
        refine ⟨go1, fun H' => W1 (j + 1) ((ys xs[i]).length - (j + 1)) H', fun H' w => ⟨_, by omega, w⟩, fun v1 H7 hy1 => ?_⟩
        obtain ⟨H07, s7, a7⟩ := yy v1 H7 hy1
        have st6 : Sta K σ2 H6 H06 (upd F Dl (.lst us)) (es' xs[i]) := by
          have od : ∀ c, ¬ OwnAt σ2 (es' xs[i]) c Dl := fun c oc => by
            have := (st5.ownH oc).2.2
            rw [upd_same] at this
            cases this
          have fo : ∀ p, upd F Dl (.lst ws) p = none → upd F Dl (.lst us) p = none := fun p z => by
            by_cases e : p = Dl
            · rw [e, upd_same] at z; cases z
            · rw [upd_ne e] at z ⊢; exact z
          refine ⟨b2, fun a o z => ?_, fun a o z => ?_, st5.len, fun c d z => ?_, fun c t d z => ?_, fun c d z => ?_, st5.dis⟩
          · by_cases e : a = Dl
            · subst e
              rw [upd_same] at z
              cases z
              exact hus
            · rw [upd_ne e] at z
              exact b5 a o (st5.f a o (by rw [upd_ne e]; exact z)) e
          · by_cases e : a = Dl
            · rw [e]; exact hn6
            · rw [upd_ne e] at z
              exact b6 a o (st5.f a o (by rw [upd_ne e]; exact z)) (st5.ff a o (by rw [upd_ne e]; exact z))
          · obtain ⟨v, q1, q2⟩ := st5.val c d z
            exact ⟨v, q1, q2.mono b1⟩
          · obtain ⟨p, vs', qt, q1, q2, q3, q4, q5⟩ := st5.own c t d z
            exact ⟨p, vs', qt, q1, b5 p _ q2 (fun q => od c ⟨by rw [← q]; exact q1, .inl ⟨t, d, z⟩⟩), q3.mono b1, b6 p _ q2 q4, fo p q5⟩
          · obtain ⟨p, vs', q1, q2, q3, q4, q5⟩ := st5.ownd c d z
            exact ⟨p, vs', q1, b5 p _ q2 (fun q => od c ⟨by rw [← q]; exact q1, .inr ⟨d, z⟩⟩), q3.mono b1, b6 p _ q2 q4, fo p q5⟩
        refine hg1 xs[i] mem hf _ memj v1 _ H7 H07 _ ((st6.stp s7).wipe vs1) a7 _ fun σ3 st8 l8 k8 => ⟨wipe_same (l8.trans (wipe_length σ2 vs1)) k8, ?_⟩
        refine ht1 xs[i] mem hf _ memj σ3 H7 H07 _ st8 _ fun H8 H08 s8 => ?_
        have e6 : ∀ {c : Bool}, k xs[i] (ys xs[i])[j] = c → (((ys xs[i]).take (j + 1)).filter (k xs[i])).map (h xs[i]) = (((ys xs[i]).take j).filter (k xs[i])).map (h xs[i]) ++ (if c = true then [h xs[i] (ys xs[i])[j]] else []) := fun {c} hc => by
          rw [take_get hjt, List.filter_append, List.map_append, List.filter_cons, hc]
          cases c <;> rfl
        -- the turn's end
        have fin : ∀ {H' H0' : Hp} {us' : List V}, Stp H6 H06 H' H0' → AtL K H0' us' (A ++ (((ys xs[i]).take (j + 1)).filter (k xs[i])).map (h xs[i])) → W1 (j + 1) ((ys xs[i]).length - (j + 1)) (upd H' Dl (.lst us')) := fun {H' H0' us'} x al' => by
          have hn' : H0' Dl = none := x.n _ _ hus hn6
          refine ⟨rfl, hjt, H0', us', ⟨b1.trans x.b, fun a o z => ?_, fun a o z => ?_, fun p o z z0 => x.n p o (b3 p o z) (b4 p o z z0), fun p o z e => ?_, fun p o z z0 => ?_⟩, upd_same, hn', al'⟩
          · rw [upd_ne (ne_of_none z hn')]; exact x.c a o z
          · rw [upd_ne (ne_of_none z hD)]; exact x.a a o (b3 a o z)
          · rw [upd_ne e]; exact x.a p o (b5 p o z e)
          · by_cases e : p = Dl
            · rw [e]; exact hn'
            · exact x.n p o (b5 p o z e) (b6 p o z z0)
        cases hk : k xs[i] (ys xs[i])[j] with
        | false =>
          have s68 := s7.trans s8
          show W1 (j + 1) ((ys xs[i]).length - (j + 1)) H8
          have e8 : H8 = upd H8 Dl (.lst us) := by
            funext a
            by_cases e : a = Dl
            · rw [e, upd_same]; exact s68.a _ _ hus
            · rw [upd_ne e]
          rw [e8]
          refine fin s68 ?_
          rw [e6 hk]
          simpa using al6.mono s68.b
        | true =>
          show te σ3 H8 _
          refine he xs[i] mem hf _ memj hk σ3 H8 H08 _ (st8.stp s8) _ fun w H9 H09 s9 a9 => ?_
          have s69 := (s7.trans s8).trans s9
          refine ⟨us, s69.a _ _ hus, ?_, fin s69 ?_⟩
          · rw [al6.length, List.length_append, List.length_map]
            have t1 := two_len (xs.take i) f ys k h (n := n) fun x hx => hn x (List.mem_of_mem_take hx)
            have t2 := List.length_filter_le (k xs[i]) ((ys xs[i]).take j)
            have t3 : ((ys xs[i]).take j).length ≤ j := by rw [List.length_take]; omega
            have t4 : (xs.take i).length * n ≤ xs.length * n := Nat.mul_le_mul_right _ (by rw [List.length_take]; omega)
            have t5 := hn xs[i] mem
            exact sz_lt (by show A.length + _ < _; have : A.length ≤ (xs.take i).length * n := t1; omega)
          · rw [e6 hk]
            have := (al6.mono s69.b).app (.cons a9 .nil)
            simpa using this
      · have ej : j = (ys xs[i]).length := by omega
        subst ej
        refine .inl ⟨by simpa using z2, ?_⟩
        show W (i + 1) (xs.length - (i + 1)) H6
        refine ⟨rfl, hlt, H06, us, ⟨b3, s15.b.trans b1, b2, b4⟩, hus, hn6, ?_⟩
        rw [two_take hlt, hf]
        rw [List.take_length] at al6
        exact al6
  · have ei : i = xs.length := by omega
    subst ei
    refine .inl ⟨by simpa using y2, ?_⟩
    rw [List.take_length] at al
    exact q Dl ws H2 H02 (s1.a.free hD) (s1.trans s2) hws hn0 al
end
end FA
set_option Elab.async false
set_option autoImplicit false
set_option linter.all false
set_option maxRecDepth 100000
/-! Statements, defs. -/
namespace FA
open PySem L2 SlX

/-- a statement goes on, with slots of which P holds -/
def NxX (K : PySem.W.Frag) (ts : TS) (es : Es) (P : Es → Prop) : Prop := ∀ (D0 : Ends) (σ : L2.St) (H H0 F : Hp), Sta K σ H H0 F es →
  (∀ (σ' : L2.St) (H' H0' : Hp) (es' : Es), P es' → Sta K σ' H' H0' F es' → Same H0 H0' → D0.nx σ' H') → ts D0 σ H
def NxE (K : PySem.W.Frag) (ts : TS) (es es1 : Es) : Prop := NxX K ts es fun e => e = es1
/-- a block hands back -/
def RetX (K : PySem.W.Frag) (ts : TS) (es : Es) (P : D → Es → Prop) : Prop := ∀ (D0 : Ends) (σ : L2.St) (H H0 F : Hp), Sta K σ H H0 F es →
  (∀ (v : V) (σ' : L2.St) (H' H0' : Hp) (d : D) (es' : Es), P d es' → Sta K σ' H' H0' F es' → Same H0 H0' → At K H0' v d → D0.rt v H') → ts D0 σ H
def RetE (K : PySem.W.Frag) (ts : TS) (es : Es) (z : D) : Prop := RetX K ts es fun d _ => d = z

section
variable {K : PySem.W.Frag} {es es1 : Es} {te ta tb : TE} {tt : TT} {ts tu tw tz : TS} {x y z d : D} {ds : List D} {P P' : Es → Prop} {R R' : D → Es → Prop}
theorem NxX.imp (h : NxX K ts es P) (i : ∀ e, P e → P' e) : NxX K ts es P' := fun D0 σ H H0 F s q => h D0 σ H H0 F s fun σ' H' H0' es' p => q σ' H' H0' es' (i _ p)
theorem RetX.imp (h : RetX K ts es R) (i : ∀ d e, R d e → R' d e) : RetX K ts es R' := fun D0 σ H H0 F s q => h D0 σ H H0 F s fun v σ' H' H0' d es' p => q v σ' H' H0' d es' (i _ _ p)
theorem re_retX (h : EvX K te es R) : RetX K (tRet te) es R := fun D0 σ H H0 F s q => h σ H H0 F s _ fun v H' H0' d es' p s' b a => q v σ H' H0' d es' p s' b a
theorem re_ret (h : EvE K te es z) : RetE K (tRet te) es z := RetX.imp (re_retX h.toX) fun _ _ p => p.1
theorem re_seqX (h : NxX K ts es P) (hu : ∀ e, P e → RetX K tu e R) : RetX K (tSeq ts tu) es R := fun D0 σ H H0 F s q =>
  h { D0 with nx := tu D0 } σ H H0 F s fun σ' H' H0' es' p s' b => hu es' p D0 σ' H' H0' F s' fun v σ2 H2 H02 d e2 r s2 b2 a => q v σ2 H2 H02 d e2 r s2 (b.trans b2) a
theorem re_seq (h : NxE K ts es es1) (hu : RetX K tu es1 R) : RetX K (tSeq ts tu) es R := re_seqX h fun e p => by rw [p]; exact hu
theorem nx_seqX (h : NxX K ts es P) (hu : ∀ e, P e → NxX K tu e P') : NxX K (tSeq ts tu) es P' := fun D0 σ H H0 F s q =>
  h { D0 with nx := tu D0 } σ H H0 F s fun σ' H' H0' es' p s' b => hu es' p D0 σ' H' H0' F s' fun σ2 H2 H02 e2 r s2 b2 => q σ2 H2 H02 e2 r s2 (b.trans b2)
theorem nx_seq (h : NxE K ts es es1) (hu : NxX K tu es1 P') : NxX K (tSeq ts tu) es P' := nx_seqX h fun e p => by rw [p]; exact hu
theorem nx_next : NxE K tNext es es := fun D0 σ H H0 F s q => q σ H H0 es rfl s (Same.refl _)
theorem nx_asg {i : Nat} (h : EvE K te es x) : NxE K (tAsg te (gName i)) es (es.set i (.val x)) := fun D0 σ H H0 F s q => h σ H H0 F s _ fun v H' H0' st a => q _ H' H0' _ rfl ((s.stp st).set a) st.b
theorem nx_asgX {i : Nat} (h : EvX K te es R) : NxX K (tAsg te (gName i)) es fun e => ∃ d e', R d e' ∧ e = e'.set i (.val d) := fun D0 σ H H0 F s q =>
  h σ H H0 F s _ fun v H' H0' d es' p s' b a => q _ H' H0' _ ⟨d, es', p, rfl⟩ (s'.set a) b
/-- a list of one's own -/
theorem nx_asgF {i : Nat} (h : EvF K te es ds) : NxE K (tAsg te (gName i)) es (es.set i (.own none ds)) := fun D0 σ H H0 F s q => h σ H H0 F s _ fun p vs H' H0' hp st h1 h2 a =>
  q _ H' H0' _ rfl ((s.stp st).setOwn h1 a h2 (s.f.free hp) fun j => own_ne s hp j) st.b
theorem nx_asgG {g : TG} {vs : List Nat} (h : EvE K te es x) (hg : GE K g vs es x es1) : NxE K (tAsg te g) es es1 := fun D0 σ H H0 F s q => h σ H H0 F s _ fun v H' H0' st a =>
  hg v σ H' H0' F (s.stp st) a _ fun σ' s' _ _ => q σ' H' H0' es1 rfl s' st.b
/-- a, b = x, y -/
theorem nx_par {i j : Nat} {tl : TA} (h : EvA K tl es [x, y]) : NxE K (tPar i j tl) es ((es.set i (.val x)).set j (.val y)) := fun D0 σ H H0 F s q => h σ H H0 F s _ fun vs H' H0' st al => by
  cases al with
  | cons a1 al =>
    cases al with
    | cons a2 al =>
      cases al
      exact ⟨_, _, rfl, q _ H' H0' _ rfl (((s.stp st).set a1).set a2) st.b⟩
theorem nx_if {b : Bool} (h : EvT K tt es b) (h1 : b = true → NxX K tu es P) (h2 : b = false → NxX K tw es P) : NxX K (tIfS tt tu tw) es P := fun D0 σ H H0 F s q => h σ H H0 F s _ fun H1 H01 st => by
  cases b with
  | true => exact h1 rfl D0 σ H1 H01 F (s.stp st) fun σ' H' H0' es' p s' b => q σ' H' H0' es' p s' (st.b.trans b)
  | false => exact h2 rfl D0 σ H1 H01 F (s.stp st) fun σ' H' H0' es' p s' b => q σ' H' H0' es' p s' (st.b.trans b)
/-- a test that fails, in front of what is never come to -/
theorem nx_pass (h : EvT K tt es false) : NxE K (tIfS tt tu tNext) es es := nx_if h (fun z => nomatch z) fun _ => nx_next
theorem re_if {b : Bool} (h : EvT K tt es b) (h1 : b = true → RetX K tu es R) (h2 : b = false → RetX K tz es R) : RetX K (tSeq (tIfS tt tu tNext) tz) es R := fun D0 σ H H0 F s q => h σ H H0 F s _ fun H1 H01 st => by
  cases b with
  | true => exact h1 rfl { D0 with nx := tz D0 } σ H1 H01 F (s.stp st) fun v σ' H' H0' d es' p s' b => q v σ' H' H0' d es' p s' (st.b.trans b)
  | false => exact h2 rfl D0 σ H1 H01 F (s.stp st) fun v σ' H' H0' d es' p s' b => q v σ' H' H0' d es' p s' (st.b.trans b)
theorem re_ifelse {b : Bool} (h : EvT K tt es b) (h1 : b = true → RetX K tu es R) (h2 : b = false → RetX K tw es R) : RetX K (tIfS tt tu tw) es R := fun D0 σ H H0 F s q => h σ H H0 F s _ fun H1 H01 st => by
  cases b with
  | true => exact h1 rfl D0 σ H1 H01 F (s.stp st) fun v σ' H' H0' d es' p s' b => q v σ' H' H0' d es' p s' (st.b.trans b)
  | false => exact h2 rfl D0 σ H1 H01 F (s.stp st) fun v σ' H' H0' d es' p s' b => q v σ' H' H0' d es' p s' (st.b.trans b)
/-- name op= e -/
theorem nx_aug {i : Nat} {ti : TIp} (hx : es[i]? = some (.val x)) (h : EvE K te es y) (hr : RvE K ti x y z) : NxE K (tAug i te ti) es (es.set i (.val z)) := fun D0 σ H H0 F s q => by
  obtain ⟨v, e, a⟩ := s.val i x hx
  refine ⟨v, e, h σ H H0 F s _ fun u H1 H01 st a1 => ?_⟩
  exact hr v u H1 H01 st.c (a.mono st.b) a1 _ fun w H2 H02 st2 a2 => q _ H2 H02 _ rfl (((s.stp st).stp st2).set a2) (st.b.trans st2.b)
/-- name.append(e), the list one's own -/
theorem nx_app {i : Nat} {o : Option Addr} (hi : es[i]? = some (.own o ds)) (h : EvE K te es x) (hz : ds.length < 100000) : NxE K (tDrop (tBM K "list" rAppend (tVar i) (tCons te tNil))) es (es.set i (.own o (ds ++ [x]))) := fun D0 σ H H0 F s q => by
  obtain ⟨p, vs, _, e, hp, al, n0, nf⟩ := s.own i o ds hi
  refine ⟨_, e, .inl ⟨rfl, vs, .inl (.inl hp)⟩, h σ H H0 F s _ fun u H1 H01 st a1 => ?_⟩
  refine ⟨p, vs, u, rfl, rfl, st.a _ _ hp, by rw [al.length]; exact sz_lt hz, ?_⟩
  exact q _ _ H01 _ rfl ((s.stp st).change hi e ((al.mono st.b).app (.cons a1 .nil))) st.b
/-- name[j] = e, the list one's own -/
theorem nx_setL {i j : Nat} {k : Int} {o : Option Addr} (hi : es[i]? = some (.own o ds)) (h : EvE K te es x) (hj : EvE K tb es (.int k)) (hn : ixN ds.length k = some j) : NxE K (tAsg te (gSub (tVar i) tb rSetL)) es (es.set i (.own o (ds.set j x))) := fun D0 σ H H0 F s q =>
  h σ H H0 F s _ fun u H1 H01 st a1 => by
  obtain ⟨p, vs, _, e, hp, al, n0, nf⟩ := (s.stp st).own i o ds hi
  refine ⟨_, e, hj σ H1 H01 F (s.stp st) _ fun w H2 H02 st2 a2 => ?_⟩
  cases a2
  refine ⟨p, vs, k, j, rfl, rfl, st2.a _ _ hp, by rw [al.length]; exact hn, ?_⟩
  exact q _ _ H02 _ rfl (((s.stp st).stp st2).change hi e ((al.mono st2.b).put (a1.mono st2.b) j)) (st.b.trans st2.b)
/-- the list of one's own, read -/
theorem ev_ixOwn {i : Nat} {k : Int} {o : Option Addr} (hi : es[i]? = some (.own o ds)) (hj : EvE K tb es (.int k)) (e : atI ds k = some d) : EvE K (tOp (rIxL K) (tVar i) tb) es d := fun σ H H0 F s Q q => by
  obtain ⟨p, vs, _, e1, hp, al, n0, nf⟩ := s.own i o ds hi
  refine ⟨_, e1, hj σ H H0 F s _ fun w H2 H02 st2 a2 => ?_⟩
  cases a2
  obtain ⟨v, e2, a⟩ := (al.mono st2.b).atI e
  exact ⟨p, vs, k, v, rfl, rfl, .inl (.inl (st2.a _ _ hp)), e2, (q.step st2).here st2.c a⟩
/-- .. handed back -/
theorem re_retOwn {i : Nat} {o : Option Addr} (hi : es[i]? = some (.own o ds)) : RetX K (tRet (tVar i)) es fun d e => d = .lst ds ∧ e = es.set i (.val (.lst ds)) := fun D0 σ H H0 F s q => by
  obtain ⟨p, vs, _, e1, hp, al, n0, nf⟩ := s.own i o ds hi
  refine ⟨_, e1, ?_⟩
  have hj : i < es.length := (List.getElem?_eq_some_iff.mp hi).1
  have s1 := s.wipe1 i
  have nn : ∀ j, ¬ OwnAt (σ.set i none) (es.set i .non) j p := fun j oj => by
    by_cases e : j = i
    · subst e
      have := oj.1
      rw [List.getElem?_set_self (by rw [s.len]; exact hj)] at this
      cases this
    · have o' : OwnAt σ es j p := by
        unfold OwnAt at oj ⊢
        rw [List.getElem?_set_ne (Ne.symm e), List.getElem?_set_ne (Ne.symm e)] at oj
        exact oj
      exact e (s.dis j i p o' ⟨e1, .inl ⟨o, ds, hi⟩⟩)
  have s2 := s1.tell hp nf nn n0
  have at2 : At K (upd H0 p (.lst vs)) (.ref p) (.lst ds) := .lst (.inl (.inl upd_same)) (al.mono (same_new n0))
  have s3 := s2.set (i := i) at2
  rw [List.set_set, List.set_set] at s3
  exact q _ _ H _ _ _ ⟨rfl, rfl⟩ s3 (same_new n0) at2
/-- for -/
theorem nx_for {wi : TI} {g : TG} {tl : TS} {vs : List Nat} (xs : List D) (hi : IterE K wi es xs) (I : Nat → Es → Prop) (h0 : I 0 es)
    (hs : ∀ i x e, xs[i]? = some x → I i e → ∃ e1, GE K g vs e x e1 ∧ NxX K tl e1 (I (i + 1))) : NxX K (tFor wi g tl) es (I xs.length) := fun D0 σ H H0 F s q =>
  hi σ H H0 F s _ fun J H1 H01 s1 yl => by
  refine ⟨fun i m σ' H' => m = xs.length - i ∧ i ≤ xs.length ∧ ∃ (H0' : Hp) (e : Es), I i e ∧ Sta K σ' H' H0' F e ∧ Same H01 H0', ⟨xs.length, rfl, Nat.zero_le _, H01, es, h0, s.stp s1, Same.refl _⟩, ?_⟩
  rintro i m σ2 H2 ⟨rfl, hil, H02, e, hI, st, b⟩
  obtain ⟨y1, y2⟩ := yl H2 H02 b st.h0
  by_cases hlt : i < xs.length
  · refine .inr ?_
    have ex : xs[i]? = some xs[i] := List.getElem?_eq_getElem hlt
    obtain ⟨go, y⟩ := y1 i _ ex
    refine ⟨go, fun σ' H' => ∃ (H0' : Hp) (e : Es), I (i + 1) e ∧ Sta K σ' H' H0' F e ∧ Same H01 H0', fun σ' H' w => ⟨xs.length - (i + 1), by omega, rfl, hlt, w⟩, fun v H3 hy => ?_⟩
    obtain ⟨H03, s3, a3⟩ := y v H3 hy
    obtain ⟨e1, hg, hb⟩ := hs i _ e ex hI
    refine hg v σ2 H3 H03 F (st.stp s3) a3 _ fun σ3 st3 _ _ => ?_
    exact hb _ σ3 H3 H03 F st3 fun σ4 H4 H04 e4 p4 st4 b4 => ⟨H04, e4, p4, st4, b.trans (s3.b.trans b4)⟩
  · have ei : i = xs.length := by omega
    subst ei
    exact .inl ⟨y2, q σ2 H2 H02 e hI st (s1.b.trans b)⟩
end

/-! ### defs -/
/-- the promise: from data to a datum -/
def spD (K : PySem.W.Frag) (R : List D → D → Prop) : Sp := fun vs H Q _ => ∃ (H0 : Hp) (ds : List D) (z : D), Same H0 H ∧ AtL K H0 vs ds ∧ R ds z ∧ Bk K H H0 z Q
/-- .. of a def whose first argument is a list that it may change -/
def spM (K : PySem.W.Frag) (R : List D → List D → (D → List D → Prop) → Prop) : Sp := fun vs H Q _ => ∃ (H0 : Hp) (p : Addr) (ws us : List V) (os ds : List D) (post : D → List D → Prop), vs = .ref p :: ws ∧ H p = some (.lst us) ∧ H0 p = none ∧ Same H0 H ∧
  AtL K H0 us os ∧ AtL K H0 ws ds ∧ R os ds post ∧ ∀ (v : V) (H' H0' : Hp) (d : D) (os' : List D) (us' : List V), post d os' → H' p = some (.lst us') → AtL K H0' us' os' → H0' p = none → At K H0' v d → Same H0 H0' → Same H0' H' →
    (∀ a o, a ≠ p → H a = some o → H' a = some o) → (∀ a o, H a = some o → H0 a = none → H0' a = none) → Q v H'
def startE (n : Nat) (ds : List E1) : Es := ds ++ List.replicate (n - ds.length) .non
section
variable {P : Program} {w : World} {K : PySem.W.Frag} {mg : Str → Option Value} {base : Heap} {X : Cx} {es : Es}
theorem start_get {n : Nat} {ds : List E1} {i : Nat} {c : E1} (h : (startE n ds)[i]? = some c) (hc : c ≠ .non) : ds[i]? = some c := by
  unfold startE at h
  by_cases hi : i < ds.length
  · rw [List.getElem?_append_left hi] at h
    exact h
  · rw [List.getElem?_append_right (by omega), List.getElem?_replicate] at h
    split at h
    · cases h; exact absurd rfl hc
    · cases h
theorem start_slot {N : List Str} {vs : List V} {i : Nat} {v : V} (h : vs[i]? = some v) : (L2.start N vs)[i]? = some (some v) := by
  unfold L2.start
  have hi : i < vs.length := (List.getElem?_eq_some_iff.mp h).1
  rw [List.getElem?_append_left (by simpa using hi), List.getElem?_map, h]
  rfl
theorem fn_pure {x qual : Str} {st : Stmt} {f : Addr} {fd : FuncData} {N ps : List Str} {k : Nat} (R : List D → D → Prop) (F : Fun K x qual st f fd) (S : FnScope N ps (defScope st)) (hl : ∀ ds z, R ds z → ds.length = ps.length) (hN : ps.length ≤ N.length)
    (hb : ∀ (cdv : Value) (A : Around) (outer : List Env) (s : Shared) (H : Hp) (E : XK), Room k (A.deeper (PyProof.Rows.envOfC qual (defScope st) s.heap.objs.size f cdv)) →
      ∃ t, PSs (cxOf CX0 P w K mg base N qual (defScope st) f cdv A outer s H E).nox (defBody st) t ∧ ∀ ds z, R ds z → RetE K t (startE N.length (ds.map .val)) z) : FnOk P w K mg base CX0 (k + 1) f fd ps (spD K R) := by
  refine F.ok S (fun vs H Q E ⟨H0, ds, z, _, al, r, _⟩ => by rw [al.length]; exact hl ds z r) fun cdv A outer s H vs Q E hr ⟨H0, ds, z, h0, al, r, bk⟩ => ?_
  obtain ⟨t, pt, ht⟩ := hb cdv A outer s H E hr
  refine ⟨t, pt, ht ds z r _ _ H H0 (fun a => if H0 a = none then H a else none) ⟨h0, fun a o e => ?_, fun a o e => ?_, ?_, fun i d e => ?_, fun i t' d e => ?_, fun i d e => ?_, fun i j p a => ?_⟩ fun v σ' H' H0' d es' p s' b a => ?_⟩
  · split at e
    · exact e
    · cases e
  · split at e
    · assumption
    · cases e
  · unfold L2.start startE
    simp only [List.length_append, List.length_map, List.length_replicate, al.length]
  · have := start_get e (by intro z; cases z)
    rw [List.getElem?_map] at this
    cases e2 : ds[i]? with
    | none => rw [e2] at this; cases this
    | some d' =>
      rw [e2] at this
      cases this
      obtain ⟨v, e3, a⟩ := al.get e2
      exact ⟨v, start_slot e3, a⟩
  · have := start_get e (by intro z; cases z)
    rw [List.getElem?_map] at this
    cases e2 : ds[i]? with
    | none => rw [e2] at this; cases this
    | some d' => rw [e2] at this; cases this
  · have := start_get e (by intro z; cases z)
    rw [List.getElem?_map] at this
    cases e2 : ds[i]? with
    | none => rw [e2] at this; cases this
    | some d' => rw [e2] at this; cases this
  · exfalso
    obtain ⟨_, ⟨t', c, e⟩ | ⟨c, e⟩⟩ := a
    all_goals
      have := start_get e (by intro z; cases z)
      rw [List.getElem?_map] at this
      cases e2 : ds[i]? with
      | none => rw [e2] at this; cases this
      | some d' => rw [e2] at this; cases this
  · subst p
    refine bk v H' H0' ⟨fun a o e => ?_, b, s'.h0, fun a o e n => s'.ff a o (by simp only [n, if_true]; exact e)⟩ a
    by_cases n : H0 a = none
    · exact s'.f a o (by simp only [n, if_true]; exact e)
    · cases q : H0 a with
      | none => exact absurd q n
      | some u =>
        have z1 := h0 a u q
        rw [e] at z1
        cases z1
        exact s'.h0 a o (b a o q)
/-- a call of a def by its promise -/
theorem ev_call {R : List D → D → Prop} {ta : TA} {ds : List D} {z : D} {E : XK} (ha : EvA K ta es ds) (hr : R ds z) : EvE K (tCall (spD K R) [] E ta) es z := fun σ H H0 F s Q q =>
  ha σ H H0 F s _ fun vs H1 H01 st al => ⟨H01, ds, z, st.c, by rw [List.append_nil]; exact al, hr, q.step st⟩
theorem fn_mut {x qual : Str} {st : Stmt} {f : Addr} {fd : FuncData} {N ps : List Str} {k : Nat} (R : List D → List D → (D → List D → Prop) → Prop) (F : Fun K x qual st f fd) (S : FnScope N ps (defScope st)) (hl : ∀ os ds post, R os ds post → ds.length + 1 = ps.length) (hN : ps.length ≤ N.length)
    (hb : ∀ (cdv : Value) (A : Around) (outer : List Env) (s : Shared) (H : Hp) (E : XK), Room k (A.deeper (PyProof.Rows.envOfC qual (defScope st) s.heap.objs.size f cdv)) →
      ∃ t, PSs (cxOf CX0 P w K mg base N qual (defScope st) f cdv A outer s H E).nox (defBody st) t ∧ ∀ p os ds post, R os ds post → RetX K t (startE N.length (.own (some p) os :: ds.map .val)) fun d es' => ∃ os', es'[0]? = some (.own (some p) os') ∧ post d os') :
    FnOk P w K mg base CX0 (k + 1) f fd ps (spM K R) := by
  refine F.ok S (fun vs H Q E ⟨H0, p, ws, us, os, ds, post, e, _, _, _, _, al, r, _⟩ => by rw [e, List.length_cons, al.length]; exact hl os ds post r) fun cdv A outer s H vs Q E hr ⟨H0, p, ws, us, os, ds, post, e, hp, n0, h0, al, bl, r, bk⟩ => ?_
  subst e
  obtain ⟨t, pt, ht⟩ := hb cdv A outer s H E hr
  have own0 : ∀ {i : Nat} {o : Option Addr} {c : List D}, (startE N.length (.own (some p) os :: ds.map .val))[i]? = some (.own o c) → i = 0 ∧ o = some p ∧ c = os := fun {i o c} e => by
    have := start_get e (by intro z; cases z)
    cases i with
    | zero => cases this; exact ⟨rfl, rfl, rfl⟩
    | succ i =>
      rw [List.getElem?_cons_succ, List.getElem?_map] at this
      cases e2 : ds[i]? with
      | none => rw [e2] at this; cases this
      | some d' => rw [e2] at this; cases this
  have ownd0 : ∀ {i : Nat} {c : List (Key × D)}, (startE N.length (.own (some p) os :: ds.map .val))[i]? = some (.ownd c) → False := fun {i c} e => by
    have := start_get e (by intro z; cases z)
    cases i with
    | zero => cases this
    | succ i =>
      rw [List.getElem?_cons_succ, List.getElem?_map] at this
      cases e2 : ds[i]? with
      | none => rw [e2] at this; cases this
      | some d' => rw [e2] at this; cases this
  have slot0 : ∀ {q : Addr}, (L2.start N (V.ref p :: ws))[0]? = some (some (.ref q)) → q = p := fun {q} e => by
    have := start_slot (N := N) (vs := V.ref p :: ws) (i := 0) (v := .ref p) rfl
    rw [this] at e
    cases e
    rfl
  refine ⟨t, pt, ht p os ds post r _ _ H H0 (fun a => if a = p then none else if H0 a = none then H a else none) ⟨h0, fun a o e => ?_, fun a o e => ?_, ?_, fun i d e => ?_, fun i o d e => ?_, fun i d e => ?_, fun i j q a b => ?_⟩ fun v σ' H' H0' d es' pp s' b a => ?_⟩
  · split at e
    · cases e
    · split at e
      · exact e
      · cases e
  · split at e
    · cases e
    · split at e
      · assumption
      · cases e
  · unfold L2.start startE
    simp only [List.length_append, List.length_map, List.length_replicate, List.length_cons, bl.length]
  · have := start_get e (by intro z; cases z)
    cases i with
    | zero => cases this
    | succ i =>
      rw [List.getElem?_cons_succ, List.getElem?_map] at this
      cases e2 : ds[i]? with
      | none => rw [e2] at this; cases this
      | some d' =>
        rw [e2] at this
        cases this
        obtain ⟨v, e3, a⟩ := bl.get e2
        exact ⟨v, start_slot (by simpa using e3), a⟩
  · obtain ⟨e1, e3, e2⟩ := own0 e
    subst e1 e2 e3
    exact ⟨p, us, fun a z => (Option.some.inj z).symm, start_slot rfl, hp, al, n0, by simp⟩
  · exact (ownd0 e).elim
  · obtain ⟨_, ⟨t', c, e⟩ | ⟨c, e⟩⟩ := a
    · obtain ⟨_, ⟨t2, c', e'⟩ | ⟨c', e'⟩⟩ := b
      · rw [(own0 e).1, (own0 e').1]
      · exact (ownd0 e').elim
    · exact (ownd0 e).elim
  · obtain ⟨os', e0, po⟩ := pp
    obtain ⟨p', us', hp1, e1, hp', al', n', _⟩ := s'.own 0 _ os' e0
    have ep := hp1 p rfl
    subst ep
    refine bk v H' H0' d os' us' po hp' al' n' a b s'.h0 (fun a o ne e => ?_) fun a o e n => ?_
    · by_cases n : H0 a = none
      · exact s'.f a o (by rw [if_neg ne, if_pos n]; exact e)
      · cases q : H0 a with
        | none => exact absurd q n
        | some u =>
          have z1 := h0 a u q
          rw [e] at z1
          cases z1
          exact s'.h0 a o (b a o q)
    · by_cases ne : a = p
      · rw [ne]; exact n'
      · exact s'.ff a o (by rw [if_neg ne, if_pos n]; exact e)
/-- a call of such a def, the list one's own -/
theorem ev_callM {R : List D → List D → (D → List D → Prop) → Prop} {ta : TA} {os ds : List D} {post : D → List D → Prop} {E : XK} {i : Nat} {o : Option Addr} (hi : es[i]? = some (.own o os)) (ha : EvA K ta es ds) (hr : R os ds post) :
    EvX K (tCall (spM K R) [] E (tCons (tVar i) ta)) es fun d e => ∃ os', post d os' ∧ e = es.set i (.own o os') := fun σ H H0 F s Q q => by
  obtain ⟨p, us, tp, e, hp, al, n0, nf⟩ := s.own i o os hi
  refine ⟨_, e, ha σ H H0 F s _ fun vs H1 H01 st bl => ?_⟩
  refine ⟨H01, p, vs, us, os, ds, post, by rw [List.append_nil], st.a _ _ hp, st.n _ _ hp n0, st.c, al.mono st.b, bl, hr, fun v H' H0' d os' us' po hp' al' n' a b c k1 k2 => ?_⟩
  have s1 := s.stp st
  -- the heap as it stood, grown; then the list
  have oi : OwnAt σ es i p := ⟨e, .inl ⟨o, os, hi⟩⟩
  have s2 : Sta K σ (upd H' p (.lst us)) H0' F es := s1.grow (fun a u z => by
      by_cases q : a = p
      · subst q
        rw [st.a _ _ hp] at z
        cases z
        exact upd_same
      · rw [upd_ne q]; exact k1 a u q z) b (fun a u z => by rw [upd_ne (ne_of_none z n')]; exact c a u z) (fun a u z zn => k2 a u z zn)
  have s3 := s2.change hi e al'
  have eh : upd (upd H' p (.lst us)) p (.lst us') = H' := by
    rw [upd_upd]
    funext a
    by_cases q : a = p
    · rw [q, upd_same, hp']
    · rw [upd_ne q]
  rw [eh] at s3
  exact q v H' H0' d _ ⟨os', po, rfl⟩ s3 (st.b.trans b) a
end
end FA
set_option Elab.async false
set_option autoImplicit false
set_option linter.all false
set_option maxRecDepth 100000
/-! Operators and built-ins by data. -/
namespace FA
open PySem L2 SlX
section
variable {K : PySem.W.Frag} {es : Es} {te ta tb : TE} {d x y z : D} {ds : List D}

/-! isinstance -/
theorem tup_tyx {H : Hp} {p : Addr} {vs : List V} (h : SqT K H p vs) : TyX K H (.ref p) (.type "tuple") := by
  rcases h with (h | ⟨o, h⟩) | ⟨o, its, n, h, hc, _⟩
  · exact .base (.tup h)
  · exact .fTuple h
  · exact .kTuple h hc
theorem lst_tyx {H : Hp} {p : Addr} {vs : List V} (h : SqL K H p vs) : TyX K H (.ref p) (.type "list") := by
  rcases h with (h | ⟨o, h⟩) | ⟨o, its, n, h, hc, _⟩
  · exact .base (.lst h)
  · exact .base (.frz h)
  · exact .kList h hc
/-- the type's name -/
def D.tyn : D → Option String
  | .non => some "NoneType" | .bl _ => some "bool" | .int _ => some "int" | .str _ => some "str" | .tup _ => some "tuple" | .lst _ => some "list" | _ => none
theorem At.tyx {H : Hp} {v : V} {d : D} (a : At K H v d) {n : String} (h : d.tyn = some n) : TyX K H v (.type n) := by
  cases a with
  | non => cases h; exact .base .non
  | bl => cases h; exact .base (.bl _)
  | int => cases h; exact .base (.int _)
  | str => cases h; exact .base (.str _)
  | tup hs _ => cases h; exact tup_tyx hs
  | lst hs _ => cases h; exact lst_tyx hs
  | _ => cases h
theorem rc_isi {n m : String} {b : Bool} (h : d.tyn = some n) (hk : kitB n m = some b) : RcE K (rIsi K) [d, .ty m] (.bl b) := fun vs H H0 s al Q q => by
  cases al with
  | cons a1 al =>
    cases al with
    | cons a2 al =>
      cases al
      cases a2
      exact ⟨_, _, _, _, b, rfl, .ty m, (a1.mono s).tyx h, kit_ty hk, q.here s .bl⟩
theorem rc_isiSl {C : Addr} {u : Value} {C' : Addr} {fs : List D} {b : Bool} (hu : u = .ref C') (c : SCls K C) (i : SIsi K C) (hk : PySem.W.kitOne K (.ref C) u = some b) : RcE K (rIsiSl K u) [.obj C fs, .adr C'] (.bl b) := fun vs H H0 s al Q q => by
  subst hu
  cases al with
  | cons a1 al =>
    cases al with
    | cons a2 al =>
      cases al
      cases a2
      cases a1 with
      | obj hs hl => exact ⟨_, C, _, _, _, b, rfl, rfl, fun w hw => hw, same_slt s hs, c, i, hk, q.here s .bl⟩

/-! len, all, sum, tuple, max, min, abs, int -/
abbrev rLenQ (K : PySem.W.Frag) : List V → Hp → VK → Prop := fun xs H Q => ∃ p ys, xs = [.ref p] ∧ (SqL K H p ys ∨ SqT K H p ys) ∧ Q (.int ys.length) H
theorem rc_lenT : RcE K (rLenQ K) [.tup ds] (.int ds.length) := fun vs H H0 s al Q q => by
  cases al with
  | cons a1 al =>
    cases al
    cases a1 with
    | tup hs hl => exact ⟨_, _, rfl, .inr (same_t s hs), by rw [hl.length]; exact q.here s .int⟩
theorem rc_lenL : RcE K (rLenQ K) [.lst ds] (.int ds.length) := fun vs H H0 s al Q q => by
  cases al with
  | cons a1 al =>
    cases al
    cases a1 with
    | lst hs hl => exact ⟨_, _, rfl, .inl (s.seq hs), by rw [hl.length]; exact q.here s .int⟩
theorem rc_all {bs : List Bool} : RcE K (rAll K) [.lst (bs.map .bl)] (.bl (bs.all id)) := fun vs H H0 s al Q q => by
  cases al with
  | cons a1 al =>
    cases al
    cases a1 with
    | lst hs hl => exact ⟨_, bs, rfl, by rw [← AtL.of_bools hl]; exact s.seq hs, q.here s .bl⟩
theorem rc_sum {ns : List Int} : RcE K (rSum K) [.lst (ns.map .int)] (.int ns.sum) := fun vs H H0 s al Q q => by
  cases al with
  | cons a1 al =>
    cases al
    cases a1 with
    | lst hs hl => exact ⟨_, ns, rfl, by rw [← AtL.of_ints hl]; exact s.seq hs, q.here s .int⟩
theorem ev_tupL (h : EvE K ta es (.lst ds)) : EvE K (tThen ta (kTup K)) es (.tup ds) := fun σ H H0 F s Q q => h σ H H0 F s _ fun w H1 H01 s1 a1 => by
  cases a1 with
  | lst hs hl => exact .inl ⟨_, _, rfl, s1.c.seq hs, fun p hp => (q.step s1).tup s1.c rfl hl hp⟩
theorem ev_tupT (h : EvE K ta es (.tup ds)) : EvE K (tThen ta (kTup K)) es (.tup ds) := fun σ H H0 F s Q q => h σ H H0 F s _ fun w H1 H01 s1 a1 => by
  cases a1 with
  | tup hs hl => exact .inr ⟨_, _, rfl, same_t s1.c hs, (q.step s1).here s1.c (.tup hs hl)⟩
abbrev rMaxQ : List V → Hp → VK → Prop := fun xs H Q => ∃ i j, xs = [.int i, .int j] ∧ Q (.int (if j > i then j else i)) H
abbrev rMinQ : List V → Hp → VK → Prop := fun xs H Q => ∃ i j, xs = [.int i, .int j] ∧ Q (.int (if j < i then j else i)) H
abbrev rAbsQ : List V → Hp → VK → Prop := fun xs H Q => ∃ i, xs = [.int i] ∧ Q (.int (if i < 0 then -i else i)) H
abbrev rIntQ : List V → Hp → VK → Prop := fun xs H Q => (∃ i, xs = [.int i] ∧ Q (.int i) H) ∨ ∃ k, xs = [.bl k] ∧ Q (.int (if k then 1 else 0)) H
theorem rc_max {i j : Int} : RcE K rMaxQ [.int i, .int j] (.int (max i j)) := fun vs H H0 s al Q q => by
  cases al with
  | cons a1 al =>
    cases al with
    | cons a2 al =>
      cases al; cases a1; cases a2
      refine ⟨i, j, rfl, ?_⟩
      have e : (if j > i then j else i) = max i j := by rw [Int.max_def]; split <;> split <;> omega
      rw [e]
      exact q.here s .int
theorem rc_min {i j : Int} : RcE K rMinQ [.int i, .int j] (.int (min i j)) := fun vs H H0 s al Q q => by
  cases al with
  | cons a1 al =>
    cases al with
    | cons a2 al =>
      cases al; cases a1; cases a2
      refine ⟨i, j, rfl, ?_⟩
      have e : (if j < i then j else i) = min i j := by rw [Int.min_def]; split <;> split <;> omega
      rw [e]
      exact q.here s .int
theorem rc_abs {i : Int} : RcE K rAbsQ [.int i] (.int (i.natAbs : Int)) := fun vs H H0 s al Q q => by
  cases al with
  | cons a1 al =>
    cases al; cases a1
    refine ⟨i, rfl, ?_⟩
    have e : (if i < 0 then -i else i) = (i.natAbs : Int) := by split <;> omega
    rw [e]
    exact q.here s .int
theorem rc_intI {i : Int} : RcE K rIntQ [.int i] (.int i) := fun vs H H0 s al Q q => by
  cases al with
  | cons a1 al =>
    cases al; cases a1
    exact .inl ⟨i, rfl, q.here s .int⟩
theorem rc_intB {b : Bool} : RcE K rIntQ [.bl b] (.int (if b then 1 else 0)) := fun vs H H0 s al Q q => by
  cases al with
  | cons a1 al =>
    cases al; cases a1
    exact .inr ⟨b, rfl, q.here s .int⟩

/-! order, membership, equality -/
theorem rv_ltT {ns ms : List Int} : RvE K (rLtT K) (.tup (ns.map .int)) (.tup (ms.map .int)) (.bl (HT.lexLt ns ms)) := fun u v H H0 s a b Q q => by
  cases a with
  | tup hs hl =>
    cases b with
    | tup hs' hl' => exact ⟨_, _, ns, ms, rfl, rfl, by rw [← AtL.of_ints hl]; exact same_t s hs, by rw [← AtL.of_ints hl']; exact same_t s hs', q.here s .bl⟩
theorem any_eqV_int (i : Int) : ∀ ns : List Int, (ns.map V.int).any (fun y => eqV y (.int i)) = decide (i ∈ ns)
  | [] => by simp
  | n :: r => by
    rw [List.map_cons, List.any_cons, any_eqV_int i r]
    show ((n == i) || decide (i ∈ r)) = decide (i ∈ n :: r)
    by_cases h : n = i
    · subst h; simp
    · have e1 : (n == i) = false := beq_eq_false_iff_ne.mpr h
      have e2 : ¬ i = n := fun z => h z.symm
      rw [e1, Bool.false_or]
      simp [e2]
theorem rv_inT {i : Int} {ns : List Int} : RvE K (rIn K false) (.int i) (.tup (ns.map .int)) (.bl (decide (i ∈ ns))) := fun u v H H0 s a b Q q => by
  cases a
  cases b with
  | tup hs hl =>
    refine ⟨_, ns.map V.int, rfl, .inr (by rw [← AtL.of_ints hl]; exact same_t s hs), rfl, by rw [List.all_map]; exact List.all_eq_true.mpr fun _ _ => rfl, ?_⟩
    have e : inV (.int i) (ns.map V.int) = decide (i ∈ ns) := any_eqV_int i ns
    simp only [Bool.false_eq_true, if_false]
    rw [e]
    exact q.here s .bl
/-! a datum as the library compares it -/
mutual
def D.py : D → Option PyData
  | .non => some .none | .bl b => some (.bool b) | .int i => some (.int i) | .str x => some (.str x)
  | .lst ds => (D.pyL ds).map .list | .tup ds => (D.pyL ds).map .tuple | _ => none
def D.pyL : List D → Option (List PyData)
  | [] => some []
  | d :: ds => (D.py d).bind fun p => (D.pyL ds).map (p :: ·)
end
mutual
theorem At.dp {H : Hp} : ∀ {v : V} {d : D} {p : PyData}, At K H v d → d.py = some p → Dp K H v p
  | _, _, _, .non, h => by cases h; exact .non
  | _, _, _, .bl, h => by cases h; exact .bl _
  | _, _, _, .int, h => by cases h; exact .int _
  | _, _, _, .str, h => by cases h; exact .str _
  | _, _, _, .tup hs hl, h => by
    simp only [D.py, Option.map_eq_some_iff] at h
    obtain ⟨ps, h1, rfl⟩ := h
    exact .tup hs (AtL.dp hl h1)
  | _, _, _, .lst hs hl, h => by
    simp only [D.py, Option.map_eq_some_iff] at h
    obtain ⟨ps, h1, rfl⟩ := h
    exact .lst hs (AtL.dp hl h1)
  | _, _, _, .ty, h => by cases h
  | _, _, _, .dic _ _, h => by cases h
  | _, _, _, .adr, h => by cases h
  | _, _, _, .rng _, h => by cases h
  | _, _, _, .obj _ _, h => by cases h
theorem AtL.dp {H : Hp} : ∀ {vs : List V} {ds : List D} {ps : List PyData}, AtL K H vs ds → D.pyL ds = some ps → DpAll K H vs ps
  | _, _, _, .nil, h => by cases h; exact .nil
  | _, _, _, .cons a l, h => by
    simp only [D.pyL, Option.bind_eq_some_iff, Option.map_eq_some_iff] at h
    obtain ⟨p, h1, ps, h2, rfl⟩ := h
    exact .cons (At.dp a h1) (AtL.dp l h2)
end
theorem rv_eqD {p p' : PyData} (h : x.py = some p) (h' : y.py = some p') (s1 : SeqAt.shaped p = true) (s2 : SeqAt.shaped p' = true) {b : Bool} (e : PyData.eqv p p' = b) : RvE K (rEqD K) x y (.bl b) := fun u v H H0 s a c Q q =>
  ⟨p, p', (a.mono s).dp h, (c.mono s).dp h', s1, s2, by rw [e]; exact q.here s .bl⟩
theorem rv_neD {p p' : PyData} (h : x.py = some p) (h' : y.py = some p') (s1 : SeqAt.shaped p = true) (s2 : SeqAt.shaped p' = true) {b : Bool} (e : (!PyData.eqv p p') = b) : RvE K (rNeD K) x y (.bl b) := fun u v H H0 s a c Q q =>
  ⟨p, p', (a.mono s).dp h, (c.mono s).dp h', s1, s2, by rw [e]; exact q.here s .bl⟩

/-! repetition, slices -/
theorem AtL.flat {H : Hp} {vs : List V} {ds : List D} (l : AtL K H vs ds) : ∀ n : Nat, AtL K H (List.replicate n vs).flatten (List.replicate n ds).flatten
  | 0 => .nil
  | n + 1 => by
    rw [List.replicate_succ, List.replicate_succ, List.flatten_cons, List.flatten_cons]
    exact l.app (l.flat n)
theorem rv_repT {k : Int} (h : ds ≠ []) (h1 : 2 ≤ k) (h2 : k ≤ 1000) (h3 : ds.length ≤ 1000) : RvE K (rRepT K) (.tup ds) (.int k) (.tup (List.replicate k.toNat ds).flatten) := fun u v H H0 s a b Q q => by
  cases b
  cases a with
  | tup hs hl => exact ⟨_, k, _, rfl, rfl, same_t s hs, (fun e => h (List.eq_nil_of_length_eq_zero (by rw [← hl.length, e]; rfl))), h1, h2, by rw [hl.length]; exact h3, fun p hp => q.tup s rfl (hl.flat _) hp⟩
theorem AtL.drop {H : Hp} : ∀ {vs : List V} {ds : List D} (n : Nat), AtL K H vs ds → AtL K H (vs.drop n) (ds.drop n)
  | _, _, 0, l => l
  | _, _, _ + 1, .nil => .nil
  | _, _, n + 1, .cons _ l => l.drop n
theorem AtL.take {H : Hp} : ∀ {vs : List V} {ds : List D} (n : Nat), AtL K H vs ds → AtL K H (vs.take n) (ds.take n)
  | _, _, 0, _ => .nil
  | _, _, _ + 1, .nil => .nil
  | _, _, n + 1, .cons a l => .cons a (l.take n)
/-- t[n:] -/
theorem ev_slT {n : Nat} (h : EvE K te es (.tup ds)) : EvE K (L2.tSl (rSlA K) te (tPart (tC (.int (n : Int)))) tNoPart) es (.tup (ds.drop n)) := fun σ H H0 F s Q q => h σ H H0 F s _ fun w H1 H01 s1 a1 => by
  cases a1 with
  | @tup p vs _ hs hl =>
    refine ⟨(n : Int), rfl, p, vs, rfl, same_t s1.c hs, fun ⟨e, _⟩ => ?_, fun _ p' hp => ?_⟩
    · rw [HT.sIx_nat] at e
      have e2 : ds.drop n = ds := by
        rcases Nat.eq_zero_or_pos n with z | z
        · rw [z]; rfl
        · have : vs.length = 0 := by omega
          rw [hl.length] at this
          rw [List.eq_nil_of_length_eq_zero this]
          simp
      rw [e2] at q
      exact (q.step s1).here s1.c (.tup hs hl)
    · have e3 : cutV vs (some (n : Int)) none = vs.drop n := by
        unfold cutV
        rw [HT.sIx_nat, HT.sIx_none]
        by_cases hn : n ≤ vs.length
        · rw [Nat.min_eq_left hn]
          exact List.take_of_length_le (by simp)
        · have hz : vs.length ≤ n := by omega
          rw [Nat.min_eq_right hz, List.drop_eq_nil_of_le hz]
          simp
      rw [e3]
      exact (q.step s1).tup s1.c rfl (hl.drop n) hp
end
end FA
set_option Elab.async false
set_option autoImplicit false
set_option linter.all false
set_option maxRecDepth 100000
/-! Rules of my own: an attribute as a target, len of an own class, range as a value, dicts. -/
namespace FA
open PySem PySem.Spec PyProof.Rows L2 SlX
section
variable {X : Cx} {CX : CXT}
/-- o.f = .., o with slots, within a tuple of targets -/
def gSl (K : PySem.W.Frag) (ta : TE) (f : Str) : TG := fun v σ H Q => ta σ H fun x H1 => ∃ a C dx p vs i, x = .ref a ∧ Slt H1 a C dx vs ∧ SCls K C ∧ Slot1 K C f p i ∧ Q σ (slH H1 a C dx (putS i v vs))
theorem pg_sl {o : Expr} {f : Str} {pos : Pos} {ta : TE} (ho : PE X o ta) : PG X (.Attribute o f pos) (gSl X.K ta f) := by
  refine ⟨fun pins s σ H v u Q I r h => ?_⟩
  refine PySem.W.kas_attr (thn (ho.run pins s σ H _ I h) fun ov s1 ⟨x, H1, I1, rx, a, C, dx, p, vs, i, e, hs, c, t, q⟩ => ?_)
  subst e
  obtain rfl : ov = Value.ref a := rx
  exact setslot_ok I1 hs c t r fun s2 I2 => ⟨σ, _, I2, q⟩
/-- len of an instance with slots, by its own __len__ -/
def rLenSl (C : Addr) (sp : Sp) (E : XK) : List V → Hp → VK → Prop := fun xs H Q => ∃ a dx vs, xs = [V.ref a] ∧ Slt H a C dx vs ∧ sp [.ref a] H (fun z H' => ∃ n : Nat, z = .int n ∧ n ≤ 1000000 ∧ Q z H') E
theorem call_lenSl {C g : Addr} {n : Nat} {sp : Sp} {E : XK} (hs : PySem.W.findIn X.K (.ref C) "__len__" = some (some (.ref g))) (hf : PySem.W.isFn X.K (.ref g) = true) (F : FnR X.prog X.w X.K X.mg X.base CX n g sp) (hr : Room (n + 2) X.A) (hx : Passes CX X E) :
    CallR X (.builtin "len") (rLenSl C sp E) := by
  intro pins s σ H xs us Q I r h
  obtain ⟨a, dx, vs, rfl, hsl, q⟩ := h
  obtain ⟨u, rfl, ru⟩ := r.one
  cases (show u = Value.ref a from ru)
  obtain ⟨sl, od, _, J, _⟩ := slt_inst I hsl
  have hr1 : Room n X.A.in1 := (show Room (n + 1) X.A from hr.mono (by omega)).in1
  refine Calls.call_function_entry kind_len plain_len entry_len (args_len1 _) ?_
  unfold Builtin.«len»
  refine wpAny_bind (m := oneArg "len" _) (wpAny_pure ?_)
  refine wpAny_bind (m := callSpecial? (.ref a) (Str.ofString "__len__")) (PySem.W.special_fn (args := []) I.kIn J hs (beq_iff_eq.mp hf) (wpAny_mono (wpAny_call (run_at (us := [.ref a]) (ws := [.ref a]) F hr1 I.env0.in1 hx I (.cons rfl .nil) q)) (fun w s' z => ?_) fun _ _ x => x))
  obtain ⟨z', H', I', rz, m, ei, hm, qz⟩ := z
  subst ei
  obtain ⟨t, e⟩ := (show ∃ t, w = Value.int m t from rz)
  cases e
  show wpAny _ _ _ _ _ _
  refine wpAny_bind (wpAny_holding (wpAny_pure ?_))
  refine wpAny_bind (wpAny_letGo ?_)
  show wpAny _ _ (if (m : Int) < 0 then _ else _) _ _ _
  rw [if_neg (by omega)]
  show wpAny _ _ (if (m : Int) ≥ 2 ^ 63 then _ else _) _ _ _
  rw [if_neg (by omega)]
  exact wpAny_bind (wpAny_mkInt (wpAny_pure ⟨_, rfl, .int m, H', I'.tok _, ⟨_, rfl⟩, qz⟩))
end
end FA
set_option Elab.async false
set_option autoImplicit false
set_option linter.all false
set_option maxRecDepth 100000
/-! Ranges as values; dicts read, walked, made. -/
namespace FA
open PySem PySem.Spec PyProof.Rows L2 SlX
section
variable {X : Cx}
abbrev rRng1 : List V → Hp → VK → Prop := fun vs H Q => ∃ j, vs = [V.int j] ∧ ∀ p, H p = none → Q (.ref p) (upd H p (.rng 0 j))
theorem cr_range1 : CallR X (.type "range") rRng1 := by
  intro pins s σ H vs us Q I r h
  obtain ⟨j, rfl, q⟩ := h
  obtain ⟨u1, rfl, rj⟩ := vals1 r
  obtain ⟨u, rfl⟩ := rj
  refine call_range_1 ⟨.ref s.heap.objs.size, upd H s.heap.objs.size (.rng 0 j), I.laid (t' := s.toks + 1 + 1) (fun b o e => Heap.get?_push_of_some _ e) (Nat.le_refl _) ?_, rfl, q _ (I.hok.fresh (Nat.le_refl _))⟩
  exact ⟨s.toks, u, s.toks + 1, Heap.get?_push_size _ rfl⟩
/-- a range object walked -/
def iRngO (te : TE) : TI := fun σ H R => te σ H fun x H1 => ∃ p lo hi, x = .ref p ∧ H1 p = some (.rng lo hi) ∧ (-(2 ^ 62) ≤ lo ∧ lo < 2 ^ 62 ∧ -(2 ^ 62) ≤ hi ∧ hi < 2 ^ 62) ∧ R (Itr lo (hi - lo).toNat) H1
theorem pi_rng {tg e : Expr} {te : TE} (he : PE X e te) : PI X tg e (iRngO te) := by
  refine ⟨fun pins s σ H R I h => ?_⟩
  refine thn (he.run pins s σ H _ I h) fun v s1 ⟨x, H1, I1, r1, q1⟩ => ?_
  obtain ⟨p, lo, hi, e, hp, ⟨h1, h2, h3, h4⟩, q⟩ := q1
  subst e
  cases r1
  obtain ⟨t, u, v, hg⟩ := I1.hok p _ hp
  refine wpAny_pyIter_range (show IsRange s1.heap p lo hi 1 t u v from hg) (small_one h1 h2 h3 h4) ?_
  refine ⟨s1.heap.objs.size, [s1.heap.objs.size], _, _, H1, rfl, I1.kept (t' := s1.toks) fun b o e => Heap.get?_push_of_some _ e, turn_range _ lo (hi - lo).toNat, ?_, fun b hb => ?_, q⟩
  · have e1 : lo + ((0 : Nat) : Int) * 1 = lo := by simp
    have e2 : (((hi - lo).toNat : Nat) : Int) - ((0 : Nat) : Int) = Builtin.Range.rangeSize lo hi 1 := by rw [rangeSize_one]; split <;> omega
    show IsRangeIter _ _ (lo + ((0 : Nat) : Int) * 1) ((((hi - lo).toNat : Nat) : Int) - ((0 : Nat) : Int)) 1
    rw [e1, e2]
    exact Heap.get?_push_size _ rfl
  · have e : b = s1.heap.objs.size := by simpa using hb
    subst e
    exact I1.fpOk (Nat.le_refl _) (I1.hok.fresh (Nat.le_refl _))
/-- either rule -/
theorem PE.either {e : Expr} {t u : TE} (h : PE X e t) (h' : PE X e u) : PE X e (fun σ H Q => t σ H Q ∨ u σ H Q) :=
  ⟨fun pins s σ H Q I hw => hw.elim (fun z => h.run pins s σ H Q I z) fun z => h'.run pins s σ H Q I z⟩
/-- a dict is walked within: it is locked, or is so already -/
def tLockA (t : TE) : TE := fun σ H Q => t σ H Q ∨ tLockE t σ H Q
theorem pe_lockA {e : Expr} {t : TE} (h : PE X e t) : PE X e (tLockA t) := PE.either h (pe_lock h)
end

section
variable {K : PySem.W.Frag} {es : Es} {te ta tb ty td : TE} {d x y z : D} {ds : List D}
theorem rc_rng1 {j : Int} : RcE K rRng1 [.int j] (.rng 0 j) := fun vs H H0 s al Q q => by
  cases al with
  | cons a1 al =>
    cases al; cases a1
    exact ⟨j, rfl, fun p hp => q _ _ _ (Stp.new s hp) (.rng upd_same)⟩
theorem it_rngO {lo hi : Int} (h : EvE K te es (.rng lo hi)) (h1 : -1000000 ≤ lo ∧ lo ≤ 1000000) (h2 : -1000000 ≤ hi ∧ hi ≤ 1000000) : IterE K (iRngO te) es ((List.range (hi - lo).toNat).map fun (i : Nat) => D.int (lo + i)) :=
  fun σ H H0 F s R q => h σ H H0 F s _ fun w H1 H01 s1 a1 => by
  cases a1 with
  | rng hr => exact ⟨_, lo, hi, rfl, s1.c _ _ hr, ⟨by omega, by omega, by omega, by omega⟩, q _ H1 H01 s1 yl_range⟩

/-! dicts -/
def hasK (k : Key) (es : List (Key × D)) : Bool := es.any fun e => decide (e.1 = k)
theorem AtK.find {H : Hp} {k : Key} : ∀ {vs : List (Key × V)} {es : List (Key × D)}, AtK K H vs es → (valV vs k).isSome = hasK k es
  | _, _, .nil => rfl
  | _, _, .cons (k := k') (vs := vs) (ds := ds) a l => by
    have ih := AtK.find (k := k) l
    unfold valV hasK at ih ⊢
    rw [List.find?_cons, List.any_cons]
    by_cases h : k' = k
    · subst h
      simp
    · have e : decide (k' = k) = false := decide_eq_false h
      simp only [e, Bool.false_or]
      exact ih
theorem hasK_int {i : Int} : ∀ {ns : List Int} {g : Int → D}, hasK (.inl i) (ns.map fun n => ((Sum.inl n : Key), g n)) = decide (i ∈ ns)
  | [], _ => by simp [hasK]
  | n :: r, g => by
    have ih := hasK_int (i := i) (ns := r) (g := g)
    unfold hasK at ih ⊢
    rw [List.map_cons, List.any_cons, ih]
    by_cases h : n = i
    · subst h; simp
    · have e : decide ((Sum.inl n : Key) = Sum.inl i) = false := decide_eq_false fun z => h (Sum.inl.inj z)
      have e2 : ¬ i = n := fun z => h z.symm
      simp only [e, Bool.false_or, List.mem_cons, e2, false_or]
/-- a key's datum -/
def kD : Key → D
  | .inl i => .int i
  | .inr x => .str x
theorem At.of_key {H : Hp} {k : Key} {v : V} (a : At K H v (kD k)) : v = kV k := by
  cases k with
  | inl i => cases a; rfl
  | inr x => cases a; rfl
theorem At.key {H : Hp} {k : Key} : At K H (kV k) (kD k) := by
  cases k with
  | inl i => exact .int
  | inr x => exact .str
theorem ev_din {kvs : List (Key × D)} {k : Key} (hk : EvE K ty es (kD k)) (h : EvE K td es (.dic kvs)) : EvE K (tDIn ty td) es (.bl (hasK k kvs)) := fun σ H H0 F s Q q =>
  hk σ H H0 F s _ fun w H1 H01 s1 a1 => h σ H1 H01 F (s.stp s1) _ fun w2 H2 H02 s2 a2 => by
  have e := a1.of_key
  subst e
  cases a2 with
  | dic hr hl => exact ⟨_, _, rfl, .inl ⟨_, k, same_rd s2.c hr, rfl, rfl⟩, by rw [hl.find]; exact (q.step (s1.trans s2)).here s2.c .bl⟩
/-- len of a dict that is no one's walk now -/
abbrev rLenDQ : List V → Hp → VK → Prop := fun xs H Q => ∃ a kvs, xs = [V.ref a] ∧ H a = some (.dK kvs) ∧ Q (.int kvs.length) H

/-! heaps in which dicts are locked -/
def IsDict : HO → Prop
  | .dK _ => True
  | _ => False
/-- kept, or locked -/
def Lke (H H' : Hp) : Prop := ∀ a u, H a = some u → H' a = some u ∨ (IsDict u ∧ ∃ o, H' a = some (.frz o u))
theorem Lke.same {H H' : Hp} (s : Same H H') : Lke H H' := fun a u h => .inl (s a u h)
theorem Lke.rd {H H' : Hp} {a : Addr} {u : HO} (k : Lke H H') (h : Rd H a u) : Rd H' a u := by
  rcases h with h | ⟨o, h⟩
  · rcases k a u h with h' | ⟨_, o, h'⟩
    · exact .inl h'
    · exact .inr ⟨o, h'⟩
  · rcases k a _ h with h' | ⟨z, _⟩
    · exact .inr ⟨o, h'⟩
    · exact z.elim
theorem Lke.t {H H' : Hp} {a : Addr} {xs : List V} (k : Lke H H') (h : SqT K H a xs) : SqT K H' a xs := by
  rcases h with h | h
  · exact .inl (k.rd h)
  · exact .inr h
theorem Lke.l {H H' : Hp} {a : Addr} {xs : List V} (k : Lke H H') (h : SqL K H a xs) : SqL K H' a xs := by
  rcases h with h | h
  · exact .inl (k.rd h)
  · exact .inr h
theorem Lke.keep {H H' : Hp} {a : Addr} {u : HO} (k : Lke H H') (h : H a = some u) (n : ¬ IsDict u) : H' a = some u := by
  rcases k a u h with h' | ⟨z, _⟩
  · exact h'
  · exact absurd z n
theorem Lke.slt {H H' : Hp} {a C dx : Addr} {vs : List (Option V)} (k : Lke H H') (h : Slt H a C dx vs) : Slt H' a C dx vs := by
  rcases h with ⟨h, z⟩ | ⟨h, z⟩
  · exact .inl ⟨k.keep h (fun q => q), z⟩
  · exact .inr ⟨k.keep h (fun q => q), k.keep z (fun q => q)⟩
mutual
theorem At.lke {H H' : Hp} (k : Lke H H') : ∀ {v : V} {d : D}, At K H v d → At K H' v d
  | _, _, .non => .non
  | _, _, .bl => .bl
  | _, _, .int => .int
  | _, _, .str => .str
  | _, _, .ty => .ty
  | _, _, .tup h l => .tup (k.t h) (AtL.lke k l)
  | _, _, .lst h l => .lst (k.l h) (AtL.lke k l)
  | _, _, .dic h l => .dic (k.rd h) (AtK.lke k l)
  | _, _, .adr => .adr
  | _, _, .rng h => .rng (k.keep h (fun q => q))
  | _, _, .obj h l => .obj (k.slt h) (AtL.lke k l)
theorem AtL.lke {H H' : Hp} (k : Lke H H') : ∀ {v : List V} {d : List D}, AtL K H v d → AtL K H' v d
  | _, _, .nil => .nil
  | _, _, .cons h l => .cons (At.lke k h) (AtL.lke k l)
theorem AtK.lke {H H' : Hp} (k : Lke H H') : ∀ {v : List (Key × V)} {d : List (Key × D)}, AtK K H v d → AtK K H' v d
  | _, _, .nil => .nil
  | _, _, .cons h l => .cons (At.lke k h) (AtK.lke k l)
end
/-- what was locked is free again -/
def Ulk (H H' : Hp) (dd : Addr) (o : Obj) (u : HO) : Prop := H dd = some (.frz o u) ∧ H' = upd H dd u
theorem ulk_rd {H : Hp} {dd : Addr} {o : Obj} {kvs : List (Key × V)} (h : H dd = some (.frz o (.dK kvs))) {a : Addr} {u : HO} (r : Rd H a u) (nf : ∀ o z, u ≠ .frz o z) : Rd (upd H dd (.dK kvs)) a u := by
  by_cases e : a = dd
  · subst e
    rcases r with r | ⟨o', r⟩
    · rw [h] at r; cases r; exact absurd rfl (nf _ _)
    · rw [h] at r; cases r; exact .inl upd_same
  · rcases r with r | ⟨o', r⟩
    · exact .inl (by rw [upd_ne e]; exact r)
    · exact .inr ⟨o', by rw [upd_ne e]; exact r⟩
theorem ulk_slt {H : Hp} {dd a C dx : Addr} {o : Obj} {kvs : List (Key × V)} {vs : List (Option V)} (k : H dd = some (.frz o (.dK kvs))) (h : Slt H a C dx vs) : Slt (upd H dd (.dK kvs)) a C dx vs := by
  rcases h with ⟨h, z⟩ | ⟨h, z⟩
  · exact .inl ⟨by rw [upd_ne (ne_of h k (fun z => nomatch z))]; exact h, z⟩
  · exact .inr ⟨by rw [upd_ne (ne_of h k (fun z => by unfold SlO at z; cases z))]; exact h, by rw [upd_ne (ne_of z k (fun z => nomatch z))]; exact z⟩
theorem ulk_rng {H : Hp} {dd p : Addr} {o : Obj} {kvs : List (Key × V)} {lo hi : Int} (k : H dd = some (.frz o (.dK kvs))) (h : H p = some (.rng lo hi)) : upd H dd (.dK kvs) p = some (.rng lo hi) := by
  rw [upd_ne (ne_of h k (fun z => nomatch z))]; exact h
theorem ulk_t {H : Hp} {dd p : Addr} {o : Obj} {kvs : List (Key × V)} {xs : List V} (k : H dd = some (.frz o (.dK kvs))) (h : SqT K H p xs) : SqT K (upd H dd (.dK kvs)) p xs :=
  h.imp (fun r => ulk_rd k r (fun _ _ z => nomatch z)) id
theorem ulk_l {H : Hp} {dd p : Addr} {o : Obj} {kvs : List (Key × V)} {xs : List V} (k : H dd = some (.frz o (.dK kvs))) (h : SqL K H p xs) : SqL K (upd H dd (.dK kvs)) p xs :=
  h.imp (fun r => ulk_rd k r (fun _ _ z => nomatch z)) id
mutual
theorem At.ulk {H : Hp} {dd : Addr} {o : Obj} {kvs : List (Key × V)} (k : H dd = some (.frz o (.dK kvs))) : ∀ {v : V} {d : D}, At K H v d → At K (upd H dd (.dK kvs)) v d
  | _, _, .non => .non
  | _, _, .bl => .bl
  | _, _, .int => .int
  | _, _, .str => .str
  | _, _, .ty => .ty
  | _, _, .tup h l => .tup (ulk_t k h) (AtL.ulk k l)
  | _, _, .lst h l => .lst (ulk_l k h) (AtL.ulk k l)
  | _, _, .dic h l => .dic (ulk_rd k h (fun _ _ z => nomatch z)) (AtK.ulk k l)
  | _, _, .adr => .adr
  | _, _, .rng h => .rng (ulk_rng k h)
  | _, _, .obj h l => .obj (ulk_slt k h) (AtL.ulk k l)
theorem AtL.ulk {H : Hp} {dd : Addr} {o : Obj} {kvs : List (Key × V)} (k : H dd = some (.frz o (.dK kvs))) : ∀ {v : List V} {d : List D}, AtL K H v d → AtL K (upd H dd (.dK kvs)) v d
  | _, _, .nil => .nil
  | _, _, .cons h l => .cons (At.ulk k h) (AtL.ulk k l)
theorem AtK.ulk {H : Hp} {dd : Addr} {o : Obj} {kvs : List (Key × V)} (k : H dd = some (.frz o (.dK kvs))) : ∀ {v : List (Key × V)} {d : List (Key × D)}, AtK K H v d → AtK K (upd H dd (.dK kvs)) v d
  | _, _, .nil => .nil
  | _, _, .cons h l => .cons (At.ulk k h) (AtK.ulk k l)
end
/-- an expression that finds one object, whatever is locked -/
def PathE (K : PySem.W.Frag) (te : TE) (es : Es) (x : D) : Prop := ∀ (σ : L2.St) (H H0 F : Hp), Sta K σ H H0 F es → ∃ v : V, At K H0 v x ∧ ∀ H' H0' : Hp, Lke H0 H0' → Same H0' H' → ∀ Q : VK, Q v H' → te σ H' Q
theorem path_var {i : Nat} (h : es[i]? = some (.val x)) : PathE K (tVar i) es x := fun σ H H0 F s => by
  obtain ⟨v, e, a⟩ := s.val i x h
  exact ⟨v, a, fun H' H0' _ _ Q q => ⟨v, e, q⟩⟩
theorem path_int {i : Int} : PathE K (tC (.int i)) es (.int i) := fun σ H H0 F s => ⟨.int i, .int, fun H' H0' _ _ Q q => q⟩
theorem path_sl {C p : Addr} {f : Str} {i : Nat} {fs : List D} (h : PathE K ta es (.obj C fs)) (c : SCls K C) (sl : Slot1 K C f p i) (e : fs[i]? = some x) : PathE K (tSl K ta f) es x := fun σ H H0 F s => by
  obtain ⟨v, a, k⟩ := h σ H H0 F s
  cases a with
  | @obj q _ dx ws _ hs hl =>
    obtain ⟨u, e1, au⟩ := hl.get e
    refine ⟨u, au, fun H' H0' l sm Q qq => k H' H0' l sm _ ?_⟩
    exact ⟨q, C, dx, p, _, i, u, rfl, same_slt sm (l.slt hs), c, sl, by rw [List.getElem?_map, e1]; rfl, qq⟩
theorem path_ixT {i : Int} (h : PathE K ta es (.tup ds)) (hi : PathE K tb es (.int i)) (e : atI ds i = some x) : PathE K (tOp (rIxT K) ta tb) es x := fun σ H H0 F s => by
  obtain ⟨v, a, k⟩ := h σ H H0 F s
  obtain ⟨w, b, k2⟩ := hi σ H H0 F s
  cases b
  cases a with
  | @tup p vs _ hs hl =>
    obtain ⟨u, e1, au⟩ := hl.atI e
    exact ⟨u, au, fun H' H0' l sm Q qq => k H' H0' l sm _ (k2 H' H0' l sm _ ⟨p, vs, i, u, rfl, rfl, same_t sm (l.t hs), e1, qq⟩)⟩
theorem AtK.keys {H : Hp} : ∀ {vs : List (Key × V)} {es : List (Key × D)}, AtK K H vs es → (vs.map fun e : Key × V => e.1) = es.map fun e : Key × D => e.1
  | _, _, .nil => rfl
  | _, _, .cons _ l => by rw [List.map_cons, List.map_cons, AtK.keys l]
/-- the heap with dd locked -/
theorem Lke.lock {H : Hp} {dd : Addr} {o : Obj} {ws : List (Key × V)} (h : H dd = some (.dK ws)) : Lke H (upd H dd (.frz o (.dK ws))) := fun a u e => by
  by_cases q : a = dd
  · subst q
    rw [h] at e
    cases e
    exact .inr ⟨trivial, o, upd_same⟩
  · exact .inl (by rw [upd_ne q]; exact e)
theorem Sta.lock {σ : L2.St} {H H0 F : Hp} (s : Sta K σ H H0 F es) {dd : Addr} {o : Obj} {ws : List (Key × V)} (h : H0 dd = some (.dK ws)) : Sta K σ (upd H dd (.frz o (.dK ws))) (upd H0 dd (.frz o (.dK ws))) F es := by
  have fd : F dd = none := by
    cases q : F dd with
    | none => rfl
    | some u =>
      have := s.ff dd u q
      rw [h] at this
      cases this
  have lk := Lke.lock (o := o) h
  refine ⟨same_upd s.h0, fun a u e => ?_, fun a u e => ?_, s.len, fun i d e => ?_, fun i t d e => ?_, fun i d e => ?_, s.dis⟩
  · rw [upd_ne (ne_of_none e fd)]; exact s.f a u e
  · rw [upd_ne (ne_of_none e fd)]; exact s.ff a u e
  · obtain ⟨v, q1, q2⟩ := s.val i d e
    exact ⟨v, q1, q2.lke lk⟩
  · obtain ⟨p, vs, qt, q1, q2, q3, q4, q5⟩ := s.own i t d e
    have np : p ≠ dd := fun z => by rw [z, h] at q4; cases q4
    exact ⟨p, vs, qt, q1, by rw [upd_ne np]; exact q2, q3.lke lk, by rw [upd_ne np]; exact q4, q5⟩
  · obtain ⟨p, vs, q1, q2, q3, q4, q5⟩ := s.ownd i d e
    have np : p ≠ dd := fun z => by rw [z, h] at q4; cases q4
    exact ⟨p, vs, q1, by rw [upd_ne np]; exact q2, q3.lke lk, by rw [upd_ne np]; exact q4, q5⟩
/-- a step made while dd was locked -/
theorem Stp.ulk {H H0 H' H0' : Hp} {dd : Addr} {o : Obj} {ws : List (Key × V)} (hd : H dd = some (.dK ws)) (h0 : H0 dd = some (.dK ws)) (x : Stp (upd H dd (.frz o (.dK ws))) (upd H0 dd (.frz o (.dK ws))) H' H0') : Stp H H0 (upd H' dd (.dK ws)) (upd H0' dd (.dK ws)) := by
  refine ⟨fun a u e => ?_, fun a u e => ?_, same_upd x.c, fun a u e n => ?_⟩
  · by_cases q : a = dd
    · subst q; rw [hd] at e; cases e; exact upd_same
    · rw [upd_ne q]; exact x.a a u (by rw [upd_ne q]; exact e)
  · by_cases q : a = dd
    · subst q; rw [h0] at e; cases e; exact upd_same
    · rw [upd_ne q]; exact x.b a u (by rw [upd_ne q]; exact e)
  · have q : a ≠ dd := fun z => by rw [z, h0] at n; cases n
    rw [upd_ne q]
    exact x.n a u (by rw [upd_ne q]; exact e) (by rw [upd_ne q]; exact n)
/-- [elt for k in d if ..] -/
theorem ef_lcD {g : TG} {tt : TT} {vs : List Nat} {α : Type} {kvs : List (Key × D)} (hp : PathE K td es (.dic kvs)) (xs : List α) (key : α → Key) (hk : (kvs.map fun e : Key × D => e.1) = xs.map key) (f : α → Bool) (h : α → D) (es' : α → Es) (hg : ∀ x ∈ xs, GE K g vs (wipeE es vs) (kD (key x)) (es' x))
    (ht : ∀ x ∈ xs, EvT K tt (es' x) (f x)) (he : ∀ x ∈ xs, f x = true → EvE K te (es' x) (h x)) (hz : xs.length ≤ 100000) : EvF K (tLockA (tLc (iKeys td) g tt te vs)) es ((xs.filter f).map h) := fun σ H H0 F s Q q => by
  obtain ⟨v, a, k⟩ := hp σ H H0 F s
  cases a with
  | @dic dd ws _ hr hl =>
    have hl' : (ws.map fun e : Key × V => e.1) = xs.map key := hl.keys.trans hk
    -- the walk, where the dict is locked
    have walk : ∀ {H' H0' : Hp} {o : Obj}, Lke H0 H0' → Same H0' H' → H0' dd = some (.frz o (.dK ws)) → ∀ R : It → Hp → Prop, (∀ (J : It) (H2 H02 : Hp), Stp H' H0' H2 H02 → Yl K J H02 (xs.map fun x => kD (key x)) → R J H2) → iKeys td σ H' R := fun {H' H0' o} l sm hd R r => by
      refine k H' H0' l sm _ ⟨dd, o, rfl, .inl ⟨ws, sm _ _ hd, r _ H' H0' (Stp.refl sm) fun H1 H01 sa sb => ⟨fun i x e => ?_, ?_⟩⟩⟩
      · rw [List.getElem?_map] at e
        cases ex : xs[i]? with
        | none => rw [ex] at e; cases e
        | some y =>
          rw [ex] at e
          cases e
          have e2 : (ws.map fun e : Key × V => e.1)[i]? = some (key y) := by rw [hl', List.getElem?_map, ex]; rfl
          rw [List.getElem?_map] at e2
          cases ew : ws[i]? with
          | none => rw [ew] at e2; cases e2
          | some kv =>
            rw [ew] at e2
            have ek : kv.1 = key y := Option.some.inj e2
            refine ⟨⟨sb _ _ (sa _ _ hd), (List.getElem?_eq_some_iff.mp ew).1⟩, fun u H3 ⟨e3, kk, vv, e4, e5⟩ => ?_⟩
            subst e3 e5
            rw [ew] at e4
            cases e4
            refine ⟨H01, Stp.refl sb, ?_⟩
            have ek : kk = key y := ek
            rw [ek]
            exact At.key
      · refine ⟨sb _ _ (sa _ _ hd), ?_⟩
        have e3 := congrArg List.length hl'
        simp only [List.length_map] at e3 ⊢
        omega
    rcases hr with hr | ⟨o, hr⟩
    · refine .inr ⟨dd, .dK ws, s.h0 _ _ hr, trivial, fun od => ?_⟩
      refine ef_lc_at xs (fun x => kD (key x)) f h es' σ _ _ F (s.lock (o := od) hr) (fun R r => walk (Lke.lock hr) (same_upd s.h0) upd_same R r) hg ht he hz _ fun p us H' H0' hp st h1 h2 al => ?_
      have hd' : H' dd = some (.frz od (.dK ws)) := st.a _ _ upd_same
      have hd0 : H0' dd = some (.frz od (.dK ws)) := st.b _ _ upd_same
      refine ⟨hd', ?_⟩
      have np : p ≠ dd := fun z => by rw [z, upd_same] at hp; cases hp
      refine q p us _ (upd H0' dd (.dK ws)) (by rw [upd_ne np] at hp; exact hp) (st.ulk (s.h0 _ _ hr) hr) (by rw [upd_ne np]; exact h1) (by rw [upd_ne np]; exact h2) (al.ulk hd0)
    · exact .inl (ef_lc_at xs (fun x => kD (key x)) f h es' σ _ _ F s (fun R r => walk (Lke.same (Same.refl _)) s.h0 hr R r) hg ht he hz _ q)
end
end FA
set_option Elab.async false
set_option autoImplicit false
set_option linter.all false
set_option maxRecDepth 100000
/-! Dict comprehensions whose keys are pairs of ints and whose values are True. -/
namespace FA
open PySem PySem.Spec PyProof.Rows L2 SlX
def kPair (p : Int × Int) : List Key := [.inl p.1, .inl p.2]
theorem kPair_inj {p q : Int × Int} (h : kPair p = kPair q) : p = q := by
  unfold kPair at h
  simp only [List.cons.injEq, Sum.inl.injEq, and_true] at h
  exact Prod.ext h.1 h.2
/-- the dict's entries: the keys' addresses, the keys -/
def xsP (L : List (Addr × Int × Int)) : List (List Key × Addr × Value) := L.map fun p => (kPair p.2, p.1, Value.bool true)
/-- the pair is put in, if it is not there -/
def putL (L : List (Addr × Int × Int)) (b : Addr) (k : Int × Int) : List (Addr × Int × Int) := if k ∈ L.map (·.2) then L else L ++ [(b, k)]
theorem putL_len (L : List (Addr × Int × Int)) (b : Addr) (k : Int × Int) : (putL L b k).length ≤ L.length + 1 := by
  unfold putL
  split
  · omega
  · simp
theorem xsP_keys (L : List (Addr × Int × Int)) : (xsP L).map (·.1) = (L.map (·.2)).map kPair := by
  unfold xsP
  rw [List.map_map, List.map_map]
  rfl
theorem atKey_xsP (L : List (Addr × Int × Int)) (k : Int × Int) : (atKey (xsP L) (kPair k)).isSome = decide (k ∈ L.map (·.2)) := by
  induction L with
  | nil => rfl
  | cons p r ih =>
    unfold atKey xsP at ih ⊢
    rw [List.map_cons, List.find?_cons]
    by_cases h : p.2 = k
    · subst h
      simp
    · have h1 : decide (kPair p.2 = kPair k) = false := decide_eq_false fun z => h (kPair_inj z)
      have h2 : ¬ k = p.2 := fun z => h z.symm
      simp only [h1, ih, List.map_cons, List.mem_cons, h2, false_or]
theorem stored_xsP (L : List (Addr × Int × Int)) (b : Addr) (k : Int × Int) : storedH (xsP L) (kPair k) b (Value.bool true) = xsP (putL L b k) := by
  unfold storedH putL
  rw [atKey_xsP]
  by_cases h : k ∈ L.map (·.2)
  · rw [if_pos (decide_eq_true h), if_pos h]
    unfold xsP
    rw [List.map_map]
    refine List.map_congr_left fun p _ => ?_
    unfold putAt
    simp only [Function.comp]
    split <;> rfl
  · rw [if_neg (by simpa using h), if_neg h]
    unfold xsP
    rw [List.map_append]
    rfl
structure DtT0 (P : Program) (w : World) (h : Heap) (a : Addr) (L : List (Addr × Int × Int)) : Prop where
  lo : (a == sysModules) = false
  len : L.length ≤ sizeLine
  nd : (L.map (·.2)).Nodup
  ex : ∃ (o : Obj) (es : Array DictEntry) (ep : Nat), h.get? a = some o ∧ o.ExactDict ∧ o.data = .dict es ep ∧ es.toList = (xsP L).map (entryOfKey (tupleKind (mixKind P w)))
/-- a dict with such keys, as an object -/
def DTO (P : Program) (w : World) (a : Addr) (L : List (Addr × Int × Int)) : HO := .ext fun h => DtT0 P w h a L
theorem dtO_ok {P : Program} {w : World} {H : Hp} {h : Heap} {a : Addr} {L : List (Addr × Int × Int)} (R : DtT0 P w h a L) : ObjOk P w H h a (DTO P w a L) := by
  obtain ⟨o, es, ep, ho, r⟩ := R.ex
  refine ⟨R, ⟨o, ho⟩, fun h1 h2 p k => ?_⟩
  have p' : DtT0 P w h1 a L := p
  obtain ⟨o', es', ep', ho', r'⟩ := p'.ex
  exact (⟨p'.lo, p'.len, p'.nd, o', es', ep', k o' ho', r'⟩ : DtT0 P w h2 a L)
theorem dtT_empty {P : Program} {w : World} {H : Hp} (h : Heap) (hb : sysModules < h.objs.size) : ObjOk P w H (h.push { cls := .type "dict", data := .dict #[] }) h.objs.size (DTO P w h.objs.size []) := by
  obtain ⟨_, h2, xs, pr, o, es, ep, h3, h4, h5, h6, h7⟩ := (show ObjOk P w H (h.push { cls := .type "dict", data := .dict #[] }) h.objs.size (.dT []) from dt_empty h hb)
  cases pr
  exact dtO_ok ⟨h2, Nat.zero_le _, by simp, o, es, ep, h3, h4, h5, h6⟩
section
variable {X : Cx} {pins : List (Addr × Obj)} {σ : L2.St} {H : Hp} {s : Shared}
theorem dtT_h {P : Program} {w : World} {h : Heap} {H : Hp} {a : Addr} {L : List (Addr × Int × Int)} (ok : HOk P w H h) (R : DtT0 P w h a L) (hL : ∀ p ∈ L, H p.1 = some (.tup [.int p.2.1, .int p.2.2])) : h.DictOfH (tupleKind (mixKind P w)) a (xsP L) := by
  obtain ⟨o, es, ep, h1, h2, h3, h4⟩ := R.ex
  refine ⟨o, es, ep, h1, h2, h3, h4, fun x hx => ?_, ?_⟩
  · obtain ⟨p, hp, e⟩ := List.mem_map.mp hx
    subst e
    exact key_of (ks := kPair p.2) ok (hL p hp)
  · rw [xsP_keys]
    exact (List.nodup_iff_pairwise_ne.mpr ((List.pairwise_map.mpr ((List.nodup_iff_pairwise_ne.mp R.nd).imp fun {a b} h z => h (kPair_inj z)))))
/-- d[t] = True by a comprehension, t a pair -/
theorem dT_dictSet {E : Value → Shared → Prop} {D b : Addr} {L : List (Addr × Int × Int)} {k : Int × Int} {u r : Value} {Q : Unit → Shared → Prop} (hu : X.A.units < cLine) (I : Inv X pins σ H s) (hD : H D = some (DTO X.prog X.w D L)) (hb : H b = some (.tup [.int k.1, .int k.2])) (hL : ∀ p ∈ L, H p.1 = some (.tup [.int p.2.1, .int p.2.2])) (hz : L.length < sizeLine)
    (ry : RelV (.ref b) u) (rv : RelV (.bl true) r) (h : ∀ s', Inv X pins σ (upd H D (DTO X.prog X.w D (putL L b k))) s' → Q () s') : wpAny (model X.prog X.w) X.A (dictSet D u r) Q E s := by
  cases (show u = Value.ref b from ry)
  cases (show r = Value.bool true from rv)
  have R : DtT0 X.prog X.w s.heap D L := (I.hok D _ hD).1
  have dd := dtT_h I.hok R hL
  have hz2 : (xsP L).length ≤ sizeLine := by unfold xsP; rw [List.length_map]; exact R.len
  have hl : (putL L b k).length ≤ sizeLine := by have := putL_len L b k; omega
  refine wpAny_dictSet_heap (hsz := hz2) (knd := tupleKind (mixKind X.prog X.w)) hu (key_of (ks := kPair k) I.hok hb) dd fun h' dd' hs => h _ ?_
  rw [stored_xsP] at dd'
  obtain ⟨q, es, ep, hq, h2, h3, h4, _, h5⟩ := dd'
  refine d_write I (by rw [hD]; exact True.intro) hs ⟨q, hq⟩ (dtO_ok ⟨R.lo, hl, ?_, q, es, ep, hq, h2, h3, h4⟩)
  rw [xsP_keys] at h5
  exact List.nodup_iff_pairwise_ne.mpr ((List.pairwise_map.mp (List.nodup_iff_pairwise_ne.mp h5)).imp fun {a b} h z => h (by rw [z]))
end
/-! ### a dict filled by a comprehension, whatever its keys

The law of such a block, cut in four: a rest between two turns (`Rest`), what a rest gives the iterator (`Rest.free`), how a turn ends in a
rest (`rest_back`), one turn (`rest_turn`). What the new dict is told as (`O`) and what one store does to it (`put`) are left open. -/
/-- the store that a turn ends with -/
abbrev Put := Addr → V → V → Hp → (Hp → Prop) → Prop
/-- `put` tells truly what the store does, in each context of this program -/
def PutOk (X : Cx) (put : Put) : Prop := ∀ (Y : Cx), Y.prog = X.prog → Y.w = X.w → Y.A = X.A →
  ∀ (pl : List (Addr × Obj)) (τ : L2.St) (F : Hp) (t : Shared) (d : Addr) (a b : V) (u v : Value) (N : Hp → Prop), Inv Y pl τ F t → RelV a u → RelV b v → put d a b F N →
    wpAny (model X.prog X.w) X.A (dictSet d u v) (fun _ t' => ∃ F', Inv Y pl τ F' t' ∧ N F') (fun _ _ => False) t
/-- the clause's body as a term: tests, key, value, store -/
abbrev tFill (g : TG) (tt : TT) (tk tv : TE) (vs : List Nat) (put : Put) (d : Addr) (σ : L2.St) (x : V) (F : Hp) (N : Hp → Prop) : Prop :=
  g x (wipe σ vs) F fun τ F1 => wipe τ vs = wipe σ vs ∧ tt τ F1 fun yes F2 => if yes = true then tk τ F2 fun a F3 => tv τ F3 fun b F4 => put d a b F4 N else N F2
/-- one turn is owed: the iterator stops and all is well, or it goes on and the body comes nearer -/
abbrev Owed (J : It) (W : Nat → Nat → Hp → Prop) (body : V → Hp → (Hp → Prop) → Prop) (fin : Hp → Prop) : Prop := ∀ i m F, W i m F →
  (J.stop i F ∧ fin F) ∨ (J.go i F ∧ ∃ N : Hp → Prop, (∀ F', N F' → ∃ m', m' < m ∧ W (i + 1) m' F') ∧ ∀ x F', J.yld i F x F' → body x F' N)
def tDcG (O : Addr → HO) (put : Put) (wi : TI) (g : TG) (tt : TT) (tk tv : TE) (vs : List Nat) : TE := fun σ H Q => wi σ H fun J H1 => ∀ d, H1 d = none →
  ∃ W : Nat → Nat → Hp → Prop, (∃ m, W 0 m (upd H1 d (O d))) ∧ Owed J W (tFill g tt tk tv vs put d σ) fun F => Q (.ref d) F
section
variable {X : Cx} {s0 : Shared} {H0 : Hp} {sc : Scope} {ce : Env} {fp : List Addr} {tn : Nat → Heap → Prop} {τ : L2.St} {W : Nat → Nat → Hp → Prop} {J : It} {it : Addr} {tg : Expr}
/-- the block rests between two turns: m is the measure -/
def Rest (X : Cx) (s0 : Shared) (H0 : Hp) (sc : Scope) (ce : Env) (fp : List Addr) (tn : Nat → Heap → Prop) (τ : L2.St) (W : Nat → Nat → Hp → Prop) (m : Nat) (t : Shared) : Prop :=
  ∃ (i : Nat) (F : Hp), W i m F ∧ tn i t.heap ∧ (∀ b ∈ fp, F b = none) ∧ Inv (X.blk s0 H0 sc ce fp) [] τ F t
/-- at a rest the iterator's own objects may turn -/
theorem free_rest {F : Hp} {t : Shared} (I : Inv (X.blk s0 H0 sc ce fp) [] τ F t) (no : ∀ b ∈ fp, F b = none) : ∀ b ∈ fp, FpOk (X.blk s0 H0 sc ce fp) [] F b := by
  intro b hb
  obtain ⟨e1, e2⟩ := I.ok.exf b hb
  refine And.intro (no b hb) (And.intro e1 (And.intro (I.ok.exfs b hb) (And.intro (Or.inl hb) (And.intro (fun y c => e2 y c) ?_))))
  intro p hp
  simp at hp
/-- what stood pinned through a turn stands as it stood -/
theorem stood {pl : List (Addr × Obj)} {F : Hp} {t t' : Shared} (I : Inv (X.blk s0 H0 sc ce fp) (pl ++ pinsAt fp t.heap) τ F t') {b : Addr} {o : Obj} (hb : b ∈ fp) (ho : t.heap.get? b = some o) : t'.heap.get? b = some o ∧ F b = none := by
  have mem : (b, o) ∈ pl ++ pinsAt fp t.heap := List.mem_append.mpr (Or.inr (mem_pinsAt hb ho))
  have z := I.pin (b, o) (List.mem_append.mpr (Or.inr mem))
  exact And.intro z.1 z.2.1
/-- a turn ends in a rest -/
theorem rest_back {P : Program} {w : World} {K : PySem.W.Frag} {σ τ' : L2.St} {vs : List Nat} {i m n : Nat} {F : Hp} {t t' : Shared} (T : Turn P w K tg J fp it tn) (ready : tn (i + 1) t.heap) (I : Inv (X.blk s0 H0 sc ce fp) ([] ++ pinsAt fp t.heap) τ' F t')
    (hw : wipe τ' vs = wipe σ vs) (lt : m < n) (w' : W (i + 1) m F) : ∃ m, m < n ∧ Rest X s0 H0 sc ce fp tn (wipe σ vs) W m t' := by
  refine Exists.intro m (And.intro lt (Exists.intro (i + 1) (Exists.intro F (And.intro w' (And.intro ?ready (And.intro ?no ?inv))))))
  case ready => exact T.keep (i + 1) t.heap t'.heap ready fun b hb o ho => (stood I hb ho).1
  case no =>
    intro b hb
    obtain ⟨o, ho, -⟩ := T.obj (i + 1) t.heap ready b hb
    exact (stood I hb ho).2
  case inv =>
    rw [← hw]
    exact (Inv.unpinned (pins := []) I).weak (wipe_length τ' vs) fun j v e => (wipe_some e).1
/-- one turn: from a rest to a rest, or out -/
theorem rest_turn {ifs : List Expr} {kx vx : Expr} {g : TG} {tt : TT} {tk tv : TE} {put : Put} {vs : List Nat} {σ : L2.St} {d : Addr} {fin : Hp → Prop} {R : Result → Shared → Prop} {n : Nat} {t : Shared} (calm : X.calm = true) (hput : PutOk X put)
    (T : Turn X.prog X.w X.K tg J fp it tn) (pg : PG (X.blk s0 H0 sc ce fp) tg g) (pt : PTs (X.blk s0 H0 sc ce fp) ifs tt) (pk : PE (X.blk s0 H0 sc ce fp) kx tk) (pv : PE (X.blk s0 H0 sc ce fp) vx tv) (owed : Owed J W (tFill g tt tk tv vs put d σ) fin)
    (out : ∀ F t', Inv (X.blk s0 H0 sc ce fp) [] (wipe σ vs) F t' → fin F → R (.ok .next) t') (rest : Rest X s0 H0 sc ce fp tn (wipe σ vs) W n t) :
    wpAny (model X.prog X.w) X.A (pyNext (.ref it)) (fun r t1 => match r with
      | none => R (.ok .next) t1
      | some v => wpAny (model X.prog X.w) X.A (letOwnedTupleGo tg (.ref it) v) (fun _ t2 => wpAny (model X.prog X.w) X.A (assign tg ce v) (fun _ t3 =>
          wpAny (model X.prog X.w) X.A (forIn ifs true fun c r => if r = true then do let ok ← isTrue c ce (eval c ce); pure (ForInStep.yield ok) else pure (ForInStep.yield r)) (fun yes t4 =>
            if yes = true then wpAny (model X.prog X.w) X.A (eval kx ce) (fun a t5 => wpAny (model X.prog X.w) X.A (eval vx ce) (fun b t6 =>
              wpAny (model X.prog X.w) X.A (dictSet d a b) (fun _ t7 => ∃ m, m < n ∧ Rest X s0 H0 sc ce fp tn (wipe σ vs) W m t7) (notedBy (model X.prog X.w) X.A ce fun e t' => R (.error e) t') t6) (notedBy (model X.prog X.w) X.A ce fun e t' => R (.error e) t') t5) (notedBy (model X.prog X.w) X.A ce fun e t' => R (.error e) t') t4
            else ∃ m, m < n ∧ Rest X s0 H0 sc ce fp tn (wipe σ vs) W m t4) (notedBy (model X.prog X.w) X.A ce fun e t' => R (.error e) t') t3) (notedBy (model X.prog X.w) X.A ce fun e t' => R (.error e) t') t2) (notedBy (model X.prog X.w) X.A ce fun e t' => R (.error e) t') t1) (notedBy (model X.prog X.w) X.A ce fun e t' => R (.error e) t') t := by
  obtain ⟨i, F, hw, ready, no, I⟩ := rest
  rcases owed i n F hw with stops | goes
  · apply thnF (T.done (X.blk s0 H0 sc ce fp) rfl rfl rfl calm i [] t _ F _ I (free_rest I no) ready stops.1)
    intro r t1 z
    rw [z.1]
    exact out F t1 z.2 stops.2
  · obtain ⟨go, N, near, body⟩ := goes
    apply thnF (T.item (X.blk s0 H0 sc ce fp) rfl rfl rfl calm i [] t _ F _ I (free_rest I no) ready go)
    intro r t1 z
    obtain ⟨u, er, z⟩ := z
    rw [er]
    apply thnF z
    intro _ t2 z
    obtain ⟨x, F2, I2, rx, y, ready2, no2⟩ := z
    have Ip := Inv.pinned I2 (free_rest I2 no2) (T.obj (i + 1) t2.heap ready2)
    have done : ∀ {τ' : L2.St} {F' : Hp} {t' : Shared}, wipe τ' vs = wipe σ vs → Inv (X.blk s0 H0 sc ce fp) ([] ++ pinsAt fp t2.heap) τ' F' t' → N F' → ∃ m, m < n ∧ Rest X s0 H0 sc ce fp tn (wipe σ vs) W m t' := by
      intro τ' F' t' ew I' nF
      obtain ⟨m, lt, w'⟩ := near F' nF
      exact rest_back T ready2 I' ew lt w'
    apply thnF (pg.run _ t2 _ F2 x u _ Ip rx (body x F2 y))
    intro _ t3 z
    obtain ⟨τ', F3, I3, ew, q⟩ := z
    apply thnF (pt.run _ t3 τ' F3 _ I3 q)
    intro yes t4 z
    obtain ⟨F4, I4, q⟩ := z
    cases yes
    · exact done ew I4 (by simpa using q)
    · apply thnF (pk.run _ t4 τ' F4 _ I4 (by simpa using q))
      intro a t5 z
      obtain ⟨ya, F5, I5, ra, q⟩ := z
      apply thnF (pv.run _ t5 τ' F5 _ I5 q)
      intro b t6 z
      obtain ⟨yb, F6, I6, rb, q⟩ := z
      apply thnF (hput (X.blk s0 H0 sc ce fp) rfl rfl rfl _ τ' F6 t6 d ya yb a b N I6 ra rb q)
      intro _ t7 z
      obtain ⟨F7, I7, nF⟩ := z
      exact done ew I7 nF
end
section
variable {X : Cx}
/-- an object just made leaves an iterator's objects as they were -/
theorem fresh_fp {pl : List (Addr × Obj)} {F : Hp} {t : Shared} {fp : List Addr} {d : Addr} {ob : HO} {q : Obj} {P : Program} {w : World} {K : PySem.W.Frag} {tg : Expr} {J : It} {it : Addr} {tn : Nat → Heap → Prop} {i : Nat} (T : Turn P w K tg J fp it tn) (ready : tn i t.heap) (ok : ∀ b ∈ fp, FpOk X pl F b) (hd : t.heap.objs.size = d) :
    ∀ b ∈ fp, FpOk X pl (upd F d ob) b ∧ b < (t.heap.push q).objs.size := by
  intro b hb
  obtain ⟨o, ho, -⟩ := T.obj i t.heap ready b hb
  have lt : b < t.heap.objs.size := Heap.lt_size ho
  have ne : b ≠ d := by rw [← hd]; exact Nat.ne_of_lt lt
  obtain ⟨z, zs⟩ := ok b hb
  refine And.intro (And.intro ?_ zs) ?_
  · rw [upd_ne ne]; exact z
  · rw [Heap.size_push]; exact Nat.lt_add_right 1 lt
/-- the comprehension as a value -/
theorem pe_dcG {O : Addr → HO} {put : Put} {kx vx tg iter : Expr} {ifs : List Expr} {scope : Scope} {own : List (Str × Nat)} {pos : Pos} {wi : TI} {g : TG} {tt : TT} {tk tv : TE} (calm : X.calm = true) (nd : X.N.Nodup)
    (hO : ∀ {F : Hp} (h : Heap), sysModules < h.objs.size → ObjOk X.prog X.w F (h.push { cls := .type "dict", data := .dict #[] }) h.objs.size (O h.objs.size)) (hput : PutOk X put) (hi : PI X tg iter wi) (ok : BlkOk X.N X.env.scope scope own)
    (pg : ∀ (s : Shared) (H : Hp) (C : Addr) (cl : List (Str × Addr)) (fp : List Addr), PG (X.blk s H scope (compEnvC scope cl C X.env) fp) tg g) (pt : ∀ (s : Shared) (H : Hp) (C : Addr) (cl : List (Str × Addr)) (fp : List Addr), PTs (X.blk s H scope (compEnvC scope cl C X.env) fp) ifs tt)
    (pk : ∀ (s : Shared) (H : Hp) (C : Addr) (cl : List (Str × Addr)) (fp : List Addr), PE (X.blk s H scope (compEnvC scope cl C X.env) fp) kx tk) (pv : ∀ (s : Shared) (H : Hp) (C : Addr) (cl : List (Str × Addr)) (fp : List Addr), PE (X.blk s H scope (compEnvC scope cl C X.env) fp) vx tv)
    (fold : ∀ x, foldedSetIterable iter X.env x = pure x) : PE X (.DictComp kx vx [⟨tg, iter, ifs, 0⟩] scope pos) (tDcG O put wi g tt tk tv (own.map (·.2))) := by
  constructor
  intro pl t σ F Q I term
  have closed : ∀ y ∈ scope.names, y.2 = .free → ∃ c, X.env.cells.lookup y.1 = some c := by
    intro y hy e
    exact (ok.free y hy e).elim (fun k => I.ok.has _ (Or.inl k)) fun k => I.ok.has _ (Or.inr k)
  rw [arm_eval_DictComp]
  apply wpAny_comprehension_free rfl fold (closure_ok closed) ok.kind
  · intro y hy e
    rw [ok.uniq y hy, e]
  apply thn (hi.run pl t σ F _ I term)
  intro xv t1 z
  apply thn z
  rintro itv t2 ⟨it, fp, tn, J, F2, rfl, I2, T, ready, free, q⟩
  refine wpAny_newObj_type (newEnv_comp ?_)
  have e2 : F2 t2.heap.objs.size = none := I2.hok.fresh (Nat.le_refl _)
  obtain ⟨W, ⟨m, w0⟩, owed⟩ := q t2.heap.objs.size e2
  -- the dict is laid
  have I3 : Inv X pl σ (upd F2 t2.heap.objs.size (O t2.heap.objs.size)) { t2 with heap := t2.heap.push { cls := .type "dict", data := .dict #[] } } :=
    Inv.laid I2 (t' := t2.toks) (fun b o e => Heap.get?_push_of_some _ e) (Nat.le_refl _) (hO t2.heap I2.big)
  have fp3 := fresh_fp (q := { cls := .type "dict", data := .dict #[] }) (ob := O t2.heap.objs.size) T ready free rfl
  have I4 := block_start I3 ok nd fp3
  have ready4 := T.keep 0 t2.heap (pushCells ((t2.heap.push { cls := .type "dict", data := .dict #[] }).push { cls := .type "dict", data := .dict #[] }) scope.names) ready
    fun b _ o e => pushCells_keeps _ _ _ _ (Heap.get?_push_of_some _ (Heap.get?_push_of_some _ e))
  refine codeAny_compStart_dict ?_ (T.self X.A 0 _ _ _ ready4 ?_)
  all_goals
    refine compLoop_anyD (Rest X _ _ scope _ fp tn (wipe σ (own.map (·.2))) W) (fun n t' rest => ?_) m (Exists.intro 0 (Exists.intro _ (And.intro w0 (And.intro ready4 (And.intro (fun b hb => (fp3 b hb).1.1) I4)))))
    refine rest_turn calm hput T (pg _ _ _ _ _) (pt _ _ _ _ _) (pk _ _ _ _ _) (pv _ _ _ _ _) owed (fun F5 t5 I5 q5 => ?_) rest
    -- out of the block: its names go, the frame stands again
    have I6 : Inv X pl σ F5 t5 := Inv.call' I3 (ch := fp) I5.os I5.base I5.hok I5.bare fun b hb => by
      obtain ⟨⟨-, f1, f2, f3, f4, f5⟩, -⟩ := fp3 b hb
      exact And.intro f3 (And.intro f1 (And.intro f4 f5))
    obtain ⟨k, hk, -⟩ := I5.loc
    have fo := I3.fpOk (Nat.le_refl _) (show F5 _ = none from I5.free)
    refine Exists.intro k (And.intro hk fun h' same => ?_)
    obtain ⟨f0, f1, f2, f3, f4, f5⟩ := fo
    exact Exists.intro (.ref t2.heap.objs.size) (Exists.intro F5 (And.intro (Inv.turned I6 (t' := t5.toks) (fun b o hb e => (same.2 b hb).trans e) f0 f1 f3 f4 f5) (And.intro rfl q5)))
/-- {t: True for target in iter if ..}, the keys pairs -/
abbrev putT (P : Program) (w : World) : Put := fun d a b F N => ∃ (L : List (Addr × Int × Int)) (k : Int × Int) (c : Addr), a = .ref c ∧ b = .bl true ∧ F c = some (.tup [.int k.1, .int k.2]) ∧ (∀ p ∈ L, F p.1 = some (.tup [.int p.2.1, .int p.2.2])) ∧ F d = some (DTO P w d L) ∧ L.length < sizeLine ∧ N (upd F d (DTO P w d (putL L c k)))
theorem putT_ok (hu : X.A.units < cLine) : PutOk X (putT X.prog X.w) := by
  intro Y e1 e2 e3 pl τ F t d a b u v N I ra rb ⟨L, k, c, ea, eb, hc, hL, hd, hz, n⟩
  subst ea eb
  have hY : Y.A.units < cLine := by rw [e3]; exact hu
  rw [← e1, ← e2] at hd n
  rw [← e1, ← e2, ← e3]
  exact dT_dictSet hY I hd hc hL hz ra rb fun t' I' => Exists.intro _ (And.intro I' n)
def tDcT (P : Program) (w : World) (wi : TI) (g : TG) (tt : TT) (tk tv : TE) (vs : List Nat) : TE := tDcG (fun d => DTO P w d []) (putT P w) wi g tt tk tv vs
theorem pe_dcT {kx vx tg iter : Expr} {ifs : List Expr} {scope : Scope} {own : List (Str × Nat)} {pos : Pos} {wi : TI} {g : TG} {tt : TT} {tk tv : TE} (hc : X.calm = true) (hN : X.N.Nodup) (hu : X.A.units < cLine) (hi : PI X tg iter wi) (ok : BlkOk X.N X.env.scope scope own)
    (hg : ∀ (s : Shared) (H : Hp) (C : Addr) (cl : List (Str × Addr)) (fp : List Addr), PG (X.blk s H scope (compEnvC scope cl C X.env) fp) tg g) (ht : ∀ (s : Shared) (H : Hp) (C : Addr) (cl : List (Str × Addr)) (fp : List Addr), PTs (X.blk s H scope (compEnvC scope cl C X.env) fp) ifs tt)
    (hk : ∀ (s : Shared) (H : Hp) (C : Addr) (cl : List (Str × Addr)) (fp : List Addr), PE (X.blk s H scope (compEnvC scope cl C X.env) fp) kx tk)
    (he : ∀ (s : Shared) (H : Hp) (C : Addr) (cl : List (Str × Addr)) (fp : List Addr), PE (X.blk s H scope (compEnvC scope cl C X.env) fp) vx tv) (hs : ∀ x, foldedSetIterable iter X.env x = pure x := by intro _; rfl) :
    PE X (.DictComp kx vx [⟨tg, iter, ifs, 0⟩] scope pos) (tDcT X.prog X.w wi g tt tk tv (own.map (·.2))) :=
  pe_dcG hc hN (fun h big => dtT_empty h big) (putT_ok hu) hi ok hg ht hk he hs
end
end FA
set_option Elab.async false
set_option autoImplicit false
set_option linter.all false
set_option maxRecDepth 100000
/-! sorted(dict with pairs as keys), any length. -/
namespace FA
open PySem PySem.Spec PyProof.Rows L2 SlX
/-- pairs of ints, upwards -/
def pairLe (p q : Int × Int) : Bool := decide (p.1 < q.1 ∨ (p.1 = q.1 ∧ p.2 ≤ q.2))
def pairLeA (p q : Addr × Int × Int) : Bool := pairLe p.2 q.2
theorem sort_snd (bs : List (Addr × Int × Int)) : (bs.mergeSort pairLeA).map (·.2) = (bs.map (·.2)).mergeSort pairLe :=
  List.map_mergeSort fun _ _ _ _ => rfl
def rSortedK (P : Program) (w : World) : List V → Hp → VK → Prop := fun vs H Q => ∃ (a : Addr) (bs : List (Addr × Int × Int)), vs = [.ref a] ∧ H a = some (DTO P w a bs) ∧ (∀ b ∈ bs, H b.1 = some (.tup [.int b.2.1, .int b.2.2])) ∧ bs.length ≤ 100000 ∧
  ∀ (p : Addr), H p = none → Q (.ref p) (upd H p (.lst ((bs.mergeSort pairLeA).map fun b => .ref b.1)))
theorem cr_sortedK {X : Cx} (hcalm : X.calm = true) (hu : X.A.units + 64 < cLine) : CallR X (.builtin "sorted") (rSortedK X.prog X.w) := by
  intro pins s σ H xs us Q I r q
  obtain ⟨d, bs, ex, hd, b3, hz, q⟩ := q
  subst ex
  obtain ⟨u, eu, rx⟩ := vals1 r
  subst eu
  cases rx
  have R : DtT0 X.prog X.w s.heap d bs := (I.hok d _ hd).1
  obtain ⟨o, es, ep, ho, hx, hdt, he⟩ := R.ex
  have hs := R.lo
  have l1 : es.size = (xsP bs).length := size_of_entries he
  have l3 : (xsP bs).length = bs.length := by unfold xsP; rw [List.length_map]
  refine Calls.call_function_entry PyProof.Rows.kind_sorted PyProof.Rows.plain_sorted PyProof.Rows.entry_sorted (PyProof.Rows.args_sorted1 _) ?_
  unfold Builtin.«sorted»
  refine wpAny_bind (m := checkCount "sorted" 1 1 _) (wpAny_pure ?_)
  refine wpAny_bind (PySem.W.kdu_collect (A := X.A.in1) (kdl_raw hs hx hdt) (I.ok.hd hcalm) ho (by have := sz_le hz; omega) fun h' tk acc hk it => ?_)
  have ea : acc.toList = bs.map fun b => Value.ref b.1 := by
    have hl : acc.toList.length = (xsP bs).length := by rw [Array.length_toList, it.1]; exact l1
    have ek : (bs.map fun b => Value.ref b.1) = (xsP bs).map fun x => Value.ref x.2.1 := by
      unfold xsP
      rw [List.map_map]
      rfl
    rw [ek]
    apply List.ext_getElem?
    intro j
    rw [List.getElem?_map]
    cases hj : acc.toList[j]? with
    | none =>
      have h1 := List.getElem?_eq_none_iff.mp hj
      rw [List.getElem?_eq_none (by omega)]
      all_goals rfl
    | some v =>
      obtain ⟨en, hen, hv⟩ := it.2 j v (by rw [← Array.getElem?_toList]; exact hj)
      have qe := entry_at he j
      rw [hen] at qe
      cases hb : (xsP bs)[j]? with
      | none =>
        rw [hb] at qe
        exact nomatch (show some en = none from qe)
      | some b =>
        rw [hb] at qe
        have e2 : en = entryOfKey (tupleKind (mixKind X.prog X.w)) b := Option.some.inj qe
        rw [hv, e2]
        all_goals rfl
  have I1 : Inv X pins σ H { s with heap := h', toks := tk } := I.kept hk
  have hal : acc.toList.length = bs.length := by rw [ea, List.length_map]
  refine wpAny_bind (wpAny_newList ?_ (by have := sz_le hz; omega))
  have hoL : (h'.push (seqObj "list" acc.toList.toArray 0)).get? h'.objs.size = some (seqObj "list" acc.toList.toArray 0) := Heap.get?_push_size _ rfl
  show wpAny _ _ _ _ _ { s with heap := h'.push (seqObj "list" acc.toList.toArray 0), toks := tk }
  -- what the values read as
  have er : PySem.W.EachIs (fun (v : Value) (b : Addr × Int × Int) => ∃ as, Reads (h'.push (seqObj "list" acc.toList.toArray 0)) v (.tuple [.int b.2.1, .int b.2.2]) as ∧ h'.objs.size ∉ as) acc.toList bs := by
    have key : ∀ (ob0 : Obj) (cs : List (Addr × Int × Int)), (∀ b ∈ cs, b ∈ bs) → PySem.W.EachIs (fun (v : Value) (b : Addr × Int × Int) => ∃ as, Reads (h'.push ob0) v (.tuple [.int b.2.1, .int b.2.2]) as ∧ h'.objs.size ∉ as) (cs.map fun b => Value.ref b.1) cs := by
      intro ob0 cs
      induction cs with
      | nil => intro _; exact .nil
      | cons c cs ih =>
        intro hc
        refine .cons ?_ (ih fun b hb => hc b (List.mem_cons_of_mem _ hb))
        obtain ⟨_, its, rv, ob, ho1, ho2, n, ho3⟩ := (show ObjOk X.prog X.w H h' c.1 (.tup [.int c.2.1, .int c.2.2]) from I1.hok c.1 _ (b3 c (hc c List.mem_cons_self)))
        obtain ⟨u1, u2, e, r1, r2⟩ := rv.two
        subst e
        obtain ⟨t1, e1⟩ := (show ∃ t, u1 = Value.int c.2.1 t from r1)
        obtain ⟨t2, e2⟩ := (show ∃ t, u2 = Value.int c.2.2 t from r2)
        subst e1 e2
        exact ⟨[], .tuple (Heap.get?_push_of_some _ ho1) ho2 ho3 (.cons (as := []) (bs := []) (.int _ _) (.cons (as := []) (bs := []) (.int _ _) .nil)), by simp⟩
    have := key (seqObj "list" acc.toList.toArray 0) bs fun _ h => h
    rw [← ea] at this
    exact this
  have eR : PySem.W.EachIs (fun (v : Value) (b : Addr × Int × Int) => v = .ref b.1) acc.toList bs := by
    rw [ea]
    clear q b3 l3 ea hal er hz hd R he l1 it
    induction bs with
    | nil => exact .nil
    | cons c cs ih => exact .cons rfl ih
  have out_of : ∀ {out : List Value} {cs : List (Addr × Int × Int)}, PySem.W.EachIs (fun (v : Value) (b : Addr × Int × Int) => v = .ref b.1) out cs → out = cs.map fun b => Value.ref b.1 := by
    intro out cs h
    induction h with
    | nil => rfl
    | cons h _ ih => rw [h, ih]; rfl
  refine wpAny_bind (wpAny_holding (PySem.W.list_sort_data (vs := acc.toList) (bs := bs) (enc := fun b => .tuple [.int b.2.1, .int b.2.2]) (R := fun v b => v = .ref b.1) (s := { s with heap := h'.push (seqObj "list" acc.toList.toArray 0), toks := tk }) (n := 0) hoL eR er
    (PySem.W.AllAlike.of fun b b' => rfl) (PySem.W.Sortable.tuples fun b => ⟨_, _, rfl⟩) (sz_le hz) (fun b _ => ?_) fun out ol oe => ?_))
  · have e : (PyData.tuple [.int b.2.1, .int b.2.2]).depth = 1 := rfl
    rw [e]
    show X.A.units + 1 + 1 + 1 < cLine
    omega
  · obtain ⟨e', he'⟩ := PyProof.Rows.sortedHeap_at (vs := acc.toList) (out := out.toArray) hoL
    have eo : out = (bs.mergeSort pairLeA).map fun b => Value.ref b.1 := by
      rw [out_of oe]
      have e1 : PySem.W.dataLe false (fun b : Addr × Int × Int => PyData.tuple [.int b.2.1, .int b.2.2]) = pairLeA := by rw [PySem.W.dataLe_ii]; rfl
      rw [e1]
    have hlen : ((bs.mergeSort pairLeA).map fun b => V.ref b.1).length ≤ sizeLine := by
      rw [List.length_map, List.length_mergeSort]
      exact sz_le hz
    have hv : Vals ((bs.mergeSort pairLeA).map fun b => V.ref b.1) out := by
      rw [eo]
      generalize bs.mergeSort pairLeA = cs
      induction cs with
      | nil => exact .nil
      | cons c cs ih => exact .cons rfl ih
    refine wpAny_pure ⟨_, rfl, .ref h'.objs.size, upd H h'.objs.size (.lst ((bs.mergeSort pairLeA).map fun b => V.ref b.1)), I1.laid (t' := tk) (fun b u e => ?_) (Nat.le_refl _)
      (show ObjOk X.prog X.w _ _ _ (.lst ((bs.mergeSort pairLeA).map fun b => V.ref b.1)) from ⟨hlen, out, e', hv, he'⟩), rfl, q _ (I1.hok.fresh (Nat.le_refl _))⟩
    have hb : b < h'.objs.size := Heap.lt_size e
    rw [PyProof.Rows.sortedHeap_old (Nat.ne_of_lt hb) (by rw [size_push']; exact Nat.lt_succ_of_lt hb)]
    exact Heap.get?_push_of_some _ e
end FA
set_option Elab.async false
set_option autoImplicit false
set_option linter.all false
set_option maxRecDepth 100000
/-! min, max of a pair; sum of a list of lists. -/
namespace FA
open PySem PySem.Spec PyProof.Rows L2 SlX
section
variable {X : Cx}
def rMinT (K : PySem.W.Frag) : List V → Hp → VK → Prop := fun vs H Q => ∃ (a : Addr) (x y : Int), vs = [V.ref a] ∧ SqT K H a [.int x, .int y] ∧ Q (.int (min x y)) H
def rMaxT (K : PySem.W.Frag) : List V → Hp → VK → Prop := fun vs H Q => ∃ (a : Addr) (x y : Int), vs = [V.ref a] ∧ SqT K H a [.int x, .int y] ∧ Q (.int (max x y)) H
theorem cr_minT (hc : X.calm = true) (hu : X.A.units + 64 < cLine) : CallR X (.builtin "min") (rMinT X.K) := by
  intro pins s σ H vs us Q I r h
  obtain ⟨a, x, y, rfl, hs, q⟩ := h
  obtain ⟨its, rv, hl, _⟩ := I.tuple hs
  rw [Vals.ref1 r]
  obtain ⟨u1, u2, e, r1, r2⟩ := rv.two
  subst e
  obtain ⟨t1, e1⟩ := (show ∃ t, u1 = Value.int x t from r1)
  obtain ⟨t2, e2⟩ := (show ∃ t, u2 = Value.int y t from r2)
  subst e1 e2
  refine PySem.W.min_tuple_data (x := .int x) (xs := [.int y]) (as := []) (I.ok.hd hc) hl (.cons (as := []) (bs := []) (.int _ _) (.cons (as := []) (bs := []) (.int _ _) .nil)) ⟨by
    intro d hd d' hd'
    simp only [List.mem_cons, List.not_mem_nil, or_false] at hd hd'
    rcases hd with rfl | rfl <;> rcases hd' with rfl | rfl <;> rfl, by
    intro d hd
    simp only [List.mem_cons, List.not_mem_nil, or_false] at hd
    rcases hd with rfl | rfl <;> exact fun z => nomatch z⟩ (by
    have e : PyData.depthAll [.int x, .int y] = 0 := rfl
    rw [e]; omega) fun i v h' tk bs hv rd hk => ?_
  have e := PySem.W.minD_ints x [y]
  rw [show ([y].map PyData.int) = [PyData.int y] from rfl] at e
  rw [e] at rd
  cases rd
  exact ⟨.int _, H, I.kept hk, ⟨_, rfl⟩, q⟩
theorem cr_maxT (hc : X.calm = true) (hu : X.A.units + 64 < cLine) : CallR X (.builtin "max") (rMaxT X.K) := by
  intro pins s σ H vs us Q I r h
  obtain ⟨a, x, y, rfl, hs, q⟩ := h
  obtain ⟨its, rv, hl, _⟩ := I.tuple hs
  rw [Vals.ref1 r]
  obtain ⟨u1, u2, e, r1, r2⟩ := rv.two
  subst e
  obtain ⟨t1, e1⟩ := (show ∃ t, u1 = Value.int x t from r1)
  obtain ⟨t2, e2⟩ := (show ∃ t, u2 = Value.int y t from r2)
  subst e1 e2
  refine PySem.W.max_tuple_data (x := .int x) (xs := [.int y]) (as := []) (I.ok.hd hc) hl (.cons (as := []) (bs := []) (.int _ _) (.cons (as := []) (bs := []) (.int _ _) .nil)) ⟨by
    intro d hd d' hd'
    simp only [List.mem_cons, List.not_mem_nil, or_false] at hd hd'
    rcases hd with rfl | rfl <;> rcases hd' with rfl | rfl <;> rfl, by
    intro d hd
    simp only [List.mem_cons, List.not_mem_nil, or_false] at hd
    rcases hd with rfl | rfl <;> exact fun z => nomatch z⟩ (by
    have e : PyData.depthAll [.int x, .int y] = 0 := rfl
    rw [e]; omega) fun i v h' tk bs hv rd hk => ?_
  have e := PySem.W.maxD_ints x [y]
  rw [show ([y].map PyData.int) = [PyData.int y] from rfl] at e
  rw [e] at rd
  cases rd
  exact ⟨.int _, H, I.kept hk, ⟨_, rfl⟩, q⟩
end

section
variable {prog : Program} {w : World} {A : Around} {R : Result → Shared → Prop} {E : Value → Shared → Prop} {s : Shared}
/-- list + list, plain -/
theorem cat_plain {l b : Addr} {vs ws : List Value} {Q : Value → Shared → Prop} (hl : s.heap.IsList l vs.toArray) (hb : s.heap.IsList b ws.toArray)
    (h : Q (.ref s.heap.objs.size) { s with heap := s.heap.push { cls := .type "list", data := .seq (vs ++ ws).toArray } })
    (hsz : vs.length + ws.length ≤ sizeLine) : wpAny (model prog w) A (binaryOp .Add (.ref l) (.ref b)) Q E s := by
  obtain ⟨⟨cls, dd, data, sl⟩, ho, hc, n, hd⟩ := id hl
  obtain ⟨⟨cls2, dd2, data2, sl2⟩, ho2, hc2, n2, hd2⟩ := id hb
  simp only at hc hd hc2 hd2
  subst hc hd hc2 hd2
  have e : vs.toArray ++ ws.toArray = (vs ++ ws).toArray := by simp
  refine concat_meets ⟨_, ho, rfl⟩ ⟨_, ho2, rfl⟩ noFill_list_add seq_list_add PySem.F.slot_list_add PySem.F.entry_list_add (PySem.F.args_list_add_2 _ _) (list_addW l b vs.toArray ws.toArray n n2 dd dd2 sl sl2 (by simpa using hsz)) ⟨ho, ho2, ?_⟩
  rw [e]
  exact h
/-- the loop of sum over a list of lists -/
theorem sum_lists_loop {I l : Addr} (hne : l ≠ I) (hh : A.in1.handled = none) (as : List Addr) (its : List (List Value)) (el : its.length = as.length) (h0 : Heap) (hI : ∀ o, h0.get? I ≠ some o) (hin : ∀ (j : Nat) (a : Addr) (xs : List Value), as[j]? = some a → its[j]? = some xs → h0.IsList a xs.toArray) (hz : its.flatten.length ≤ sizeLine)
    (S : Addr) (hS1 : S ≠ I) (hS2 : S ≠ l) (hIS : I < S) (hlS : l < S) (hS0 : ∀ o, h0.get? S ≠ some o) :
    ∀ (k i : Nat) (s : Shared) (t : Addr) (c : Nat), as.length - i = k → i ≤ as.length → s.heap.IsListIter I l i ∧ s.heap.IsList l (as.map Value.ref).toArray → (∀ b o, h0.get? b = some o → s.heap.get? b = some o) →
    s.heap.get? S = some { cls := .type "list", dict := none, data := .seq #[.ref t] c, slots := #[] } → s.heap.IsList t (its.take i).flatten.toArray → t ≠ S → t ≠ I →
    (∀ t' h' tk, (∀ b o, h0.get? b = some o → h'.get? b = some o) → ((t' = t ∧ i = as.length ∧ ∀ o, s.heap.get? t = some o → h'.get? t = some o) ∨ (i < as.length ∧ S < t' ∧ ∃ ep, h'.get? t' = some { cls := .type "list", data := .seq its.flatten.toArray ep })) → R (.ok (.ret (.ref t'))) { s with heap := h', toks := tk }) →
    codeAny (model prog w) A (.builtin "sum.loop" ⟨[.ref I, .ref S, rawInt 2, rawInt 0], []⟩) R s := by
  have W := Walks.list (prog := prog) (w := w) (A := A.in1) hh I l hne (as.map Value.ref).toArray
  intro k
  induction k with
  | zero =>
    intro i s t c hk hi hst hk0 hS ht htS htI hR
    have hin' : i = as.length := by omega
    subst hin'
    refine codeAny_builtin F.entry_sum_loop ?_
    rw [Around.under_plainId F.plain_sum_loop _]
    show wpAny _ A.in1 (seqItems? (.ref S) >>= _) _ _ s
    refine wpAny_bind (wpAny_seqItems hS rfl ?_)
    show wpAny _ A.in1 (tryCatch (pyNext (.ref I)) _ >>= _) _ _ s
    refine wpAny_bind (wpAny_tryCatch (W.done s _ _ (by simpa using hst) fun h' tk hk' => ?_))
    refine wpAny_pure (hR t h' tk (fun b o e => hk' b o (fun z => ?_) (hk0 b o e)) (.inl ⟨rfl, rfl, fun o e => hk' t o (by simpa using htI) e⟩))
    rw [List.mem_singleton.mp z] at e
    exact hI o e
  | succ k ih =>
    intro i s t c hk hi hst hk0 hS ht htS htI hR
    have hlt : i < as.length := by omega
    refine codeAny_builtin F.entry_sum_loop ?_
    rw [Around.under_plainId F.plain_sum_loop _]
    show wpAny _ A.in1 (seqItems? (.ref S) >>= _) _ _ s
    refine wpAny_bind (wpAny_seqItems hS rfl ?_)
    show wpAny _ A.in1 (tryCatch (pyNext (.ref I)) _ >>= _) _ _ s
    refine wpAny_bind (wpAny_tryCatch (W.item i s _ _ (by simpa using hlt) hst fun v h' tk hP hst' hk' => ?_))
    obtain ⟨a, ea, ev⟩ : ∃ a, as[i]? = some a ∧ v = .ref a := by
      have hP : (as.map Value.ref).toArray[i]? = some v := hP
      rw [List.getElem?_toArray, List.getElem?_map] at hP
      cases q : as[i]? with
      | none => rw [q] at hP; cases hP
      | some a => rw [q] at hP; exact ⟨a, rfl, (Option.some.inj hP).symm⟩
    subst ev
    have hlt' : i < its.length := by rw [el]; exact hlt
    have ex : its[i]? = some its[i] := List.getElem?_eq_getElem hlt'
    have kI : ∀ {b : Addr} {o : Obj}, b ≠ I → s.heap.get? b = some o → h'.get? b = some o := fun {b o} z e => hk' b o (by simpa using z) e
    have hk0' : ∀ b o, h0.get? b = some o → h'.get? b = some o := fun b o e => kI (fun z => hI o (z ▸ e)) (hk0 b o e)
    have hS' := kI hS1 hS
    have ht' : h'.IsList t (its.take i).flatten.toArray := by obtain ⟨o, e1, e2⟩ := ht; exact ⟨o, kI htI e1, e2⟩
    have ha' : h'.IsList a its[i].toArray := by obtain ⟨o, e1, e2⟩ := hin i a _ ea ex; exact ⟨o, hk0' a o e1, e2⟩
    have et : (its.take (i + 1)).flatten = (its.take i).flatten ++ its[i] := by
      rw [List.take_succ, ex, List.flatten_append]
      simp
    have lt1 : (its.take i).flatten.length + its[i].length ≤ sizeLine := by
      have e1 : ((its.take (i + 1)).flatten ++ (its.drop (i + 1)).flatten).length = its.flatten.length := by rw [← List.flatten_append, List.take_append_drop]
      rw [List.length_append, et, List.length_append] at e1
      omega
    show wpAny _ A.in1 ((holding [Value.ref a] (binaryOp .Add (.ref t) (.ref a))).attempt >>= _) _ _ _
    refine wpAny_bind (wpAny_attempt (wpAny_holding (cat_plain (s := { s with heap := h', toks := tk }) ht' ha' ?_ lt1)))
    have hp := Heap.lt_size hS'
    generalize ep : h'.objs.size = p at hp
    have hps : p ≠ S := (Nat.ne_of_lt hp).symm
    have gp : (h'.push { cls := .type "list", data := .seq ((its.take i).flatten ++ its[i]).toArray }).get? p = some { cls := .type "list", data := .seq ((its.take i).flatten ++ its[i]).toArray } := by rw [← ep]; exact Heap.get?_push_size _ rfl
    have k1 : ∀ {b : Addr} {o : Obj}, h'.get? b = some o → (h'.push { cls := .type "list", data := .seq ((its.take i).flatten ++ its[i]).toArray }).get? b = some o := fun {b o} e => Heap.get?_push_of_some _ e
    have hS1' := k1 hS'
    show wpAny _ A.in1 (updateSeq S (fun _ => #[.ref p]) >>= _) _ _ _
    refine wpAny_bind (wpAny_updateSeq hS1' rfl ?_)
    have hS2' := Heap.get?_update_self (Obj.mapSeq fun _ => #[Value.ref p]) hS1' rfl
    refine wpAny_bind (wpAny_letGo ?_)
    refine wpAny_bind (wpAny_updateSeq hS2' rfl (wpAny_pure ⟨plainId_quiet F.plain_sum_loop _, ?_⟩))
    have hS3' := Heap.get?_update_self (Obj.mapSeq fun _ => #[Value.ref p]) hS2' rfl
    have k2 : ∀ {b : Addr} {o : Obj}, b ≠ S → h'.get? b = some o → (((h'.push { cls := .type "list", data := .seq ((its.take i).flatten ++ its[i]).toArray }).update S (Obj.mapSeq fun _ => #[Value.ref p])).update S (Obj.mapSeq fun _ => #[Value.ref p])).get? b = some o := fun {b o} z e =>
      (Heap.get?_update_other _ _ (Ne.symm z)).trans ((Heap.get?_update_other _ _ (Ne.symm z)).trans (k1 e))
    have gp2 : (((h'.push { cls := .type "list", data := .seq ((its.take i).flatten ++ its[i]).toArray }).update S (Obj.mapSeq fun _ => #[Value.ref p])).update S (Obj.mapSeq fun _ => #[Value.ref p])).get? p = some { cls := .type "list", data := .seq ((its.take i).flatten ++ its[i]).toArray } :=
      (Heap.get?_update_other _ _ (Ne.symm hps)).trans ((Heap.get?_update_other _ _ (Ne.symm hps)).trans gp)
    refine ih (i + 1) _ p _ (by omega) hlt ⟨?_, ?_⟩ (fun b o e => k2 (fun z => hS0 o (z ▸ e)) (hk0' b o e)) hS3' ⟨_, gp2, rfl, ?_⟩ hps (Nat.ne_of_gt (Nat.lt_trans hIS hp)) fun t' h'' tk' q1 q2 => ?_
    · obtain ⟨o, e1, e2⟩ := hst'.1
      exact ⟨o, k2 (Ne.symm hS1) e1, e2⟩
    · obtain ⟨o, e1, e2⟩ := hst'.2
      exact ⟨o, k2 (Ne.symm hS2) e1, e2⟩
    · rw [et]; exact ⟨_, rfl⟩
    · refine hR t' h'' tk' q1 (.inr ⟨hlt, ?_⟩)
      rcases q2 with ⟨e1, e2, e3⟩ | ⟨e1, e2, e3⟩
      · subst e1
        refine ⟨hp, 0, ?_⟩
        have := e3 _ gp2
        rw [this, ← et]
        have e4 : its.take (i + 1) = its := List.take_of_length_le (by omega)
        rw [e4]
      · exact ⟨e2, e3⟩
end
end FA
set_option Elab.async false
set_option autoImplicit false
set_option linter.all false
set_option maxRecDepth 100000
/-! sum(a list of lists, []). -/
namespace FA
open PySem PySem.Spec PyProof.Rows L2 SlX
theorem args_sum2 (a b : Value) : argsOk "sum" ⟨[a, b], []⟩ := by unfold argsOk; kernel_rfl
theorem vals_refs_inv : ∀ {as : List Addr} {us : List Value}, Vals (as.map V.ref) us → us = as.map Value.ref
  | [], _, .nil => rfl
  | _ :: _, _, .cons r t => by rw [vals_refs_inv t, show _ = Value.ref _ from r]; rfl
/-- lists at addresses -/
inductive SqLs (K : PySem.W.Frag) (H : Hp) : List Addr → List (List V) → Prop
  | nil : SqLs K H [] []
  | cons {a : Addr} {xs : List V} {as : List Addr} {xss : List (List V)} : SqL K H a xs → SqLs K H as xss → SqLs K H (a :: as) (xs :: xss)
theorem SqLs.len {K : PySem.W.Frag} {H : Hp} : ∀ {as : List Addr} {xss : List (List V)}, SqLs K H as xss → xss.length = as.length
  | _, _, .nil => rfl
  | _, _, .cons _ t => by rw [List.length_cons, List.length_cons, t.len]
def rSumL (K : PySem.W.Frag) : List V → Hp → VK → Prop := fun vs H Q => ∃ (l z : Addr) (as : List Addr) (xss : List (List V)), vs = [V.ref l, V.ref z] ∧ SqL K H l (as.map V.ref) ∧ SqLs K H as xss ∧ H z = some (.lst []) ∧ xss.flatten.length ≤ 100000 ∧
  (as = [] → Q (.ref z) H) ∧ ∀ p, H p = none → Q (.ref p) (upd H p (.lst xss.flatten))
section
variable {X : Cx}
theorem lists_held {pins : List (Addr × Obj)} {σ : L2.St} {H : Hp} {s : Shared} (I : Inv X pins σ H s) : ∀ {as : List Addr} {xss : List (List V)}, SqLs X.K H as xss → ∃ its : List (List Value), its.length = as.length ∧ Vals xss.flatten its.flatten ∧
    ∀ (j : Nat) (a : Addr) (xs : List Value), as[j]? = some a → its[j]? = some xs → s.heap.IsList a xs.toArray
  | _, _, .nil => ⟨[], rfl, .nil, fun j a xs h => by simp at h⟩
  | _, _, .cons h t => by
    obtain ⟨its, e1, e2, e3⟩ := lists_held I t
    obtain ⟨it, rv, hl, _⟩ := I.list h
    refine ⟨it :: its, by simp [e1], by rw [List.flatten_cons, List.flatten_cons]; exact rv.append e2, fun j a xs ha hx => ?_⟩
    cases j with
    | zero => cases ha; cases hx; exact hl.isList
    | succ j => exact e3 j a xs (by simpa using ha) (by simpa using hx)
theorem cr_sumL (hc : X.calm = true) : CallR X (.builtin "sum") (rSumL X.K) := by
  intro pins s σ H vs us Q I r h
  obtain ⟨l, z, as, xss, rfl, hl, hls, hz, hb, q0, q1⟩ := h
  obtain ⟨its0, rv0, hl0, _⟩ := I.list hl
  have e0 := vals_refs_inv rv0
  subst e0
  obtain ⟨its, el, rvf, hin⟩ := lists_held I hls
  obtain ⟨u1, u2, rfl, r1, r2⟩ := r.two
  cases (show u1 = Value.ref l from r1)
  cases (show u2 = Value.ref z from r2)
  obtain ⟨_, itz, nz, rz, hgz⟩ := (show ObjOk X.prog X.w H s.heap z (.lst []) from I.hok z _ hz)
  cases rz
  have hlz : its.flatten.length ≤ sizeLine := by rw [← rvf.length]; exact sz_le hb
  have llt : l < s.heap.objs.size := by obtain ⟨o, e, _⟩ := hl0.isList; exact Heap.lt_size e
  have zlt : z < s.heap.objs.size := Heap.lt_size hgz
  refine call_function_tree F.kind_sum F.plain_sum F.entry_sum (args_sum2 _ _) ?_
  unfold Builtin.«sum»
  simp only [List.length_cons, List.length_nil]
  rw [if_neg (by decide)]
  refine wpAny_bind (wpAny_of_eq (show Builtin.Builtins.bindParams "sum" ["start"] 0 ⟨[.ref z], []⟩ = pure [some (.ref z)] from rfl) ?_)
  refine wpAny_bind (wpAny_pyIter_list hl0.isList ?_)
  refine wpAny_bind (wpAny_pure ?_)
  have k1 : ∀ {b : Addr} {o : Obj}, s.heap.get? b = some o → (s.heap.push { cls := .type "list_iterator", data := .fields #[.ref l, .int 0 0] }).get? b = some o := fun {b o} e => Heap.get?_push_of_some _ e
  have tz : ({ s with heap := s.heap.push { cls := .type "list_iterator", data := .fields #[.ref l, .int 0 0] } } : Shared).TypeIs (.ref z) "list" := ⟨_, k1 hgz, rfl⟩
  simp only [List.forIn_cons, List.forIn_nil]
  refine wpAny_bind (wpAny_bind (wpAny_bind (wpAny_isInstance (T := "list") (b := false) tz F.sub_list_str ?_)))
  simp only [Bool.false_eq_true, if_false]
  refine wpAny_pure (wpAny_bind (wpAny_bind (wpAny_isInstance (T := "list") (b := false) tz F.sub_list_bytes ?_)))
  simp only [Bool.false_eq_true, if_false]
  refine wpAny_pure (wpAny_bind (wpAny_bind (wpAny_isInstance (T := "list") (b := false) tz (by rw [isSubtype_type]; kernel_rfl) ?_)))
  simp only [Bool.false_eq_true, if_false]
  refine wpAny_pure (wpAny_pure ?_)
  refine wpAny_bind (wpAny_newObj_type ?_)
  have hs1 : (s.heap.push { cls := .type "list_iterator", data := .fields #[.ref l, .int 0 0] }).objs.size = s.heap.objs.size + 1 := Heap.size_push ..
  have n0 : ∀ o, s.heap.get? s.heap.objs.size ≠ some o := fun o e => absurd (Heap.lt_size e) (Nat.lt_irrefl _)
  have n1 : ∀ o, s.heap.get? (s.heap.objs.size + 1) ≠ some o := fun o e => absurd (Heap.lt_size e) (Nat.not_lt_of_le (Nat.le_succ _))
  have k2 : ∀ {b : Addr} {o o2 : Obj}, s.heap.get? b = some o → ((s.heap.push { cls := .type "list_iterator", data := .fields #[.ref l, .int 0 0] }).push o2).get? b = some o := fun {b o o2} e => Heap.get?_push_of_some _ (k1 e)
  show wpAny _ _ (again (.builtin "sum.loop" ⟨[.ref s.heap.objs.size, .ref (s.heap.push { cls := .type "list_iterator", data := .fields #[.ref l, .int 0 0] }).objs.size, rawInt 2, rawInt 0], []⟩)) _ _ _
  rw [hs1]
  have hS : ((s.heap.push { cls := .type "list_iterator", data := .fields #[.ref l, .int 0 0] }).push { cls := .type "list", data := .seq ([Value.ref z] : List Value).toArray }).get? (s.heap.objs.size + 1) = some { cls := .type "list", dict := none, data := .seq #[.ref z] 0, slots := #[] } := by
    rw [← hs1]; exact Heap.get?_push_size _ rfl
  have hit : ((s.heap.push { cls := .type "list_iterator", data := .fields #[.ref l, .int 0 0] }).push { cls := .type "list", data := .seq ([Value.ref z] : List Value).toArray }).IsListIter s.heap.objs.size l 0 :=
    ⟨_, Heap.get?_push_of_some _ (Heap.get?_push_size _ rfl), rfl, rfl⟩
  refine wpAny_pure ⟨plainId_quiet F.plain_sum_loop _, sum_lists_loop (I := s.heap.objs.size) (l := l) (Nat.ne_of_lt llt) (I.ok.hd hc) as its el s.heap n0 hin hlz (s.heap.objs.size + 1) (Nat.succ_ne_self _) (Nat.ne_of_gt (Nat.lt_succ_of_lt llt)) (Nat.lt_succ_self _) (Nat.lt_succ_of_lt llt) n1 as.length 0 _ z 0 (Nat.sub_zero _) (Nat.zero_le _)
    ⟨hit, ?_⟩ (fun b o e => k2 e) hS ⟨_, k2 hgz, rfl, nz, rfl⟩ (Nat.ne_of_lt (Nat.lt_succ_of_lt zlt)) (Nat.ne_of_lt zlt) fun t' h' tk q2 q3 => ?_⟩
  · obtain ⟨o, e1, e2⟩ := hl0.isList
    exact ⟨o, k2 e1, e2⟩
  · show EP _ _ _ _ _ _
    rcases q3 with ⟨e1, e2, _⟩ | ⟨e1, e2, ep, e3⟩
    · subst e1
      have ea : as = [] := List.eq_nil_of_length_eq_zero e2.symm
      exact ⟨.ref t', H, I.kept (t' := tk) q2, rfl, q0 ea⟩
    · refine ⟨.ref t', upd H t' (.lst xss.flatten), I.laid (t' := tk) q2 (Nat.le_of_lt (Nat.lt_of_succ_lt e2)) ⟨?_, its.flatten, ep, rvf, e3⟩, rfl, q1 t' (I.hok.fresh (Nat.le_of_lt (Nat.lt_of_succ_lt e2)))⟩
      rw [rvf.length]; exact hlz
end
end FA
set_option Elab.async false
set_option autoImplicit false
set_option linter.all false
set_option maxRecDepth 100000
/-! By data: min, max of a pair; sum of lists; sorted pairs out of a dict, out of a set. -/
namespace FA
open PySem L2 SlX
def pD (p : Int × Int) : D := .tup [.int p.1, .int p.2]
theorem nubF_snoc : ∀ (l acc : List (Int × Int)) (x : Int × Int), FP.nubF acc (l ++ [x]) = if x ∈ FP.nubF acc l then FP.nubF acc l else FP.nubF acc l ++ [x]
  | [], acc, x => by
    show FP.nubF (if x ∈ acc then acc else acc ++ [x]) [] = _
    rfl
  | y :: r, acc, x => by
    show FP.nubF (if y ∈ acc then acc else acc ++ [y]) (r ++ [x]) = _
    rw [nubF_snoc r]
    rfl
theorem nub_snoc (l : List (Int × Int)) (x : Int × Int) : FP.nub (l ++ [x]) = if x ∈ FP.nub l then FP.nub l else FP.nub l ++ [x] := nubF_snoc l [] x
section
variable {K : PySem.W.Frag} {es : Es} {wi : TI} {g : TG} {ta tb te tl : TE} {vs : List Nat} {α : Type} {ds : List D}
theorem rc_minT {x y : Int} : RcE K (rMinT K) [.tup [.int x, .int y]] (.int (min x y)) := fun vs H H0 s al Q q => by
  cases al with
  | cons a1 al =>
    cases al
    cases a1 with
    | tup hs hl =>
      have e := AtL.of_ints (ns := [x, y]) hl
      subst e
      exact ⟨_, x, y, rfl, same_t s hs, q.here s .int⟩
theorem rc_maxT {x y : Int} : RcE K (rMaxT K) [.tup [.int x, .int y]] (.int (max x y)) := fun vs H H0 s al Q q => by
  cases al with
  | cons a1 al =>
    cases al
    cases a1 with
    | tup hs hl =>
      have e := AtL.of_ints (ns := [x, y]) hl
      subst e
      exact ⟨_, x, y, rfl, same_t s hs, q.here s .int⟩
/-- sum(a list of lists, []) -/
theorem AtL.lists {H : Hp} : ∀ {vs : List V} {dss : List (List D)}, AtL K H vs (dss.map .lst) → ∃ (as : List Addr) (xss : List (List V)), vs = as.map V.ref ∧ SqLs K H as xss ∧ AtL K H xss.flatten dss.flatten ∧ as.length = dss.length
  | _, [], .nil => ⟨[], [], rfl, .nil, .nil, rfl⟩
  | _, d :: dss, .cons a l => by
    obtain ⟨as, xss, e, h1, h2, h3⟩ := AtL.lists l
    subst e
    cases a with
    | @lst p ws _ hs hl => exact ⟨p :: as, ws :: xss, rfl, .cons hs h1, by rw [List.flatten_cons, List.flatten_cons]; exact hl.app h2, by simp [h3]⟩
theorem SqLs.mono {H H' : Hp} (s : Same H H') : ∀ {as : List Addr} {xss : List (List V)}, SqLs K H as xss → SqLs K H' as xss
  | _, _, .nil => .nil
  | _, _, .cons h t => .cons (s.seq h) (t.mono s)
theorem ef_sumL {dss : List (List D)} (h : EvE K tl es (.lst (dss.map .lst))) (hz : dss.flatten.length ≤ 100000) : EvF K (tCB (rSumL K) (tCons tl (tCons (tLst tNil) tNil))) es dss.flatten := fun σ H H0 F s Q q => h σ H H0 F s _ fun w H1 H01 s1 a1 => by
  cases a1 with
  | @lst p ws _ hs hl =>
    obtain ⟨as, xss, e, h1, h2, h3⟩ := hl.lists
    subst e
    refine ⟨Nat.zero_le _, fun z hz' => ?_⟩
    have s2 : Stp H1 H01 (upd H1 z (.lst [])) H01 := Stp.new' s1.c hz'
    refine ⟨p, z, as, xss, rfl, s2.c.seq hs, h1.mono s2.c, upd_same, by rw [h2.length]; exact hz, fun e => ?_, fun p2 hp2 => ?_⟩
    · subst e
      cases h1
      have ed : dss = [] := List.eq_nil_of_length_eq_zero h3.symm
      subst ed
      exact q z [] _ H01 (s1.a.free hz') (s1.trans s2) upd_same (s1.c.free hz') .nil
    · have s3 := Stp.new' (o := .lst xss.flatten) s2.c hp2
      have n1 : H1 p2 = none := s2.a.free hp2
      exact q p2 xss.flatten _ H01 (s1.a.free n1) ((s1.trans s2).trans s3) upd_same (s1.c.free n1) h2
/-- pairs at addresses -/
theorem AtL.pairs {H : Hp} : ∀ {bs : List (Addr × Int × Int)}, (∀ b ∈ bs, H b.1 = some (.tup [.int b.2.1, .int b.2.2])) → AtL K H (bs.map fun b => V.ref b.1) (bs.map fun b => pD b.2)
  | [], _ => .nil
  | b :: bs, h => .cons (.tup (.inl (.inl (h b List.mem_cons_self))) (.cons .int (.cons .int .nil))) (AtL.pairs fun c hc => h c (List.mem_cons_of_mem _ hc))
/-- sorted({(a, b): True for target in iter}) -/
theorem ef_sortDc {P : Program} {w : World} (xs : List α) (e : α → D) (k : α → Int × Int) (es' : α → Es) (hi : IterE K wi es (xs.map e)) (hg : ∀ x ∈ xs, GE K g vs (wipeE es vs) (e x) (es' x))
    (ha : ∀ x ∈ xs, EvE K ta (es' x) (.int (k x).1)) (hb : ∀ x ∈ xs, EvE K tb (es' x) (.int (k x).2)) (hz : xs.length ≤ 90000) :
    EvF K (tCB (rSortedK P w) (tCons (tDcT P w wi g tYes (tTup (tCons ta (tCons tb tNil))) (tC (.bl true)) vs) tNil)) es ((FP.sortP (xs.map k)).map pD) := fun σ H H0 F s Q q =>
  hi σ H H0 F s _ fun J H1 H01 s1 yl Dl hD => by
  have s' := s.stp s1
  have klen : ∀ i, (FP.nub ((xs.take i).map k)).length ≤ xs.length := fun i => by
    have := FP.nubF_len ((xs.take i).map k) []
    have e2 : ((xs.take i).map k).length ≤ xs.length := by rw [List.length_map, List.length_take]; omega
    unfold FP.nub
    simp only [List.length_nil] at this
    omega
  let W : Nat → Nat → Hp → Prop := fun i m H' => m = xs.length - i ∧ i ≤ xs.length ∧ ∃ (H0' : Hp) (ws : List (Addr × Int × Int)), Stp H1 H01 H' H0' ∧ H' Dl = some (DTO P w Dl ws) ∧ H0' Dl = none ∧ ws.map (·.2) = FP.nub ((xs.take i).map k) ∧
    ∀ b ∈ ws, H0' b.1 = some (.tup [.int b.2.1, .int b.2.2])
  refine ⟨W, ⟨xs.length, rfl, Nat.zero_le _, H01, [], Stp.new' s'.h0 hD, upd_same, s'.h0.free hD, by simp [FP.nub, FP.nubF], fun b hb => absurd hb (by simp)⟩, ?_⟩
  rintro i m H2 ⟨rfl, hil, H02, ws, s2, hws, hn, al, at2⟩
  obtain ⟨y1, y2⟩ := yl H2 H02 s2.b s2.c
  have wlen : ws.length ≤ xs.length := by
    have e3 := congrArg List.length al
    rw [List.length_map] at e3
    have := klen i
    omega
  by_cases hlt : i < xs.length
  · refine .inr ?_
    obtain ⟨go, y⟩ := y1 i (e xs[i]) (by rw [List.getElem?_map, List.getElem?_eq_getElem hlt]; rfl)
    refine ⟨go, fun H' => W (i + 1) (xs.length - (i + 1)) H', fun H' w => ⟨_, by omega, w⟩, fun v H3 hy => ?_⟩
    obtain ⟨H03, s3, a3⟩ := y v H3 hy
    have st3 : Sta K (wipe σ vs) H3 H03 F (wipeE es vs) := (s'.stp (s2.trans s3)).wipe vs
    refine hg xs[i] (List.getElem_mem hlt) v _ H3 H03 F st3 a3 _ fun σ2 st4 l4 k4 => ⟨wipe_same (l4.trans (wipe_length σ vs)) k4, ?_⟩
    refine et_yes (K := K) (es := es' xs[i]) σ2 H3 H03 F st4 _ fun H3' H03' s3' => ?_
    rw [if_pos rfl]
    replace st4 := st4.stp s3'
    replace s3 := s3.trans s3'
    refine ha xs[i] (List.getElem_mem hlt) σ2 H3' H03' F st4 _ fun u1 H4 H04 s4 a4 => ?_
    refine hb xs[i] (List.getElem_mem hlt) σ2 H4 H04 F (st4.stp s4) _ fun u2 H5 H05 s5 a5 => ?_
    cases a4
    cases a5
    refine ⟨by show 2 ≤ _; exact sz_le (by decide), fun p hp => ?_⟩
    have s25 := (s3.trans s4).trans s5
    have s6 : Stp H5 H05 (upd H5 p (.tup [.int (k xs[i]).1, .int (k xs[i]).2])) (upd H05 p (.tup [.int (k xs[i]).1, .int (k xs[i]).2])) := Stp.new s25.c hp
    have s26 := s25.trans s6
    have at6 : ∀ b ∈ ws, (upd H05 p (.tup [.int (k xs[i]).1, .int (k xs[i]).2])) b.1 = some (.tup [.int b.2.1, .int b.2.2]) := fun b hb => s26.b _ _ (at2 b hb)
    refine ⟨ws, k xs[i], p, rfl, rfl, upd_same, fun b hb => s26.c _ _ (at6 b hb), s26.a _ _ hws, sz_lt (by omega), rfl, hlt, _, putL ws p (k xs[i]), ?_, upd_same, s26.n _ _ hws hn, ?_, ?_⟩
    · have s16 := s2.trans s26
      refine ⟨fun a o z => ?_, s16.b, fun a o z => ?_, s16.n⟩
      · rw [upd_ne (ne_of_none z hD)]; exact s16.a a o z
      · rw [upd_ne (ne_of_none z (s26.n _ _ hws hn))]; exact s16.c a o z
    · rw [take_get hlt, List.map_append, List.map_singleton, nub_snoc, ← al]
      unfold putL
      by_cases hm : k xs[i] ∈ ws.map (·.2)
      · rw [if_pos hm, if_pos hm]
      · rw [if_neg hm, if_neg hm, List.map_append]
        rfl
    · intro b hb
      unfold putL at hb
      split at hb
      · exact at6 b hb
      · rcases List.mem_append.mp hb with z | z
        · exact at6 b z
        · rw [List.mem_singleton] at z
          subst z
          exact upd_same
  · have ei : i = xs.length := by omega
    subst ei
    refine .inl ⟨by simpa using y2, ?_⟩
    rw [List.take_length] at al
    refine ⟨Dl, ws, rfl, hws, fun b hb => s2.c _ _ (at2 b hb), by omega, fun p hp => ?_⟩
    have s3 := Stp.new' (o := .lst ((ws.mergeSort pairLeA).map fun b => V.ref b.1)) s2.c hp
    have np : H1 p = none := s2.a.free hp
    refine q p _ _ H02 (s1.a.free np) (s1.trans (s2.trans s3)) upd_same (s2.c.free hp) ?_
    have e1 : (FP.sortP (xs.map k)).map pD = (ws.mergeSort pairLeA).map fun b => pD b.2 := by
      unfold FP.sortP
      rw [← al]
      have e2 := sort_snd ws
      have e3 : pairLe = FP.pairLe := rfl
      rw [e3] at e2
      rw [← e2, List.map_map]
      rfl
    rw [e1]
    exact AtL.pairs fun b hb => at2 b (List.mem_mergeSort.mp hb)
end
end FA
set_option Elab.async false
set_option autoImplicit false
set_option linter.all false
set_option maxRecDepth 100000
/-! sorted(set(pairs)), by data. -/
namespace FA
open PySem L2 SlX
section
variable {K : PySem.W.Frag} {es : Es} {tl : TE}
def prL (l : List Int) : Int × Int := (l.headD 0, (l.drop 1).headD 0)
theorem AtL.pairsT {H : Hp} : ∀ {ps : List (Int × Int)} {vs : List V}, AtL K H vs (ps.map pD) → ∃ ks : List (Addr × List Int), vs = ks.map (fun p => V.ref p.1) ∧ (∀ p ∈ ks, SqT K H p.1 (p.2.map V.int)) ∧ ks.map (·.2) = ps.map fun p => [p.1, p.2]
  | [], _, .nil => ⟨[], rfl, fun p hp => absurd hp (by simp), rfl⟩
  | p :: ps, _, .cons a l => by
    obtain ⟨ks, e, h1, h2⟩ := AtL.pairsT l
    subst e
    unfold pD at a
    cases a with
    | @tup q ws _ hs hl =>
      have e := AtL.of_ints (ns := [p.1, p.2]) hl
      subst e
      refine ⟨(q, [p.1, p.2]) :: ks, rfl, fun c hc => ?_, by rw [List.map_cons, List.map_cons, h2]⟩
      rcases List.mem_cons.mp hc with z | z
      · subst z; exact hs
      · exact h1 c z
/-- the set's tuples in order are the sorted pairs -/
theorem sort_of_set {ps : List (Int × Int)} {ks L L' : List (Addr × List Int)} (hk : ks.map (·.2) = ps.map fun p => [p.1, p.2]) (h1 : ∀ p ∈ L, p ∈ ks) (h2 : ∀ p ∈ ks, p.2 ∈ L.map (·.2)) (pm : L'.Perm L) (nd : (L'.map (·.2)).Nodup)
    (pw : L'.Pairwise fun q r => TS.code 64 q.2 ≤ TS.code 64 r.2) (hb : ∀ p ∈ ps, 0 ≤ p.1 ∧ p.1 < 64 ∧ 0 ≤ p.2 ∧ p.2 < 64) : L'.map (fun q => prL q.2) = FP.sortP ps := by
  have mem : ∀ q ∈ L', ∃ p ∈ ps, q.2 = [p.1, p.2] := fun q hq => by
    have h3 := h1 q (pm.mem_iff.mp hq)
    have h4 : q.2 ∈ ks.map (·.2) := List.mem_map.mpr ⟨q, h3, rfl⟩
    rw [hk] at h4
    obtain ⟨p, hp, e⟩ := List.mem_map.mp h4
    exact ⟨p, hp, e.symm⟩
  refine (FP.sortP_of ?_ fun x => ?_).symm
  · rw [List.pairwise_map]
    have nd' := List.pairwise_map.mp (List.nodup_iff_pairwise_ne.mp nd)
    refine (FP.pairwise_and nd' pw).imp_of_mem fun {q r} hq hr h => ?_
    obtain ⟨ne, le⟩ := h
    obtain ⟨p, hp, e⟩ := mem q hq
    obtain ⟨p', hp', e'⟩ := mem r hr
    rw [e, e'] at le ne ⊢
    obtain ⟨a1, a2, a3, a4⟩ := hb p hp
    obtain ⟨b1, b2, b3, b4⟩ := hb p' hp'
    exact L2.pair_lt le ne ⟨a1, a2⟩ ⟨a3, a4⟩ ⟨b1, b2⟩ ⟨b3, b4⟩
  · constructor
    · intro hx
      obtain ⟨q, hq, e⟩ := List.mem_map.mp hx
      obtain ⟨p, hp, e'⟩ := mem q hq
      rw [e'] at e
      have : p = x := e
      rw [← this]; exact hp
    · intro hx
      have h3 : [x.1, x.2] ∈ ks.map (·.2) := by rw [hk]; exact List.mem_map.mpr ⟨x, hx, rfl⟩
      obtain ⟨c, hc, e⟩ := List.mem_map.mp h3
      have h4 := h2 c hc
      rw [e] at h4
      obtain ⟨q, hq, e2⟩ := List.mem_map.mp h4
      refine List.mem_map.mpr ⟨q, pm.mem_iff.mpr hq, ?_⟩
      rw [e2]
      rfl
theorem ef_sortSet {P : Program} {w : World} {ps : List (Int × Int)} (h : EvE K tl es (.lst (ps.map pD))) (hz : ps.length < 64) (hb : ∀ p ∈ ps, 0 ≤ p.1 ∧ p.1 < 64 ∧ 0 ≤ p.2 ∧ p.2 < 64) :
    EvF K (tCB (rSortedT K P w) (tCons (tCB (rSetOfT K P w) (tCons tl tNil)) tNil)) es ((FP.sortP ps).map pD) := fun σ H H0 F s Q q => h σ H H0 F s _ fun v H1 H01 s1 a1 => by
  cases a1 with
  | @lst l ws _ hs hl =>
    obtain ⟨ks, e, h1, h2⟩ := hl.pairsT
    subst e
    have kl : ks.length = ps.length := by
      have := congrArg List.length h2
      simpa using this
    refine ⟨l, ks, rfl, s1.c.seq hs, fun p hp => same_t s1.c (h1 p hp), by rw [kl]; exact hz, fun a L ha m1 m2 => ?_⟩
    have s2 : Stp H1 H01 (upd H1 a (SetTO P w a L)) H01 := Stp.new' s1.c ha
    have in2 : ∀ q ∈ L, ∃ p ∈ ps, q.2 = [p.1, p.2] := fun q hq => by
      have h4 : q.2 ∈ ks.map (·.2) := List.mem_map.mpr ⟨q, m1 q hq, rfl⟩
      rw [h2] at h4
      obtain ⟨p, hp, e⟩ := List.mem_map.mp h4
      exact ⟨p, hp, e.symm⟩
    refine ⟨a, L, 2, 64, rfl, upd_same, fun p hp => same_t s2.c (h1 p (m1 p hp)), by decide, fun p hp => ?_, fun L' p pm nd hf pw hp => ?_⟩
    · obtain ⟨c, hc, e⟩ := in2 p hp
      obtain ⟨b1, b2, b3, b4⟩ := hb c hc
      refine ⟨by rw [e]; rfl, ?_⟩
      rw [e]
      intro n hn
      simp only [List.mem_cons, List.not_mem_nil, or_false] at hn
      rcases hn with z | z <;> (subst z; constructor <;> assumption)
    · have np : H1 p = none := s2.a.free hp
      have s3 := Stp.new' (o := .lst (L'.map fun q => V.ref q.1)) s2.c hp
      refine q p _ _ H01 (s1.a.free np) (s1.trans (s2.trans s3)) upd_same (s1.c.free np) ?_
      rw [← sort_of_set h2 m1 m2 pm nd pw hb, List.map_map]
      have key : ∀ M : List (Addr × List Int), (∀ q ∈ M, q ∈ L') → AtL K H01 (M.map fun q => V.ref q.1) (M.map (pD ∘ fun q => prL q.2)) := by
        intro M
        induction M with
        | nil => intro _; exact .nil
        | cons q M ih =>
          intro hm
          refine .cons ?_ (ih fun c hc => hm c (List.mem_cons_of_mem _ hc))
          have hq := pm.mem_iff.mp (hm q List.mem_cons_self)
          obtain ⟨c, hc, e⟩ := in2 q hq
          have ht := h1 q (m1 q hq)
          rw [e] at ht
          have e3 : (pD ∘ fun q : Addr × List Int => prL q.2) q = pD c := by
            show pD (prL q.2) = pD c
            rw [e]
            rfl
          rw [e3]
          exact .tup ht (.cons .int (.cons .int .nil))
      exact key L' fun _ h => h
end
end FA
set_option Elab.async false
set_option autoImplicit false
set_option linter.all false
set_option maxRecDepth 100000
/-! Objects that no one is told of yet; instances made. -/
namespace FA
open PySem L2 SlX
section
variable {K : PySem.W.Frag} {σ : L2.St} {H H0 F : Hp} {es : Es}
/-- an untold object, of the frame, changes -/
theorem Sta.poke (s : Sta K σ H H0 F es) {a : Addr} {o o' : HO} (h : F a = some o) : Sta K σ (upd H a o') H0 (upd F a o') es := by
  have n0 := s.ff a o h
  have no : ∀ i p, OwnAt σ es i p → p ≠ a := fun i p oi e => by
    have := (s.ownH oi).2.2
    rw [e, h] at this
    cases this
  refine ⟨fun b u e => ?_, same_upd s.f, fun b u e => ?_, s.len, s.val, fun i t d e => ?_, fun i d e => ?_, s.dis⟩
  · rw [upd_ne (ne_of_none e n0)]; exact s.h0 b u e
  · by_cases q : b = a
    · rw [q]; exact n0
    · rw [upd_ne q] at e; exact s.ff b u e
  · obtain ⟨p, vs, ht, q1, q2, q3, q4, q5⟩ := s.own i t d e
    have np := no i p ⟨q1, .inl ⟨t, d, e⟩⟩
    exact ⟨p, vs, ht, q1, by rw [upd_ne np]; exact q2, q3, q4, by rw [upd_ne np]; exact q5⟩
  · obtain ⟨p, vs, q1, q2, q3, q4, q5⟩ := s.ownd i d e
    have np := no i p ⟨q1, .inr ⟨d, e⟩⟩
    exact ⟨p, vs, q1, by rw [upd_ne np]; exact q2, q3, q4, by rw [upd_ne np]; exact q5⟩
/-- .. an untold new object is put under the frame -/
theorem Sta.hold (s : Sta K σ H H0 F es) {a : Addr} {o : HO} (h : H a = some o) (h0 : H0 a = none) (no : ∀ i, ¬ OwnAt σ es i a) : Sta K σ H H0 (upd F a o) es :=
  s.reF (fun b u e => by
    by_cases q : b = a
    · subst q; rw [upd_same] at e; cases e; exact h
    · rw [upd_ne q] at e; exact s.f b u e) (fun b u e => by
    by_cases q : b = a
    · rw [q]; exact h0
    · rw [upd_ne q] at e; exact s.ff b u e) fun i p oi => by
    have np : p ≠ a := fun z => no i (z ▸ oi)
    rw [upd_ne np]
    exact (s.ownH oi).2.2
/-- an untold object of the frame is told -/
theorem Sta.reveal (s : Sta K σ H H0 F es) {a : Addr} {o : HO} (h : F a = some o) {F' : Hp} (hF : ∀ b, b ≠ a → F' b = F b) (hn : F' a = none) : Sta K σ H (upd H0 a o) F' es := by
  have n0 := s.ff a o h
  have no : ∀ i, ¬ OwnAt σ es i a := fun i oi => by
    have := (s.ownH oi).2.2
    rw [h] at this
    cases this
  have s1 : Sta K σ H H0 F' es := s.reF (fun b u e => by
    by_cases q : b = a
    · rw [q, hn] at e; cases e
    · rw [hF b q] at e; exact s.f b u e) (fun b u e => by
    by_cases q : b = a
    · rw [q, hn] at e; cases e
    · rw [hF b q] at e; exact s.ff b u e) fun i p oi => by
    have np : p ≠ a := fun z => no i (z ▸ oi)
    rw [hF p np]
    exact (s.ownH oi).2.2
  exact s1.tell (s.f a o h) hn no n0
end
/-- for, the frame changing -/
theorem for_F {K : PySem.W.Frag} {wi : TI} {g : TG} {tl : TS} {vs : List Nat} {es : Es} (xs : List D) (I : Nat → Es → Hp → Prop) (σ : L2.St) (H H0 F : Hp) (s : Sta K σ H H0 F es) (hi : ∀ R : It → Hp → Prop, (∀ (J : It) (H' H0' : Hp), Stp H H0 H' H0' → Yl K J H0' xs → R J H') → wi σ H R) (h0 : I 0 es F)
    (hs : ∀ (i : Nat) (x : D) (e : Es) (F : Hp), xs[i]? = some x → I i e F → ∃ e1, GE K g vs e x e1 ∧ ∀ (D0 : Ends) (σ : L2.St) (H H0 : Hp), Sta K σ H H0 F e1 → (∀ (σ' : L2.St) (H' H0' : Hp) (e' : Es) (F' : Hp), I (i + 1) e' F' → Sta K σ' H' H0' F' e' → Same H0 H0' → D0.nx σ' H') → tl D0 σ H)
    (D0 : Ends) (q : ∀ (σ' : L2.St) (H' H0' : Hp) (e' : Es) (F' : Hp), I xs.length e' F' → Sta K σ' H' H0' F' e' → Same H0 H0' → D0.nx σ' H') : tFor wi g tl D0 σ H :=
  hi _ fun J H1 H01 s1 yl => by
  refine ⟨fun i m σ' H' => m = xs.length - i ∧ i ≤ xs.length ∧ ∃ (H0' F' : Hp) (e : Es), I i e F' ∧ Sta K σ' H' H0' F' e ∧ Same H01 H0', ⟨xs.length, rfl, Nat.zero_le _, H01, F, es, h0, s.stp s1, Same.refl _⟩, ?_⟩
  rintro i m σ2 H2 ⟨rfl, hil, H02, F2, e, hI, st, b⟩
  obtain ⟨y1, y2⟩ := yl H2 H02 b st.h0
  by_cases hlt : i < xs.length
  · refine .inr ?_
    have ex : xs[i]? = some xs[i] := List.getElem?_eq_getElem hlt
    obtain ⟨go, y⟩ := y1 i _ ex
    refine ⟨go, fun σ' H' => ∃ (H0' F' : Hp) (e : Es), I (i + 1) e F' ∧ Sta K σ' H' H0' F' e ∧ Same H01 H0', fun σ' H' w => ⟨xs.length - (i + 1), by omega, rfl, hlt, w⟩, fun v H3 hy => ?_⟩
    obtain ⟨H03, s3, a3⟩ := y v H3 hy
    obtain ⟨e1, hg, hb⟩ := hs i _ e F2 ex hI
    refine hg v σ2 H3 H03 F2 (st.stp s3) a3 _ fun σ3 st3 _ _ => ?_
    exact hb _ σ3 H3 H03 st3 fun σ4 H4 H04 e4 F4 p4 st4 b4 => ⟨H04, F4, e4, p4, st4, b.trans (s3.b.trans b4)⟩
  · have ei : i = xs.length := by omega
    subst ei
    exact .inl ⟨y2, q σ2 H2 H02 e F2 hI st (s1.b.trans b)⟩
/-- a new object, told to no one -/
def EvN (K : PySem.W.Frag) (te : TE) (es : Es) (o : HO) : Prop := ∀ (σ : L2.St) (H H0 F : Hp), Sta K σ H H0 F es → ∀ Q : VK,
  (∀ (p : Addr) (H' H0' : Hp), H p = none → Stp H H0 H' H0' → H' p = some o → H0' p = none → Q (.ref p) H') → te σ H Q
section
variable {K : PySem.W.Frag} {es : Es} {wi : TI} {g : TG} {te ta : TE} {vs : List Nat} {α : Type}
theorem en_dic : EvN K tDNewK es (.dK []) := fun σ H H0 F s Q q p hp => q p _ H0 hp (Stp.new' s.h0 hp) upd_same (s.h0.free hp)
/-- [i] * n -/
theorem en_rep {i n : Int} (h : EvE K ta es (.int n)) (h0 : 0 ≤ n) (h1 : n ≤ 10000) : EvN K (tOp rRep (tLst (tCons (tC (.int i)) tNil)) ta) es (.lst (List.replicate n.toNat (V.int i))) := fun σ H H0 F s Q q =>
  ⟨by show 1 ≤ _; exact sz_le (by decide), fun l hl => by
    have s1 : Stp H H0 (upd H l (.lst [.int i])) H0 := Stp.new' s.h0 hl
    refine h σ _ H0 F (s.stp s1) _ fun u H2 H02 s2 a2 => ?_
    cases a2
    refine ⟨l, n, [.int i], rfl, rfl, s2.a _ _ upd_same, by omega, by omega, ?_, fun p hp => ?_⟩
    · show 1 * n.toNat ≤ _
      exact sz_le (by omega)
    · have e : (List.replicate n.toNat [V.int i]).flatten = List.replicate n.toNat (V.int i) := by
        generalize n.toNat = m
        induction m with
        | zero => rfl
        | succ m ih => rw [List.replicate_succ, List.replicate_succ, List.flatten_cons, ih]; rfl
      rw [e]
      have n1 : upd H l (.lst [.int i]) p = none := s2.a.free hp
      exact q p _ H02 (s1.a.free n1) ((s1.trans s2).trans (Stp.new' s2.c hp)) upd_same (s2.c.free hp)⟩
/-- [a new object for target in iter] -/
theorem en_lc {o : HO} (xs : List α) (e : α → D) (es' : α → Es) (σ : L2.St) (H H0 F : Hp) (s : Sta K σ H H0 F es)
    (hi : IterE K wi es (xs.map e)) (hg : ∀ x ∈ xs, GE K g vs (wipeE es vs) (e x) (es' x)) (he : ∀ x ∈ xs, EvN K te (es' x) o) (hz : xs.length ≤ 100000) (Q : VK)
    (q : ∀ (p : Addr) (ps : List Addr) (H' H0' : Hp), H p = none → Stp H H0 H' H0' → H' p = some (.lst (ps.map V.ref)) → H0' p = none → ps.length = xs.length → ps.Nodup → p ∉ ps → (∀ a ∈ ps, H' a = some o ∧ H0' a = none ∧ H a = none) → Q (.ref p) H') : tLc wi g tYes te vs σ H Q :=
  hi σ H H0 F s _ fun J H1 H01 s1 yl Dl hD => by
  have s' := s.stp s1
  let W : Nat → Nat → Hp → Prop := fun i m H' => m = xs.length - i ∧ i ≤ xs.length ∧ ∃ (H0' : Hp) (ps : List Addr), Stp H1 H01 H' H0' ∧ H' Dl = some (.lst (ps.map V.ref)) ∧ H0' Dl = none ∧ ps.length = i ∧ ps.Nodup ∧ Dl ∉ ps ∧ ∀ a ∈ ps, H' a = some o ∧ H0' a = none ∧ H1 a = none
  refine ⟨W, ⟨xs.length, rfl, Nat.zero_le _, H01, [], Stp.new' s'.h0 hD, upd_same, s'.h0.free hD, rfl, List.nodup_nil, by simp, fun a ha => absurd ha (by simp)⟩, ?_⟩
  rintro i m H2 ⟨rfl, hil, H02, ps, s2, hws, hn, pl, pn, pD, pa⟩
  obtain ⟨y1, y2⟩ := yl H2 H02 s2.b s2.c
  by_cases hlt : i < xs.length
  · refine .inr ?_
    obtain ⟨go, y⟩ := y1 i (e xs[i]) (by rw [List.getElem?_map, List.getElem?_eq_getElem hlt]; rfl)
    refine ⟨go, fun H' => W (i + 1) (xs.length - (i + 1)) H', fun H' w => ⟨_, by omega, w⟩, fun v H3 hy => ?_⟩
    obtain ⟨H03, s3, a3⟩ := y v H3 hy
    have st3 : Sta K (wipe σ vs) H3 H03 F (wipeE es vs) := (s'.stp (s2.trans s3)).wipe vs
    refine hg xs[i] (List.getElem_mem hlt) v _ H3 H03 F st3 a3 _ fun σ2 st4 l4 k4 => ⟨wipe_same (l4.trans (wipe_length σ vs)) k4, ?_⟩
    refine et_yes (K := K) (es := es' xs[i]) σ2 H3 H03 F st4 _ fun H4 H04 s4 => ?_
    rw [if_pos rfl]
    refine he xs[i] (List.getElem_mem hlt) σ2 H4 H04 F (st4.stp s4) _ fun p H5 H05 hp s5 h5 h05 => ?_
    have s25 := (s3.trans s4).trans s5
    have n5 : H5 Dl = some (.lst (ps.map V.ref)) ∧ H05 Dl = none := ⟨s25.a _ _ hws, s25.n _ _ hws hn⟩
    have s24 := s3.trans s4
    have n2 : H2 p = none := s24.a.free hp
    have pDl : p ≠ Dl := fun z => by rw [z, hws] at n2; cases n2
    have pps : p ∉ ps := fun z => by have := (pa p z).1; rw [n2] at this; cases this
    refine ⟨ps.map V.ref, n5.1, by rw [List.length_map]; exact sz_lt (by omega), rfl, hlt, H05, ps ++ [p], ?_, by rw [List.map_append]; exact upd_same, n5.2, by simp [pl], ?_, ?_, ?_⟩
    · have s15 := s2.trans s25
      refine ⟨fun a u z => ?_, s15.b, fun a u z => ?_, s15.n⟩
      · rw [upd_ne (ne_of_none z hD)]; exact s15.a a u z
      · rw [upd_ne (ne_of_none z n5.2)]; exact s15.c a u z
    · refine List.nodup_append.mpr ⟨pn, by simp, fun a ha b hb z => ?_⟩
      rw [List.mem_singleton] at hb
      exact pps (by rw [← hb, ← z]; exact ha)
    · rw [List.mem_append, List.mem_singleton]
      rintro (z | z)
      · exact pD z
      · exact pDl z.symm
    · intro a ha
      rcases List.mem_append.mp ha with z | z
      · have aD : a ≠ Dl := fun w => pD (w ▸ z)
        refine ⟨by rw [upd_ne aD]; exact s25.a _ _ (pa a z).1, s25.n _ _ (pa a z).1 (pa a z).2.1, (pa a z).2.2⟩
      · rw [List.mem_singleton] at z
        subst z
        exact ⟨by rw [upd_ne pDl]; exact h5, h05, s2.a.free n2⟩
  · have ei : i = xs.length := by omega
    subst ei
    refine .inl ⟨by simpa using y2, ?_⟩
    exact q Dl ps H2 H02 (s1.a.free hD) (s1.trans s2) hws hn pl pn pD fun a ha => ⟨(pa a ha).1, (pa a ha).2.1, s1.a.free (pa a ha).2.2⟩
end

/-! ### instances made -/
/-- the promise of an __init__ that fills the slots of a new instance -/
def spInit (K : PySem.W.Frag) (C : Addr) (R : List D → List D → Prop) : Sp := fun vs H Q _ => ∃ (H0 : Hp) (x dx : Addr) (ws : List V) (ds fs : List D), vs = .ref x :: ws ∧ H x = some (.ins C dx []) ∧ H dx = some (.own x) ∧ H0 x = none ∧ H0 dx = none ∧ dx ≠ x ∧ Same H0 H ∧ AtL K H0 ws ds ∧ R ds fs ∧
  ∀ (us : List V) (H' H0' : Hp), H' x = some (SlO x C dx (us.map some)) → H' dx = some (.xd []) → AtL K H0' us fs → H0' x = none → H0' dx = none → Same H0 H0' → Same H0' H' → (∀ a o, a ≠ x → a ≠ dx → H a = some o → H' a = some o) → (∀ a o, H a = some o → H0 a = none → H0' a = none) → Q .non H'
theorem ev_make {K : PySem.W.Frag} {es : Es} {C : Addr} {R : List D → List D → Prop} {ta : TA} {ds fs : List D} {E : XK} (ha : EvA K ta es ds) (hr : R ds fs) : EvE K (tMake C (spInit K C R) [] E ta) es (.obj C fs) := fun σ H H0 F s Q q =>
  ha σ H H0 F s _ fun vs H1 H01 st al x dx hx hdx ne => by
  have e1 : upd (upd H1 dx (.own x)) x (.ins C dx []) dx = some (.own x) := by rw [upd_ne ne, upd_same]
  have hs : Same H1 (upd (upd H1 dx (.own x)) x (.ins C dx [])) := (same_new hdx).trans (same_new (by rw [upd_ne (Ne.symm ne)]; exact hx))
  refine ⟨H01, x, dx, vs, ds, fs, by rw [List.append_nil], upd_same, e1, st.c.free hx, st.c.free hdx, ne, st.c.trans hs, al, hr, fun us H' H0' b1 b2 b3 b4 b5 b6 b7 b8 b9 => ⟨rfl, ?_⟩⟩
  refine (q.step st) (.ref x) H' (upd (upd H0' dx (.xd [])) x (SlO x C dx (us.map some))) ⟨fun a o e => ?_, ?_, fun a o e => ?_, fun a o e n => ?_⟩ (.obj (dx := dx) (vs := us) (.inr ⟨upd_same, by rw [upd_ne ne, upd_same]⟩) (b3.mono ?_))
  · have n1 : a ≠ x := ne_of_none e hx
    have n2 : a ≠ dx := ne_of_none e hdx
    exact b8 a o n1 n2 (hs a o e)
  · exact b6.trans ((same_new b5).trans (same_new (by rw [upd_ne (Ne.symm ne)]; exact b4)))
  · by_cases h1 : a = x
    · subst h1; rw [upd_same] at e; cases e; exact b1
    · rw [upd_ne h1] at e
      by_cases h2 : a = dx
      · subst h2; rw [upd_same] at e; cases e; exact b2
      · rw [upd_ne h2] at e; exact b7 a o e
  · have n1 : a ≠ x := ne_of_none e hx
    have n2 : a ≠ dx := ne_of_none e hdx
    rw [upd_ne n1, upd_ne n2]
    exact b9 a o (hs a o e) n
  · exact (same_new b5).trans (same_new (by rw [upd_ne (Ne.symm ne)]; exact b4))
end FA
set_option Elab.async false
set_option autoImplicit false
set_option linter.all false
set_option maxRecDepth 100000
/-! len of a dict that may be locked; sorted(dict of ints); {k: v for ..}; statements that lock; blocks within blocks. -/
namespace FA
open PySem PySem.Spec PyProof.Rows L2 SlX
theorem relabel_relS {scope : Scope} {env : Env} (hk : env.scope.kind = .function) : relabel scope env = relS scope env.scope := by
  first
    | rfl
    | (unfold relabel relS; rfl)
theorem blkN {N : List Str} {scope0 scope : Scope} {own : List (Str × Nat)} {cl : List (Str × Addr)} {C : Addr} {env : Env} (sc : Scope) (hs : env.scope = sc) (h : blkC N (relS scope0 sc) scope own = true) : BlkOk N (compEnvC scope0 cl C env).scope scope own := by
  subst hs
  have e : (compEnvC scope0 cl C env).scope = relS scope0 env.scope := rfl
  rw [e]
  exact blkOk_by h
theorem blkN2 {N : List Str} {scope0 scope1 scope : Scope} {own : List (Str × Nat)} {cl cl1 : List (Str × Addr)} {C C1 : Addr} {env : Env} (sc : Scope) (hs : env.scope = sc) (h : blkC N (relS scope1 (relS scope0 sc)) scope own = true) : BlkOk N (compEnvC scope1 cl1 C1 (compEnvC scope0 cl C env)).scope scope own :=
  blkN (relS scope0 sc) (by subst hs; rfl) h
section
variable {X : Cx}
/-- len(d), d locked or not -/
abbrev rLenDR : List V → Hp → VK → Prop := fun xs H Q => ∃ a kvs, xs = [V.ref a] ∧ Rd H a (.dK kvs) ∧ Q (.int kvs.length) H
theorem call_lenDR : CallR X (.builtin "len") rLenDR := by
  intro pins s σ H xs us Q I r h
  obtain ⟨a, kvs, rfl, ha, q⟩ := h
  obtain ⟨u, rfl, ru⟩ := vals1 r
  cases ru
  exact d_len I ha fun t s' I' => ⟨.int kvs.length, H, I', ⟨t, rfl⟩, q⟩
/-- a statement whose value walks a dict -/
def tLockAS (t : TS) : TS := fun D σ H => t D σ H ∨ tLock t D σ H
theorem ps_lockA {st : Stmt} {t : TS} (h : PS X st t) : PS X st (tLockAS t) :=
  ⟨fun pins s σ H D I hw => hw.elim (fun z => h.run pins s σ H D I z) fun z => (ps_lock h).run pins s σ H D I z⟩
end
section
variable {K : PySem.W.Frag} {es : Es} {wi : TI} {g : TG} {te ta tk tv : TE} {vs : List Nat} {α : Type} {ds : List D}
theorem nx_lockAsg {i : Nat} (h : EvF K (tLockA te) es ds) : NxE K (tLockAS (tAsg te (gName i))) es (es.set i (.val (.lst ds))) := fun D0 σ H H0 F s q => by
  have h2 := nx_asg (i := i) h.e D0 σ H H0 F s q
  rcases h2 with h2 | ⟨d, u, hd, mu, h2⟩
  · exact .inl h2
  · exact .inr ⟨d, u, hd, mu, h2⟩
theorem AtK.length {H : Hp} : ∀ {vs : List (Key × V)} {es : List (Key × D)}, AtK K H vs es → vs.length = es.length
  | _, _, .nil => rfl
  | _, _, .cons _ l => by rw [List.length_cons, List.length_cons, AtK.length l]
theorem rc_lenD {kvs : List (Key × D)} : RcE K rLenDR [.dic kvs] (.int kvs.length) := fun vs H H0 s al Q q => by
  cases al with
  | cons a1 al =>
    cases al
    cases a1 with
    | dic hr hl => exact ⟨_, _, rfl, same_rd s hr, by rw [hl.length]; exact q.here s .int⟩
/-- sorted(dict with ints as keys) -/
abbrev rSortDI : List V → Hp → VK → Prop := fun xs H Q => ∃ (a : Addr) (kvs : List (Key × V)) (ks : List Int), xs = [.ref a] ∧ Rd H a (.dK kvs) ∧ kvs.map (·.1) = ks.map Sum.inl ∧ ks.length < 64 ∧
    ∀ (ys : List Int) (p : Addr), ys.Perm ks → ys.Pairwise (· ≤ ·) → H p = none → Q (.ref p) (upd H p (.lst (ys.map V.int)))
theorem sorted_uniq : ∀ {xs ys : List Int}, xs.Perm ys → xs.Pairwise (· ≤ ·) → ys.Pairwise (· ≤ ·) → xs = ys
  | [], ys, p, _, _ => (List.nil_perm.mp p).symm
  | x :: xs, [], p, _, _ => absurd (List.perm_nil.mp p) (by simp)
  | x :: xs, y :: ys, p, .cons h1 t1, .cons h2 t2 => by
    have e : x = y := by
      have m1 : x ∈ y :: ys := p.mem_iff.mp List.mem_cons_self
      have m2 : y ∈ x :: xs := p.mem_iff.mpr List.mem_cons_self
      rcases List.mem_cons.mp m1 with z | z
      · exact z
      · rcases List.mem_cons.mp m2 with w | w
        · exact w.symm
        · have a := h1 y w
          have b := h2 x z
          omega
    subst e
    rw [sorted_uniq (List.Perm.cons_inv p) t1 t2]
theorem ef_sortDI {kvs : List (Key × D)} {ks ys : List Int} (h : EvE K te es (.dic kvs)) (hk : kvs.map (·.1) = ks.map Sum.inl) (hz : ks.length < 64) (hp : ys.Perm ks) (hs : ys.Pairwise (· ≤ ·)) : EvF K (tCB rSortDI (tCons te tNil)) es (ys.map .int) := fun σ H H0 F s Q q => h σ H H0 F s _ fun w H1 H01 s1 a1 => by
  cases a1 with
  | @dic p ws _ hr hl =>
    refine ⟨p, ws, ks, rfl, same_rd s1.c hr, hl.keys.trans hk, hz, fun zs p2 z1 z2 hp2 => ?_⟩
    have e : zs = ys := sorted_uniq (z1.trans hp.symm) z2 hs
    subst e
    exact q p2 _ _ H01 (s1.a.free hp2) (s1.trans (Stp.new' s1.c hp2)) upd_same (s1.c.free hp2) AtL.ints
/-- {k: v for target in iter}, keys that differ -/
theorem ev_dc {key : α → Key} (xs : List α) (e : α → D) (h : α → D) (es' : α → Es) (hi : IterE K wi es (xs.map e)) (hg : ∀ x ∈ xs, GE K g vs (wipeE es vs) (e x) (es' x))
    (hk : ∀ x ∈ xs, EvE K tk (es' x) (kD (key x))) (he : ∀ x ∈ xs, EvE K tv (es' x) (h x)) (nd : (xs.map key).Nodup) (hz : xs.length ≤ 90000) :
    EvE K (tDc wi g tYes tk tv vs) es (.dic (xs.map fun x => (key x, h x))) := fun σ H H0 F s Q q =>
  hi σ H H0 F s _ fun J H1 H01 s1 yl Dl hD => by
  have s' := s.stp s1
  let W : Nat → Nat → Hp → Prop := fun i m H' => m = xs.length - i ∧ i ≤ xs.length ∧ ∃ (H0' : Hp) (ws : List (Key × V)), Stp H1 H01 H' H0' ∧ H' Dl = some (.dK ws) ∧ H0' Dl = none ∧ AtK K H0' ws ((xs.take i).map fun x => (key x, h x))
  refine ⟨W, ⟨xs.length, rfl, Nat.zero_le _, H01, [], Stp.new' s'.h0 hD, upd_same, s'.h0.free hD, .nil⟩, ?_⟩
  rintro i m H2 ⟨rfl, hil, H02, ws, s2, hws, hn, al⟩
  obtain ⟨y1, y2⟩ := yl H2 H02 s2.b s2.c
  by_cases hlt : i < xs.length
  · refine .inr ?_
    obtain ⟨go, y⟩ := y1 i (e xs[i]) (by rw [List.getElem?_map, List.getElem?_eq_getElem hlt]; rfl)
    refine ⟨go, fun H' => W (i + 1) (xs.length - (i + 1)) H', fun H' w => ⟨_, by omega, w⟩, fun v H3 hy => ?_⟩
    obtain ⟨H03, s3, a3⟩ := y v H3 hy
    have st3 : Sta K (wipe σ vs) H3 H03 F (wipeE es vs) := (s'.stp (s2.trans s3)).wipe vs
    refine hg xs[i] (List.getElem_mem hlt) v _ H3 H03 F st3 a3 _ fun σ2 st4 l4 k4 => ⟨wipe_same (l4.trans (wipe_length σ vs)) k4, ?_⟩
    refine et_yes (K := K) (es := es' xs[i]) σ2 H3 H03 F st4 _ fun H4 H04 s4 => ?_
    rw [if_pos rfl]
    refine hk xs[i] (List.getElem_mem hlt) σ2 H4 H04 F (st4.stp s4) _ fun u1 H5 H05 s5 a5 => ?_
    refine he xs[i] (List.getElem_mem hlt) σ2 H5 H05 F ((st4.stp s4).stp s5) _ fun u2 H6 H06 s6 a6 => ?_
    have eu := a5.of_key
    subst eu
    have s26 := ((s3.trans s4).trans s5).trans s6
    have ek : (ws.map fun p : Key × V => p.1) = (xs.take i).map key := by
      have e1 := al.keys
      rw [List.map_map] at e1
      exact e1
    have new : valV ws (key xs[i]) = none := by
      cases q : valV ws (key xs[i]) with
      | none => rfl
      | some z =>
        exfalso
        have e1 := valV_any (key xs[i]) ws
        rw [q] at e1
        obtain ⟨p, hp, e2⟩ := List.any_eq_true.mp e1
        rw [decide_eq_true_eq] at e2
        have m1 : key xs[i] ∈ (xs.take i).map key := by rw [← ek]; exact List.mem_map.mpr ⟨p, hp, e2⟩
        have e3 : xs.map key = (xs.take i).map key ++ (key xs[i] :: (xs.drop (i + 1)).map key) := by
          conv => lhs; rw [← List.take_append_drop i xs, List.map_append, List.drop_eq_getElem_cons hlt, List.map_cons]
        rw [e3] at nd
        exact (List.nodup_append.mp nd).2.2 _ m1 _ List.mem_cons_self rfl
    refine ⟨ws, key xs[i], rfl, s26.a _ _ hws, ?_, rfl, hlt, H06, ws ++ [(key xs[i], u2)], ?_, by rw [putK_new u2 new]; exact upd_same, s26.n _ _ hws hn, ?_⟩
    · rw [al.length, List.length_map, List.length_take]
      exact sz_lt (by omega)
    · have s16 := s2.trans s26
      refine ⟨fun a o z => ?_, s16.b, fun a o z => ?_, s16.n⟩
      · rw [upd_ne (ne_of_none z hD)]; exact s16.a a o z
      · rw [upd_ne (ne_of_none z (s26.n _ _ hws hn))]; exact s16.c a o z
    · rw [take_get hlt, List.map_append]
      have app : ∀ {vs ws : List (Key × V)} {ds es : List (Key × D)}, AtK K H06 vs ds → AtK K H06 ws es → AtK K H06 (vs ++ ws) (ds ++ es) := by
        intro vs ws ds es a b
        induction vs generalizing ds with
        | nil => cases a; exact b
        | cons v vs ih => cases a with | cons a1 a2 => exact .cons a1 (ih a2)
      exact app (al.mono s26.b) (.cons a6 .nil)
  · have ei : i = xs.length := by omega
    subst ei
    refine .inl ⟨by simpa using y2, ?_⟩
    rw [List.take_length] at al
    have s3 : Stp H1 H01 H2 (upd H02 Dl (.dK ws)) := stp_tell s2 hD hws hn
    exact (q.step s1) _ _ _ s3 (.dic (.inl upd_same) (al.mono (same_new hn)))
end
end FA
set_option Elab.async false
set_option autoImplicit false
set_option linter.all false
set_option maxRecDepth 100000
/-! For walks by hand: where a def begins, what is held and told. -/
namespace FA
open PySem L2 SlX
section
variable {K : PySem.W.Frag} {σ : L2.St} {H H0 F : Hp} {es es1 : Es}
def noOwnB : Es → Bool
  | [] => true
  | .own _ _ :: _ => false
  | .ownd _ :: _ => false
  | _ :: r => noOwnB r
theorem noOwnB_get : ∀ {es : Es} {i : Nat} {e : E1}, noOwnB es = true → es[i]? = some e → (∀ t ds, e ≠ .own t ds) ∧ ∀ ds, e ≠ .ownd ds
  | [], i, e, _, h => by simp at h
  | .non :: r, 0, e, _, h => by cases h; exact ⟨fun _ _ z => (nomatch z), fun _ z => (nomatch z)⟩
  | .val _ :: r, 0, e, _, h => by cases h; exact ⟨fun _ _ z => (nomatch z), fun _ z => (nomatch z)⟩
  | .non :: r, i + 1, e, h0, h => noOwnB_get (es := r) (i := i) h0 (by simpa using h)
  | .val _ :: r, i + 1, e, h0, h => noOwnB_get (es := r) (i := i) h0 (by simpa using h)
theorem noOwn {es : Es} (h : noOwnB es = true) (i : Nat) (p : Addr) : ¬ OwnAt σ es i p := by
  rintro ⟨_, ⟨t, ds, e⟩ | ⟨ds, e⟩⟩
  · exact (noOwnB_get h e).1 t ds rfl
  · exact (noOwnB_get h e).2 ds rfl
theorem sta_start {N : List Str} {vs : List V} {ds : List D} (h0 : Same H0 H) (al : AtL K H0 vs ds) (f : Same F H) (ff : ∀ a o, F a = some o → H0 a = none) : Sta K (L2.start N vs) H H0 F (startE N.length (ds.map .val)) := by
  refine ⟨h0, f, ff, ?_, fun i d e => ?_, fun i t' d e => ?_, fun i d e => ?_, fun i j p a => ?_⟩
  · unfold L2.start startE
    simp only [List.length_append, List.length_map, List.length_replicate, al.length]
  · have := start_get e (by intro z; cases z)
    rw [List.getElem?_map] at this
    cases e2 : ds[i]? with
    | none => rw [e2] at this; cases this
    | some d' =>
      rw [e2] at this
      cases this
      obtain ⟨v, e3, a⟩ := al.get e2
      exact ⟨v, start_slot e3, a⟩
  · have := start_get e (by intro z; cases z)
    rw [List.getElem?_map] at this
    cases e2 : ds[i]? with
    | none => rw [e2] at this; cases this
    | some d' => rw [e2] at this; cases this
  · have := start_get e (by intro z; cases z)
    rw [List.getElem?_map] at this
    cases e2 : ds[i]? with
    | none => rw [e2] at this; cases this
    | some d' => rw [e2] at this; cases this
  · exfalso
    obtain ⟨_, ⟨t', c, e⟩ | ⟨c, e⟩⟩ := a
    all_goals
      have := start_get e (by intro z; cases z)
      rw [List.getElem?_map] at this
      cases e2 : ds[i]? with
      | none => rw [e2] at this; cases this
      | some d' => rw [e2] at this; cases this
/-- an untold object changes, the frame tells it -/
theorem Sta.poke' (s : Sta K σ H H0 F es) {a : Addr} {o : HO} (n0 : H0 a = none) (no : noOwnB es = true) : Sta K σ (upd H a o) H0 (upd F a o) es := by
  have nn := fun i p => noOwn (σ := σ) no i p
  refine ⟨fun b u e => ?_, same_upd s.f, fun b u e => ?_, s.len, s.val, fun i t d e => ?_, fun i d e => ?_, s.dis⟩
  · rw [upd_ne (ne_of_none e n0)]; exact s.h0 b u e
  · by_cases q : b = a
    · rw [q]; exact n0
    · rw [upd_ne q] at e; exact s.ff b u e
  · obtain ⟨p, vs, ht, q1, _⟩ := s.own i t d e
    exact absurd ⟨q1, .inl ⟨t, d, e⟩⟩ (nn i p)
  · obtain ⟨p, vs, q1, _⟩ := s.ownd i d e
    exact absurd ⟨q1, .inr ⟨d, e⟩⟩ (nn i p)
/-- another frame -/
theorem Sta.frame (s : Sta K σ H H0 F es) {F' : Hp} (no : noOwnB es = true) (h1 : ∀ a o, F' a = some o → H a = some o ∧ H0 a = none) : Sta K σ H H0 F' es :=
  s.reF (fun a o e => (h1 a o e).1) (fun a o e => (h1 a o e).2) fun i p oi => absurd oi (noOwn no i p)
/-- told from now on -/
def telH (S : Addr → Prop) [DecidablePred S] (H0 F : Hp) : Hp := fun a => if S a then (match F a with | some o => some o | none => H0 a) else H0 a
theorem tel_same {S : Addr → Prop} [DecidablePred S] (ff : ∀ a o, F a = some o → H0 a = none) : Same H0 (telH S H0 F) := fun a o e => by
  unfold telH
  by_cases q : S a
  · rw [if_pos q]
    cases e2 : F a with
    | none => exact e
    | some u => rw [ff a u e2] at e; cases e
  · rw [if_neg q]; exact e
theorem Sta.tellAll (s : Sta K σ H H0 F es) (S : Addr → Prop) [DecidablePred S] (no : noOwnB es = true) : Sta K σ H (telH S H0 F) (fun a => if S a then none else F a) es := by
  have nn := fun i p => noOwn (σ := σ) no i p
  refine ⟨fun a o e => ?_, fun a o e => ?_, fun a o e => ?_, s.len, fun i d e => ?_, fun i t d e => ?_, fun i d e => ?_, s.dis⟩
  · unfold telH at e
    by_cases q : S a
    · rw [if_pos q] at e
      cases e2 : F a with
      | none => rw [e2] at e; exact s.h0 a o e
      | some u => rw [e2] at e; cases e; exact s.f a _ e2
    · rw [if_neg q] at e; exact s.h0 a o e
  · by_cases q : S a
    · rw [if_pos q] at e; cases e
    · rw [if_neg q] at e; exact s.f a o e
  · by_cases q : S a
    · rw [if_pos q] at e; cases e
    · rw [if_neg q] at e
      unfold telH
      rw [if_neg q]; exact s.ff a o e
  · obtain ⟨v, q1, q2⟩ := s.val i d e
    exact ⟨v, q1, q2.mono (tel_same s.ff)⟩
  · obtain ⟨p, vs, ht, q1, _⟩ := s.own i t d e
    exact absurd ⟨q1, .inl ⟨t, d, e⟩⟩ (nn i p)
  · obtain ⟨p, vs, q1, _⟩ := s.ownd i d e
    exact absurd ⟨q1, .inr ⟨d, e⟩⟩ (nn i p)
/-- what a slot holds, known better -/
theorem Sta.known (s : Sta K σ H H0 F es) {i : Nat} {v : V} {d : D} (e : σ[i]? = some (some v)) (h : At K H0 v d) : Sta K σ H H0 F (es.set i (.val d)) := by
  have := s.set (i := i) h
  have e2 : σ.set i (some v) = σ := by
    refine List.ext_getElem? fun j => ?_
    by_cases q : i = j
    · subst q
      rw [List.getElem?_set_self (List.getElem?_eq_some_iff.mp e).1, e]
    · rw [List.getElem?_set_ne q]
  rwa [e2] at this
theorem seqN {ts tu : TS} {D0 : Ends} (h : NxE K ts es es1) (s : Sta K σ H H0 F es) (q : ∀ (σ' : L2.St) (H' H0' : Hp), Sta K σ' H' H0' F es1 → Same H0 H0' → tu D0 σ' H') : tSeq ts tu D0 σ H :=
  h { D0 with nx := tu D0 } σ H H0 F s fun σ' H' H0' es' e s' b => by subst e; exact q σ' H' H0' s' b
end

theorem AtL.of_get {K : PySem.W.Frag} {H : Hp} : ∀ {vs : List V} {ds : List D}, vs.length = ds.length → (∀ (i : Nat) (v : V) (d : D), vs[i]? = some v → ds[i]? = some d → At K H v d) → AtL K H vs ds
  | [], [], _, _ => .nil
  | [], _ :: _, h, _ => by simp at h
  | _ :: _, [], h, _ => by simp at h
  | v :: vs, d :: ds, h, k => .cons (k 0 v d rfl rfl) (AtL.of_get (by simpa using h) fun i u e hu he => k (i + 1) u e (by simpa using hu) (by simpa using he))
/-! ### the dicts of near -/
/-- a key is put in -/
def pushK (ks : List Int) (k : Int) : List Int := if k ∈ ks then ks else ks ++ [k]
theorem mem_pushK {ks : List Int} {k x : Int} : x ∈ pushK ks k ↔ x ∈ ks ∨ x = k := by
  unfold pushK
  by_cases h : k ∈ ks
  · rw [if_pos h]
    constructor
    · exact .inl
    · rintro (z | z)
      · exact z
      · rw [z]; exact h
  · rw [if_neg h, List.mem_append, List.mem_singleton]
theorem nodup_pushK {ks : List Int} {k : Int} (h : ks.Nodup) : (pushK ks k).Nodup := by
  unfold pushK
  by_cases e : k ∈ ks
  · rw [if_pos e]; exact h
  · rw [if_neg e]
    refine List.nodup_append.mpr ⟨h, by simp, fun a ha b hb z => ?_⟩
    rw [List.mem_singleton] at hb
    exact e (by rw [← hb, ← z]; exact ha)
theorem pushK_len {ks : List Int} {k : Int} : (pushK ks k).length ≤ ks.length + 1 := by
  unfold pushK
  split
  · omega
  · simp
/-- the dict of such keys -/
def kvT (ks : List Int) : List (Key × V) := ks.map fun k => (.inl k, .bl true)
theorem put_kvT (ks : List Int) (k : Int) : putK (kvT ks) (.inl k) (.bl true) = kvT (pushK ks k) := by
  unfold putK pushK kvT
  have e : ((ks.map fun k => ((Sum.inl k : Key), V.bl true)).any fun kv => decide (kv.1 = .inl k)) = decide (k ∈ ks) := by
    induction ks with
    | nil => simp
    | cons p r ih =>
      rw [List.map_cons, List.any_cons, ih]
      by_cases h : p = k
      · subst h; simp
      · have h1 : decide ((Sum.inl p : Key) = .inl k) = false := decide_eq_false fun z => h (Sum.inl.inj z)
        have h2 : ¬ k = p := fun z => h z.symm
        simp only [h1, Bool.false_or, List.mem_cons, h2, false_or]
  rw [e]
  by_cases h : k ∈ ks
  · rw [if_pos (decide_eq_true h), if_pos h, List.map_map]
    refine List.map_congr_left fun p _ => ?_
    simp only [Function.comp]
    split <;> rfl
  · rw [if_neg (by simpa using h), if_neg h]
    simp
theorem AtK.trues {K : PySem.W.Frag} {H : Hp} : ∀ {ks : List Int}, AtK K H (kvT ks) (ks.map fun k => ((Sum.inl k : Key), D.bl true))
  | [] => .nil
  | _ :: _ => .cons .bl AtK.trues
end FA
set_option Elab.async false
set_option autoImplicit false
set_option linter.all false
set_option maxRecDepth 100000
/-! The rules, what is known of the heap's frame named. -/
namespace FA
open PySem PySem.Spec PyProof.Rows L2 SlX
section
variable {X : Cx} {K : PySem.W.Frag} {P : Program} {w : World}
theorem pg_tupK {es : List Expr} {k n : Nat} {pos : Pos} {t : TGs} (hK : X.K = K) (hc : X.calm = true) (h : PGs X es t) (hn : (assignEach es X.env).length = n := by rfl) (hst : (assignEach es X.env).findIdx? (·.1) = none := by rfl) : PG X (.Tuple es k pos) (gTup K n t) := by
  subst hK; exact pg_tup hc h hn hst
theorem pg_slK {o : Expr} {f : Str} {pos : Pos} {ta : TE} (hK : X.K = K) (ho : PE X o ta) : PG X (.Attribute o f pos) (gSl K ta f) := by
  subst hK; exact pg_sl ho
theorem pi_listK {tg l : Expr} {tl : TE} (hK : X.K = K) (hl : PE X l tl) : PI X tg l (iList K tl) := by
  subst hK; exact pi_list hl
theorem pi_tupleK {tg l : Expr} {tl : TE} (hK : X.K = K) (hl : PE X l tl) : PI X tg l (iTup K tl) := by
  subst hK; exact pi_tup hl
theorem pi_enumK {e : Expr} {ta : TA} {p pos tpos : Pos} {elts : List Expr} {kk : Nat} (hK : X.K = K) (hg : Gl X "enumerate") (hm : X.mg "enumerate" = none) (ha : PA X [e] ta) (hs : starEach [e] X.env = [(false, eval e X.env)] := by rfl) :
    PI X (.Tuple elts kk tpos) (.Call (.Name "enumerate" p) [e] [] pos) (iEnum K ta) := by
  subst hK; exact pi_enum hg hm ha hs
theorem pi_zipK {e e2 : Expr} {ta : TA} {p pos tpos : Pos} {elts : List Expr} {kk : Nat} (hK : X.K = K) (hg : Gl X "zip") (hm : X.mg "zip" = none) (ha : PA X [e, e2] ta)
    (hs : starEach [e, e2] X.env = (false, eval e X.env) :: starEach [e2] X.env := by rfl) (hpl : (backTo pos (starEach [e2] X.env)).any (·.1) = false := by rfl) :
    PI X (.Tuple elts kk tpos) (.Call (.Name "zip" p) [e, e2] [] pos) (RZ.iZipA K ta) := by
  subst hK; exact RZ.pi_zipA hg hm ha hs hpl
theorem pe_slK {e : Expr} {f : Str} {pos : Pos} {ta : TE} (hK : X.K = K) (he : PE X e ta) (hb : attributeBase e f X.env (eval e X.env) = eval e X.env := by rfl) : PE X (.Attribute e f pos) (tSl K ta f) := by
  subst hK; exact pe_sl he hb
theorem ix_listK (hK : X.K = K) : IxR X (rIxL K) := by subst hK; exact ix_list
theorem ix_tupK (hK : X.K = K) : IxR X (rIxT K) := by subst hK; exact ix_tup
theorem cr_allK (hK : X.K = K) (hc : X.calm = true) : CallR X (.builtin "all") (rAll K) := by subst hK; exact cr_all hc
theorem cr_sumK (hK : X.K = K) (hc : X.calm = true) : CallR X (.builtin "sum") (rSum K) := by subst hK; exact cr_sum hc
theorem cr_sumLK (hK : X.K = K) (hc : X.calm = true) : CallR X (.builtin "sum") (rSumL K) := by subst hK; exact cr_sumL hc
theorem op_in_seqK (hK : X.K = K) : OpR X (compareOp .In) (rIn K false) := by subst hK; exact op_in_seq
theorem op_ltTK (hK : X.K = K) (hu : X.A.units < cLine) : OpR X (compareOp .Lt) (rLtT K) := by subst hK; exact op_ltT hu
theorem op_eqDK (hK : X.K = K) (hu : X.A.units + 64 < cLine) : OpR X (compareOp .Eq) (rEqD K) := by subst hK; exact op_eqD hu
theorem op_neDK (hK : X.K = K) (hu : X.A.units + 64 < cLine) : OpR X (compareOp .NotEq) (rNeD K) := by subst hK; exact op_neD hu
theorem sl_tupK (hK : X.K = K) : SlR X (rSlA K) := by subst hK; exact sl_tupA
theorem call_isiK (hK : X.K = K) : CallR X (.builtin "isinstance") (rIsi K) := by subst hK; exact call_isi
theorem call_isiSlK (hK : X.K = K) (u : Value) : CallR X (.builtin "isinstance") (rIsiSl K u) := by subst hK; exact call_isiSl u
theorem call_lenK (hK : X.K = K) : CallR X (.builtin "len") (rLenQ K) := by subst hK; exact call_len_seq
theorem op_repTK (hK : X.K = K) : OpR X (binaryOp .Mult) (rRepT K) := by subst hK; exact op_repT
theorem cr_minTK (hK : X.K = K) (hc : X.calm = true) (hu : X.A.units + 64 < cLine) : CallR X (.builtin "min") (rMinT K) := by subst hK; exact cr_minT hc hu
theorem cr_maxTK (hK : X.K = K) (hc : X.calm = true) (hu : X.A.units + 64 < cLine) : CallR X (.builtin "max") (rMaxT K) := by subst hK; exact cr_maxT hc hu
theorem pa_starK {e : Expr} {es : List Expr} {p : Pos} {te : TE} {t : TA} (hK : X.K = K) (he : PE X e te) (hr : PA X es t) (hs : starEach (.Starred e p :: es) X.env = (true, eval e X.env) :: starEach es X.env := by rfl) : PA X (.Starred e p :: es) (StX.tStar K te t) := by
  subst hK; exact StX.pa_star he hr hs
theorem pe_tupleOfK {a : Expr} {ta : TE} {p pos : Pos} (hK : X.K = K) (hg : Gl X "tuple") (hm : X.mg "tuple" = none) (ha : PE X a ta) (na : starEach [a] X.env = (false, eval a X.env) :: starEach [] X.env := by rfl) :
    PE X (.Call (.Name "tuple" p) [a] [] pos) (tThen ta (kTup K)) := by
  subst hK; exact pe_tupleOf hg hm ha na
theorem cr_setOfTK (hK : X.K = K) (hP : X.prog = P) (hw : X.w = w) (hc : X.calm = true) (hu : X.A.units + 64 < cLine) : CallR X (.type "set") (rSetOfT K P w) := by subst hK hP hw; exact cr_setOfT hc hu
theorem cr_sortedTK (hK : X.K = K) (hP : X.prog = P) (hw : X.w = w) (hc : X.calm = true) : CallR X (.builtin "sorted") (rSortedT K P w) := by subst hK hP hw; exact cr_sortedT hc
theorem cr_sortedKK (hP : X.prog = P) (hw : X.w = w) (hc : X.calm = true) (hu : X.A.units + 64 < cLine) : CallR X (.builtin "sorted") (rSortedK P w) := by subst hP hw; exact cr_sortedK hc hu
theorem pe_dcTK {kx vx tg iter : Expr} {ifs : List Expr} {scope : Scope} {own : List (Str × Nat)} {pos : Pos} {wi : TI} {g : TG} {tt : TT} {tk tv : TE} (hP : X.prog = P) (hw : X.w = w) (hc : X.calm = true) (hN : X.N.Nodup) (hu : X.A.units < cLine) (hi : PI X tg iter wi) (ok : BlkOk X.N X.env.scope scope own)
    (hg : ∀ (s : Shared) (H : Hp) (C : Addr) (cl : List (Str × Addr)) (fp : List Addr), PG (X.blk s H scope (compEnvC scope cl C X.env) fp) tg g) (ht : ∀ (s : Shared) (H : Hp) (C : Addr) (cl : List (Str × Addr)) (fp : List Addr), PTs (X.blk s H scope (compEnvC scope cl C X.env) fp) ifs tt)
    (hk : ∀ (s : Shared) (H : Hp) (C : Addr) (cl : List (Str × Addr)) (fp : List Addr), PE (X.blk s H scope (compEnvC scope cl C X.env) fp) kx tk)
    (he : ∀ (s : Shared) (H : Hp) (C : Addr) (cl : List (Str × Addr)) (fp : List Addr), PE (X.blk s H scope (compEnvC scope cl C X.env) fp) vx tv) (hs : ∀ x, foldedSetIterable iter X.env x = pure x := by intro _; rfl) :
    PE X (.DictComp kx vx [⟨tg, iter, ifs, 0⟩] scope pos) (tDcT P w wi g tt tk tv (own.map (·.2))) := by
  subst hP hw; exact pe_dcT hc hN hu hi ok hg ht hk he hs
end
end FA
set_option Elab.async false
set_option autoImplicit false
set_option linter.all false
set_option maxRecDepth 100000
/-! Defs without a value; properties; own len; ranges as lists of ints. -/
namespace FA
open PySem PySem.Spec PyProof.Rows L2 SlX
section
variable {P : Program} {w : World} {K : PySem.W.Frag} {mg : Str → Option Value} {base : Heap} {es : Es}
theorem nx_drop {te : TE} {x : D} (h : EvE K te es x) : NxE K (tDrop te) es es := fun D0 σ H H0 F s q => h σ H H0 F s _ fun v H' H0' st a => q _ H' H0' _ rfl (s.stp st) st.b
/-- a def that only goes on -/
def RP (R : List D → Prop) (ds : List D) (z : D) : Prop := R ds ∧ z = .non
theorem fn_proc {x qual : Str} {st : Stmt} {f : Addr} {fd : FuncData} {N ps : List Str} {k : Nat} (R : List D → Prop) (F : Fun K x qual st f fd) (S : FnScope N ps (defScope st)) (hl : ∀ ds, R ds → ds.length = ps.length)
    (hb : ∀ (cdv : Value) (A : Around) (outer : List Env) (s : Shared) (H : Hp) (E : XK), Room k (A.deeper (PyProof.Rows.envOfC qual (defScope st) s.heap.objs.size f cdv)) →
      ∃ t, PSs (cxOf CX0 P w K mg base N qual (defScope st) f cdv A outer s H E).nox (defBody st) t ∧ ∀ ds, R ds → NxX K t (startE N.length (ds.map .val)) fun _ => True) : FnOk P w K mg base CX0 (k + 1) f fd ps (spD K (RP R)) := by
  refine F.ok S (fun vs H Q E ⟨H0, ds, z, _, al, r, _⟩ => by rw [al.length]; exact hl ds r.1) fun cdv A outer s H vs Q E hr ⟨H0, ds, z, h0, al, r, bk⟩ => ?_
  obtain ⟨t, pt, ht⟩ := hb cdv A outer s H E hr
  obtain ⟨r, ez⟩ := r
  subst ez
  have s0 := sta_start (N := N) (F := fun a => if H0 a = none then H a else none) h0 al (fun a o e => by
    dsimp only at e
    split at e
    · exact e
    · cases e) (fun a o e => by
    split at e
    · assumption
    · cases e)
  refine ⟨t, pt, ht ds r _ _ H H0 _ s0 fun σ' H' H0' es' _ s' b => ?_⟩
  refine bk .non H' H0' ⟨fun a o e => ?_, b, s'.h0, fun a o e n => s'.ff a o (by simp only [n, if_true]; exact e)⟩ .non
  by_cases n : H0 a = none
  · exact s'.f a o (by simp only [n, if_true]; exact e)
  · cases q : H0 a with
    | none => exact absurd q n
    | some u =>
      have z1 := h0 a u q
      rw [e] at z1
      cases z1
      exact s'.h0 a o (b a o q)
theorem nx_true {ts : TS} {e1 : Es} (h : NxE K ts es e1) : NxX K ts es fun _ => True := h.imp fun _ _ => trivial
theorem fnr_of {CX : CXT} {k : Nat} {f : Addr} {fd : FuncData} {ps : List Str} {sp : Sp} (F : FnOk P w K mg base CX k f fd ps sp) (hb : Binds K fd ps []) : FnR P w K mg base CX k f sp := fun A outer s H us vs Q E hr e0 r h =>
  F.raw hb .nil A outer s H us vs Q E hr e0 r (by show sp (vs ++ []) H Q E; rw [List.append_nil]; exact h)
/-- a property -/
theorem ev_prop {C : Addr} {R : List D → D → Prop} {E : XK} {te : TE} {fs : List D} {z : D} (h : EvE K te es (.obj C fs)) (hr : R [.obj C fs] z) : EvE K (tPropSl C (spD K R) E te) es z := fun σ H H0 F s Q q => h σ H H0 F s _ fun v H1 H01 st a => by
  cases a with
  | @obj p _ dx vs _ hs hl => exact ⟨p, dx, vs.map some, rfl, same_slt st.c hs, H01, [.obj C fs], z, st.c, .cons (.obj hs hl) .nil, hr, q.step st⟩
/-- len by the own __len__ -/
theorem rc_lenSl {C : Addr} {R : List D → D → Prop} {E : XK} {fs : List D} {n : Nat} (hr : R [.obj C fs] (.int n)) (hn : n ≤ 1000000) : RcE K (rLenSl C (spD K R) E) [.obj C fs] (.int n) := fun vs H H0 s al Q q => by
  cases al with
  | cons a1 al =>
    cases al
    cases a1 with
    | @obj p _ dx vs _ hs hl =>
      refine ⟨p, dx, vs.map some, rfl, same_slt s hs, H0, [.obj C fs], .int n, s, .cons (.obj hs hl) .nil, hr, fun u H' H0' st a => ?_⟩
      cases a
      exact ⟨n, rfl, hn, q _ H' H0' st .int⟩
/-- ints lo, lo + 1, .. -/
def rngI (lo hi : Int) : List Int := (List.range (hi - lo).toNat).map fun (i : Nat) => lo + (i : Int)
theorem mem_rngI {lo hi x : Int} : x ∈ rngI lo hi ↔ lo ≤ x ∧ x < hi := by
  unfold rngI
  rw [List.mem_map]
  constructor
  · rintro ⟨i, hi, rfl⟩
    rw [List.mem_range] at hi
    omega
  · intro h
    exact ⟨(x - lo).toNat, by rw [List.mem_range]; omega, by omega⟩
theorem rngI_len (lo hi : Int) : (rngI lo hi).length = (hi - lo).toNat := by unfold rngI; simp
theorem rngI_pts (n : Nat) : rngI 0 (n : Int) = FP.pts n := by
  unfold rngI FP.pts
  have e : ((n : Int) - 0).toNat = n := by omega
  rw [e]
  exact List.map_congr_left fun i _ => Int.zero_add _
section
variable {te ta tb : TE}
theorem it_pts {n : Nat} (h : EvE K te es (.int n)) (h2 : n ≤ 1000000) : IterE K (iRng1 (tCons te tNil)) es ((FP.pts n).map .int) := by
  have := it_rng1 h (Int.natCast_nonneg n) (by omega)
  have e : ((List.range (n : Int).toNat).map fun (i : Nat) => D.int (i : Int)) = (FP.pts n).map .int := by
    unfold FP.pts
    rw [List.map_map, Int.toNat_natCast]
    rfl
  rw [e] at this
  exact this
theorem it_rngI {m n : Int} (h : EvE K ta es (.int m)) (h' : EvE K tb es (.int n)) (h1 : -1000000 ≤ m ∧ m ≤ 1000000) (h2 : -1000000 ≤ n ∧ n ≤ 1000000) : IterE K (iRng2 (tCons ta (tCons tb tNil))) es ((rngI m n).map .int) := by
  have := it_rng2 h h' h1 h2
  have e : ((List.range (n - m).toNat).map fun (i : Nat) => D.int (m + i)) = (rngI m n).map .int := by
    unfold rngI
    rw [List.map_map]
    rfl
  rw [e] at this
  exact this
theorem it_rngOI {lo hi : Int} (h : EvE K te es (.rng lo hi)) (h1 : -1000000 ≤ lo ∧ lo ≤ 1000000) (h2 : -1000000 ≤ hi ∧ hi ≤ 1000000) : IterE K (iRngO te) es ((rngI lo hi).map .int) := by
  have := it_rngO h h1 h2
  have e : ((List.range (hi - lo).toNat).map fun (i : Nat) => D.int (lo + i)) = (rngI lo hi).map .int := by
    unfold rngI
    rw [List.map_map]
    rfl
  rw [e] at this
  exact this
end
end
end FA
set_option Elab.async false
set_option autoImplicit false
set_option linter.all false
set_option maxRecDepth 100000
/-! Lists of one's own: extended, told. -/
namespace FA
open PySem L2 SlX
section
variable {K : PySem.W.Frag} {es : Es} {te : TE} {ds cs : List D}
theorem nx_ext {i : Nat} {o : Option Addr} (hi : es[i]? = some (.own o ds)) (h : EvF K te es cs) (hz : ds.length + cs.length ≤ 100000) : NxE K (tDrop (tBM K "list" rExtend (tVar i) (tCons te tNil))) es (es.set i (.own o (ds ++ cs))) := fun D0 σ H H0 F s q => by
  obtain ⟨p, vs, _, e, hp, al, n0, nf⟩ := s.own i o ds hi
  refine ⟨_, e, .inl ⟨rfl, vs, .inl (.inl hp)⟩, h σ H H0 F s _ fun b ws H1 H01 hb st h1 h2 a1 => ?_⟩
  refine ⟨p, b, vs, ws, rfl, rfl, st.a _ _ hp, h1, by rw [al.length, a1.length]; exact sz_le hz, ?_⟩
  exact q _ _ H01 _ rfl ((s.stp st).change hi e ((al.mono st.b).app a1)) st.b
/-- a list of one's own is a datum from now on -/
theorem Sta.tellOwn {σ : L2.St} {H H0 F : Hp} (s : Sta K σ H H0 F es) {i : Nat} {o : Option Addr} (hi : es[i]? = some (.own o ds)) : ∃ H0', Sta K σ H H0' F (es.set i (.val (.lst ds))) ∧ Same H0 H0' := by
  obtain ⟨p, vs, _, e1, hp, al, n0, nf⟩ := s.own i o ds hi
  have hj : i < es.length := (List.getElem?_eq_some_iff.mp hi).1
  have s1 := s.wipe1 i
  have nn : ∀ j, ¬ OwnAt (σ.set i none) (es.set i .non) j p := fun j oj => by
    by_cases e : j = i
    · subst e
      have := oj.1
      rw [List.getElem?_set_self (by rw [s.len]; exact hj)] at this
      cases this
    · have o' : OwnAt σ es j p := by
        unfold OwnAt at oj ⊢
        rw [List.getElem?_set_ne (Ne.symm e), List.getElem?_set_ne (Ne.symm e)] at oj
        exact oj
      exact e (s.dis j i p o' ⟨e1, .inl ⟨o, ds, hi⟩⟩)
  have s2 := s1.tell hp nf nn n0
  have at2 : At K (upd H0 p (.lst vs)) (.ref p) (.lst ds) := .lst (.inl (.inl upd_same)) (al.mono (same_new n0))
  have s3 := s2.set (i := i) at2
  rw [List.set_set, List.set_set] at s3
  have e2 : σ.set i (some (V.ref p)) = σ := by
    refine List.ext_getElem? fun j => ?_
    by_cases q : i = j
    · subst q
      rw [List.getElem?_set_self (List.getElem?_eq_some_iff.mp e1).1, e1]
    · rw [List.getElem?_set_ne q]
  rw [e2] at s3
  exact ⟨_, s3, same_new n0⟩
theorem re_tell {ts : TS} {R : D → Es → Prop} {i : Nat} {o : Option Addr} (hi : es[i]? = some (.own o ds)) (h : RetX K ts (es.set i (.val (.lst ds))) R) : RetX K ts es R := fun D0 σ H H0 F s q => by
  obtain ⟨H0', s', b⟩ := s.tellOwn hi
  exact h D0 σ H H0' F s' fun v σ2 H2 H02 d e2 r s2 b2 a => q v σ2 H2 H02 d e2 r s2 (b.trans b2) a
theorem nx_tell {ts : TS} {R : Es → Prop} {i : Nat} {o : Option Addr} (hi : es[i]? = some (.own o ds)) (h : NxX K ts (es.set i (.val (.lst ds))) R) : NxX K ts es R := fun D0 σ H H0 F s q => by
  obtain ⟨H0', s', b⟩ := s.tellOwn hi
  exact h D0 σ H H0' F s' fun σ2 H2 H02 e2 r s2 b2 => q σ2 H2 H02 e2 r s2 (b.trans b2)
end
end FA
set_option Elab.async false
set_option autoImplicit false
set_option linter.all false
set_option maxRecDepth 100000
/-! A list that is thrown about: what is evaluated while a list of one's own changes. -/
namespace FA
open PySem L2 SlX
/-- slots of which the j-th is a list of one's own, os, and no other one is -/
structure Fam (j : Nat) (o : Option Addr) (E : List D → Es) : Prop where
  at_ : ∀ os, (E os)[j]? = some (.own o os)
  set : ∀ os os', (E os).set j (.own o os') = E os'
  no : ∀ os, noOwnB ((E os).set j .non) = true
theorem Fam.only {j : Nat} {o : Option Addr} {E : List D → Es} (f : Fam j o E) {os : List D} {i : Nat} {e : E1} (h : (E os)[i]? = some e) (hi : i ≠ j) : (∀ t ds, e ≠ .own t ds) ∧ ∀ ds, e ≠ .ownd ds := by
  refine noOwnB_get (f.no os) (i := i) ?_
  rw [List.getElem?_set_ne (Ne.symm hi)]
  exact h
theorem Fam.ownAt {σ : L2.St} {j : Nat} {o : Option Addr} {E : List D → Es} (f : Fam j o E) {os : List D} {i : Nat} {p : Addr} (h : OwnAt σ (E os) i p) : i = j := by
  by_cases e : i = j
  · exact e
  · obtain ⟨_, ⟨t, ds, h⟩ | ⟨ds, h⟩⟩ := h
    · exact absurd rfl ((f.only h e).1 t ds)
    · exact absurd rfl ((f.only h e).2 ds)
/-- a value, the list changing -/
def EvY (K : PySem.W.Frag) (Dc : List D → Prop) (te : TE) (E : List D → Es) (U : D → Prop) : Prop := ∀ os, Dc os → EvX K te (E os) fun d e => U d ∧ ∃ os', Dc os' ∧ e = E os'
def EvTY (K : PySem.W.Frag) (Dc : List D → Prop) (tt : TT) (E : List D → Es) (U : Bool → Prop) : Prop := ∀ os, Dc os → ∀ (σ : L2.St) (H H0 F : Hp), Sta K σ H H0 F (E os) → ∀ Q : Bool → Hp → Prop,
  (∀ (b : Bool) (H' H0' : Hp) (os' : List D), U b → Dc os' → Sta K σ H' H0' F (E os') → Same H0 H0' → Q b H') → tt σ H Q
def EvAY (K : PySem.W.Frag) (Dc : List D → Prop) (ta : TA) (E : List D → Es) (W : List D → Prop) : Prop := ∀ os, Dc os → ∀ (σ : L2.St) (H H0 F : Hp), Sta K σ H H0 F (E os) → ∀ Q : List V → Hp → Prop,
  (∀ (vs : List V) (H' H0' : Hp) (ds : List D) (os' : List D), W ds → Dc os' → Sta K σ H' H0' F (E os') → Same H0 H0' → AtL K H0' vs ds → Q vs H') → ta σ H Q
/-- a new list, untold -/
def EvFY (K : PySem.W.Frag) (Dc : List D → Prop) (te : TE) (E : List D → Es) (W : List D → Prop) : Prop := ∀ os, Dc os → ∀ (σ : L2.St) (H H0 F : Hp), Sta K σ H H0 F (E os) → ∀ Q : VK,
  (∀ (p : Addr) (us : List V) (H' H0' : Hp) (ds : List D) (os' : List D), W ds → Dc os' → Sta K σ H' H0' F (E os') → Same H0 H0' → F p = none → H' p = some (.lst us) → H0' p = none → (∀ i, ¬ OwnAt σ (E os') i p) → AtL K H0' us ds → Q (.ref p) H') → te σ H Q
section
variable {K : PySem.W.Frag} {Dc : List D → Prop} {j : Nat} {o : Option Addr} {E : List D → Es} {te ta tb : TE} {tt : TT} {U U1 U2 : D → Prop} {W : List D → Prop}
theorem EvE.toY {z : D} (h : ∀ os, Dc os → EvE K te (E os) z) : EvY K Dc te E (· = z) := fun os d σ H H0 F s Q q => (h os d).toX σ H H0 F s Q fun v H' H0' d' e' ⟨p1, p2⟩ => q v H' H0' d' e' ⟨p1, os, d, p2⟩
theorem EvY.imp (h : EvY K Dc te E U1) (i : ∀ d, U1 d → U d) : EvY K Dc te E U := fun os d σ H H0 F s Q q => h os d σ H H0 F s Q fun v H' H0' d' e' ⟨p1, p2⟩ => q v H' H0' d' e' ⟨i _ p1, p2⟩
theorem evY_op {r : R2} (ha : EvY K Dc ta E U1) (hb : EvY K Dc tb E U2) (hr : ∀ x y, U1 x → U2 y → ∃ z, U z ∧ RvE K r x y z) : EvY K Dc (tOp r ta tb) E U := fun os d σ H H0 F s Q q =>
  ha os d σ H H0 F s _ fun u H1 H01 x e1 p1 s1 b1 a1 => by
  obtain ⟨v1, os1, d1, rfl⟩ := p1
  refine hb os1 d1 σ H1 H01 F s1 _ fun v H2 H02 y e2 p2 s2 b2 a2 => ?_
  obtain ⟨v2, os2, d2, rfl⟩ := p2
  obtain ⟨z, vz, rz⟩ := hr x y v1 v2
  exact rz u v H2 H02 s2.h0 (a1.mono b2) a2 Q fun w H3 H03 st a3 => q w H3 H03 z _ ⟨vz, os2, d2, rfl⟩ (s2.stp st) (b1.trans (b2.trans st.b)) a3
theorem eaY_nil : EvAY K Dc tNil E fun ds => ds = [] := fun os d σ H H0 F s Q q => q [] H H0 [] os rfl d s (Same.refl _) .nil
theorem eaY_cons {tr : TA} {W1 : List D → Prop} (h : EvY K Dc te E U) (hr : EvAY K Dc tr E W1) : EvAY K Dc (tCons te tr) E fun ds => ∃ x r, ds = x :: r ∧ U x ∧ W1 r := fun os d σ H H0 F s Q q =>
  h os d σ H H0 F s _ fun u H1 H01 x e1 p1 s1 b1 a1 => by
  obtain ⟨v1, os1, d1, rfl⟩ := p1
  exact hr os1 d1 σ H1 H01 F s1 _ fun vs H2 H02 ds os2 w2 d2 s2 b2 a2 => q _ H2 H02 (x :: ds) os2 ⟨x, ds, rfl, v1, w2⟩ d2 s2 (b1.trans b2) (.cons (a1.mono b2) a2)
theorem EvAY.imp {ta : TA} {W1 : List D → Prop} (h : EvAY K Dc ta E W1) (i : ∀ d, W1 d → W d) : EvAY K Dc ta E W := fun os d σ H H0 F s Q q => h os d σ H H0 F s Q fun vs H' H0' ds os' w => q vs H' H0' ds os' (i _ w)
theorem evY_cb {r : List V → Hp → VK → Prop} {tl : TA} (ha : EvAY K Dc tl E W) (hr : ∀ ds, W ds → ∃ z, U z ∧ RcE K r ds z) : EvY K Dc (tCB r tl) E U := fun os d σ H H0 F s Q q =>
  ha os d σ H H0 F s _ fun vs H1 H01 ds os1 w1 d1 s1 b1 a1 => by
  obtain ⟨z, vz, rz⟩ := hr ds w1
  exact rz vs H1 H01 s1.h0 a1 Q fun w H3 H03 st a3 => q w H3 H03 z _ ⟨vz, os1, d1, rfl⟩ (s1.stp st) (b1.trans st.b) a3
theorem evY_call {R : List D → D → Prop} {tl : TA} {E' : XK} (ha : EvAY K Dc tl E W) (hr : ∀ ds, W ds → ∃ z, U z ∧ R ds z) : EvY K Dc (tCall (spD K R) [] E' tl) E U := fun os d σ H H0 F s Q q =>
  ha os d σ H H0 F s _ fun vs H1 H01 ds os1 w1 d1 s1 b1 a1 => by
  obtain ⟨z, vz, rz⟩ := hr ds w1
  exact ⟨H01, ds, z, s1.h0, by rw [List.append_nil]; exact a1, rz, fun w H3 H03 st a3 => q w H3 H03 z _ ⟨vz, os1, d1, rfl⟩ (s1.stp st) (b1.trans st.b) a3⟩
theorem make_run {C : Addr} {R : List D → List D → Prop} {E' : XK} {H H0 : Hp} {vs : List V} {ds fs : List D} {Q : VK} (h0 : Same H0 H) (al : AtL K H0 vs ds) (hr : R ds fs) (q : Bk K H H0 (.obj C fs) Q) :
    ∀ x dx, H x = none → H dx = none → dx ≠ x → spInit K C R (.ref x :: (vs ++ [])) (upd (upd H dx (.own x)) x (.ins C dx [])) (fun v H2 => v = .non ∧ Q (.ref x) H2) E' := fun x dx hx hdx ne => by
  have e1 : upd (upd H dx (.own x)) x (.ins C dx []) dx = some (.own x) := by rw [upd_ne ne, upd_same]
  have hs : Same H (upd (upd H dx (.own x)) x (.ins C dx [])) := (same_new hdx).trans (same_new (by rw [upd_ne (Ne.symm ne)]; exact hx))
  refine ⟨H0, x, dx, vs, ds, fs, by rw [List.append_nil], upd_same, e1, h0.free hx, h0.free hdx, ne, h0.trans hs, al, hr, fun us H' H0' b1 b2 b3 b4 b5 b6 b7 b8 b9 => ⟨rfl, ?_⟩⟩
  refine q (.ref x) H' (upd (upd H0' dx (.xd [])) x (SlO x C dx (us.map some))) ⟨fun a o e => ?_, ?_, fun a o e => ?_, fun a o e n => ?_⟩ (.obj (dx := dx) (vs := us) (.inr ⟨upd_same, by rw [upd_ne ne, upd_same]⟩) (b3.mono ?_))
  · have n1 : a ≠ x := ne_of_none e hx
    have n2 : a ≠ dx := ne_of_none e hdx
    exact b8 a o n1 n2 (hs a o e)
  · exact b6.trans ((same_new b5).trans (same_new (by rw [upd_ne (Ne.symm ne)]; exact b4)))
  · by_cases h1 : a = x
    · subst h1; rw [upd_same] at e; cases e; exact b1
    · rw [upd_ne h1] at e
      by_cases h2 : a = dx
      · subst h2; rw [upd_same] at e; cases e; exact b2
      · rw [upd_ne h2] at e; exact b7 a o e
  · have n1 : a ≠ x := ne_of_none e hx
    have n2 : a ≠ dx := ne_of_none e hdx
    rw [upd_ne n1, upd_ne n2]
    exact b9 a o (hs a o e) n
  · exact (same_new b5).trans (same_new (by rw [upd_ne (Ne.symm ne)]; exact b4))
/-- C(..) -/
theorem evY_make {C : Addr} {R : List D → List D → Prop} {tl : TA} {E' : XK} (ha : EvAY K Dc tl E W) (hr : ∀ ds, W ds → ∃ fs, U (.obj C fs) ∧ R ds fs) : EvY K Dc (tMake C (spInit K C R) [] E' tl) E U := fun os d σ H H0 F s Q q =>
  ha os d σ H H0 F s _ fun vs H1 H01 ds os1 w1 d1 s1 b1 a1 => by
  obtain ⟨fs, vz, rz⟩ := hr ds w1
  exact make_run s1.h0 a1 rz fun w H3 H03 st a3 => q w H3 H03 _ _ ⟨vz, os1, d1, rfl⟩ (s1.stp st) (b1.trans st.b) a3
/-- a def that changes the list -/
theorem evY_callM (f : Fam j o E) {R : List D → List D → (D → List D → Prop) → Prop} {tl : TA} {E' : XK} (ha : EvAY K Dc tl E W) (hr : ∀ os ds, Dc os → W ds → ∃ post, R os ds post ∧ ∀ d os', post d os' → U d ∧ Dc os') :
    EvY K Dc (tCall (spM K R) [] E' (tCons (tVar j) tl)) E U := fun os d σ H H0 F s Q q => by
  obtain ⟨p, us, tp, e, hp, al, n0, nf⟩ := s.own j o os (f.at_ os)
  refine ⟨_, e, ha os d σ H H0 F s _ fun vs H1 H01 ds os1 w1 d1 s1 b1 a1 => ?_⟩
  obtain ⟨p1, us1, _, e1, hp1, al1, n01, nf1⟩ := s1.own j o os1 (f.at_ os1)
  rw [e] at e1
  cases e1
  obtain ⟨post, rz, hpost⟩ := hr os1 ds d1 w1
  refine ⟨H01, p, vs, us1, os1, ds, post, by rw [List.append_nil], hp1, n01, s1.h0, al1, a1, rz, fun v H' H0' z os' us' po hp' al' n' a b c k1 k2 => ?_⟩
  obtain ⟨uz, dz⟩ := hpost z os' po
  have s2 : Sta K σ (upd H' p (.lst us1)) H0' F (E os1) := s1.grow (fun a u z => by
      by_cases q : a = p
      · subst q
        rw [hp1] at z
        cases z
        exact upd_same
      · rw [upd_ne q]; exact k1 a u q z) b (fun a u z => by rw [upd_ne (ne_of_none z n')]; exact c a u z) (fun a u z zn => k2 a u z zn)
  have s3 := s2.change (f.at_ os1) e al'
  have eh : upd (upd H' p (.lst us1)) p (.lst us') = H' := by
    rw [upd_upd]
    funext a
    by_cases q : a = p
    · rw [q, upd_same, hp']
    · rw [upd_ne q]
  rw [eh, f.set] at s3
  exact q v H' H0' z _ ⟨uz, os', dz, rfl⟩ s3 (b1.trans b) a
/-- a test -/
theorem etY_test {B : Bool → Prop} (h : EvY K Dc te E fun d => ∃ b, d = .bl b ∧ B b) : EvTY K Dc (tTest te) E B := fun os d σ H H0 F s Q q => h os d σ H H0 F s _ fun w H1 H01 z e1 p s1 b1 a1 => by
  obtain ⟨⟨b, rfl, hb⟩, os1, d1, rfl⟩ := p
  cases a1
  exact ⟨b, rfl, q b H1 H01 os1 hb d1 s1 b1⟩
theorem etY_B {B : Bool → Prop} (h : EvY K Dc te E fun d => ∃ b, d = .bl b ∧ B b) : EvTY K Dc (tB te) E B := fun os d σ H H0 F s Q q => h os d σ H H0 F s _ fun w H1 H01 z e1 p s1 b1 a1 => by
  obtain ⟨⟨b, rfl, hb⟩, os1, d1, rfl⟩ := p
  cases a1
  exact ⟨b, rfl, q b H1 H01 os1 hb d1 s1 b1⟩
theorem etY_not {B : Bool → Prop} (h : EvTY K Dc tt E fun b => B (!b)) : EvTY K Dc (tNot tt) E B := fun os d σ H H0 F s Q q => h os d σ H H0 F s _ fun b H1 H01 os1 hb d1 s1 b1 => q (!b) H1 H01 os1 hb d1 s1 b1
theorem EvFY.e (h : EvFY K Dc te E W) (hU : ∀ ds, W ds → U (.lst ds)) : EvY K Dc te E U := fun os d σ H H0 F s Q q => h os d σ H H0 F s _ fun p us H1 H01 ds os1 w1 d1 s1 b1 nf hp h0 no al => by
  have s2 := s1.tell hp nf no h0
  exact q _ H1 _ (.lst ds) (E os1) ⟨hU ds w1, os1, d1, rfl⟩ s2 (b1.trans (same_new h0)) (.lst (.inl (.inl upd_same)) (al.mono (same_new h0)))
theorem evY_tupL (h : EvY K Dc te E fun d => ∃ ds, d = .lst ds ∧ U (.tup ds)) : EvY K Dc (tThen te (kTup K)) E U := fun os d σ H H0 F s Q q => h os d σ H H0 F s _ fun w H1 H01 z e1 p s1 b1 a1 => by
  obtain ⟨⟨ds, rfl, hu⟩, os1, d1, rfl⟩ := p
  cases a1 with
  | @lst p0 ws _ hs hl =>
    refine .inl ⟨_, _, rfl, s1.h0.seq hs, fun p hp => ?_⟩
    have st := Stp.new (o := .tup ws) s1.h0 hp
    exact q _ _ _ _ _ ⟨hu, os1, d1, rfl⟩ (s1.stp st) (b1.trans st.b) (.tup (.inl (.inl upd_same)) (hl.mono st.b))
end
/-- what holds at the end of a block holds of the slots outside -/
theorem Fam.back {K : PySem.W.Frag} {j : Nat} {o : Option Addr} {E E2 : List D → Es} {σ σ2 : L2.St} {H1 H01 F1 H' H0' F' : Hp} {os os2 : List D} (f : Fam j o E) (f2 : Fam j o E2) (s0 : Sta K σ H1 H01 F1 (E os)) (s : Sta K σ2 H' H0' F' (E2 os2)) (b : Same H01 H0') (hσ : σ2[j]? = σ[j]?) : Sta K σ H' H0' F' (E os2) := by
  have eE : E os2 = (E os).set j (.own o os2) := (f.set os os2).symm
  refine ⟨s.h0, s.f, s.ff, ?_, fun i d h => ?_, fun i t ds h => ?_, fun i ds h => ?_, fun i k p hi hk => ?_⟩
  · rw [eE, List.length_set]; exact s0.len
  · have hij : i ≠ j := fun z => by rw [z, f.at_] at h; cases h
    rw [eE, List.getElem?_set_ne (Ne.symm hij)] at h
    obtain ⟨v, e, a⟩ := s0.val i d h
    exact ⟨v, e, a.mono b⟩
  · have hij : i = j := by
      by_cases e : i = j
      · exact e
      · exact absurd rfl ((f.only h e).1 t ds)
    subst hij
    rw [f.at_] at h
    cases h
    obtain ⟨p, vs, h1, h2, h3⟩ := s.own i o os2 (f2.at_ os2)
    exact ⟨p, vs, h1, hσ ▸ h2, h3⟩
  · have hij : i = j := by
      by_cases e : i = j
      · exact e
      · exact absurd rfl ((f.only h e).2 ds)
    subst hij
    rw [f.at_] at h
    cases h
  · rw [f.ownAt hi, f.ownAt hk]
section
variable {K : PySem.W.Frag} {Dc : List D → Prop} {j : Nat} {o : Option Addr} {E : List D → Es} {te : TE} {tt : TT} {wi : TI} {g : TG} {vs : List Nat} {α : Type}
/-- item by item -/
def All2 (R : α → D → Prop) (xs : List α) (ds : List D) : Prop := ds.length = xs.length ∧ ∀ (i : Nat) (x : α) (d : D), xs[i]? = some x → ds[i]? = some d → R x d
theorem fam_start {σ : L2.St} {H H0 F : Hp} {os : List D} (s : Sta K σ H H0 F (E os)) {p : Addr} (hp : H p = none) : Sta K σ (upd H p (.lst [])) H0 (upd F p (.lst [])) (E os) :=
  (s.stp (Stp.new' s.h0 hp)).hold upd_same (s.h0.free hp) fun i oi => own_ne s hp i oi
theorem fam_end (f : Fam j o E) {σ : L2.St} {H H0 F : Hp} {os : List D} {p : Addr} {ws : List V} (hF : F p = none) (s : Sta K σ H H0 (upd F p (.lst ws)) (E os)) : Sta K σ H H0 F (E os) ∧ H p = some (.lst ws) ∧ H0 p = none ∧ ∀ i, ¬ OwnAt σ (E os) i p := by
  refine ⟨s.reF (fun a u e => ?_) (fun a u e => ?_) fun i q oi => ?_, s.f _ _ upd_same, s.ff _ _ upd_same, fun i oi => ?_⟩
  · exact s.f a u (by rw [upd_ne (ne_of_none e hF)]; exact e)
  · exact s.ff a u (by rw [upd_ne (ne_of_none e hF)]; exact e)
  · have h := (s.ownH oi).2.2
    by_cases z : q = p
    · rw [z]; exact hF
    · rw [upd_ne z] at h; exact h
  · have h := (s.ownH oi).2.2
    rw [upd_same] at h
    cases h
/-- [elt for target in iter] -/
theorem lcY (xs : List α) (e : α → D) (tg : α → List D → Es) (R : α → D → Prop) (f : Fam j o E) (ft : ∀ x ∈ xs, Fam j o (tg x)) (hj : j ∉ vs) (hi : ∀ os, Dc os → IterE K wi (E os) (xs.map e)) (hg : ∀ x ∈ xs, ∀ os, GE K g vs (wipeE (E os) vs) (e x) (tg x os))
    (he : ∀ x ∈ xs, EvY K Dc te (tg x) (R x)) (hz : xs.length ≤ 100000) : EvFY K Dc (tLc wi g tYes te vs) E (All2 R xs) := fun os d σ H H0 F s Q q =>
  hi os d σ H H0 F s _ fun J H1 H01 s1 yl Dl hD => by
  have s' := s.stp s1
  have fD : F Dl = none := s'.f.free hD
  let W : Nat → Nat → Hp → Prop := fun i m H' => m = xs.length - i ∧ i ≤ xs.length ∧ ∃ (H0' : Hp) (ws : List V) (ds os' : List D), Sta K σ H' H0' (upd F Dl (.lst ws)) (E os') ∧ Dc os' ∧ Same H01 H0' ∧ AtL K H0' ws ds ∧ ds.length = i ∧ ∀ (k : Nat) (x : α) (d : D), xs[k]? = some x → ds[k]? = some d → R x d
  refine ⟨W, ⟨xs.length, rfl, Nat.zero_le _, H01, [], [], os, fam_start s' hD, d, Same.refl _, .nil, rfl, fun k x d _ h => by simp at h⟩, ?_⟩
  rintro i m H2 ⟨rfl, hil, H02, ws, ds, os2, st, d2, b2, al, dl, dr⟩
  obtain ⟨y1, y2⟩ := yl H2 H02 b2 st.h0
  by_cases hlt : i < xs.length
  · refine .inr ?_
    have mem := List.getElem_mem hlt
    obtain ⟨go, y⟩ := y1 i (e xs[i]) (by rw [List.getElem?_map, List.getElem?_eq_getElem hlt]; rfl)
    refine ⟨go, fun H' => W (i + 1) (xs.length - (i + 1)) H', fun H' w => ⟨_, by omega, w⟩, fun v H3 hy => ?_⟩
    obtain ⟨H03, s3, a3⟩ := y v H3 hy
    refine hg xs[i] mem os2 v _ H3 H03 _ ((st.stp s3).wipe vs) a3 _ fun σ2 st4 l4 k4 => ⟨wipe_same (l4.trans (wipe_length σ vs)) k4, ?_⟩
    refine et_yes (K := K) (es := tg xs[i] os2) σ2 H3 H03 _ st4 _ fun H4 H04 s4 => ?_
    rw [if_pos rfl]
    refine he xs[i] mem os2 d2 σ2 H4 H04 _ (st4.stp s4) _ fun w H5 H05 z e5 p5 st5 b5 a5 => ?_
    obtain ⟨rz, os5, d5, rfl⟩ := p5
    have hσ : σ2[j]? = σ[j]? := by rw [k4 j hj, wipe_get, if_neg hj]
    have b15 : Same H01 H05 := b2.trans (s3.b.trans (s4.b.trans b5))
    have st6 := f.back (ft xs[i] mem) s' st5 b15 hσ
    have st7 := st6.poke (o' := .lst (ws ++ [w])) upd_same
    rw [upd_upd] at st7
    refine ⟨ws, st5.f _ _ upd_same, ?_, rfl, hlt, H05, ws ++ [w], ds ++ [z], os5, st7, d5, b15, (al.mono (s3.b.trans (s4.b.trans b5))).app (.cons a5 .nil), by simp [dl], fun k x dd hx hd => ?_⟩
    · rw [al.length]; exact sz_lt (by omega)
    · by_cases hk : k < ds.length
      · rw [List.getElem?_append_left hk] at hd
        exact dr k x dd hx hd
      · by_cases hk2 : k = i
        · subst hk2
          rw [List.getElem?_append_right (by omega), dl, Nat.sub_self] at hd
          rw [List.getElem?_eq_getElem hlt] at hx
          cases hx
          cases hd
          exact rz
        · rw [List.getElem?_eq_none (by rw [List.length_append]; simp only [List.length_cons, List.length_nil]; omega)] at hd
          cases hd
  · have ei : i = xs.length := by omega
    subst ei
    refine .inl ⟨by simpa using y2, ?_⟩
    obtain ⟨g1, g2, g3, g4⟩ := fam_end f fD st
    exact q Dl ws H2 H02 ds os2 ⟨dl, dr⟩ d2 g1 (s1.b.trans b2) fD g2 g3 g4 al
/-- [elt for target in iter if test], the test throwing -/
theorem lcYF (xs : List α) (e : α → D) (tg : α → List D → Es) (h : α → D) (f : Fam j o E) (ft : ∀ x ∈ xs, Fam j o (tg x)) (hj : j ∉ vs) (hi : ∀ os, Dc os → IterE K wi (E os) (xs.map e)) (hg : ∀ x ∈ xs, ∀ os, GE K g vs (wipeE (E os) vs) (e x) (tg x os))
    (ht : ∀ x ∈ xs, EvTY K Dc tt (tg x) fun _ => True) (he : ∀ x ∈ xs, ∀ os, EvE K te (tg x os) (h x)) (hz : xs.length ≤ 100000) : EvFY K Dc (tLc wi g tt te vs) E (fun ds => ∃ ys : List α, ys.Sublist xs ∧ ds = ys.map h) := fun os d σ H H0 F s Q q =>
  hi os d σ H H0 F s _ fun J H1 H01 s1 yl Dl hD => by
  have s' := s.stp s1
  have fD : F Dl = none := s'.f.free hD
  let W : Nat → Nat → Hp → Prop := fun i m H' => m = xs.length - i ∧ i ≤ xs.length ∧ ∃ (H0' : Hp) (ws : List V) (ys : List α) (os' : List D), Sta K σ H' H0' (upd F Dl (.lst ws)) (E os') ∧ Dc os' ∧ Same H01 H0' ∧ AtL K H0' ws (ys.map h) ∧ ys.Sublist (xs.take i)
  refine ⟨W, ⟨xs.length, rfl, Nat.zero_le _, H01, [], [], os, fam_start s' hD, d, Same.refl _, .nil, by simp⟩, ?_⟩
  rintro i m H2 ⟨rfl, hil, H02, ws, ys, os2, st, d2, b2, al, dl⟩
  obtain ⟨y1, y2⟩ := yl H2 H02 b2 st.h0
  by_cases hlt : i < xs.length
  · refine .inr ?_
    have mem := List.getElem_mem hlt
    obtain ⟨go, y⟩ := y1 i (e xs[i]) (by rw [List.getElem?_map, List.getElem?_eq_getElem hlt]; rfl)
    refine ⟨go, fun H' => W (i + 1) (xs.length - (i + 1)) H', fun H' w => ⟨_, by omega, w⟩, fun v H3 hy => ?_⟩
    obtain ⟨H03, s3, a3⟩ := y v H3 hy
    refine hg xs[i] mem os2 v _ H3 H03 _ ((st.stp s3).wipe vs) a3 _ fun σ2 st4 l4 k4 => ⟨wipe_same (l4.trans (wipe_length σ vs)) k4, ?_⟩
    have hσ : σ2[j]? = σ[j]? := by rw [k4 j hj, wipe_get, if_neg hj]
    refine ht xs[i] mem os2 d2 σ2 H3 H03 _ st4 _ fun b H4 H04 os4 _ d4 st5 b5 => ?_
    have b14 : Same H01 H04 := b2.trans (s3.b.trans b5)
    cases b with
    | false =>
      rw [if_neg (by decide)]
      refine ⟨rfl, hlt, H04, ws, ys, os4, f.back (ft xs[i] mem) s' st5 b14 hσ, d4, b14, al.mono (s3.b.trans b5), ?_⟩
      rw [take_get hlt]
      exact dl.trans (List.sublist_append_left _ _)
    | true =>
      rw [if_pos rfl]
      refine he xs[i] mem os4 σ2 H4 H04 _ st5 _ fun w H5 H05 s6 a5 => ?_
      have b15 : Same H01 H05 := b14.trans s6.b
      have st6 := f.back (ft xs[i] mem) s' (st5.stp s6) b15 hσ
      have st7 := st6.poke (o' := .lst (ws ++ [w])) upd_same
      rw [upd_upd] at st7
      refine ⟨ws, (st5.stp s6).f _ _ upd_same, ?_, rfl, hlt, H05, ws ++ [w], ys ++ [xs[i]], os4, st7, d4, b15, ?_, ?_⟩
      · rw [al.length, List.length_map]
        have := dl.length_le
        rw [List.length_take] at this
        exact sz_lt (by omega)
      · rw [List.map_append]
        exact (al.mono (s3.b.trans (b5.trans s6.b))).app (.cons a5 .nil)
      · rw [take_get hlt]
        exact dl.append (List.Sublist.refl _)
  · have ei : i = xs.length := by omega
    subst ei
    refine .inl ⟨by simpa using y2, ?_⟩
    obtain ⟨g1, g2, g3, g4⟩ := fam_end f fD st
    rw [List.take_length] at dl
    exact q Dl ws H2 H02 _ os2 ⟨ys, dl, rfl⟩ d2 g1 (s1.b.trans b2) fD g2 g3 g4 al
/-! statements -/
variable {U : D → Prop}
theorem nxY_asg {i : Nat} {os : List D} (h : EvY K Dc te E U) (d : Dc os) : NxX K (tAsg te (gName i)) (E os) fun e => ∃ z os', U z ∧ Dc os' ∧ e = (E os').set i (.val z) := (nx_asgX (h os d)).imp fun e ⟨z, e', ⟨hu, os', d', he⟩, hs⟩ => ⟨z, os', hu, d', by rw [hs, he]⟩
theorem nxY_par {i k : Nat} {tl : TA} {os : List D} {W : List D → Prop} (h : EvAY K Dc tl E fun ds => W ds ∧ ds.length = 2) (d : Dc os) : NxX K (tPar i k tl) (E os) fun e => ∃ x y os', W [x, y] ∧ Dc os' ∧ e = ((E os').set i (.val x)).set k (.val y) := fun D0 σ H H0 F s q =>
  h os d σ H H0 F s _ fun vs H' H0' ds os' w d' s' b al => by
  obtain ⟨w, l⟩ := w
  match ds, l with
  | [x, y], _ =>
    cases al with
    | cons a1 al =>
      cases al with
      | cons a2 al =>
        cases al
        exact ⟨_, _, rfl, q _ H' H0' _ ⟨x, y, os', w, d', rfl⟩ ((s'.set a1).set a2) b⟩
theorem reY_ret {os : List D} (h : EvY K Dc te E U) (d : Dc os) : RetX K (tRet te) (E os) fun z e => U z ∧ ∃ os', Dc os' ∧ e = E os' := re_retX (h os d)
end
end FA
set_option Elab.async false
set_option autoImplicit false
set_option linter.all false
set_option maxRecDepth 100000
/-! Defs that hand back a new list of their own. -/
namespace FA
open PySem L2 SlX
def RetF (K : PySem.W.Frag) (ts : TS) (es : Es) (cs : List D) : Prop := ∀ (D0 : Ends) (σ : L2.St) (H H0 F : Hp), Sta K σ H H0 F es →
  (∀ (p : Addr) (us : List V) (σ' : L2.St) (H' H0' : Hp) (es' : Es), Sta K σ' H' H0' F es' → Same H0 H0' → F p = none → H0 p = none → H' p = some (.lst us) → H0' p = none → AtL K H0' us cs → D0.rt (.ref p) H') → ts D0 σ H
/-- the promise of such a def -/
def spF (K : PySem.W.Frag) (R : List D → List D → Prop) : Sp := fun vs H Q _ => ∃ (H0 : Hp) (ds cs : List D), Same H0 H ∧ AtL K H0 vs ds ∧ R ds cs ∧
  ∀ (p : Addr) (us : List V) (H' H0' : Hp), H p = none → Stp H H0 H' H0' → H' p = some (.lst us) → H0' p = none → AtL K H0' us cs → Q (.ref p) H'
section
variable {P : Program} {w : World} {K : PySem.W.Frag} {mg : Str → Option Value} {base : Heap} {es es1 : Es} {te : TE} {ts tu : TS} {cs : List D}
theorem rf_ret (h : EvF K te es cs) : RetF K (tRet te) es cs := fun D0 σ H H0 F s q => h σ H H0 F s _ fun p vs H' H0' hp st h1 h2 a =>
  q p vs σ H' H0' es (s.stp st) st.b (s.f.free hp) (s.h0.free hp) h1 h2 a
theorem rf_seq (h : NxE K ts es es1) (hu : RetF K tu es1 cs) : RetF K (tSeq ts tu) es cs := fun D0 σ H H0 F s q =>
  h { D0 with nx := tu D0 } σ H H0 F s fun σ' H' H0' es' e s' b => by
    subst e
    exact hu D0 σ' H' H0' F s' fun p us σ2 H2 H02 e2 s2 b2 n1 n2 h1 h2 a => q p us σ2 H2 H02 e2 s2 (b.trans b2) n1 (b.free n2) h1 h2 a
theorem fn_fresh {x qual : Str} {st : Stmt} {f : Addr} {fd : FuncData} {N ps : List Str} {k : Nat} (R : List D → List D → Prop) (F : Fun K x qual st f fd) (S : FnScope N ps (defScope st)) (hl : ∀ ds cs, R ds cs → ds.length = ps.length)
    (hb : ∀ (cdv : Value) (A : Around) (outer : List Env) (s : Shared) (H : Hp) (E : XK), Room k (A.deeper (PyProof.Rows.envOfC qual (defScope st) s.heap.objs.size f cdv)) →
      ∃ t, PSs (cxOf CX0 P w K mg base N qual (defScope st) f cdv A outer s H E).nox (defBody st) t ∧ ∀ ds cs, R ds cs → RetF K t (startE N.length (ds.map .val)) cs) : FnOk P w K mg base CX0 (k + 1) f fd ps (spF K R) := by
  refine F.ok S (fun vs H Q E ⟨H0, ds, cs, _, al, r, _⟩ => by rw [al.length]; exact hl ds cs r) fun cdv A outer s H vs Q E hr ⟨H0, ds, cs, h0, al, r, bk⟩ => ?_
  obtain ⟨t, pt, ht⟩ := hb cdv A outer s H E hr
  have s0 := sta_start (N := N) (F := fun a => if H0 a = none then H a else none) h0 al (fun a o e => by
    try dsimp only at e
    split at e
    · exact e
    · cases e) (fun a o e => by
    split at e
    · assumption
    · cases e)
  refine ⟨t, pt, ht ds cs r _ _ H H0 _ s0 fun p us σ' H' H0' es' s' b n1 n2 h1 h2 a => ?_⟩
  have hp : H p = none := by
    rw [if_pos n2] at n1
    exact n1
  refine bk p us H' H0' hp ⟨fun a o e => ?_, b, s'.h0, fun a o e n => s'.ff a o (by simp only [n, if_true]; exact e)⟩ h1 h2 a
  by_cases n : H0 a = none
  · exact s'.f a o (by simp only [n, if_true]; exact e)
  · cases q : H0 a with
    | none => exact absurd q n
    | some u =>
      have z1 := h0 a u q
      rw [e] at z1
      cases z1
      exact s'.h0 a o (b a o q)
theorem ef_call {R : List D → List D → Prop} {ta : TA} {ds cs : List D} {E : XK} (ha : EvA K ta es ds) (hr : R ds cs) : EvF K (tCall (spF K R) [] E ta) es cs := fun σ H H0 F s Q q =>
  ha σ H H0 F s _ fun vs H1 H01 st al => ⟨H01, ds, cs, st.c, by rw [List.append_nil]; exact al, hr, fun p us H' H0' hp st2 h1 h2 a => q p us H' H0' (st.a.free hp) (st.trans st2) h1 h2 a⟩
end
end FA
set_option Elab.async false
set_option autoImplicit false
set_option linter.all false
set_option maxRecDepth 100000
/-! Printed by gen2.py: the text's defs. -/
namespace FB
open PySem PySem.Spec PyProof.Rows L2 SlX FA
def top (i : Nat) : Stmt := PySem.Challenge.pw_fivealike_k01_whole_closed_walks.main.body.getD i (.Pass ⟨0, 0, 0, 0⟩)
def inCls (j : Nat) : Stmt → Stmt
  | .ClassDef (body := body) .. => body.getD j (.Pass ⟨0, 0, 0, 0⟩)
  | s => s
abbrev s_is_whole : Stmt := top 7
abbrev N_is_whole : List Str := ["value"]
abbrev P_is_whole : List Str := ["value"]
theorem sc_is_whole : FnScope N_is_whole P_is_whole (defScope s_is_whole) := ⟨rfl, rfl, rfl, by decide +kernel, rfl, by decide +kernel, by decide +kernel⟩
abbrev s_is_within : Stmt := top 8
abbrev N_is_within : List Str := ["value", "least", "most"]
abbrev P_is_within : List Str := ["value", "least", "most"]
theorem sc_is_within : FnScope N_is_within P_is_within (defScope s_is_within) := ⟨rfl, rfl, rfl, by decide +kernel, rfl, by decide +kernel, by decide +kernel⟩
abbrev s_are_colours : Stmt := top 14
abbrev N_are_colours : List Str := ["value", "colour"]
abbrev P_are_colours : List Str := ["value"]
theorem sc_are_colours : FnScope N_are_colours P_are_colours (defScope s_are_colours) := ⟨rfl, rfl, rfl, by decide +kernel, rfl, by decide +kernel, by decide +kernel⟩
abbrev s_is_tie : Stmt := top 15
abbrev N_is_tie : List Str := ["points", "value", "one"]
abbrev P_is_tie : List Str := ["points", "value"]
theorem sc_is_tie : FnScope N_is_tie P_is_tie (defScope s_is_tie) := ⟨rfl, rfl, rfl, by decide +kernel, rfl, by decide +kernel, by decide +kernel⟩
abbrev s_are_ties : Stmt := top 16
abbrev N_are_ties : List Str := ["points", "value", "tie", "one", "other"]
abbrev P_are_ties : List Str := ["points", "value"]
theorem sc_are_ties : FnScope N_are_ties P_are_ties (defScope s_are_ties) := ⟨rfl, rfl, rfl, by decide +kernel, rfl, by decide +kernel, by decide +kernel⟩
abbrev s_Web_init : Stmt := inCls 1 (top 17)
abbrev N_Web_init : List Str := ["self", "colours", "ties", "near", "colour", "one", "other", "told", "point"]
abbrev P_Web_init : List Str := ["self", "colours", "ties"]
theorem sc_Web_init : FnScope N_Web_init P_Web_init (defScope s_Web_init) := ⟨rfl, rfl, rfl, by decide +kernel, rfl, by decide +kernel, by decide +kernel⟩
abbrev s_Web_colours : Stmt := inCls 2 (top 17)
abbrev N_Web_colours : List Str := ["self"]
abbrev P_Web_colours : List Str := ["self"]
theorem sc_Web_colours : FnScope N_Web_colours P_Web_colours (defScope s_Web_colours) := ⟨rfl, rfl, rfl, by decide +kernel, rfl, by decide +kernel, by decide +kernel⟩
abbrev s_Web_ties : Stmt := inCls 3 (top 17)
abbrev N_Web_ties : List Str := ["self"]
abbrev P_Web_ties : List Str := ["self"]
theorem sc_Web_ties : FnScope N_Web_ties P_Web_ties (defScope s_Web_ties) := ⟨rfl, rfl, rfl, by decide +kernel, rfl, by decide +kernel, by decide +kernel⟩
abbrev s_Web_degrees : Stmt := inCls 4 (top 17)
abbrev N_Web_degrees : List Str := ["self", "near"]
abbrev P_Web_degrees : List Str := ["self"]
theorem sc_Web_degrees : FnScope N_Web_degrees P_Web_degrees (defScope s_Web_degrees) := ⟨rfl, rfl, rfl, by decide +kernel, rfl, by decide +kernel, by decide +kernel⟩
abbrev s_Web_len : Stmt := inCls 7 (top 17)
abbrev N_Web_len : List Str := ["self"]
abbrev P_Web_len : List Str := ["self"]
theorem sc_Web_len : FnScope N_Web_len P_Web_len (defScope s_Web_len) := ⟨rfl, rfl, rfl, by decide +kernel, rfl, by decide +kernel, by decide +kernel⟩
abbrev s_is_tied_in : Stmt := top 18
abbrev N_is_tied_in : List Str := ["web", "here", "there"]
abbrev P_is_tied_in : List Str := ["web", "here", "there"]
theorem sc_is_tied_in : FnScope N_is_tied_in P_is_tied_in (defScope s_is_tied_in) := ⟨rfl, rfl, rfl, by decide +kernel, rfl, by decide +kernel, by decide +kernel⟩
abbrev s_web_of : Stmt := top 19
abbrev N_web_of : List Str := ["colours", "pairs", "pair"]
abbrev P_web_of : List Str := ["colours", "pairs"]
theorem sc_web_of : FnScope N_web_of P_web_of (defScope s_web_of) := ⟨rfl, rfl, rfl, by decide +kernel, rfl, by decide +kernel, by decide +kernel⟩
abbrev s_beside_in : Stmt := top 20
abbrev N_beside_in : List Str := ["one", "other", "many", "ties", "here", "there"]
abbrev P_beside_in : List Str := ["one", "other"]
theorem sc_beside_in : FnScope N_beside_in P_beside_in (defScope s_beside_in) := ⟨rfl, rfl, rfl, by decide +kernel, rfl, by decide +kernel, by decide +kernel⟩
abbrev s_opposite_in : Stmt := top 21
abbrev N_opposite_in : List Str := ["web", "points", "pairs", "one", "other"]
abbrev P_opposite_in : List Str := ["web"]
theorem sc_opposite_in : FnScope N_opposite_in P_opposite_in (defScope s_opposite_in) := ⟨rfl, rfl, rfl, by decide +kernel, rfl, by decide +kernel, by decide +kernel⟩
abbrev s_require_web : Stmt := top 22
abbrev N_require_web : List Str := ["value"]
abbrev P_require_web : List Str := ["value"]
theorem sc_require_web : FnScope N_require_web P_require_web (defScope s_require_web) := ⟨rfl, rfl, rfl, by decide +kernel, rfl, by decide +kernel, by decide +kernel⟩
abbrev s_require_two : Stmt := top 23
abbrev N_require_two : List Str := ["one", "other"]
abbrev P_require_two : List Str := ["one", "other"]
theorem sc_require_two : FnScope N_require_two P_require_two (defScope s_require_two) := ⟨rfl, rfl, rfl, by decide +kernel, rfl, by decide +kernel, by decide +kernel⟩
abbrev s_need_few_points : Stmt := top 25
abbrev N_need_few_points : List Str := ["many"]
abbrev P_need_few_points : List Str := ["many"]
theorem sc_need_few_points : FnScope N_need_few_points P_need_few_points (defScope s_need_few_points) := ⟨rfl, rfl, rfl, by decide +kernel, rfl, by decide +kernel, by decide +kernel⟩
abbrev s_beside : Stmt := top 26
abbrev N_beside : List Str := ["one", "other"]
abbrev P_beside : List Str := ["one", "other"]
theorem sc_beside : FnScope N_beside P_beside (defScope s_beside) := ⟨rfl, rfl, rfl, by decide +kernel, rfl, by decide +kernel, by decide +kernel⟩
abbrev s_opposite : Stmt := top 27
abbrev N_opposite : List Str := ["web"]
abbrev P_opposite : List Str := ["web"]
theorem sc_opposite : FnScope N_opposite P_opposite (defScope s_opposite) := ⟨rfl, rfl, rfl, by decide +kernel, rfl, by decide +kernel, by decide +kernel⟩
abbrev s_fitting : Stmt := top 31
abbrev N_fitting : List Str := ["pattern", "web", "images", "point", "ties", "near", "places", "image", "goal"]
abbrev P_fitting : List Str := ["pattern", "web", "images"]
theorem sc_fitting : FnScope N_fitting P_fitting (defScope s_fitting) := ⟨rfl, rfl, rfl, by decide +kernel, rfl, by decide +kernel, by decide +kernel⟩
abbrev s_number_in : Stmt := top 32
abbrev N_number_in : List Str := ["pattern", "web", "images", "image"]
abbrev P_number_in : List Str := ["pattern", "web", "images"]
theorem sc_number_in : FnScope N_number_in P_number_in (defScope s_number_in) := ⟨rfl, rfl, rfl, by decide +kernel, rfl, by decide +kernel, by decide +kernel⟩
abbrev s_map_number_in : Stmt := top 33
abbrev N_map_number_in : List Str := ["pattern", "web"]
abbrev P_map_number_in : List Str := ["pattern", "web"]
theorem sc_map_number_in : FnScope N_map_number_in P_map_number_in (defScope s_map_number_in) := ⟨rfl, rfl, rfl, by decide +kernel, rfl, by decide +kernel, by decide +kernel⟩
abbrev s_times_in : Stmt := top 34
abbrev N_times_in : List Str := ["one", "other", "many", "pairs", "here", "there", "ties", "a", "b", "c", "d"]
abbrev P_times_in : List Str := ["one", "other"]
theorem sc_times_in : FnScope N_times_in P_times_in (defScope s_times_in) := ⟨rfl, rfl, rfl, by decide +kernel, rfl, by decide +kernel, by decide +kernel⟩
abbrev s_need_few_tries : Stmt := top 35
abbrev N_need_few_tries : List Str := ["pattern", "web", "rows", "point"]
abbrev P_need_few_tries : List Str := ["pattern", "web"]
theorem sc_need_few_tries : FnScope N_need_few_tries P_need_few_tries (defScope s_need_few_tries) := ⟨rfl, rfl, rfl, by decide +kernel, rfl, by decide +kernel, by decide +kernel⟩
abbrev s_require_tried : Stmt := top 36
abbrev N_require_tried : List Str := ["pattern", "web"]
abbrev P_require_tried : List Str := ["pattern", "web"]
theorem sc_require_tried : FnScope N_require_tried P_require_tried (defScope s_require_tried) := ⟨rfl, rfl, rfl, by decide +kernel, rfl, by decide +kernel, by decide +kernel⟩
abbrev s_map_number : Stmt := top 37
abbrev N_map_number : List Str := ["pattern", "web"]
abbrev P_map_number : List Str := ["pattern", "web"]
theorem sc_map_number : FnScope N_map_number P_map_number (defScope s_map_number) := ⟨rfl, rfl, rfl, by decide +kernel, rfl, by decide +kernel, by decide +kernel⟩
abbrev s_times : Stmt := top 38
abbrev N_times : List Str := ["one", "other"]
abbrev P_times : List Str := ["one", "other"]
theorem sc_times : FnScope N_times P_times (defScope s_times) := ⟨rfl, rfl, rfl, by decide +kernel, rfl, by decide +kernel, by decide +kernel⟩
abbrev s__law_dice : Stmt := top 40
abbrev N__law_dice : List Str := ["script", "spot", "cell", "great"]
abbrev P__law_dice : List Str := ["script", "spot"]
theorem sc__law_dice : FnScope N__law_dice P__law_dice (defScope s__law_dice) := ⟨rfl, rfl, rfl, by decide +kernel, rfl, by decide +kernel, by decide +kernel⟩
abbrev s__law_roll : Stmt := top 41
abbrev N__law_roll : List Str := ["dice", "total", "found"]
abbrev P__law_roll : List Str := ["dice", "total"]
theorem sc__law_roll : FnScope N__law_roll P__law_roll (defScope s__law_roll) := ⟨rfl, rfl, rfl, by decide +kernel, rfl, by decide +kernel, by decide +kernel⟩
abbrev s__law_ties : Stmt := top 43
abbrev N__law_ties : List Str := ["pairs", "pair"]
abbrev P__law_ties : List Str := ["pairs"]
theorem sc__law_ties : FnScope N__law_ties P__law_ties (defScope s__law_ties) := ⟨rfl, rfl, rfl, by decide +kernel, rfl, by decide +kernel, by decide +kernel⟩
abbrev s__law_ring : Stmt := top 44
abbrev N__law_ring : List Str := ["many", "at"]
abbrev P__law_ring : List Str := ["many"]
theorem sc__law_ring : FnScope N__law_ring P__law_ring (defScope s__law_ring) := ⟨rfl, rfl, rfl, by decide +kernel, rfl, by decide +kernel, by decide +kernel⟩
abbrev s__law_full : Stmt := top 45
abbrev N__law_full : List Str := ["many", "at", "to"]
abbrev P__law_full : List Str := ["many"]
theorem sc__law_full : FnScope N__law_full P__law_full (defScope s__law_full) := ⟨rfl, rfl, rfl, by decide +kernel, rfl, by decide +kernel, by decide +kernel⟩
abbrev s__law_drawn : Stmt := top 46
abbrev N__law_drawn : List Str := ["dice", "many", "chance", "pair"]
abbrev P__law_drawn : List Str := ["dice", "many", "chance"]
theorem sc__law_drawn : FnScope N__law_drawn P__law_drawn (defScope s__law_drawn) := ⟨rfl, rfl, rfl, by decide +kernel, rfl, by decide +kernel, by decide +kernel⟩
abbrev s__law_plain : Stmt := top 47
abbrev N__law_plain : List Str := ["many", "ties"]
abbrev P__law_plain : List Str := ["many", "ties"]
theorem sc__law_plain : FnScope N__law_plain P__law_plain (defScope s__law_plain) := ⟨rfl, rfl, rfl, by decide +kernel, rfl, by decide +kernel, by decide +kernel⟩
abbrev s__law_rows : Stmt := top 48
abbrev N__law_rows : List Str := ["web", "rows", "at", "one", "far"]
abbrev P__law_rows : List Str := ["web"]
theorem sc__law_rows : FnScope N__law_rows P__law_rows (defScope s__law_rows) := ⟨rfl, rfl, rfl, by decide +kernel, rfl, by decide +kernel, by decide +kernel⟩
abbrev s__law_times : Stmt := top 49
abbrev N__law_times : List Str := ["one", "far", "here", "to", "at"]
abbrev P__law_times : List Str := ["one", "far"]
theorem sc__law_times : FnScope N__law_times P__law_times (defScope s__law_times) := ⟨rfl, rfl, rfl, by decide +kernel, rfl, by decide +kernel, by decide +kernel⟩
abbrev s__law_powers : Stmt := top 50
abbrev N__law_powers : List Str := ["web", "most", "many", "found", "at", "to", "step"]
abbrev P__law_powers : List Str := ["web", "most"]
theorem sc__law_powers : FnScope N__law_powers P__law_powers (defScope s__law_powers) := ⟨rfl, rfl, rfl, by decide +kernel, rfl, by decide +kernel, by decide +kernel⟩
abbrev s__law_trace : Stmt := top 51
abbrev N__law_trace : List Str := ["rows", "at", "row"]
abbrev P__law_trace : List Str := ["rows"]
theorem sc__law_trace : FnScope N__law_trace P__law_trace (defScope s__law_trace) := ⟨rfl, rfl, rfl, by decide +kernel, rfl, by decide +kernel, by decide +kernel⟩
abbrev s__law_road : Stmt := top 52
abbrev N__law_road : List Str := ["many", "at"]
abbrev P__law_road : List Str := ["many"]
theorem sc__law_road : FnScope N__law_road P__law_road (defScope s__law_road) := ⟨rfl, rfl, rfl, by decide +kernel, rfl, by decide +kernel, by decide +kernel⟩
abbrev s__law_right : Stmt := top 53
abbrev N__law_right : List Str := ["dice", "many", "other", "web", "at", "far", "powers", "more", "made", "steps", "ring", "road", "closed", "ways", "row", "star", "degree", "other_rows", "to", "square", "told", "due", "marks", "colour", "some", "begin", "end", "rounds"]
abbrev P__law_right : List Str := ["dice"]
theorem sc__law_right : FnScope N__law_right P__law_right (defScope s__law_right) := ⟨rfl, rfl, rfl, by decide +kernel, rfl, by decide +kernel, by decide +kernel⟩
abbrev s_law : Stmt := top 54
abbrev N_law : List Str := ["script", "spot", "dice", "full", "five", "told", "many"]
abbrev P_law : List Str := ["script"]
theorem sc_law : FnScope N_law P_law (defScope s_law) := ⟨rfl, rfl, rfl, by decide +kernel, rfl, by decide +kernel, by decide +kernel⟩
structure FnT (K : PySem.W.Frag) (x qual : Str) (st : Stmt) (ps : List Str) where
  a : Addr
  fd : FuncData
  F : Fun K x qual st a fd
  b : Binds K fd ps []
structure Txt (K : PySem.W.Frag) (mg : Str → Option Value) where
  is_whole : FnT K "is_whole" "is_whole" s_is_whole P_is_whole
  m_is_whole : mg "is_whole" = some (.ref is_whole.a)
  is_within : FnT K "is_within" "is_within" s_is_within P_is_within
  m_is_within : mg "is_within" = some (.ref is_within.a)
  are_colours : FnT K "are_colours" "are_colours" s_are_colours P_are_colours
  m_are_colours : mg "are_colours" = some (.ref are_colours.a)
  is_tie : FnT K "is_tie" "is_tie" s_is_tie P_is_tie
  m_is_tie : mg "is_tie" = some (.ref is_tie.a)
  are_ties : FnT K "are_ties" "are_ties" s_are_ties P_are_ties
  m_are_ties : mg "are_ties" = some (.ref are_ties.a)
  Web_init : FnT K "__init__" "Web.__init__" s_Web_init P_Web_init
  Web_colours : FnT K "colours" "Web.colours" s_Web_colours P_Web_colours
  Web_ties : FnT K "ties" "Web.ties" s_Web_ties P_Web_ties
  Web_degrees : FnT K "degrees" "Web.degrees" s_Web_degrees P_Web_degrees
  Web_len : FnT K "__len__" "Web.__len__" s_Web_len P_Web_len
  is_tied_in : FnT K "is_tied_in" "is_tied_in" s_is_tied_in P_is_tied_in
  m_is_tied_in : mg "is_tied_in" = some (.ref is_tied_in.a)
  web_of : FnT K "web_of" "web_of" s_web_of P_web_of
  m_web_of : mg "web_of" = some (.ref web_of.a)
  beside_in : FnT K "beside_in" "beside_in" s_beside_in P_beside_in
  m_beside_in : mg "beside_in" = some (.ref beside_in.a)
  opposite_in : FnT K "opposite_in" "opposite_in" s_opposite_in P_opposite_in
  m_opposite_in : mg "opposite_in" = some (.ref opposite_in.a)
  require_web : FnT K "require_web" "require_web" s_require_web P_require_web
  m_require_web : mg "require_web" = some (.ref require_web.a)
  require_two : FnT K "require_two" "require_two" s_require_two P_require_two
  m_require_two : mg "require_two" = some (.ref require_two.a)
  need_few_points : FnT K "need_few_points" "need_few_points" s_need_few_points P_need_few_points
  m_need_few_points : mg "need_few_points" = some (.ref need_few_points.a)
  beside : FnT K "beside" "beside" s_beside P_beside
  m_beside : mg "beside" = some (.ref beside.a)
  opposite : FnT K "opposite" "opposite" s_opposite P_opposite
  m_opposite : mg "opposite" = some (.ref opposite.a)
  fitting : FnT K "fitting" "fitting" s_fitting P_fitting
  m_fitting : mg "fitting" = some (.ref fitting.a)
  number_in : FnT K "number_in" "number_in" s_number_in P_number_in
  m_number_in : mg "number_in" = some (.ref number_in.a)
  map_number_in : FnT K "map_number_in" "map_number_in" s_map_number_in P_map_number_in
  m_map_number_in : mg "map_number_in" = some (.ref map_number_in.a)
  times_in : FnT K "times_in" "times_in" s_times_in P_times_in
  m_times_in : mg "times_in" = some (.ref times_in.a)
  need_few_tries : FnT K "need_few_tries" "need_few_tries" s_need_few_tries P_need_few_tries
  m_need_few_tries : mg "need_few_tries" = some (.ref need_few_tries.a)
  require_tried : FnT K "require_tried" "require_tried" s_require_tried P_require_tried
  m_require_tried : mg "require_tried" = some (.ref require_tried.a)
  map_number : FnT K "map_number" "map_number" s_map_number P_map_number
  m_map_number : mg "map_number" = some (.ref map_number.a)
  times : FnT K "times" "times" s_times P_times
  m_times : mg "times" = some (.ref times.a)
  _law_dice : FnT K "_law_dice" "_law_dice" s__law_dice P__law_dice
  m__law_dice : mg "_law_dice" = some (.ref _law_dice.a)
  _law_roll : FnT K "_law_roll" "_law_roll" s__law_roll P__law_roll
  m__law_roll : mg "_law_roll" = some (.ref _law_roll.a)
  _law_ties : FnT K "_law_ties" "_law_ties" s__law_ties P__law_ties
  m__law_ties : mg "_law_ties" = some (.ref _law_ties.a)
  _law_ring : FnT K "_law_ring" "_law_ring" s__law_ring P__law_ring
  m__law_ring : mg "_law_ring" = some (.ref _law_ring.a)
  _law_full : FnT K "_law_full" "_law_full" s__law_full P__law_full
  m__law_full : mg "_law_full" = some (.ref _law_full.a)
  _law_drawn : FnT K "_law_drawn" "_law_drawn" s__law_drawn P__law_drawn
  m__law_drawn : mg "_law_drawn" = some (.ref _law_drawn.a)
  _law_plain : FnT K "_law_plain" "_law_plain" s__law_plain P__law_plain
  m__law_plain : mg "_law_plain" = some (.ref _law_plain.a)
  _law_rows : FnT K "_law_rows" "_law_rows" s__law_rows P__law_rows
  m__law_rows : mg "_law_rows" = some (.ref _law_rows.a)
  _law_times : FnT K "_law_times" "_law_times" s__law_times P__law_times
  m__law_times : mg "_law_times" = some (.ref _law_times.a)
  _law_powers : FnT K "_law_powers" "_law_powers" s__law_powers P__law_powers
  m__law_powers : mg "_law_powers" = some (.ref _law_powers.a)
  _law_trace : FnT K "_law_trace" "_law_trace" s__law_trace P__law_trace
  m__law_trace : mg "_law_trace" = some (.ref _law_trace.a)
  _law_road : FnT K "_law_road" "_law_road" s__law_road P__law_road
  m__law_road : mg "_law_road" = some (.ref _law_road.a)
  _law_right : FnT K "_law_right" "_law_right" s__law_right P__law_right
  m__law_right : mg "_law_right" = some (.ref _law_right.a)
  law : FnT K "law" "law" s_law P_law
  m_law : mg "law" = some (.ref law.a)
  n_abs : mg "abs" = none
  n_all : mg "all" = none
  n_any : mg "any" = none
  n_bool : mg "bool" = none
  n_enumerate : mg "enumerate" = none
  n_int : mg "int" = none
  n_isinstance : mg "isinstance" = none
  n_len : mg "len" = none
  n_list : mg "list" = none
  n_max : mg "max" = none
  n_min : mg "min" = none
  n_range : mg "range" = none
  n_set : mg "set" = none
  n_sorted : mg "sorted" = none
  n_sum : mg "sum" = none
  n_tuple : mg "tuple" = none
  n_zip : mg "zip" = none
  k_MOST_POINTS : Tok
  g_MOST_POINTS : mg "MOST_POINTS" = some (.int (40) k_MOST_POINTS)
  k_LEAST_COLOUR : Tok
  g_LEAST_COLOUR : mg "LEAST_COLOUR" = some (.int (-1) k_LEAST_COLOUR)
  k_MOST_COLOUR : Tok
  g_MOST_COLOUR : mg "MOST_COLOUR" = some (.int (9) k_MOST_COLOUR)
  k_PAIR : Tok
  g_PAIR : mg "PAIR" = some (.int (2) k_PAIR)
  k_MOST_TRIES : Tok
  g_MOST_TRIES : mg "MOST_TRIES" = some (.int (100000) k_MOST_TRIES)
  k_ANY : Tok
  g_ANY : mg "ANY" = some (.int (-1) k_ANY)
  C : Addr
  mWeb : mg "Web" = some (.ref C)
  cls : SCls K C
  isi : SIsi K C
  p0 : Addr
  p1 : Addr
  p2 : Addr
  sl0 : Slot1 K C "own_colours" p0 0
  sl1 : Slot1 K C "own_near" p1 1
  sl2 : Slot1 K C "own_ties" p2 2
  mkW : Mk K C Web_init.a
  pc : Addr
  pt : Addr
  pd : Addr
  at_c : PySem.W.findIn K (.ref C) "colours" = some (some (.ref pc))
  at_t : PySem.W.findIn K (.ref C) "ties" = some (some (.ref pt))
  at_d : PySem.W.findIn K (.ref C) "degrees" = some (some (.ref pd))
  ge_c : PySem.W.specialIn K (.ref pc) "__get__" = some (some (.builtin "property.__get__"))
  ge_t : PySem.W.specialIn K (.ref pt) "__get__" = some (some (.builtin "property.__get__"))
  ge_d : PySem.W.specialIn K (.ref pd) "__get__" = some (some (.builtin "property.__get__"))
  tk_c : PySem.W.takesIn K (.ref pc) = some true
  tk_t : PySem.W.takesIn K (.ref pt) = some true
  tk_d : PySem.W.takesIn K (.ref pd) = some true
  rc_c : ∃ rest, PySem.W.recIn K pc "property" = some (.ref Web_colours.a :: rest)
  rc_t : ∃ rest, PySem.W.recIn K pt "property" = some (.ref Web_ties.a :: rest)
  rc_d : ∃ rest, PySem.W.recIn K pd "property" = some (.ref Web_degrees.a :: rest)
  ln : PySem.W.findIn K (.ref C) "__len__" = some (some (.ref Web_len.a))
  lf : PySem.W.isFn K (.ref Web_len.a) = true
  ko : PySem.W.kitOne K (.ref C) (.ref C) = some true
end FB
set_option Elab.async false
set_option autoImplicit false
set_option linter.all false
set_option maxRecDepth 100000
/-! The text's small defs. -/
namespace FB
open PySem PySem.Spec PyProof.Rows L2 SlX FA
section
variable {P : Program} {w : World} {K : PySem.W.Frag} {mg : Str → Option Value} {base : Heap} {es : Es} {ta tb tc : TE}
theorem ev_leLe {i j k : Int} (ha : EvE K ta es (.int i)) (hb : EvE K tb es (.int j)) (hc : EvE K tc es (.int k)) : EvE K (tChain (rI0 fun i j => .bl (decide (i ≤ j))) (rI0 fun i j => .bl (decide (i ≤ j))) ta tb tc) es (.bl (decide (i ≤ j) && decide (j ≤ k))) := fun σ H H0 F s Q q =>
  ha σ H H0 F s _ fun u H1 H01 s1 a1 => hb σ H1 H01 F (s.stp s1) _ fun v H2 H02 s2 a2 => by
  cases a1; cases a2
  refine ⟨i, j, rfl, rfl, _, rfl, ?_⟩
  by_cases h : i ≤ j
  · rw [if_pos (decide_eq_true h)]
    refine hc σ H2 H02 F ((s.stp s1).stp s2) _ fun w H3 H03 s3 a3 => ?_
    cases a3
    refine ⟨j, k, rfl, rfl, ?_⟩
    rw [decide_eq_true h, Bool.true_and] at q
    exact (q.step ((s1.trans s2).trans s3)).here s3.c .bl
  · rw [if_neg (by simpa using h)]
    rw [decide_eq_false h, Bool.false_and] at q
    exact (q.step (s1.trans s2)).here s2.c .bl
def R_is_whole (ds : List D) (z : D) : Prop := ∃ i, ds = [.int i] ∧ z = .bl true
theorem ok_is_whole (T : Txt K mg) : FnOk P w K mg base CX0 1 T.is_whole.a T.is_whole.fd P_is_whole (spD K R_is_whole) :=
  fn_pure R_is_whole T.is_whole.F sc_is_whole (fun ds z ⟨i, e, _⟩ => by rw [e]; rfl) (by decide) fun cdv A outer s H E hr => by
  refine ⟨_, (pss_one (ps_ret (pe_and (pe_callB call_isi (by rfl) T.n_isinstance (by rfl) (pa_cons (pv 0) (pa_cons (pe_bltn (v := .ty "int") (u := .type "int") rfl T.n_int (by rfl) rfl) pa_nil))) (pe_one (pe_not (pe_callB call_isi (by rfl) T.n_isinstance (by rfl) (pa_cons (pv 0) (pa_cons (pe_bltn (v := .ty "bool") (u := .type "bool") rfl T.n_bool (by rfl) rfl) pa_nil)))))))), fun ds z ⟨i, e, ez⟩ => ?_⟩
  subst e ez
  exact re_ret (ev_and (a := true) (b := true) (ev_cb (ea2 (ev_var rfl) ev_ty) (rc_isi (n := "int") rfl (by decide +kernel))) fun _ => ev_not (a := false) (ev_cb (ea2 (ev_var rfl) ev_ty) (rc_isi (n := "int") rfl (by decide +kernel))))
def R_is_within (ds : List D) (z : D) : Prop := ∃ i lo hi, ds = [.int i, .int lo, .int hi] ∧ z = .bl (decide (lo ≤ i) && decide (i ≤ hi))
theorem ok_is_within (T : Txt K mg) : FnOk P w K mg base CX0 2 T.is_within.a T.is_within.fd P_is_within (spD K R_is_within) :=
  fn_pure R_is_within T.is_within.F sc_is_within (fun ds z ⟨i, lo, hi, e, _⟩ => by rw [e]; rfl) (by decide) fun cdv A outer s H E hr => by
  refine ⟨_, (pss_one (ps_ret (pe_and (pe_call (ok_is_whole T) (hr.mono (by decide)) rfl T.m_is_whole T.is_whole.F.kp T.is_whole.b .nil pass0 (pa_cons (pv 0) pa_nil)) (pe_one (pe_chain op_le op_le (pv 1) (pv 0) (pv 2)))))), fun ds z ⟨i, lo, hi, e, ez⟩ => ?_⟩
  subst e ez
  exact re_ret (ev_is (ev_and (a := true) (ev_call (ea1 (ev_var rfl)) ⟨i, rfl, rfl⟩) fun _ => ev_leLe (ev_var rfl) (ev_var rfl) (ev_var rfl)) (by rw [Bool.true_and]))
end
end FB
set_option Elab.async false
set_option autoImplicit false
set_option linter.all false
set_option maxRecDepth 100000
/-! What a web's parts must be. -/
namespace FB
open PySem PySem.Spec PyProof.Rows L2 SlX FA
section
variable {P : Program} {w : World} {K : PySem.W.Frag} {mg : Str → Option Value} {base : Heap} {es : Es} {ta tb tc : TE}
theorem all_true {α : Type} (xs : List α) : (xs.map fun _ => true).all id = true := by
  rw [List.all_map]; exact List.all_eq_true.mpr fun _ _ => rfl
/-- all([test for target in iter]), all true -/
theorem ev_allT {wi : TI} {g : TG} {te : TE} {vs : List Nat} {α : Type} (xs : List α) (e : α → D) (es' : α → Es) (hi : IterE K wi es (xs.map e)) (hg : ∀ x ∈ xs, GE K g vs (wipeE es vs) (e x) (es' x))
    (he : ∀ x ∈ xs, EvE K te (es' x) (.bl true)) (hz : xs.length ≤ 100000) : EvE K (tCB (rAll K) (tCons (tLc wi g tYes te vs) tNil)) es (.bl true) := by
  have h1 := (ef_lcm (K := K) xs e (fun _ => D.bl true) es' hi hg he hz).e
  have h2 : (xs.map fun _ => D.bl true) = (xs.map fun _ => true).map D.bl := by rw [List.map_map]; rfl
  rw [h2] at h1
  exact ev_is (ev_cb (ea1 h1) rc_all) (by rw [all_true])
def R_are_colours (ds : List D) (z : D) : Prop := ∃ cs : List Int, ds = [.tup (cs.map .int)] ∧ cs.length ≤ 40 ∧ (∀ c ∈ cs, -1 ≤ c ∧ c ≤ 9) ∧ z = .bl true
theorem ok_are_colours (T : Txt K mg) : FnOk P w K mg base CX0 3 T.are_colours.a T.are_colours.fd P_are_colours (spD K R_are_colours) :=
  fn_pure R_are_colours T.are_colours.F sc_are_colours (fun ds z ⟨cs, e, _⟩ => by rw [e]; rfl) (by decide) fun cdv A outer s H E hr => by
  refine ⟨_, (pss_cons (ps_if (PW.pt (pw_or (pt_not (pt_val (pe_callB (call_isiK (K := K) rfl) (by rfl) T.n_isinstance (by rfl) (pa_cons (pv 0) (pa_cons (pe_bltn (v := .ty "tuple") (u := .type "tuple") rfl T.n_tuple (by rfl) rfl) pa_nil))))) (pw_or1 (pt_cmpR op_gt (pe_callB (call_lenK (K := K) rfl) (by rfl) T.n_len PySem.boot_len (pa_cons (pv 0) pa_nil)) (pe_glob (v := .int (40)) rfl T.g_MOST_POINTS ⟨_, rfl⟩) (nomark _))))) (pss_one (ps_ret pe_bl)) pss_nil) (pss_one (ps_ret (pe_callB (cr_allK (K := K) rfl rfl) (by rfl) T.n_all (by rfl) (pa_cons (pe_lc (own := [("colour", 1)]) rfl sc_are_colours.nd (pi_tupleK (K := K) rfl (pv 0)) (blkOk_by (N := N_are_colours) (sc := (defScope s_are_colours)) (by decide +kernel)) (fun _ _ _ _ _ => (pg_name (i := 1) sc_are_colours.nd rfl (by first | exact Or.inl rfl | exact Or.inr rfl))) (fun _ _ _ _ _ => pts_nil) (fun _ _ _ _ _ => (pe_call (ok_is_within T) (hr.mono (by decide)) rfl T.m_is_within T.is_within.F.kp T.is_within.b .nil pass0 (pa_cons (pv 1) (pa_cons (pe_glob (v := .int (-1)) rfl T.g_LEAST_COLOUR ⟨_, rfl⟩) (pa_cons (pe_glob (v := .int (9)) rfl T.g_MOST_COLOUR ⟨_, rfl⟩) pa_nil)))))) pa_nil))))), fun ds z ⟨cs, e, hl, hc, ez⟩ => ?_⟩
  subst e ez
  refine re_seq (nx_pass (et_is (et_or (a := false) (b := false) (et_not (a := true) (et_B (ev_cb (ea2 (ev_var rfl) ev_ty) (rc_isi (n := "tuple") rfl (by decide +kernel))))) fun _ => et_test (ev_is (ev_op (ev_cb (ea1 (ev_var rfl)) rc_lenT) ev_int rv_B0) ?_)) rfl)) ?_
  · rw [List.length_map, decide_eq_false (by omega)]
  · refine re_ret (ev_allT cs .int (fun c => [.val (.tup (cs.map .int)), .val (.int c)]) (it_tup (ev_var rfl)) (fun c _ => ge_name (by simp)) (fun c hx => ?_) (by omega))
    refine ev_is (ev_call (ea3 (ev_var rfl) ev_int ev_int) ⟨c, -1, 9, rfl, rfl⟩) ?_
    rw [decide_eq_true (hc c hx).1, decide_eq_true (hc c hx).2]
    rfl
def R_is_tie (ds : List D) (z : D) : Prop := ∃ (n : Nat) (p : Int × Int), ds = [.int n, pD p] ∧ 0 ≤ p.1 ∧ p.1 < p.2 ∧ p.2 < n ∧ z = .bl true
theorem ok_is_tie (T : Txt K mg) : FnOk P w K mg base CX0 3 T.is_tie.a T.is_tie.fd P_is_tie (spD K R_is_tie) :=
  fn_pure R_is_tie T.is_tie.F sc_is_tie (fun ds z ⟨n, p, e, _⟩ => by rw [e]; rfl) (by decide) fun cdv A outer s H E hr => by
  refine ⟨_, (pss_cons (ps_if (PW.pt (pw_or (pt_not (pt_val (pe_callB (call_isiK (K := K) rfl) (by rfl) T.n_isinstance (by rfl) (pa_cons (pv 1) (pa_cons (pe_bltn (v := .ty "tuple") (u := .type "tuple") rfl T.n_tuple (by rfl) rfl) pa_nil))))) (pw_or (pt_cmpR op_ne (pe_callB (call_lenK (K := K) rfl) (by rfl) T.n_len PySem.boot_len (pa_cons (pv 1) pa_nil)) (pe_glob (v := .int (2)) rfl T.g_PAIR ⟨_, rfl⟩) (nomark _)) (pw_or1 (pt_not (pt_val (pe_callB (cr_allK (K := K) rfl rfl) (by rfl) T.n_all (by rfl) (pa_cons (pe_lc (own := [("one", 2)]) rfl sc_is_tie.nd (pi_tupleK (K := K) rfl (pv 1)) (blkOk_by (N := N_is_tie) (sc := (defScope s_is_tie)) (by decide +kernel)) (fun _ _ _ _ _ => (pg_name (i := 2) sc_is_tie.nd rfl (by first | exact Or.inl rfl | exact Or.inr rfl))) (fun _ _ _ _ _ => pts_nil) (fun _ _ _ _ _ => (pe_call (ok_is_within T) (hr.mono (by decide)) rfl T.m_is_within T.is_within.F.kp T.is_within.b .nil pass0 (pa_cons (pv 2) (pa_cons pe_int (pa_cons (pe_op op_sub (pv 0) pe_int) pa_nil)))))) pa_nil)))))))) (pss_one (ps_ret pe_bl)) pss_nil) (pss_one (ps_ret (pe_cmpR op_lt (pe_ix (ix_tupK (K := K) rfl) (pv 1) pe_int (fun _ _ => rfl)) (pe_ix (ix_tupK (K := K) rfl) (pv 1) pe_int (fun _ _ => rfl)) (nomark _))))), fun ds z ⟨n, p, e, h1, h2, h3, ez⟩ => ?_⟩
  subst e ez
  refine re_seq (nx_pass (et_is (et_or (a := false) (b := false) (et_not (a := true) (et_B (ev_cb (ea2 (ev_var rfl) ev_ty) (rc_isi (n := "tuple") rfl (by decide +kernel))))) fun _ =>
    et_or (a := false) (b := false) (et_test (ev_is (ev_op (ev_cb (ea1 (ev_var rfl)) rc_lenT) ev_int rv_neI) rfl)) fun _ => et_not (a := true) (et_B ?_)) rfl)) ?_
  · refine ev_allT [p.1, p.2] .int (fun c => [.val (.int n), .val (pD p), .val (.int c)]) (it_tup (ev_var rfl)) (fun c _ => ge_name (by simp)) (fun c hx => ?_) (by show 2 ≤ _; omega)
    refine ev_is (ev_call (ea3 (ev_var rfl) ev_int (ev_op (ev_var rfl) ev_int rv_I0)) ⟨c, 0, _, rfl, rfl⟩) ?_
    have hc : 0 ≤ c ∧ c ≤ (n : Int) - 1 := by
      simp only [List.mem_cons, List.not_mem_nil, or_false] at hx
      rcases hx with z | z <;> (subst z; omega)
    rw [decide_eq_true hc.1, decide_eq_true hc.2]
    rfl
  · exact re_ret (ev_is (ev_op (ev_op (ev_var rfl) ev_int (rv_ixT (d := .int p.1) rfl)) (ev_op (ev_var rfl) ev_int (rv_ixT (d := .int p.2) rfl)) rv_B0) (by rw [decide_eq_true h2]))
theorem lexLt2 {p q : Int × Int} (h : FP.PLt p q) : HT.lexLt [p.1, p.2] [q.1, q.2] = true := by
  unfold FP.PLt at h
  rw [HT.lexLt_cons]
  rcases h with h | ⟨h1, h2⟩
  · rw [if_neg (by omega)]; exact decide_eq_true h
  · rw [if_pos h1, HT.lexLt_cons, if_neg (by omega)]; exact decide_eq_true h2
theorem zip_drop : ∀ {l : List (Int × Int)}, l.Pairwise FP.PLt → ∀ x ∈ l.zip (l.drop 1), FP.PLt x.1 x.2
  | [], _, x, hx => by simp at hx
  | [a], _, x, hx => by simp at hx
  | a :: b :: r, .cons h t, x, hx => by
    have e : (a :: b :: r).zip ((a :: b :: r).drop 1) = (a, b) :: (b :: r).zip ((b :: r).drop 1) := rfl
    rw [e] at hx
    rcases List.mem_cons.mp hx with z | z
    · rw [z]; exact h b List.mem_cons_self
    · exact zip_drop t x z
def R_are_ties (ds : List D) (z : D) : Prop := ∃ (n : Nat) (ts : List (Int × Int)), ds = [.int n, .tup (ts.map pD)] ∧ (∀ p ∈ ts, 0 ≤ p.1 ∧ p.1 < p.2 ∧ p.2 < (n : Int)) ∧ ts.Pairwise FP.PLt ∧ ts.length ≤ 90000 ∧ z = .bl true
theorem ok_are_ties (T : Txt K mg) : FnOk P w K mg base CX0 4 T.are_ties.a T.are_ties.fd P_are_ties (spD K R_are_ties) :=
  fn_pure R_are_ties T.are_ties.F sc_are_ties (fun ds z ⟨n, ts, e, _⟩ => by rw [e]; rfl) (by decide) fun cdv A outer s H E hr => by
  refine ⟨_, (pss_cons (ps_if (PW.pt (pw_or (pt_not (pt_val (pe_callB (call_isiK (K := K) rfl) (by rfl) T.n_isinstance (by rfl) (pa_cons (pv 1) (pa_cons (pe_bltn (v := .ty "tuple") (u := .type "tuple") rfl T.n_tuple (by rfl) rfl) pa_nil))))) (pw_or1 (pt_not (pt_val (pe_callB (cr_allK (K := K) rfl rfl) (by rfl) T.n_all (by rfl) (pa_cons (pe_lc (own := [("tie", 2)]) rfl sc_are_ties.nd (pi_tupleK (K := K) rfl (pv 1)) (blkOk_by (N := N_are_ties) (sc := (defScope s_are_ties)) (by decide +kernel)) (fun _ _ _ _ _ => (pg_name (i := 2) sc_are_ties.nd rfl (by first | exact Or.inl rfl | exact Or.inr rfl))) (fun _ _ _ _ _ => pts_nil) (fun _ _ _ _ _ => (pe_call (ok_is_tie T) (hr.mono (by decide)) rfl T.m_is_tie T.is_tie.F.kp T.is_tie.b .nil pass0 (pa_cons (pv 0) (pa_cons (pv 2) pa_nil))))) pa_nil))))))) (pss_one (ps_ret pe_bl)) pss_nil) (pss_one (ps_ret (pe_callB (cr_allK (K := K) rfl rfl) (by rfl) T.n_all (by rfl) (pa_cons (pe_lc (own := [("one", 3), ("other", 4)]) rfl sc_are_ties.nd (pi_zipK (K := K) rfl rfl T.n_zip (pa_cons (pv 1) (pa_cons (pe_slice (sl_tupK (K := K) rfl) (pv 1) (po_some pe_int) po_none) pa_nil))) (blkOk_by (N := N_are_ties) (sc := (defScope s_are_ties)) (by decide +kernel)) (fun _ _ _ _ _ => (pg_tupK (K := K) (n := 2) rfl rfl (pgs_cons (pg_name (i := 3) sc_are_ties.nd rfl (by first | exact Or.inl rfl | exact Or.inr rfl)) (pgs_cons (pg_name (i := 4) sc_are_ties.nd rfl (by first | exact Or.inl rfl | exact Or.inr rfl)) pgs_nil)))) (fun _ _ _ _ _ => pts_nil) (fun _ _ _ _ _ => (pe_cmpR (op_ltTK (K := K) rfl hr.units0) (pv 3) (pv 4) (nomark _)))) pa_nil))))), fun ds z ⟨n, ts, e, h1, h2, hl, ez⟩ => ?_⟩
  subst e ez
  refine re_seq (nx_pass (et_is (et_or (a := false) (b := false) (et_not (a := true) (et_B (ev_cb (ea2 (ev_var rfl) ev_ty) (rc_isi (n := "tuple") rfl (by decide +kernel))))) fun _ => et_not (a := true) (et_B ?_)) rfl)) ?_
  · refine ev_allT ts pD (fun p => [.val (.int n), .val (.tup (ts.map pD)), .val (pD p), .non, .non]) (it_tup (ev_var rfl)) (fun c _ => ge_name (by simp)) (fun p hx => ?_) (by omega)
    exact ev_call (ea2 (ev_var rfl) (ev_var rfl)) ⟨n, p, rfl, (h1 p hx).1, (h1 p hx).2.1, (h1 p hx).2.2, rfl⟩
  · refine re_ret (ev_allT (ts.zip (ts.drop 1)) (fun x => .tup [pD x.1, pD x.2]) (fun x => [.val (.int n), .val (.tup (ts.map pD)), .non, .val (pD x.1), .val (pD x.2)]) ?_ (fun c _ => ge_two (by simp) (by simp)) (fun x hx => ?_) (by rw [List.length_zip]; omega))
    · have e : zipD (ts.map pD) ((ts.map pD).drop 1) = (ts.zip (ts.drop 1)).map fun x => .tup [pD x.1, pD x.2] := by
        unfold zipD
        rw [← List.map_drop, List.zip_map, List.map_map]
        rfl
      rw [← e]
      exact it_zipT (ev_var rfl) (ev_slT (n := 1) (ev_var rfl))
    · refine ev_is (ev_op (ev_var rfl) (ev_var rfl) (rv_ltT (ns := [x.1.1, x.1.2]) (ms := [x.2.1, x.2.2]))) ?_
      rw [lexLt2 (zip_drop h2 x hx)]
end
end FB
set_option Elab.async false
set_option autoImplicit false
set_option linter.all false
set_option maxRecDepth 100000
/-! Webs: their parts, their making. -/
namespace FB
open PySem PySem.Spec PyProof.Rows L2 SlX FA
open FP (Wb OkW)
/-- a web as a datum -/
def nbD (v : Wb) (a : Int) : D := .dic ((v.nb a).map fun b => (.inl b, .bl true))
def wFs (v : Wb) : List D := [.tup (v.cols.map .int), .tup ((FP.pts v.n).map (nbD v)), .tup (v.ts.map pD)]
def wD (C : Addr) (v : Wb) : D := .obj C (wFs v)
section
variable {P : Program} {w : World} {K : PySem.W.Frag} {mg : Str → Option Value} {base : Heap} {es : Es} {ta tb tc : TE}
def R_Web_colours (C : Addr) (ds : List D) (z : D) : Prop := ∃ v, ds = [wD C v] ∧ z = .tup (v.cols.map .int)
theorem ok_Web_colours (T : Txt K mg) : FnOk P w K mg base CX0 1 T.Web_colours.a T.Web_colours.fd P_Web_colours (spD K (R_Web_colours T.C)) :=
  fn_pure _ T.Web_colours.F sc_Web_colours (fun ds z ⟨v, e, _⟩ => by rw [e]; rfl) (by decide) fun cdv A outer s H E hr => by
  refine ⟨_, (pss_one (ps_ret (pe_slK (K := K) rfl (pv 0)))), fun ds z ⟨v, e, ez⟩ => ?_⟩
  subst e ez
  exact re_ret (ev_sl (ev_var rfl) T.cls T.sl0 rfl)
def R_Web_ties (C : Addr) (ds : List D) (z : D) : Prop := ∃ v : Wb, ds = [wD C v] ∧ z = .tup (v.ts.map pD)
theorem ok_Web_ties (T : Txt K mg) : FnOk P w K mg base CX0 1 T.Web_ties.a T.Web_ties.fd P_Web_ties (spD K (R_Web_ties T.C)) :=
  fn_pure _ T.Web_ties.F sc_Web_ties (fun ds z ⟨v, e, _⟩ => by rw [e]; rfl) (by decide) fun cdv A outer s H E hr => by
  refine ⟨_, (pss_one (ps_ret (pe_slK (K := K) rfl (pv 0)))), fun ds z ⟨v, e, ez⟩ => ?_⟩
  subst e ez
  exact re_ret (ev_sl (ev_var rfl) T.cls T.sl2 rfl)
def R_Web_len (C : Addr) (ds : List D) (z : D) : Prop := ∃ v : Wb, ds = [wD C v] ∧ z = .int v.n
theorem ok_Web_len (T : Txt K mg) : FnOk P w K mg base CX0 1 T.Web_len.a T.Web_len.fd P_Web_len (spD K (R_Web_len T.C)) :=
  fn_pure _ T.Web_len.F sc_Web_len (fun ds z ⟨v, e, _⟩ => by rw [e]; rfl) (by decide) fun cdv A outer s H E hr => by
  refine ⟨_, (pss_one (ps_ret (pe_callB (call_lenK (K := K) rfl) (by rfl) T.n_len PySem.boot_len (pa_cons (pe_slK (K := K) rfl (pv 0)) pa_nil)))), fun ds z ⟨v, e, ez⟩ => ?_⟩
  subst e ez
  exact re_ret (ev_is (ev_cb (ea1 (ev_sl (ev_var rfl) T.cls T.sl0 rfl)) rc_lenT) (by rw [List.length_map]; rfl))
def R_Web_degrees (C : Addr) (ds : List D) (z : D) : Prop := ∃ v : Wb, ds = [wD C v] ∧ v.n ≤ 40 ∧ z = .tup ((FP.pts v.n).map fun a => .int ((v.nb a).length : Int))
theorem ok_Web_degrees (T : Txt K mg) : FnOk P w K mg base CX0 1 T.Web_degrees.a T.Web_degrees.fd P_Web_degrees (spD K (R_Web_degrees T.C)) :=
  fn_pure _ T.Web_degrees.F sc_Web_degrees (fun ds z ⟨v, e, _⟩ => by rw [e]; rfl) (by decide) fun cdv A outer s H E hr => by
  refine ⟨_, (pss_one (ps_ret (pe_tupleOfK (K := K) rfl rfl T.n_tuple (pe_lc (own := [("near", 1)]) rfl sc_Web_degrees.nd (pi_tupleK (K := K) rfl (pe_slK (K := K) rfl (pv 0))) (blkOk_by (N := N_Web_degrees) (sc := (defScope s_Web_degrees)) (by decide +kernel)) (fun _ _ _ _ _ => (pg_name (i := 1) sc_Web_degrees.nd rfl (by first | exact Or.inl rfl | exact Or.inr rfl))) (fun _ _ _ _ _ => pts_nil) (fun _ _ _ _ _ => (pe_callB call_lenDR (by rfl) T.n_len PySem.boot_len (pa_cons (pv 1) pa_nil))))))), fun ds z ⟨v, e, hn, ez⟩ => ?_⟩
  subst e ez
  refine re_ret (ev_tupL (ef_lcm (FP.pts v.n) (nbD v) (fun a => .int ((v.nb a).length : Int)) (fun a => [.val (wD T.C v), .val (nbD v a)]) (it_tup (ev_sl (ev_var rfl) T.cls T.sl1 rfl)) (fun c _ => ge_name (by simp)) (fun a _ => ?_) (by rw [FP.pts_len]; omega)).e)
  exact ev_is (ev_cb (ea1 (ev_var rfl)) rc_lenD) (by rw [List.length_map])
/-- near[a][b] = True -/
theorem put_near {σ : L2.St} {H H0 F : Hp} {p q : Addr} {ps : List Addr} {a b : Int} {k : List Int} {j1 j2 : Nat} (s : Sta K σ H H0 F es) (h3 : es[3]? = some (.val (.adr p))) (h1 : es[j1]? = some (.val (.int a))) (h2 : es[j2]? = some (.val (.int b))) (hF : F p = some (.lst (ps.map V.ref))) (a0 : 0 ≤ a) (ha : ps[a.toNat]? = some q)
    (hq : F q = some (.dK (kvT k))) (hl : k.length < 90000) (no : noOwnB es = true) (D0 : Ends) (c : Sta K σ (upd H q (.dK (kvT (pushK k b)))) H0 (upd F q (.dK (kvT (pushK k b)))) es → D0.nx σ (upd H q (.dK (kvT (pushK k b))))) :
    tAsg (tC (.bl true)) (gSub (tOp (rIxL K) (tVar 3) (tVar j1)) (tVar j2) rSetD) D0 σ H := by
  obtain ⟨v3, e3, a3⟩ := s.val 3 _ h3
  cases a3
  obtain ⟨v1, e1, a1⟩ := s.val j1 _ h1
  cases a1
  obtain ⟨v2, e2, a2⟩ := s.val j2 _ h2
  cases a2
  refine ⟨_, e3, _, e1, p, ps.map V.ref, a, .ref q, rfl, rfl, .inl (.inl (s.f _ _ hF)), ?_, _, e2, q, _, rfl, DPut.k (k := .inl b) (v := .bl true) (s.f _ _ hq) ?_, ?_⟩
  · have := atI_nat (xs := ps.map V.ref) (j := a.toNat) (v := .ref q) (by rw [List.getElem?_map, ha]; rfl)
    rw [Int.toNat_of_nonneg a0] at this
    exact this
  · unfold kvT; rw [List.length_map]; exact sz_lt (by omega)
  · rw [put_kvT]
    exact c (s.poke hq)
/-- near while the ties are put in -/
structure NearI (ts : List (Int × Int)) (x p : Addr) (ps : List Addr) (c t : D) (F4 : Hp) (i : Nat) (e : Es) (F : Hp) : Prop where
  es : ∃ d5 d6 : E1, e = [.val (.adr x), .val c, .val t, .val (.adr p), .non, d5, d6, .non, .non] ∧ noOwnB [d5, d6] = true
  lst : F p = some (.lst (ps.map V.ref))
  oth : ∀ a, a ≠ p → a ∉ ps → F a = F4 a
  dic : ∃ ks : Int → List Int, (∀ (j : Nat) (a : Addr), ps[j]? = some a → F a = some (.dK (kvT (ks j)))) ∧ ∀ y, (ks y).Nodup ∧ (ks y).length ≤ i ∧ ∀ z, z ∈ ks y ↔ (y, z) ∈ ts.take i ∨ (z, y) ∈ ts.take i
theorem mem_take_succ {ts : List (Int × Int)} {i : Nat} {t : Int × Int} (h : ts[i]? = some t) (u : Int × Int) : u ∈ ts.take (i + 1) ↔ u ∈ ts.take i ∨ u = t := by
  rw [List.take_succ, h, List.mem_append]
  simp
theorem near_step {ts : List (Int × Int)} {n : Nat} (ok : ∀ t ∈ ts, 0 ≤ t.1 ∧ t.1 < t.2 ∧ t.2 < (n : Int)) (hl : ts.length ≤ 5000) {x p : Addr} {ps : List Addr} {c t : D} {F4 : Hp} (pl : ps.length = n) (pn : ps.Nodup) (pp : p ∉ ps) (i : Nat) (y : D) (e : Es) (F : Hp) (hy : (ts.map pD)[i]? = some y) (I : NearI ts x p ps c t F4 i e F) :
    ∃ e1, GE K (gTup K 2 (gCons (gName 5) (gCons (gName 6) gNil))) [5, 6] e y e1 ∧ ∀ (D0 : Ends) (σ : L2.St) (H H0 : Hp), Sta K σ H H0 F e1 → (∀ (σ' : L2.St) (H' H0' : Hp) (e' : Es) (F' : Hp), NearI ts x p ps c t F4 (i + 1) e' F' → Sta K σ' H' H0' F' e' → Same H0 H0' → D0.nx σ' H') →
      tSeq (tAsg (tC (.bl true)) (gSub (tOp (rIxL K) (tVar 3) (tVar 5)) (tVar 6) rSetD)) (tAsg (tC (.bl true)) (gSub (tOp (rIxL K) (tVar 3) (tVar 6)) (tVar 5) rSetD)) D0 σ H := by
  obtain ⟨d5, d6, rfl, no⟩ := I.es
  rw [List.getElem?_map] at hy
  cases ht : ts[i]? with
  | none => rw [ht] at hy; cases hy
  | some tt =>
    rw [ht] at hy
    cases hy
    obtain ⟨a, b⟩ := tt
    have hi : i < ts.length := (List.getElem?_eq_some_iff.mp ht).1
    obtain ⟨o1, o2, o3⟩ := ok (a, b) (List.mem_of_getElem? ht)
    simp only at o1 o2 o3
    refine ⟨[.val (.adr x), .val c, .val t, .val (.adr p), .non, .val (.int a), .val (.int b), .non, .non], ge_two (x := .int a) (y := .int b) (es := [.val (.adr x), .val c, .val t, .val (.adr p), .non, d5, d6, .non, .non]) (by simp) (by simp), fun D0 σ H H0 s q => ?_⟩
    obtain ⟨ks, k1, k2⟩ := I.dic
    obtain ⟨qa, ha⟩ : ∃ q, ps[a.toNat]? = some q := ⟨_, List.getElem?_eq_getElem (by omega)⟩
    obtain ⟨qb, hb⟩ : ∃ q, ps[b.toNat]? = some q := ⟨_, List.getElem?_eq_getElem (by omega)⟩
    have nab : qa ≠ qb := fun z => by
      have := (List.getElem?_inj (List.getElem?_eq_some_iff.mp ha).1 pn).mp (ha.trans (by rw [z]; exact hb.symm))
      omega
    have pa : p ≠ qa := fun z => pp (z ▸ List.mem_of_getElem? ha)
    have pb : p ≠ qb := fun z => pp (z ▸ List.mem_of_getElem? hb)
    have fa := k1 _ _ ha
    have fb := k1 _ _ hb
    rw [Int.toNat_of_nonneg o1] at fa
    rw [Int.toNat_of_nonneg (by omega)] at fb
    have la := (k2 a).2.1
    have lb := (k2 b).2.1
    refine put_near (K := K) s rfl rfl rfl I.lst o1 ha fa (by omega) rfl { D0 with nx := _ } fun s1 => ?_
    refine put_near (K := K) s1 rfl rfl rfl (by rw [upd_ne pa]; exact I.lst) (by omega) hb (by rw [upd_ne (Ne.symm nab)]; exact fb) (by omega) rfl D0 fun s2 => ?_
    refine q _ _ _ _ _ ⟨⟨_, _, rfl, rfl⟩, by rw [upd_ne pb, upd_ne pa]; exact I.lst, fun u u1 u2 => ?_, fun y => if y = a then pushK (ks a) b else if y = b then pushK (ks b) a else ks y, fun j u hu => ?_, fun y => ?_⟩ s2 (Same.refl _)
    · rw [upd_ne (a := qb) (fun z => u2 (by rw [z]; exact List.mem_of_getElem? hb)), upd_ne (a := qa) (fun z => u2 (by rw [z]; exact List.mem_of_getElem? ha))]
      exact I.oth u u1 u2
    · show _ = some (HO.dK (kvT (if (j : Int) = a then pushK (ks a) b else if (j : Int) = b then pushK (ks b) a else ks j)))
      by_cases j1 : (j : Int) = a
      · have e : j = a.toNat := by omega
        rw [e, ha] at hu
        cases hu
        rw [upd_ne nab, upd_same, if_pos j1]
      · rw [if_neg j1]
        by_cases j2 : (j : Int) = b
        · have e : j = b.toNat := by omega
          rw [e, hb] at hu
          cases hu
          rw [upd_same, if_pos j2]
        · rw [if_neg j2]
          have n1 : u ≠ qa := fun z => by
            have := (List.getElem?_inj (List.getElem?_eq_some_iff.mp hu).1 pn).mp (hu.trans (by rw [z]; exact ha.symm))
            omega
          have n2 : u ≠ qb := fun z => by
            have := (List.getElem?_inj (List.getElem?_eq_some_iff.mp hu).1 pn).mp (hu.trans (by rw [z]; exact hb.symm))
            omega
          rw [upd_ne n2, upd_ne n1]
          exact k1 j u hu
    · obtain ⟨m1, m2, m3⟩ := k2 y
      have st := fun u => mem_take_succ (i := i) ht u
      simp only [st]
      by_cases j1 : y = a
      · subst j1
        simp only [if_true]
        refine ⟨nodup_pushK m1, by have := pushK_len (ks := ks y) (k := b); omega, fun z => ?_⟩
        rw [mem_pushK, m3 z]
        simp only [Prod.mk.injEq, true_and]
        constructor
        · rintro ((h | h) | h)
          · exact .inl (.inl h)
          · exact .inr (.inl h)
          · exact .inl (.inr h)
        · rintro ((h | h) | (h | ⟨h1, h2⟩))
          · exact .inl (.inl h)
          · exact .inr h
          · exact .inl (.inr h)
          · omega
      · rw [if_neg j1]
        by_cases j2 : y = b
        · subst j2
          simp only [if_true]
          refine ⟨nodup_pushK m1, by have := pushK_len (ks := ks y) (k := a); omega, fun z => ?_⟩
          rw [mem_pushK, m3 z]
          simp only [Prod.mk.injEq, and_true]
          constructor
          · rintro ((h | h) | h)
            · exact .inl (.inl h)
            · exact .inr (.inl h)
            · exact .inr (.inr h)
          · rintro ((h | ⟨h1, h2⟩) | (h | h))
            · exact .inl (.inl h)
            · exact absurd h1 j1
            · exact .inl (.inr h)
            · exact .inr h
        · rw [if_neg j2]
          refine ⟨m1, by omega, fun z => ?_⟩
          rw [m3 z]
          simp only [Prod.mk.injEq, j1, j2, false_and, and_false, or_false]
end
end FB
set_option Elab.async false
set_option autoImplicit false
set_option linter.all false
set_option maxRecDepth 100000
/-! Webs made. -/
namespace FB
open PySem PySem.Spec PyProof.Rows L2 SlX FA
open FP (Wb OkW)
section
variable {P : Program} {w : World} {K : PySem.W.Frag} {mg : Str → Option Value} {base : Heap} {es : Es} {ta tb tc : TE}
def R_init (ds fs : List D) : Prop := ∃ v : Wb, OkW v ∧ ds = [.tup (v.cols.map .int), .tup (v.ts.map pD)] ∧ fs = wFs v
theorem mem_nb_of {v : Wb} (o : OkW v) {k : List Int} {y : Int} (nd : k.Nodup) (h : ∀ z, z ∈ k ↔ (y, z) ∈ v.ts ∨ (z, y) ∈ v.ts) : (v.nb y).Perm k := by
  refine (List.perm_ext_iff_of_nodup (v.nb_nodup y) nd).mpr fun z => ?_
  rw [FP.Wb.mem_nb o, h z]
  unfold FP.Wb.adj
  rw [decide_eq_true_eq]
theorem seq_asg {te : TE} {g : TG} {tu : TS} {D0 : Ends} {σ : L2.St} {H : Hp} (h : te σ H fun x H1 => g x σ H1 (tu D0)) : tSeq (tAsg te g) tu D0 σ H := h
theorem asg_end {te : TE} {g : TG} {D0 : Ends} {σ : L2.St} {H : Hp} (h : te σ H fun x H1 => g x σ H1 D0.nx) : tAsg te g D0 σ H := h
theorem seq_for {wi : TI} {g : TG} {tl tu : TS} {D0 : Ends} {σ : L2.St} {H : Hp} (h : tFor wi g tl { D0 with nx := tu D0 } σ H) : tSeq (tFor wi g tl) tu D0 σ H := h
/-- the slots of a new instance -/
theorem slots_sta {σ : L2.St} {H H0 F : Hp} {x C dx : Addr} {vs : List (Option V)} (s : Sta K σ H H0 F es) (n1 : H0 x = none) (n2 : H0 dx = none) (no : noOwnB es = true) : Sta K σ (slH H x C dx vs) H0 (slH F x C dx vs) es := (s.poke' n2 no).poke' n1 no
theorem ok_Web_init (T : Txt K mg) : FnOk P w K mg base CX0 5 T.Web_init.a T.Web_init.fd P_Web_init (spInit K T.C R_init) := by
  refine T.Web_init.F.ok sc_Web_init (fun vs H Q E h => ?_) (fun cdv A outer s H vs Q E hr h => ?_)
  · obtain ⟨H0, x, dx, ws, ds, fs, rfl, _, _, _, _, _, _, al, ⟨v, _, e, _⟩, _⟩ := h
    rw [List.length_cons, al.length, e]
    rfl
  · obtain ⟨H0, x, dx, ws, ds, fs, rfl, hx, hdx, nx, ndx, ne, h0, al, ⟨v, ok, e1, e2⟩, k⟩ := h
    subst e1 e2
    refine ⟨_, (pss_cons (ps_if (pt_not (pt_val (pe_call (ok_are_colours T) (hr.mono (by decide)) rfl T.m_are_colours T.are_colours.F.kp T.are_colours.b .nil pass0 (pa_cons (pv 1) pa_nil)))) pss_never pss_nil) (pss_cons (ps_if (pt_not (pt_val (pe_call (ok_are_ties T) (hr.mono (by decide)) rfl T.m_are_ties T.are_ties.F.kp T.are_ties.b .nil pass0 (pa_cons (pe_callB (call_lenK (K := K) rfl) (by rfl) T.n_len PySem.boot_len (pa_cons (pv 1) pa_nil)) (pa_cons (pv 2) pa_nil))))) pss_never pss_nil) (pss_cons (ps_asg (pe_tup (pa_cons (pv 1) (pa_cons (pv 2) pa_nil))) (pg_tupK (K := K) (n := 2) rfl rfl (pgs_cons (pg_slK (K := K) rfl (pv 0)) (pgs_cons (pg_slK (K := K) rfl (pv 0)) pgs_nil)))) (pss_cons (ps_setLc (i := 3) (own := [("colour", 4)]) rfl sc_Web_init.nd rfl rfl (sw_true rfl rfl rfl (by decide +kernel)) (pi_tupleK (K := K) rfl (pv 1)) (blkOk_by (N := N_Web_init) (sc := (defScope s_Web_init)) (by decide +kernel)) (fun _ _ _ _ _ => (pg_name (i := 4) sc_Web_init.nd rfl (by first | exact Or.inl rfl | exact Or.inr rfl))) (fun _ _ _ _ _ => pts_nil) (fun _ _ _ _ _ => pe_dnewK)) (pss_cons (ps_for PassesOwn.never rfl (pi_tupleK (K := K) rfl (pv 2)) (pg_tupK (K := K) (n := 2) rfl rfl (pgs_cons (pg_name (i := 5) sc_Web_init.nd rfl (by first | exact Or.inl rfl | exact Or.inr rfl)) (pgs_cons (pg_name (i := 6) sc_Web_init.nd rfl (by first | exact Or.inl rfl | exact Or.inr rfl)) pgs_nil))) (pss_cons (ps_asg pe_bl (pg_sub (pe_ix (ix_listK (K := K) rfl) (pv 3) (pv 5) (fun _ _ => rfl)) (pv 6) (set_dict (hu_of hr)))) (pss_one (ps_asg pe_bl (pg_sub (pe_ix (ix_listK (K := K) rfl) (pv 3) (pv 6) (fun _ _ => rfl)) (pv 5) (set_dict (hu_of hr))))))) (pss_one (ps_asg (pe_tupleOfK (K := K) rfl rfl T.n_tuple (pe_lc (own := [("told", 7)]) rfl sc_Web_init.nd (pi_listK (K := K) rfl (pv 3)) (blkOk_by (N := N_Web_init) (sc := (defScope s_Web_init)) (by decide +kernel)) (fun _ _ _ _ _ => (pg_name (i := 7) sc_Web_init.nd rfl (by first | exact Or.inl rfl | exact Or.inr rfl))) (fun _ _ _ _ _ => pts_nil) (fun _ _ _ _ _ => (pe_dc (own := [("point", 8)]) rfl sc_Web_init.nd (pi_listK (K := K) rfl (pe_callB (call_sortedDI rfl) (by rfl) T.n_sorted (by rfl) (pa_cons (pv 7) pa_nil))) (blkN (N := N_Web_init) (defScope s_Web_init) rfl (by decide +kernel)) (fun _ _ _ _ _ => (pg_name (i := 8) sc_Web_init.nd rfl (by first | exact Or.inl rfl | exact Or.inr rfl))) (fun _ _ _ _ _ => pts_nil) (fun _ _ _ _ _ => (pv 8)) (fun _ _ _ _ _ => pe_bl))))) (pg_slK (K := K) rfl (pv 0))))))))), ?_⟩
    let F : Hp := fun a => if H0 a = none then H a else none
    have s0 : Sta K (L2.start N_Web_init (V.ref x :: ws)) H H0 F [.val (.adr x), .val (.tup (v.cols.map .int)), .val (.tup (v.ts.map pD)), .non, .non, .non, .non, .non, .non] :=
      sta_start (N := N_Web_init) (ds := [.adr x, .tup (v.cols.map .int), .tup (v.ts.map pD)]) h0 (.cons .adr al) (fun a o e => by
        show H a = some o
        have e : (if H0 a = none then H a else none) = some o := e
        split at e
        · exact e
        · cases e) (fun a o e => by
        have e : (if H0 a = none then H a else none) = some o := e
        split at e
        · assumption
        · cases e)
    have Fold : ∀ a o, H a = some o → H0 a = none → F a = some o := fun a o e n => by
      show (if H0 a = none then H a else none) = some o
      rw [if_pos n]
      exact e
    -- the two tests
    refine seqN (nx_pass (et_not (a := true) (et_B (ev_call (ea1 (ev_var rfl)) ⟨v.cols, rfl, ok.few, ok.col, rfl⟩)))) s0 fun σ1 H1 H01 s1 b1 => ?_
    refine seqN (nx_pass (et_not (a := true) (et_B (ev_call (ea2 (ev_cb (ea1 (ev_var rfl)) rc_lenT) (ev_var rfl)) ⟨v.cols.length, v.ts, by rw [List.length_map], ok.tie, ok.asc, Nat.le_trans ok.lim (by decide), rfl⟩)))) s1 fun σ2 H2 H02 s2 b2 => ?_
    -- the slots
    refine seq_asg ?_
    refine (ev_tup (K := K) (ds := [.tup (v.cols.map .int), .tup (v.ts.map pD)]) (by exact ea2 (ev_var rfl) (ev_var rfl)) (by show 2 ≤ _; omega)) σ2 H2 H02 F s2 _ fun w3 H3 H03 st3 a3 => ?_
    have s3 := s2.stp st3
    obtain ⟨v0, e0, a0⟩ := s3.val 0 _ rfl
    cases a0
    cases a3 with
    | @tup p3 vs3 _ hs3 hl3 =>
      cases hl3 with
      | @cons v1 _ _ _ av1 hl3 =>
        cases hl3 with
        | @cons v2 _ _ _ av2 hl3 =>
          cases hl3
          have hx3 : H3 x = some (.ins T.C dx []) := s3.f _ _ (Fold _ _ hx nx)
          have n1 : H03 x = none := s3.ff _ _ (Fold _ _ hx nx)
          have n2 : H03 dx = none := s3.ff _ _ (Fold _ _ hdx ndx)
          refine ⟨p3, [v1, v2], rfl, same_t st3.c hs3, rfl, v1, [v2], rfl, _, e0, x, T.C, dx, _, [], 0, rfl, .inl ⟨hx3, rfl⟩, T.cls, T.sl0, v2, [], rfl, _, e0, x, T.C, dx, _, putS 0 v1 [], 2, rfl, slH_slt ne, T.cls, T.sl2, rfl, ?_⟩
          rw [slH_twice ne]
          have eV : putS 2 v2 (putS 0 v1 []) = [some v1, none, some v2] := rfl
          rw [eV]
          have s4 := slots_sta (x := x) (C := T.C) (dx := dx) (vs := [some v1, none, some v2]) s3 n1 n2 rfl
          generalize hH4 : slH H3 x T.C dx [some v1, none, some v2] = H4 at s4 ⊢
          generalize hF4 : slH F x T.C dx [some v1, none, some v2] = F4 at s4
          have F4x : F4 x = some (SlO x T.C dx [some v1, none, some v2]) := by rw [← hF4]; unfold slH; exact upd_same
          have F4d : F4 dx = some (.xd []) := by rw [← hF4]; unfold slH; rw [upd_ne ne, upd_same]
          have F4o : ∀ a o, a ≠ x → a ≠ dx → F a = some o → F4 a = some o := fun a o h1 h2 e => by rw [← hF4, slH_ne h1 h2]; exact e
          -- near, new
          refine seq_asg ?_
          refine en_lc v.cols D.int (fun c => [.val (.adr x), .val (.tup (v.cols.map .int)), .val (.tup (v.ts.map pD)), .non, .val (.int c), .non, .non, .non, .non]) σ2 H4 H03 F4 s4 (it_tup (ev_var rfl)) (fun c _ => ge_name (by simp)) (fun c _ => en_dic) (Nat.le_trans ok.few (by decide)) _ fun p ps H5 H05 hp st5 hl5 hn5 pl pn pp pa => ?_
          let F5 : Hp := fun a => if a = p then H5 a else if a ∈ ps then H5 a else F4 a
          have s5 : Sta K (σ2.set 3 (some (V.ref p))) H5 H05 F5 [.val (.adr x), .val (.tup (v.cols.map .int)), .val (.tup (v.ts.map pD)), .val (.adr p), .non, .non, .non, .non, .non] :=
            ((s4.stp st5).set (i := 3) (v := .ref p) .adr).frame rfl fun a o e => by
              have e : (if a = p then H5 a else if a ∈ ps then H5 a else F4 a) = some o := e
              split at e
              · rename_i h
                exact ⟨e, by rw [h]; exact hn5⟩
              · split at e
                · rename_i h
                  exact ⟨e, (pa a h).2.1⟩
                · exact ⟨(s4.stp st5).f a o e, (s4.stp st5).ff a o e⟩
          have F5p : F5 p = some (.lst (ps.map V.ref)) := by
            show (if p = p then H5 p else if p ∈ ps then H5 p else F4 p) = _
            rw [if_pos rfl]; exact hl5
          have F5q : ∀ a, a ∈ ps → F5 a = some (.dK []) := fun a h => by
            show (if a = p then H5 a else if a ∈ ps then H5 a else F4 a) = _
            rw [if_neg (fun z : a = p => pp (by rw [← z]; exact h)), if_pos h]; exact (pa a h).1
          have F5o : ∀ a o, F4 a = some o → F5 a = some o ∧ a ≠ p ∧ a ∉ ps := fun a o e => by
            have h4 := s4.f a o e
            have h1 : a ≠ p := ne_of_none h4 hp
            have h2 : a ∉ ps := fun z => by rw [(pa a z).2.2] at h4; cases h4
            refine ⟨?_, h1, h2⟩
            show (if a = p then H5 a else if a ∈ ps then H5 a else F4 a) = _
            rw [if_neg h1, if_neg h2]; exact e
          -- the ties
          refine seq_for ?_
          refine for_F (K := K) (vs := [5, 6]) (v.ts.map pD) (NearI v.ts x p ps (.tup (v.cols.map .int)) (.tup (v.ts.map pD)) F5) _ H5 H05 F5 s5 (fun R r => it_tup (ev_var rfl) _ H5 H05 F5 s5 R r) ⟨⟨.non, .non, rfl, rfl⟩, F5p, fun _ _ _ => rfl, fun _ => [], fun j a hj => F5q a (List.mem_of_getElem? hj), fun y => ⟨List.nodup_nil, Nat.le_refl _, fun z => by simp⟩⟩
            (fun i y e F hy I => near_step ok.tie ok.lim pl pn pp i y e F hy I) _ fun σ6 H6 H06 e6 F6 I6 s6 b6 => ?_
          rw [List.length_map] at I6
          obtain ⟨d5, d6, ee6, no6⟩ := I6.es
          obtain ⟨ks, k1, k2⟩ := I6.dic
          rw [List.take_length] at k2
          subst ee6
          have F6o : ∀ a o, F4 a = some o → F6 a = some o := fun a o e => by
            obtain ⟨h1, h2, h3⟩ := F5o a o e
            rw [I6.oth a h2 h3]; exact h1
          -- near, told
          have no6' : noOwnB [.val (.adr x), .val (.tup (v.cols.map .int)), .val (.tup (v.ts.map pD)), .val (.adr p), .non, d5, d6, .non, .non] = true := by
            cases d5 <;> cases d6 <;> first | rfl | (simp [noOwnB] at no6)
          have s7 := s6.tellAll (fun a => a = p ∨ a ∈ ps) no6'
          have t6 : Same H06 (telH (fun a => a = p ∨ a ∈ ps) H06 F6) := tel_same s6.ff
          generalize hH7 : telH (fun a => a = p ∨ a ∈ ps) H06 F6 = H07 at s7 t6
          have h7p : H07 p = some (.lst (ps.map V.ref)) := by
            rw [← hH7]; unfold telH
            rw [if_pos (.inl rfl), I6.lst]
          have h7q : ∀ (j : Nat) (a : Addr), ps[j]? = some a → H07 a = some (.dK (kvT (ks j))) := fun j a hj => by
            rw [← hH7]; unfold telH
            rw [if_pos (.inr (List.mem_of_getElem? hj)), k1 j a hj]
          generalize hF7 : (fun a => if a = p ∨ a ∈ ps then none else F6 a) = F7 at s7
          have F7o : ∀ a o, F4 a = some o → F7 a = some o := fun a o e => by
            obtain ⟨_, h2, h3⟩ := F5o a o e
            rw [← hF7]
            show (if a = p ∨ a ∈ ps then none else F6 a) = some o
            rw [if_neg (by rintro (z | z); exact h2 z; exact h3 z)]
            exact F6o a o e
          have near7 : At K H07 (.ref p) (.lst ((FP.pts v.n).map fun y => D.dic ((ks y).map fun b => (.inl b, .bl true)))) := by
            refine .lst (.inl (.inl h7p)) (AtL.of_get ?_ fun i u d hu hd => ?_)
            · rw [List.length_map, List.length_map, FP.pts_len]; exact pl
            · rw [List.getElem?_map] at hu hd
              cases hpi : ps[i]? with
              | none => rw [hpi] at hu; cases hu
              | some a =>
                rw [hpi] at hu
                cases hu
                have hin : i < v.n := by
                  have := (List.getElem?_eq_some_iff.mp hpi).1
                  rw [pl] at this
                  exact this
                rw [FP.pts_get hin] at hd
                cases hd
                exact .dic (.inl (h7q i a hpi)) AtK.trues
          obtain ⟨v3, e3, a3⟩ := s7.val 3 _ rfl
          cases a3
          have s8 := s7.known e3 near7
          -- own_near
          dsimp only
          refine asg_end ?_
          refine (ev_tupL (K := K) (es := [.val (.adr x), .val (.tup (v.cols.map .int)), .val (.tup (v.ts.map pD)), .val (.lst ((FP.pts v.n).map fun y => D.dic ((ks y).map fun b => (.inl b, .bl true)))), .non, d5, d6, .non, .non]) (ds := (FP.pts v.n).map (nbD v)) (ef_lcm (FP.pts v.n) (fun y => D.dic ((ks y).map fun b => (.inl b, .bl true))) (nbD v)
            (fun y => [.val (.adr x), .val (.tup (v.cols.map .int)), .val (.tup (v.ts.map pD)), .val (.lst ((FP.pts v.n).map fun y => D.dic ((ks y).map fun b => (.inl b, .bl true)))), .non, d5, d6, .val (D.dic ((ks y).map fun b => (.inl b, .bl true))), .non]) (it_lst (ev_var rfl)) (fun y _ => ge_name (by simp)) (fun y _ => ?_) (by rw [FP.pts_len]; exact Nat.le_trans ok.few (by decide))).e) _ H6 H07 F7 s8 _ fun w9 H9 H09 st9 a9 => ?_
          · have pm := mem_nb_of ok (k2 y).1 (k2 y).2.2
            refine ev_dc (key := fun b => .inl b) (v.nb y) D.int (fun _ => D.bl true) (fun b => [.val (.adr x), .val (.tup (v.cols.map .int)), .val (.tup (v.ts.map pD)), .val (.lst ((FP.pts v.n).map fun y => D.dic ((ks y).map fun b => (.inl b, .bl true)))), .non, d5, d6, .val (D.dic ((ks y).map fun b => (.inl b, .bl true))), .val (.int b)])
              (it_lst (ef_sortDI (ks := ks y) (ev_var rfl) (by rw [List.map_map]; rfl) ?_ pm (v.nb_asc y)).e) (fun b _ => ge_name (by simp)) (fun b _ => ev_var rfl) (fun b _ => ev_bl) ?_ ?_
            · rw [← pm.length_eq]
              exact Nat.lt_of_le_of_lt (v.nb_len y) (Nat.lt_of_le_of_lt ok.few (by decide))
            · exact List.nodup_iff_pairwise_ne.mpr (List.pairwise_map.mpr ((List.nodup_iff_pairwise_ne.mp (v.nb_nodup y)).imp fun h z => h (Sum.inl.inj z)))
            · exact Nat.le_trans (v.nb_len y) (Nat.le_trans ok.few (by decide))
          · have s9 := s8.stp st9
            obtain ⟨v9, e9, a9'⟩ := s9.val 0 _ rfl
            cases a9'
            have x9 := s9.f _ _ (F7o _ _ F4x)
            have d9 := s9.f _ _ (F7o _ _ F4d)
            refine ⟨_, e9, x, T.C, dx, _, _, 1, rfl, .inr ⟨x9, d9⟩, T.cls, T.sl1, ?_⟩
            have b37 : Same H03 H09 := (st5.b.trans (b6.trans (t6.trans st9.b)))
            have n1' := s9.ff _ _ (F7o _ _ F4x)
            have n2' := s9.ff _ _ (F7o _ _ F4d)
            refine k [v1, w9, v2] _ H09 ?_ ?_ (.cons (av1.mono b37) (.cons a9 (.cons (av2.mono b37) .nil))) n1' n2' (b1.trans (b2.trans (st3.b.trans b37))) (fun a o e => ?_) (fun a o h1 h2 e => ?_) (fun a o e n => ?_)
            · have eV2 : putS 1 w9 [some v1, none, some v2] = [v1, w9, v2].map some := rfl
              rw [eV2]; unfold slH; exact upd_same
            · unfold slH; rw [upd_ne ne, upd_same]
            · rw [slH_ne (ne_of_none e n1') (ne_of_none e n2')]
              exact s9.h0 a o e
            · rw [slH_ne h1 h2]
              by_cases n : H0 a = none
              · exact s9.f a o (F7o a o (F4o a o h1 h2 (Fold a o e n)))
              · cases q : H0 a with
                | none => exact absurd q n
                | some u =>
                  have z1 := h0 a u q
                  rw [e] at z1
                  cases z1
                  exact s9.h0 a o ((b1.trans (b2.trans (st3.b.trans b37))) a o q)
            · by_cases h1 : a = x
              · rw [h1]; exact n1'
              · by_cases h2 : a = dx
                · rw [h2]; exact n2'
                · exact s9.ff a o (F7o a o (F4o a o h1 h2 (Fold a o e n)))
end
end FB
set_option Elab.async false
set_option autoImplicit false
set_option linter.all false
set_option maxRecDepth 100000
/-! Webs made of webs. -/
namespace FB
open PySem PySem.Spec PyProof.Rows L2 SlX FA
open FP (Wb OkW)
section
variable {P : Program} {w : World} {K : PySem.W.Frag} {mg : Str → Option Value} {base : Heap} {es : Es} {ta tb tc te : TE}
theorem ev_len {C : Addr} {E : XK} {v : Wb} (h : EvE K te es (wD C v)) (hn : v.n ≤ 1000) : EvE K (tCB (rLenSl C (spD K (R_Web_len C)) E) (tCons te tNil)) es (.int v.n) :=
  ev_cb (ea1 h) (rc_lenSl ⟨v, rfl, rfl⟩ (by omega))
theorem ok_n {v : Wb} (o : OkW v) : v.n ≤ 40 := o.few
def R_is_tied_in (C : Addr) (ds : List D) (z : D) : Prop := ∃ (v : Wb) (a b : Int), OkW v ∧ ds = [wD C v, .int a, .int b] ∧ 0 ≤ a ∧ a < v.n ∧ z = .bl (v.adj a b)
theorem ok_is_tied_in (T : Txt K mg) : FnOk P w K mg base CX0 1 T.is_tied_in.a T.is_tied_in.fd P_is_tied_in (spD K (R_is_tied_in T.C)) :=
  fn_pure _ T.is_tied_in.F sc_is_tied_in (fun ds z ⟨v, a, b, _, e, _⟩ => by rw [e]; rfl) (by decide) fun cdv A outer s H E hr => by
  refine ⟨_, (pss_one (ps_ret (pe_cmp (pc_din (hu_of hr) (pv 2) (pe_ix (ix_tupK (K := K) rfl) (pe_slK (K := K) rfl (pv 0)) (pv 1) (fun _ _ => rfl)))))), fun ds z ⟨v, a, b, o, e, h0, h1, ez⟩ => ?_⟩
  subst e ez
  have hi : atI ((FP.pts v.n).map (nbD v)) a = some (nbD v a) := by
    have := atI_nat (xs := (FP.pts v.n).map (nbD v)) (j := a.toNat) (v := nbD v a) (by rw [List.getElem?_map, FP.pts_get (by omega), Int.toNat_of_nonneg h0]; rfl)
    rw [Int.toNat_of_nonneg h0] at this
    exact this
  refine re_ret (ev_is (ev_din (k := .inl b) (ev_var rfl) (ev_op (ev_sl (ev_var rfl) T.cls T.sl1 rfl) (ev_var rfl) (rv_ixT hi))) ?_)
  congr 1
  rw [hasK_int]
  rw [Bool.eq_iff_iff, decide_eq_true_eq, FP.Wb.mem_nb o]
/-- the pair, the lesser first -/
def mm (p : Int × Int) : Int × Int := (min p.1 p.2, max p.1 p.2)
def wOf (cols : List Int) (ps : List (Int × Int)) : Wb := ⟨cols, FP.sortP (ps.map mm)⟩
def R_web_of (C : Addr) (ds : List D) (z : D) : Prop := ∃ (cols : List Int) (ps : List (Int × Int)), (ds = [.tup (cols.map .int), .lst (ps.map pD)] ∨ ds = [.lst (cols.map .int), .lst (ps.map pD)]) ∧ OkW (wOf cols ps) ∧ ps.length ≤ 5000 ∧ z = wD C (wOf cols ps)
theorem ok_web_of (T : Txt K mg) : FnOk P w K mg base CX0 7 T.web_of.a T.web_of.fd P_web_of (spD K (R_web_of T.C)) :=
  fn_pure _ T.web_of.F sc_web_of (fun ds z ⟨v, a, e, _⟩ => by rcases e with e | e <;> (rw [e]; rfl)) (by decide) fun cdv A outer s H E hr => by
  refine ⟨_, (pss_one (ps_ret (pe_make T.mkW (ok_Web_init T) (hr.mono (by omega)) rfl T.mWeb T.Web_init.b .nil pass0 (pa_cons (pe_tupleOfK (K := K) rfl rfl T.n_tuple (pv 0)) (pa_cons (pe_tupleOfK (K := K) rfl rfl T.n_tuple (pe_callB (cr_sortedKK (P := P) (w := w) rfl rfl rfl hr.units) (by rfl) T.n_sorted (by rfl) (pa_cons (pe_dcTK (P := P) (w := w) (own := [("pair", 2)]) rfl rfl rfl sc_web_of.nd hr.units0 (pi_listK (K := K) rfl (pv 1)) (blkOk_by (N := N_web_of) (sc := (defScope s_web_of)) (by decide +kernel)) (fun _ _ _ _ _ => (pg_name (i := 2) sc_web_of.nd rfl (by first | exact Or.inl rfl | exact Or.inr rfl))) (fun _ _ _ _ _ => pts_nil) (fun _ _ _ _ _ => (pe_tup (pa_cons (pe_callB (cr_minTK (K := K) rfl rfl hr.units) (by rfl) T.n_min (by rfl) (pa_cons (pv 2) pa_nil)) (pa_cons (pe_callB (cr_maxTK (K := K) rfl rfl hr.units) (by rfl) T.n_max (by rfl) (pa_cons (pv 2) pa_nil)) pa_nil)))) (fun _ _ _ _ _ => pe_bl)) pa_nil))) pa_nil))))), fun ds z ⟨cols, ps, e, ok, hl, ez⟩ => ?_⟩
  subst ez
  have key : ∀ (d0 : D), EvE K (tThen (tVar 0) (kTup K)) [.val d0, .val (.lst (ps.map pD)), .non] (.tup (cols.map .int)) → RetE K (tRet (tMake T.C (spInit K T.C R_init) [] E0 (tCons (tThen (tVar 0) (kTup K)) (tCons (tThen (tCB (rSortedK P w) (tCons (tDcT P w (iList K (tVar 1)) (gName 2) tYes (tTup (tCons (tCB (rMinT K) (tCons (tVar 2) tNil)) (tCons (tCB (rMaxT K) (tCons (tVar 2) tNil)) tNil))) (tC (.bl true)) [2]) tNil)) (kTup K)) tNil)))) [.val d0, .val (.lst (ps.map pD)), .non] (wD T.C (wOf cols ps)) := fun d0 h0 => by
    refine re_ret (ev_make (ea2 h0 (ev_tupL (ef_sortDc ps pD mm (fun p => [.val d0, .val (.lst (ps.map pD)), .val (pD p)]) (it_lst (ev_var rfl)) (fun p _ => ge_name (by simp)) (fun p _ => ev_cb (ea1 (ev_var rfl)) rc_minT) (fun p _ => ev_cb (ea1 (ev_var rfl)) rc_maxT) (by omega)).e)) ⟨wOf cols ps, ok, rfl, rfl⟩)
  rcases e with e | e
  · subst e
    exact key _ (ev_tupT (ev_var rfl))
  · subst e
    exact key _ (ev_tupL (ev_var rfl))
def wBeside (a b : Wb) : Wb := ⟨a.cols ++ b.cols, a.ts ++ b.ts.map fun t => ((a.n : Int) + t.1, (a.n : Int) + t.2)⟩
def R_beside_in (C : Addr) (ds : List D) (z : D) : Prop := ∃ (a b : Wb), OkW a ∧ OkW b ∧ OkW (wBeside a b) ∧ ds = [wD C a, wD C b] ∧ z = wD C (wBeside a b)
theorem ok_beside_in (T : Txt K mg) : FnOk P w K mg base CX0 7 T.beside_in.a T.beside_in.fd P_beside_in (spD K (R_beside_in T.C)) :=
  fn_pure _ T.beside_in.F sc_beside_in (fun ds z ⟨v, a, _, _, _, e, _⟩ => by rw [e]; rfl) (by decide) fun cdv A outer s H E hr => by
  refine ⟨_, (pss_cons (ps_set (i := 2) sc_beside_in.nd rfl (by first | exact Or.inl rfl | exact Or.inr rfl) (pe_callB (call_lenSl (E := E0) T.ln T.lf (fnr_of (ok_Web_len T) T.Web_len.b) (hr.mono (by omega)) pass0) (by rfl) T.n_len PySem.boot_len (pa_cons (pv 0) pa_nil))) (pss_cons (ps_setLc (i := 3) (own := [("here", 4), ("there", 5)]) rfl sc_beside_in.nd rfl rfl (sw_true rfl rfl rfl (by decide +kernel)) (pi_tupleK (K := K) rfl (pe_slK (K := K) rfl (pv 1))) (blkOk_by (N := N_beside_in) (sc := (defScope s_beside_in)) (by decide +kernel)) (fun _ _ _ _ _ => (pg_tupK (K := K) (n := 2) rfl rfl (pgs_cons (pg_name (i := 4) sc_beside_in.nd rfl (by first | exact Or.inl rfl | exact Or.inr rfl)) (pgs_cons (pg_name (i := 5) sc_beside_in.nd rfl (by first | exact Or.inl rfl | exact Or.inr rfl)) pgs_nil)))) (fun _ _ _ _ _ => pts_nil) (fun _ _ _ _ _ => (pe_tup (pa_cons (pe_op op_add (pv 2) (pv 4)) (pa_cons (pe_op op_add (pv 2) (pv 5)) pa_nil))))) (pss_one (ps_ret (pe_make T.mkW (ok_Web_init T) (hr.mono (by omega)) rfl T.mWeb T.Web_init.b .nil pass0 (pa_cons (pe_tup (pa_starK (K := K) rfl (pe_slK (K := K) rfl (pv 0)) (pa_starK (K := K) rfl (pe_slK (K := K) rfl (pv 1)) pa_nil))) (pa_cons (pe_tup (pa_starK (K := K) rfl (pe_slK (K := K) rfl (pv 0)) (pa_starK (K := K) rfl (pv 3) pa_nil))) pa_nil))))))), fun ds z ⟨a, b, oa, ob, oab, e, ez⟩ => ?_⟩
  subst e ez
  have na := ok_n oa
  refine re_seq (nx_asg (ev_len (v := a) (ev_var rfl) (by omega))) ?_
  refine re_seq (nx_asg (ef_lcm b.ts pD (fun t => pD ((a.n : Int) + t.1, (a.n : Int) + t.2)) (fun t => [.val (wD T.C a), .val (wD T.C b), .val (.int a.n), .non, .val (.int t.1), .val (.int t.2)]) (it_tup (ev_sl (ev_var rfl) T.cls T.sl2 rfl)) (fun t _ => ge_two (by simp) (by simp)) (fun t _ => ev_tup (ea2 (ev_op (ev_var rfl) (ev_var rfl) rv_I0) (ev_op (ev_var rfl) (ev_var rfl) rv_I0)) (by show 2 ≤ _; omega)) (Nat.le_trans ob.lim (by decide))).e) ?_
  have l1 := oa.few
  have l2 := ob.few
  have l3 := oa.lim
  have l4 := ob.lim
  refine re_ret (ev_make (ea2 (ev_tup (ea_starT (ev_sl (ev_var rfl) T.cls T.sl0 rfl) (ea_starT (ev_sl (ev_var rfl) T.cls T.sl0 rfl) ea_nil)) ?_) (ev_tup (ea_starT (ev_sl (ev_var rfl) T.cls T.sl2 rfl) (ea_starL (ev_var rfl) ea_nil)) ?_)) ⟨wBeside a b, oab, ?_, rfl⟩)
  · simp only [List.length_append, List.length_map, List.length_nil]; omega
  · simp only [List.length_append, List.length_map, List.length_nil]; omega
  · unfold wBeside
    simp only [List.map_append, List.append_nil, List.map_map]
    rfl
end
end FB
set_option Elab.async false
set_option autoImplicit false
set_option linter.all false
set_option maxRecDepth 100000
/-! Opposite webs; what is asked ahead. -/
namespace FB
open PySem PySem.Spec PyProof.Rows L2 SlX FA
open FP (Wb OkW)
def opPairs (v : Wb) : List (Int × Int) := ((FP.pts v.n).map fun a => ((rngI (a + 1) v.n).filter fun b => !v.adj a b).map fun b => (a, b)).flatten
theorem two_pairs {α : Type} (xs : List Int) (ys : Int → List Int) (k : Int → Int → Bool) : two xs (fun _ => true) ys k (fun a b => pD (a, b)) = ((xs.map fun a => ((ys a).filter (k a)).map fun b => (a, b)).flatten).map pD := by
  unfold two
  rw [List.filter_eq_self.mpr (fun _ _ => rfl), List.map_flatten, List.map_map]
  congr 1
  refine List.map_congr_left fun a _ => ?_
  simp only [Function.comp, List.map_map]
  rfl
def wOpp (v : Wb) : Wb := wOf v.cols (opPairs v)
section
variable {P : Program} {w : World} {K : PySem.W.Frag} {mg : Str → Option Value} {base : Heap} {es : Es} {ta tb tc te : TE}
theorem opPairs_len (v : Wb) (h : v.n ≤ 40) : (opPairs v).length ≤ 1600 := by
  have h1 := two_len (FP.pts v.n) (fun _ => true) (fun a => rngI (a + 1) v.n) (fun a b => !v.adj a b) (fun a b => pD (a, b)) (n := 40) fun a ha => by
    rw [rngI_len]
    rw [FP.mem_pts] at ha
    omega
  rw [two_pairs (α := Int), List.length_map, FP.pts_len] at h1
  unfold opPairs
  have : v.n * 40 ≤ 1600 := by omega
  omega
def R_opposite_in (C : Addr) (ds : List D) (z : D) : Prop := ∃ v : Wb, OkW v ∧ OkW (wOpp v) ∧ ds = [wD C v] ∧ z = wD C (wOpp v)
theorem ok_opposite_in (T : Txt K mg) : FnOk P w K mg base CX0 8 T.opposite_in.a T.opposite_in.fd P_opposite_in (spD K (R_opposite_in T.C)) :=
  fn_pure _ T.opposite_in.F sc_opposite_in (fun ds z ⟨v, _, _, e, _⟩ => by rw [e]; rfl) (by decide) fun cdv A outer s H E hr => by
  refine ⟨_, (pss_cons (ps_set (i := 1) sc_opposite_in.nd rfl (by first | exact Or.inl rfl | exact Or.inr rfl) (pe_callTy cr_range1 (by rfl) T.n_range (by rfl) (pa_cons (pe_callB (call_lenSl (E := E0) T.ln T.lf (fnr_of (ok_Web_len T) T.Web_len.b) (hr.mono (by omega)) pass0) (by rfl) T.n_len PySem.boot_len (pa_cons (pv 0) pa_nil)) pa_nil))) (pss_cons (ps_setLc2 (i := 2) (own := [("one", 3), ("other", 4)]) (vs1 := [4]) rfl sc_opposite_in.nd rfl rfl (sw_true rfl rfl rfl (by decide +kernel)) (pi_rng (pv 1)) (blkOk_by (N := N_opposite_in) (sc := (defScope s_opposite_in)) (by decide +kernel)) (by decide) (fun _ _ _ _ _ => (pg_name (i := 3) sc_opposite_in.nd rfl (by first | exact Or.inl rfl | exact Or.inr rfl))) (fun _ _ _ _ _ => pts_nil) (fun _ _ _ _ _ => (pi_range2 rfl T.n_range (pa_cons (pe_op op_add (pv 3) pe_int) (pa_cons (pe_callB (call_lenSl (E := E0) T.ln T.lf (fnr_of (ok_Web_len T) T.Web_len.b) (hr.mono (by omega)) pass0) (by rfl) T.n_len PySem.boot_len (pa_cons (pv 0) pa_nil)) pa_nil)))) (fun _ _ _ _ _ => (pg_name (i := 4) sc_opposite_in.nd rfl (by first | exact Or.inl rfl | exact Or.inr rfl))) (fun _ _ _ _ _ => (pts_one (pt_not (pt_val (pe_call (ok_is_tied_in T) (hr.mono (by omega)) rfl T.m_is_tied_in T.is_tied_in.F.kp T.is_tied_in.b .nil pass0 (pa_cons (pv 0) (pa_cons (pv 3) (pa_cons (pv 4) pa_nil)))))))) (fun _ _ _ _ _ => (pe_tup (pa_cons (pv 3) (pa_cons (pv 4) pa_nil))))) (pss_one (ps_ret (pe_call (ok_web_of T) (hr.mono (by omega)) rfl T.m_web_of T.web_of.F.kp T.web_of.b .nil pass0 (pa_cons (pe_slK (K := K) rfl (pv 0)) (pa_cons (pv 2) pa_nil))))))), fun ds z ⟨v, o, oo, e, ez⟩ => ?_⟩
  subst e ez
  have hn := ok_n o
  refine re_seq (nx_asg (ev_cb (ea1 (ev_len (v := v) (ev_var rfl) (by omega))) rc_rng1)) ?_
  refine re_seq (nx_asg (ef_lc2 (FP.pts v.n) .int (fun _ => true) (fun a => [.val (wD T.C v), .val (.rng 0 v.n), .non, .val (.int a), .non]) (fun a => rngI (a + 1) v.n) (fun a b => .int b) (fun a b => !v.adj a b) (fun a b => [.val (wD T.C v), .val (.rng 0 v.n), .non, .val (.int a), .val (.int b)]) (fun a b => pD (a, b))
    ?_ (fun a _ => ge_name (by simp)) (fun a _ => et_yes) (fun a ha _ => ?_) (fun a _ _ b _ => ge_name (by simp)) (fun a ha _ b hb => ?_) (fun a _ _ b _ _ => ev_tup (ea2 (ev_var rfl) (ev_var rfl)) (by show 2 ≤ _; omega)) 40 (fun a ha => ?_) ?_ (by decide)).e) ?_
  · rw [← rngI_pts]
    exact it_rngOI (ev_var rfl) (by omega) (by omega)
  · rw [FP.mem_pts] at ha
    exact it_rngI (ev_op (ev_var rfl) ev_int rv_I0) (ev_len (v := v) (ev_var rfl) (by omega)) (by omega) (by omega)
  · rw [FP.mem_pts] at ha
    exact et_not (et_B (ev_call (ea3 (ev_var rfl) (ev_var rfl) (ev_var rfl)) ⟨v, a, b, o, rfl, ha.1, ha.2, rfl⟩))
  · rw [FP.mem_pts] at ha
    rw [rngI_len]
    omega
  · rw [FP.pts_len]
    omega
  · rw [two_pairs (α := Int)]
    refine re_ret (ev_call (ea2 (ev_sl (ev_var rfl) T.cls T.sl0 rfl) (ev_var rfl)) ⟨v.cols, opPairs v, .inl rfl, oo, Nat.le_trans (opPairs_len v hn) (by decide), rfl⟩)
def R_require_web (C : Addr) (ds : List D) : Prop := ∃ v : Wb, ds = [wD C v]
theorem ok_require_web (T : Txt K mg) : FnOk P w K mg base CX0 1 T.require_web.a T.require_web.fd P_require_web (spD K (RP (R_require_web T.C))) :=
  fn_proc _ T.require_web.F sc_require_web (fun ds ⟨v, e⟩ => by rw [e]; rfl) fun cdv A outer s H E hr => by
  refine ⟨_, (pss_one (ps_if (pt_not (pt_val (pe_callB (call_isiSlK (K := K) rfl (.ref T.C)) (by rfl) T.n_isinstance (by rfl) (pa_cons (pv 0) (pa_cons (pe_glob (v := .ref T.C) rfl T.mWeb rfl) pa_nil))))) pss_never pss_nil)), fun ds ⟨v, e⟩ => ?_⟩
  subst e
  exact nx_true (nx_pass (et_not (a := true) (et_B (ev_cb (ea2 (ev_var rfl) ev_adr) (rc_isiSl rfl T.cls T.isi T.ko)))))
def R_two (C : Addr) (ds : List D) : Prop := ∃ v v2 : Wb, ds = [wD C v, wD C v2]
theorem ok_require_two (T : Txt K mg) : FnOk P w K mg base CX0 2 T.require_two.a T.require_two.fd P_require_two (spD K (RP (R_two T.C))) :=
  fn_proc _ T.require_two.F sc_require_two (fun ds ⟨v, v2, e⟩ => by rw [e]; rfl) fun cdv A outer s H E hr => by
  refine ⟨_, (pss_cons (ps_expr (pe_call (ok_require_web T) (hr.mono (by omega)) rfl T.m_require_web T.require_web.F.kp T.require_web.b .nil pass0 (pa_cons (pv 0) pa_nil))) (pss_one (ps_expr (pe_call (ok_require_web T) (hr.mono (by omega)) rfl T.m_require_web T.require_web.F.kp T.require_web.b .nil pass0 (pa_cons (pv 1) pa_nil))))), fun ds ⟨v, v2, e⟩ => ?_⟩
  subst e
  exact nx_true (nx_seq (nx_drop (ev_call (ea1 (ev_var rfl)) ⟨⟨v, rfl⟩, rfl⟩)) (nx_drop (ev_call (ea1 (ev_var rfl)) ⟨⟨v2, rfl⟩, rfl⟩)))
def R_few (ds : List D) : Prop := ∃ i : Int, ds = [.int i] ∧ i ≤ 40
theorem ok_need_few_points (T : Txt K mg) : FnOk P w K mg base CX0 1 T.need_few_points.a T.need_few_points.fd P_need_few_points (spD K (RP R_few)) :=
  fn_proc _ T.need_few_points.F sc_need_few_points (fun ds ⟨v, e, _⟩ => by rw [e]; rfl) fun cdv A outer s H E hr => by
  refine ⟨_, (pss_one (ps_if (pt_cmpR op_gt (pv 0) (pe_glob (v := .int (40)) rfl T.g_MOST_POINTS ⟨_, rfl⟩) (nomark _)) pss_never pss_nil)), fun ds ⟨i, e, hi⟩ => ?_⟩
  subst e
  exact nx_true (nx_pass (et_test (ev_is (ev_op (ev_var rfl) ev_int rv_B0) (by rw [decide_eq_false (by omega)]))))
def R_beside (C : Addr) (ds : List D) (z : D) : Prop := ∃ (a b : Wb), OkW a ∧ OkW b ∧ OkW (wBeside a b) ∧ ds = [wD C a, wD C b] ∧ z = wD C (wBeside a b)
theorem ok_beside (T : Txt K mg) : FnOk P w K mg base CX0 8 T.beside.a T.beside.fd P_beside (spD K (R_beside T.C)) :=
  fn_pure _ T.beside.F sc_beside (fun ds z ⟨v, a, _, _, _, e, _⟩ => by rw [e]; rfl) (by decide) fun cdv A outer s H E hr => by
  refine ⟨_, (pss_cons (ps_expr (pe_call (ok_require_two T) (hr.mono (by omega)) rfl T.m_require_two T.require_two.F.kp T.require_two.b .nil pass0 (pa_cons (pv 0) (pa_cons (pv 1) pa_nil)))) (pss_cons (ps_expr (pe_call (ok_need_few_points T) (hr.mono (by omega)) rfl T.m_need_few_points T.need_few_points.F.kp T.need_few_points.b .nil pass0 (pa_cons (pe_op op_add (pe_callB (call_lenSl (E := E0) T.ln T.lf (fnr_of (ok_Web_len T) T.Web_len.b) (hr.mono (by omega)) pass0) (by rfl) T.n_len PySem.boot_len (pa_cons (pv 0) pa_nil)) (pe_callB (call_lenSl (E := E0) T.ln T.lf (fnr_of (ok_Web_len T) T.Web_len.b) (hr.mono (by omega)) pass0) (by rfl) T.n_len PySem.boot_len (pa_cons (pv 1) pa_nil))) pa_nil))) (pss_one (ps_ret (pe_call (ok_beside_in T) (hr.mono (by omega)) rfl T.m_beside_in T.beside_in.F.kp T.beside_in.b .nil pass0 (pa_cons (pv 0) (pa_cons (pv 1) pa_nil))))))), fun ds z ⟨a, b, oa, ob, oab, e, ez⟩ => ?_⟩
  subst e ez
  have na := ok_n oa
  have nb := ok_n ob
  have nab : a.n + b.n ≤ 40 := by
    have := oab.few
    unfold wBeside at this
    rw [List.length_append] at this
    exact this
  refine re_seq (nx_drop (ev_call (ea2 (ev_var rfl) (ev_var rfl)) ⟨⟨a, b, rfl⟩, rfl⟩)) ?_
  refine re_seq (nx_drop (ev_call (ea1 (ev_op (ev_len (v := a) (ev_var rfl) (by omega)) (ev_len (v := b) (ev_var rfl) (by omega)) rv_I0)) ⟨⟨_, rfl, by omega⟩, rfl⟩)) ?_
  exact re_ret (ev_call (ea2 (ev_var rfl) (ev_var rfl)) ⟨a, b, oa, ob, oab, rfl, rfl⟩)
theorem ok_opposite (T : Txt K mg) : FnOk P w K mg base CX0 9 T.opposite.a T.opposite.fd P_opposite (spD K (R_opposite_in T.C)) :=
  fn_pure _ T.opposite.F sc_opposite (fun ds z ⟨v, _, _, e, _⟩ => by rw [e]; rfl) (by decide) fun cdv A outer s H E hr => by
  refine ⟨_, (pss_cons (ps_expr (pe_call (ok_require_web T) (hr.mono (by omega)) rfl T.m_require_web T.require_web.F.kp T.require_web.b .nil pass0 (pa_cons (pv 0) pa_nil))) (pss_one (ps_ret (pe_call (ok_opposite_in T) (hr.mono (by omega)) rfl T.m_opposite_in T.opposite_in.F.kp T.opposite_in.b .nil pass0 (pa_cons (pv 0) pa_nil))))), fun ds z ⟨v, o, oo, e, ez⟩ => ?_⟩
  subst e ez
  refine re_seq (nx_drop (ev_call (ea1 (ev_var rfl)) ⟨⟨v, rfl⟩, rfl⟩)) ?_
  exact re_ret (ev_call (ea1 (ev_var rfl)) ⟨v, o, oo, rfl, rfl⟩)
end
end FB
set_option Elab.async false
set_option autoImplicit false
set_option linter.all false
set_option maxRecDepth 100000
/-! Maps counted. -/
namespace FB
open PySem PySem.Spec PyProof.Rows L2 SlX FA
open FP (Wb OkW)
theorem atI_int {α : Type} {xs : List α} {f : α → D} {a : Int} {x : α} (h0 : 0 ≤ a) (h : xs[a.toNat]? = some x) : atI (xs.map f) a = some (f x) := by
  have := atI_nat (xs := xs.map f) (j := a.toNat) (v := f x) (by rw [List.getElem?_map, h]; rfl)
  rw [Int.toNat_of_nonneg h0] at this
  exact this
theorem getD_get {xs : List Int} {a : Int} (h0 : 0 ≤ a) (h : a < xs.length) : xs[a.toNat]? = some (xs.getD a.toNat 0) := by
  rw [List.getD_eq_getElem?_getD, List.getElem?_eq_getElem (by omega)]
  rfl
theorem at_col (v : Wb) {a : Int} (h0 : 0 ≤ a) (h : a < v.n) : atI (v.cols.map D.int) a = some (.int (v.col a)) := atI_int h0 (getD_get h0 h)
theorem at_near (v : Wb) {a : Int} (h0 : 0 ≤ a) (h : a < v.n) : atI ((FP.pts v.n).map (nbD v)) a = some (nbD v a) := by
  refine atI_int h0 ?_
  rw [FP.pts_get (by omega), Int.toNat_of_nonneg h0]
section
variable {P : Program} {w : World} {K : PySem.W.Frag} {mg : Str → Option Value} {base : Heap} {es : Es} {ta tb tc te : TE}
def R_fitting (C : Addr) (ds : List D) (z : D) : Prop := ∃ (p v : Wb) (im : List Int), OkW p ∧ OkW v ∧ ds = [wD C p, wD C v, .tup (im.map .int)] ∧ im.length < p.n ∧ (∀ x ∈ im, 0 ≤ x ∧ x < v.n) ∧ z = .lst ((FP.fitL p v im).map .int)
theorem ok_fitting (T : Txt K mg) : FnOk P w K mg base CX0 4 T.fitting.a T.fitting.fd P_fitting (spD K (R_fitting T.C)) :=
  fn_pure _ T.fitting.F sc_fitting (fun ds z ⟨v, _, _, _, _, e, _⟩ => by rw [e]; rfl) (by decide) fun cdv A outer s H E hr => by
  refine ⟨_, (pss_cons (ps_set (i := 3) sc_fitting.nd rfl (by first | exact Or.inl rfl | exact Or.inr rfl) (pe_callB (call_lenK (K := K) rfl) (by rfl) T.n_len PySem.boot_len (pa_cons (pv 2) pa_nil))) (pss_cons (ps_set (i := 4) sc_fitting.nd rfl (by first | exact Or.inl rfl | exact Or.inr rfl) (pe_lockA (pe_lc (own := [("near", 5)]) rfl sc_fitting.nd (pi_keys (pe_ix (ix_tupK (K := K) rfl) (pe_slK (K := K) rfl (pv 0)) (pv 3) (fun _ _ => rfl))) (blkOk_by (N := N_fitting) (sc := (defScope s_fitting)) (by decide +kernel)) (fun _ _ _ _ _ => (pg_name (i := 5) sc_fitting.nd rfl (by first | exact Or.inl rfl | exact Or.inr rfl))) (fun _ _ _ _ _ => (pts_one (pt_cmpR op_lt (pv 5) (pv 3) (nomark _)))) (fun _ _ _ _ _ => (pe_ix (ix_tupK (K := K) rfl) (pv 2) (pv 5) (fun _ _ => rfl)))))) (pss_cons (ps_setLc (i := 6) (own := [("image", 7)]) rfl sc_fitting.nd rfl rfl (sw_true rfl rfl rfl (by decide +kernel)) (pi_range1 rfl T.n_range (pa_cons (pe_callB (call_lenSl (E := E0) T.ln T.lf (fnr_of (ok_Web_len T) T.Web_len.b) (hr.mono (by omega)) pass0) (by rfl) T.n_len PySem.boot_len (pa_cons (pv 1) pa_nil)) pa_nil)) (blkOk_by (N := N_fitting) (sc := (defScope s_fitting)) (by decide +kernel)) (fun _ _ _ _ _ => (pg_name (i := 7) sc_fitting.nd rfl (by first | exact Or.inl rfl | exact Or.inr rfl))) (fun _ _ _ _ _ => (pts_one (pt_cmpR (op_in_seqK (K := K) rfl) (pe_ix (ix_tupK (K := K) rfl) (pe_slK (K := K) rfl (pv 0)) (pv 3) (fun _ _ => rfl)) (pe_tup (pa_cons (pe_glob (v := .int (-1)) rfl T.g_ANY ⟨_, rfl⟩) (pa_cons (pe_ix (ix_tupK (K := K) rfl) (pe_slK (K := K) rfl (pv 1)) (pv 7) (fun _ _ => rfl)) pa_nil))) rfl))) (fun _ _ _ _ _ => (pv 7))) (pss_one (ps_ret (pe_lc (own := [("image", 7)]) rfl sc_fitting.nd (pi_listK (K := K) rfl (pv 6)) (blkOk_by (N := N_fitting) (sc := (defScope s_fitting)) (by decide +kernel)) (fun _ _ _ _ _ => (pg_name (i := 7) sc_fitting.nd rfl (by first | exact Or.inl rfl | exact Or.inr rfl))) (fun _ _ _ _ _ => (pts_one (pt_val (pe_callB (cr_allK (K := K) rfl rfl) (by rfl) T.n_all (by rfl) (pa_cons (pe_lc (own := [("goal", 8)]) rfl sc_fitting.nd (pi_listK (K := K) rfl (pv 4)) (blkN (N := N_fitting) (defScope s_fitting) rfl (by decide +kernel)) (fun _ _ _ _ _ => (pg_name (i := 8) sc_fitting.nd rfl (by first | exact Or.inl rfl | exact Or.inr rfl))) (fun _ _ _ _ _ => pts_nil) (fun _ _ _ _ _ => (pe_call (ok_is_tied_in T) (hr.mono (by omega)) rfl T.m_is_tied_in T.is_tied_in.F.kp T.is_tied_in.b .nil pass0 (pa_cons (pv 1) (pa_cons (pv 7) (pa_cons (pv 8) pa_nil)))))) pa_nil))))) (fun _ _ _ _ _ => (pv 7)))))))), fun ds z ⟨p, v, im, op, ov, e, hk, hx, ez⟩ => ?_⟩
  subst e ez
  have np := ok_n op
  have nv := ok_n ov
  refine re_seq (nx_asg (ev_is (d := .int (im.length : Int)) (ev_cb (ea1 (ev_var rfl)) rc_lenT) (by rw [List.length_map]))) ?_
  refine re_seq (nx_asg (ef_is (cs := (FP.goals p im).map .int) (ef_lcD (kvs := (p.nb im.length).map fun b => (.inl b, .bl true)) (path_ixT (path_sl (path_var rfl) T.cls T.sl1 rfl) (path_var rfl) (at_near p (by omega) (by omega))) (p.nb im.length) (fun a => .inl a) (by rw [List.map_map]; rfl) (fun a => decide (a < (im.length : Int))) (fun a => .int (FP.imAt im a))
    (fun a => [.val (wD T.C p), .val (wD T.C v), .val (.tup (im.map .int)), .val (.int im.length), .non, .val (.int a), .non, .non, .non]) (fun a _ => ge_name (by simp)) (fun a _ => et_test (ev_op (ev_var rfl) (ev_var rfl) rv_B0)) (fun a ha hlt => ?_) (Nat.le_trans (p.nb_len _) (by omega))) ?_).e) ?_
  · rw [FP.Wb.mem_nb op] at ha
    have h2 := FP.Wb.adj_lt op ha
    rw [decide_eq_true_eq] at hlt
    exact ev_op (ev_var rfl) (ev_var rfl) (rv_ixT (atI_int h2.2.2.1 (getD_get h2.2.2.1 hlt)))
  · unfold FP.goals
    rw [List.map_map]
    rfl
  refine re_seq (nx_asg (ef_is (cs := (FP.places p v im).map .int) (ef_lc (FP.pts v.n) .int (fun x => decide (p.col im.length ∈ [-1, v.col x])) .int
    (fun x => [.val (wD T.C p), .val (wD T.C v), .val (.tup (im.map .int)), .val (.int im.length), .val (.lst ((FP.goals p im).map .int)), .non, .non, .val (.int x), .non]) (it_pts (ev_len (v := v) (ev_var rfl) (by omega)) (by omega)) (fun x _ => ge_name (by simp)) (fun x hx => ?_) (fun x _ _ => ev_var rfl) (by rw [FP.pts_len]; omega)) rfl).e) ?_
  · rw [FP.mem_pts] at hx
    exact et_test (ev_op (ev_op (ev_sl (ev_var rfl) T.cls T.sl0 rfl) (ev_var rfl) (rv_ixT (at_col p (by omega) (by omega)))) (ev_tup (ea2 ev_int (ev_op (ev_sl (ev_var rfl) T.cls T.sl0 rfl) (ev_var rfl) (rv_ixT (at_col v hx.1 hx.2)))) (by show 2 ≤ _; omega)) (rv_inT (ns := [-1, v.col x])))
  refine re_ret (ev_is (ef_lc (FP.places p v im) .int (fun x => (FP.goals p im).all fun g => v.adj x g) .int
    (fun x => [.val (wD T.C p), .val (wD T.C v), .val (.tup (im.map .int)), .val (.int im.length), .val (.lst ((FP.goals p im).map .int)), .non, .val (.lst ((FP.places p v im).map .int)), .val (.int x), .non]) (it_lst (ev_var rfl)) (fun x _ => ge_name (by simp)) (fun x hx => ?_) (fun x _ _ => ev_var rfl) ?_).e rfl)
  · have hx2 : 0 ≤ x ∧ x < v.n := by
      unfold FP.places at hx
      rw [List.mem_filter, FP.mem_pts] at hx
      exact hx.1
    have e1 : ((FP.goals p im).all fun g => v.adj x g) = ((FP.goals p im).map fun g => v.adj x g).all id := by rw [List.all_map]; rfl
    rw [e1]
    refine et_B (ev_cb (ea1 (ev_is (ef_lcm (FP.goals p im) .int (fun g => .bl (v.adj x g)) (fun g => [.val (wD T.C p), .val (wD T.C v), .val (.tup (im.map .int)), .val (.int im.length), .val (.lst ((FP.goals p im).map .int)), .non, .val (.lst ((FP.places p v im).map .int)), .val (.int x), .val (.int g)])
      (it_lst (ev_var rfl)) (fun g _ => ge_name (by simp)) (fun g _ => ev_call (ea3 (ev_var rfl) (ev_var rfl) (ev_var rfl)) ⟨v, x, g, ov, rfl, hx2.1, hx2.2, rfl⟩) ?_).e ?_)) rc_all)
    · unfold FP.goals
      rw [List.length_map]
      have h1 := List.length_filter_le (fun a => decide (a < (im.length : Int))) (p.nb im.length)
      have h2 := p.nb_len im.length
      omega
    · rw [List.map_map]
      rfl
  · unfold FP.places
    have h1 := List.length_filter_le (fun x => decide (p.col im.length ∈ [-1, v.col x])) (FP.pts v.n)
    rw [FP.pts_len] at h1
    omega
end
end FB
set_option Elab.async false
set_option autoImplicit false
set_option linter.all false
set_option maxRecDepth 100000
/-! Maps counted: the def that calls itself. -/
namespace FB
open PySem PySem.Spec PyProof.Rows L2 SlX FA
open FP (Wb OkW)
section
variable {P : Program} {w : World} {K : PySem.W.Frag} {mg : Str → Option Value} {base : Heap} {es : Es} {ta tb tc te : TE}
def R_number_in (C : Addr) (k : Nat) (ds : List D) (z : D) : Prop := ∃ (p v : Wb) (im : List Int), OkW p ∧ OkW v ∧ ds = [wD C p, wD C v, .tup (im.map .int)] ∧ im.length ≤ p.n ∧ p.n - im.length ≤ k ∧ (∀ x ∈ im, 0 ≤ x ∧ x < v.n) ∧ z = .int (FP.cnt p v (p.n - im.length) im)
theorem ok_number_in (T : Txt K mg) : ∀ k : Nat, FnOk P w K mg base CX0 (5 + k) T.number_in.a T.number_in.fd P_number_in (spD K (R_number_in T.C k))
  | 0 => fn_pure (k := 4) _ T.number_in.F sc_number_in (fun ds z ⟨v, _, _, _, _, e, _⟩ => by rw [e]; rfl) (by decide) fun cdv A outer s H E hr => by
    refine ⟨_, pss_cons (ps_if (pt_cmpR op_eq (pe_callB (call_lenK (K := K) rfl) (by rfl) T.n_len PySem.boot_len (pa_cons (pv 2) pa_nil)) (pe_callB (call_lenSl (E := E0) T.ln T.lf (fnr_of (ok_Web_len T) T.Web_len.b) (hr.mono (by omega)) pass0) (by rfl) T.n_len PySem.boot_len (pa_cons (pv 0) pa_nil)) (nomark _)) (pss_one (ps_ret pe_int)) pss_nil) pss_never, fun ds z ⟨p, v, im, op, ov, e, h1, h2, hx, ez⟩ => ?_⟩
    subst e ez
    have np := ok_n op
    have e0 : p.n - im.length = 0 := by omega
    rw [e0]
    refine re_if (b := true) (et_test (ev_is (ev_op (ev_cb (ea1 (ev_var rfl)) rc_lenT) (ev_len (v := p) (ev_var rfl) (by omega)) rv_eqI) ?_)) (fun _ => re_ret ev_int) fun z => (nomatch z)
    rw [List.length_map, decide_eq_true (by omega)]
  | k + 1 => fn_pure (k := 5 + k) _ T.number_in.F sc_number_in (fun ds z ⟨v, _, _, _, _, e, _⟩ => by rw [e]; rfl) (by decide) fun cdv A outer s H E hr => by
    have ih : FnOk P w K mg base CX0 (5 + k) T.number_in.a T.number_in.fd P_number_in (spD K (R_number_in T.C k)) := ok_number_in T k
    refine ⟨_, (pss_cons (ps_if (pt_cmpR op_eq (pe_callB (call_lenK (K := K) rfl) (by rfl) T.n_len PySem.boot_len (pa_cons (pv 2) pa_nil)) (pe_callB (call_lenSl (E := E0) T.ln T.lf (fnr_of (ok_Web_len T) T.Web_len.b) (hr.mono (by omega)) pass0) (by rfl) T.n_len PySem.boot_len (pa_cons (pv 0) pa_nil)) (nomark _)) (pss_one (ps_ret pe_int)) pss_nil) (pss_one (ps_ret (pe_callB (cr_sumK (K := K) rfl rfl) (by rfl) T.n_sum (by rfl) (pa_cons (pe_lc (own := [("image", 3)]) rfl sc_number_in.nd (pi_listK (K := K) rfl (pe_call (ok_fitting T) (hr.mono (by omega)) rfl T.m_fitting T.fitting.F.kp T.fitting.b .nil pass0 (pa_cons (pv 0) (pa_cons (pv 1) (pa_cons (pv 2) pa_nil))))) (blkOk_by (N := N_number_in) (sc := (defScope s_number_in)) (by decide +kernel)) (fun _ _ _ _ _ => (pg_name (i := 3) sc_number_in.nd rfl (by first | exact Or.inl rfl | exact Or.inr rfl))) (fun _ _ _ _ _ => pts_nil) (fun _ _ _ _ _ => (pe_call ih (hr.mono (by omega)) rfl T.m_number_in T.number_in.F.kp T.number_in.b .nil pass0 (pa_cons (pv 0) (pa_cons (pv 1) (pa_cons (pe_tup (pa_starK (K := K) rfl (pv 2) (pa_cons (pv 3) pa_nil))) pa_nil)))))) pa_nil))))), fun ds z ⟨p, v, im, op, ov, e, h1, h2, hx, ez⟩ => ?_⟩
    subst e ez
    have np := ok_n op
    have nv := ok_n ov
    refine re_if (b := decide ((im.length : Int) = p.n)) (et_test (ev_is (ev_op (ev_cb (ea1 (ev_var rfl)) rc_lenT) (ev_len (v := p) (ev_var rfl) (by omega)) rv_eqI) (by rw [List.length_map]))) (fun hb => ?_) fun hb => ?_
    · rw [decide_eq_true_eq] at hb
      have e0 : p.n - im.length = 0 := by omega
      rw [e0]
      exact re_ret ev_int
    · rw [decide_eq_false_iff_not] at hb
      have hlt : im.length < p.n := by omega
      obtain ⟨m, em⟩ : ∃ m, p.n - im.length = m + 1 := ⟨p.n - im.length - 1, by omega⟩
      rw [em]
      have e2 : FP.cnt p v (m + 1) im = ((FP.fitL p v im).map fun x => FP.cnt p v m (im ++ [x])).sum := rfl
      rw [e2]
      refine re_ret (ev_cb (ea1 (ev_is (ef_lcm (FP.fitL p v im) .int (fun x => .int (FP.cnt p v m (im ++ [x]))) (fun x => [.val (wD T.C p), .val (wD T.C v), .val (.tup (im.map .int)), .val (.int x)])
        (it_lst (ev_call (ea3 (ev_var rfl) (ev_var rfl) (ev_var rfl)) ⟨p, v, im, op, ov, rfl, hlt, hx, rfl⟩)) (fun x _ => ge_name (by simp)) (fun x hx2 => ?_) ?_).e ?_)) rc_sum)
      · have hx3 := FP.fitL_lt hx2
        have e3 : p.n - (im ++ [x]).length = m := by rw [List.length_append]; simp only [List.length_cons, List.length_nil]; omega
        refine ev_call (ea3 (ev_var rfl) (ev_var rfl) (ev_tup (ea_starT (ev_var rfl) (ea1 (ev_var rfl))) ?_)) ⟨p, v, im ++ [x], op, ov, ?_, ?_, ?_, ?_, ?_⟩
        · simp only [List.length_append, List.length_map, List.length_cons, List.length_nil]; omega
        · simp
        · rw [List.length_append]; simp only [List.length_cons, List.length_nil]; omega
        · omega
        · intro y hy
          rcases List.mem_append.mp hy with z | z
          · exact hx y z
          · rw [List.mem_singleton] at z; rw [z]; exact hx3
        · rw [e3]
      · have := FP.fitL_len p v im
        omega
      · rw [List.map_map]; rfl
def R_map_number (C : Addr) (ds : List D) (z : D) : Prop := ∃ (p v : Wb), OkW p ∧ OkW v ∧ ds = [wD C p, wD C v] ∧ p.n ≤ 6 ∧ v.n ^ p.n ≤ 100000 ∧ z = .int (FP.homs p v)
theorem ok_map_number_in (T : Txt K mg) : FnOk P w K mg base CX0 12 T.map_number_in.a T.map_number_in.fd P_map_number_in (spD K (R_map_number T.C)) :=
  fn_pure _ T.map_number_in.F sc_map_number_in (fun ds z ⟨v, _, _, _, e, _⟩ => by rw [e]; rfl) (by decide) fun cdv A outer s H E hr => by
  refine ⟨_, (pss_one (ps_ret (pe_call (ok_number_in T 6) (hr.mono (by omega)) rfl T.m_number_in T.number_in.F.kp T.number_in.b .nil pass0 (pa_cons (pv 0) (pa_cons (pv 1) (pa_cons (pe_tup pa_nil) pa_nil)))))), fun ds z ⟨p, v, op, ov, e, h6, _, ez⟩ => ?_⟩
  subst e ez
  exact re_ret (ev_call (ea3 (ev_var rfl) (ev_var rfl) (ev_tup ea_nil (by decide))) ⟨p, v, [], op, ov, rfl, Nat.zero_le _, by simpa using h6, fun x hx => absurd hx (by simp), rfl⟩)
def R_tries (C : Addr) (ds : List D) : Prop := ∃ (p v : Wb), OkW p ∧ OkW v ∧ ds = [wD C p, wD C v] ∧ v.n ^ p.n ≤ 100000
theorem ok_need_few_tries (T : Txt K mg) : FnOk P w K mg base CX0 4 T.need_few_tries.a T.need_few_tries.fd P_need_few_tries (spD K (RP (R_tries T.C))) :=
  fn_proc _ T.need_few_tries.F sc_need_few_tries (fun ds ⟨v, _, _, _, e, _⟩ => by rw [e]; rfl) fun cdv A outer s H E hr => by
  refine ⟨_, (pss_cons (ps_set (i := 2) sc_need_few_tries.nd rfl (by first | exact Or.inl rfl | exact Or.inr rfl) pe_int) (pss_cons (ps_for PassesOwn.never rfl (pi_range1 rfl T.n_range (pa_cons (pe_callB (call_lenSl (E := E0) T.ln T.lf (fnr_of (ok_Web_len T) T.Web_len.b) (hr.mono (by omega)) pass0) (by rfl) T.n_len PySem.boot_len (pa_cons (pv 0) pa_nil)) pa_nil)) (pg_name (i := 3) sc_need_few_tries.nd rfl (by first | exact Or.inl rfl | exact Or.inr rfl)) (pss_one (ps_aug (i := 2) sc_need_few_tries.nd rfl (by first | exact Or.inl rfl | exact Or.inr rfl) (pe_callB (call_lenSl (E := E0) T.ln T.lf (fnr_of (ok_Web_len T) T.Web_len.b) (hr.mono (by omega)) pass0) (by rfl) T.n_len PySem.boot_len (pa_cons (pv 1) pa_nil)) iop_mul))) (pss_one (ps_if (pt_cmpR op_gt (pv 2) (pe_glob (v := .int (100000)) rfl T.g_MOST_TRIES ⟨_, rfl⟩) (nomark _)) pss_never pss_nil)))), fun ds ⟨p, v, op, ov, e, ht⟩ => ?_⟩
  subst e
  have np := ok_n op
  have nv := ok_n ov
  refine nx_seq (nx_asg ev_int) ?_
  refine nx_seqX (nx_for (vs := [3]) ((FP.pts p.n).map .int) (it_pts (ev_len (v := p) (ev_var rfl) (by omega)) (by omega)) (fun i e => ∃ d, e = [.val (wD T.C p), .val (wD T.C v), .val (.int ((v.n ^ i : Nat) : Int)), d]) ⟨.non, rfl⟩ ?_) ?_
  · rintro i x e hx ⟨d, rfl⟩
    rw [List.getElem?_map] at hx
    cases hp : (FP.pts p.n)[i]? with
    | none => rw [hp] at hx; cases hx
    | some y =>
      rw [hp] at hx
      cases hx
      refine ⟨_, ge_name (by simp), (nx_aug rfl (ev_len (v := v) (ev_var rfl) (by omega)) (rv_I (.inr ⟨by omega, by omega⟩))).imp fun e he => ⟨.val (.int y), ?_⟩⟩
      rw [he]
      show [_, _, _, _] = _
      rw [Nat.pow_succ, Int.natCast_mul]
  · rintro e ⟨d, rfl⟩
    rw [List.length_map, FP.pts_len]
    exact nx_true (nx_pass (et_test (ev_is (ev_op (ev_var rfl) ev_int rv_B0) (by rw [decide_eq_false (by omega)]))))
theorem ok_require_tried (T : Txt K mg) : FnOk P w K mg base CX0 5 T.require_tried.a T.require_tried.fd P_require_tried (spD K (RP (R_tries T.C))) :=
  fn_proc _ T.require_tried.F sc_require_tried (fun ds ⟨v, _, _, _, e, _⟩ => by rw [e]; rfl) fun cdv A outer s H E hr => by
  refine ⟨_, (pss_cons (ps_expr (pe_call (ok_require_two T) (hr.mono (by omega)) rfl T.m_require_two T.require_two.F.kp T.require_two.b .nil pass0 (pa_cons (pv 0) (pa_cons (pv 1) pa_nil)))) (pss_one (ps_expr (pe_call (ok_need_few_tries T) (hr.mono (by omega)) rfl T.m_need_few_tries T.need_few_tries.F.kp T.need_few_tries.b .nil pass0 (pa_cons (pv 0) (pa_cons (pv 1) pa_nil)))))), fun ds ⟨p, v, op, ov, e, ht⟩ => ?_⟩
  subst e
  exact nx_true (nx_seq (nx_drop (ev_call (ea2 (ev_var rfl) (ev_var rfl)) ⟨⟨p, v, rfl⟩, rfl⟩)) (nx_drop (ev_call (ea2 (ev_var rfl) (ev_var rfl)) ⟨⟨p, v, op, ov, rfl, ht⟩, rfl⟩)))
theorem ok_map_number (T : Txt K mg) : FnOk P w K mg base CX0 13 T.map_number.a T.map_number.fd P_map_number (spD K (R_map_number T.C)) :=
  fn_pure _ T.map_number.F sc_map_number (fun ds z ⟨v, _, _, _, e, _⟩ => by rw [e]; rfl) (by decide) fun cdv A outer s H E hr => by
  refine ⟨_, (pss_cons (ps_expr (pe_call (ok_require_tried T) (hr.mono (by omega)) rfl T.m_require_tried T.require_tried.F.kp T.require_tried.b .nil pass0 (pa_cons (pv 0) (pa_cons (pv 1) pa_nil)))) (pss_one (ps_ret (pe_call (ok_map_number_in T) (hr.mono (by omega)) rfl T.m_map_number_in T.map_number_in.F.kp T.map_number_in.b .nil pass0 (pa_cons (pv 0) (pa_cons (pv 1) pa_nil)))))), fun ds z ⟨p, v, op, ov, e, h6, ht, ez⟩ => ?_⟩
  subst e ez
  refine re_seq (nx_drop (ev_call (ea2 (ev_var rfl) (ev_var rfl)) ⟨⟨p, v, op, ov, rfl, ht⟩, rfl⟩)) ?_
  exact re_ret (ev_call (ea2 (ev_var rfl) (ev_var rfl)) ⟨p, v, op, ov, rfl, h6, ht, rfl⟩)
end
end FB
set_option Elab.async false
set_option autoImplicit false
set_option linter.all false
set_option maxRecDepth 100000
/-! Products of webs. -/
namespace FB
open PySem PySem.Spec PyProof.Rows L2 SlX FA
open FP (Wb OkW)
theorem two_all {α β γ : Type} (xs : List α) (ys : α → List β) (h : α → β → γ) (g : γ → D) : two xs (fun _ => true) ys (fun _ _ => true) (fun a b => g (h a b)) = ((xs.map fun a => (ys a).map (h a)).flatten).map g := by
  unfold two
  rw [List.filter_eq_self.mpr (fun _ _ => rfl), List.map_flatten, List.map_map]
  congr 1
  refine List.map_congr_left fun a _ => ?_
  rw [List.filter_eq_self.mpr (fun _ _ => rfl)]
  simp only [Function.comp, List.map_map]
  rfl
def prCols (a b : Wb) : List (Int × Int) := (a.cols.map fun h => b.cols.map fun t => (h, t)).flatten
def tie1 (a b : Wb) : List (Int × Int) := (a.ts.map fun s => b.ts.map fun t => (s.1 * (b.n : Int) + t.1, s.2 * (b.n : Int) + t.2)).flatten
def tie2 (a b : Wb) : List (Int × Int) := (a.ts.map fun s => b.ts.map fun t => (s.1 * (b.n : Int) + t.2, s.2 * (b.n : Int) + t.1)).flatten
def mixC (p : Int × Int) : Int := if p.1 = p.2 then p.1 else -1
def wTimes (a b : Wb) : Wb := wOf ((prCols a b).map mixC) (tie1 a b ++ tie2 a b)
theorem flat_len {α β γ : Type} (xs : List α) (ys : List β) (h : α → β → γ) : ((xs.map fun a => ys.map (h a)).flatten).length = xs.length * ys.length := by
  induction xs with
  | nil => simp
  | cons x xs ih => rw [List.map_cons, List.flatten_cons, List.length_append, ih, List.length_map, List.length_cons, Nat.succ_mul]; omega
section
variable {P : Program} {w : World} {K : PySem.W.Frag} {mg : Str → Option Value} {base : Heap} {es : Es} {ta tb tc te : TE}
structure FitT (a b : Wb) : Prop where
  oa : OkW a
  ob : OkW b
  ot : OkW (wTimes a b)
  sz : a.n * b.n ≤ 40
  ts : a.ts.length * b.ts.length ≤ 2000
def R_times (C : Addr) (ds : List D) (z : D) : Prop := ∃ (a b : Wb), FitT a b ∧ ds = [wD C a, wD C b] ∧ z = wD C (wTimes a b)
theorem ok_times_in (T : Txt K mg) : FnOk P w K mg base CX0 8 T.times_in.a T.times_in.fd P_times_in (spD K (R_times T.C)) :=
  fn_pure _ T.times_in.F sc_times_in (fun ds z ⟨v, _, _, e, _⟩ => by rw [e]; rfl) (by decide) fun cdv A outer s H E hr => by
  refine ⟨_, (pss_cons (ps_set (i := 2) sc_times_in.nd rfl (by first | exact Or.inl rfl | exact Or.inr rfl) (pe_callB (call_lenSl (E := E0) T.ln T.lf (fnr_of (ok_Web_len T) T.Web_len.b) (hr.mono (by omega)) pass0) (by rfl) T.n_len PySem.boot_len (pa_cons (pv 1) pa_nil))) (pss_cons (ps_setLc2 (i := 3) (own := [("here", 4), ("there", 5)]) (vs1 := [5]) rfl sc_times_in.nd rfl rfl (sw_true rfl rfl rfl (by decide +kernel)) (pi_tupleK (K := K) rfl (pe_slK (K := K) rfl (pv 0))) (blkOk_by (N := N_times_in) (sc := (defScope s_times_in)) (by decide +kernel)) (by decide) (fun _ _ _ _ _ => (pg_name (i := 4) sc_times_in.nd rfl (by first | exact Or.inl rfl | exact Or.inr rfl))) (fun _ _ _ _ _ => pts_nil) (fun _ _ _ _ _ => (pi_tupleK (K := K) rfl (pe_slK (K := K) rfl (pv 1)))) (fun _ _ _ _ _ => (pg_name (i := 5) sc_times_in.nd rfl (by first | exact Or.inl rfl | exact Or.inr rfl))) (fun _ _ _ _ _ => pts_nil) (fun _ _ _ _ _ => (pe_tup (pa_cons (pv 4) (pa_cons (pv 5) pa_nil))))) (pss_cons (ps_setLc2 (i := 6) (own := [("a", 7), ("b", 8), ("c", 9), ("d", 10)]) (vs1 := [9, 10]) rfl sc_times_in.nd rfl rfl (sw_true rfl rfl rfl (by decide +kernel)) (pi_tupleK (K := K) rfl (pe_slK (K := K) rfl (pv 0))) (blkOk_by (N := N_times_in) (sc := (defScope s_times_in)) (by decide +kernel)) (by decide) (fun _ _ _ _ _ => (pg_tupK (K := K) (n := 2) rfl rfl (pgs_cons (pg_name (i := 7) sc_times_in.nd rfl (by first | exact Or.inl rfl | exact Or.inr rfl)) (pgs_cons (pg_name (i := 8) sc_times_in.nd rfl (by first | exact Or.inl rfl | exact Or.inr rfl)) pgs_nil)))) (fun _ _ _ _ _ => pts_nil) (fun _ _ _ _ _ => (pi_tupleK (K := K) rfl (pe_slK (K := K) rfl (pv 1)))) (fun _ _ _ _ _ => (pg_tupK (K := K) (n := 2) rfl rfl (pgs_cons (pg_name (i := 9) sc_times_in.nd rfl (by first | exact Or.inl rfl | exact Or.inr rfl)) (pgs_cons (pg_name (i := 10) sc_times_in.nd rfl (by first | exact Or.inl rfl | exact Or.inr rfl)) pgs_nil)))) (fun _ _ _ _ _ => pts_nil) (fun _ _ _ _ _ => (pe_tup (pa_cons (pe_op op_add (pe_op op_mul (pv 7) (pv 2)) (pv 9)) (pa_cons (pe_op op_add (pe_op op_mul (pv 8) (pv 2)) (pv 10)) pa_nil))))) (pss_cons (ps_expr (pe_bm PySem.F.plainAttrs_list PySem.F.slot_list_extend PySem.F.type_list_extend mt_extend (pv 6) (pa_cons (pe_lc2 (own := [("a", 7), ("b", 8), ("c", 9), ("d", 10)]) (vs1 := [9, 10]) rfl sc_times_in.nd (pi_tupleK (K := K) rfl (pe_slK (K := K) rfl (pv 0))) (blkOk_by (N := N_times_in) (sc := (defScope s_times_in)) (by decide +kernel)) (by decide) (fun _ _ _ _ _ => (pg_tupK (K := K) (n := 2) rfl rfl (pgs_cons (pg_name (i := 7) sc_times_in.nd rfl (by first | exact Or.inl rfl | exact Or.inr rfl)) (pgs_cons (pg_name (i := 8) sc_times_in.nd rfl (by first | exact Or.inl rfl | exact Or.inr rfl)) pgs_nil)))) (fun _ _ _ _ _ => pts_nil) (fun _ _ _ _ _ => (pi_tupleK (K := K) rfl (pe_slK (K := K) rfl (pv 1)))) (fun _ _ _ _ _ => (pg_tupK (K := K) (n := 2) rfl rfl (pgs_cons (pg_name (i := 9) sc_times_in.nd rfl (by first | exact Or.inl rfl | exact Or.inr rfl)) (pgs_cons (pg_name (i := 10) sc_times_in.nd rfl (by first | exact Or.inl rfl | exact Or.inr rfl)) pgs_nil)))) (fun _ _ _ _ _ => pts_nil) (fun _ _ _ _ _ => (pe_tup (pa_cons (pe_op op_add (pe_op op_mul (pv 7) (pv 2)) (pv 10)) (pa_cons (pe_op op_add (pe_op op_mul (pv 8) (pv 2)) (pv 9)) pa_nil))))) pa_nil))) (pss_one (ps_ret (pe_call (ok_web_of T) (hr.mono (by omega)) rfl T.m_web_of T.web_of.F.kp T.web_of.b .nil pass0 (pa_cons (pe_lc (own := [("here", 4), ("there", 5)]) rfl sc_times_in.nd (pi_listK (K := K) rfl (pv 3)) (blkOk_by (N := N_times_in) (sc := (defScope s_times_in)) (by decide +kernel)) (fun _ _ _ _ _ => (pg_tupK (K := K) (n := 2) rfl rfl (pgs_cons (pg_name (i := 4) sc_times_in.nd rfl (by first | exact Or.inl rfl | exact Or.inr rfl)) (pgs_cons (pg_name (i := 5) sc_times_in.nd rfl (by first | exact Or.inl rfl | exact Or.inr rfl)) pgs_nil)))) (fun _ _ _ _ _ => pts_nil) (fun _ _ _ _ _ => (pe_ifExp (pt_cmpR op_eq (pv 4) (pv 5) (nomark _)) (pv 4) (pe_glob (v := .int (-1)) rfl T.g_ANY ⟨_, rfl⟩)))) (pa_cons (pv 6) pa_nil))))))))), fun ds z ⟨a, b, ft, e, ez⟩ => ?_⟩
  subst e ez
  obtain ⟨oa, ob, ot, sz, ts⟩ := ft
  have na := ok_n oa
  have nb := ok_n ob
  have la := oa.lim
  have lb := ob.lim
  have cmul : ∀ t ∈ a.ts, (0 ≤ t.1 ∧ t.1 ≤ 40) ∧ (0 ≤ t.2 ∧ t.2 ≤ 40) := fun t ht => by
    have := oa.tie t ht
    have h2 := oa.few
    omega
  refine re_seq (nx_asg (ev_len (v := b) (ev_var rfl) (by omega))) ?_
  refine re_seq (nx_asg (ef_is (cs := (prCols a b).map pD) (ef_lc2 a.cols .int (fun _ => true) (fun h => [.val (wD T.C a), .val (wD T.C b), .val (.int b.n), .non, .val (.int h), .non, .non, .non, .non, .non, .non]) (fun _ => b.cols) (fun _ => .int) (fun _ _ => true)
    (fun h t => [.val (wD T.C a), .val (wD T.C b), .val (.int b.n), .non, .val (.int h), .val (.int t), .non, .non, .non, .non, .non]) (fun h t => pD (h, t)) (it_tup (ev_sl (ev_var rfl) T.cls T.sl0 rfl)) (fun h _ => ge_name (by simp)) (fun h _ => et_yes)
    (fun h _ _ => it_tup (ev_sl (ev_var rfl) T.cls T.sl0 rfl)) (fun h _ _ t _ => ge_name (by simp)) (fun _ _ _ _ _ => et_yes) (fun h _ _ t _ _ => ev_tup (ea2 (ev_var rfl) (ev_var rfl)) (by show 2 ≤ _; omega)) b.n (fun _ _ => Nat.le_refl _) ?_ ?_) (two_all a.cols (fun _ => b.cols) (fun h t => (h, t)) pD)).e) ?_
  · have : a.cols.length * b.n ≤ 40 := sz
    omega
  · omega
  refine re_seq (nx_asgF (ef_is (cs := (tie1 a b).map pD) (ef_lc2 a.ts pD (fun _ => true) (fun s => [.val (wD T.C a), .val (wD T.C b), .val (.int b.n), .val (.lst ((prCols a b).map pD)), .non, .non, .non, .val (.int s.1), .val (.int s.2), .non, .non]) (fun _ => b.ts) (fun _ => pD) (fun _ _ => true)
    (fun s t => [.val (wD T.C a), .val (wD T.C b), .val (.int b.n), .val (.lst ((prCols a b).map pD)), .non, .non, .non, .val (.int s.1), .val (.int s.2), .val (.int t.1), .val (.int t.2)]) (fun s t => pD (s.1 * (b.n : Int) + t.1, s.2 * (b.n : Int) + t.2)) (it_tup (ev_sl (ev_var rfl) T.cls T.sl2 rfl)) (fun h _ => ge_two (by simp) (by simp)) (fun h _ => et_yes)
    (fun h _ _ => it_tup (ev_sl (ev_var rfl) T.cls T.sl2 rfl)) (fun h _ _ t _ => ge_two (by simp) (by simp)) (fun _ _ _ _ _ => et_yes) (fun s hs _ t _ _ => ev_tup (ea2 (ev_op (ev_op (ev_var rfl) (ev_var rfl) (rv_I (.inl (by have := cmul s hs; omega)))) (ev_var rfl) rv_I0) (ev_op (ev_op (ev_var rfl) (ev_var rfl) (rv_I (.inl (by have := cmul s hs; omega)))) (ev_var rfl) rv_I0)) (by show 2 ≤ _; omega)) b.ts.length (fun _ _ => Nat.le_refl _) (by omega) (by omega)) (two_all a.ts (fun _ => b.ts) (fun s t => (s.1 * (b.n : Int) + t.1, s.2 * (b.n : Int) + t.2)) pD))) ?_
  have l1 : (tie1 a b).length = a.ts.length * b.ts.length := flat_len _ _ _
  have l2 : (tie2 a b).length = a.ts.length * b.ts.length := flat_len _ _ _
  refine re_seq (nx_ext rfl (ef_is (cs := (tie2 a b).map pD) (ef_lc2 a.ts pD (fun _ => true) (fun s => [.val (wD T.C a), .val (wD T.C b), .val (.int b.n), .val (.lst ((prCols a b).map pD)), .non, .non, .own none ((tie1 a b).map pD), .val (.int s.1), .val (.int s.2), .non, .non]) (fun _ => b.ts) (fun _ => pD) (fun _ _ => true)
    (fun s t => [.val (wD T.C a), .val (wD T.C b), .val (.int b.n), .val (.lst ((prCols a b).map pD)), .non, .non, .own none ((tie1 a b).map pD), .val (.int s.1), .val (.int s.2), .val (.int t.1), .val (.int t.2)]) (fun s t => pD (s.1 * (b.n : Int) + t.2, s.2 * (b.n : Int) + t.1)) (it_tup (ev_sl (ev_var rfl) T.cls T.sl2 rfl)) (fun h _ => ge_two (by simp) (by simp)) (fun h _ => et_yes)
    (fun h _ _ => it_tup (ev_sl (ev_var rfl) T.cls T.sl2 rfl)) (fun h _ _ t _ => ge_two (by simp) (by simp)) (fun _ _ _ _ _ => et_yes) (fun s hs _ t _ _ => ev_tup (ea2 (ev_op (ev_op (ev_var rfl) (ev_var rfl) (rv_I (.inl (by have := cmul s hs; omega)))) (ev_var rfl) rv_I0) (ev_op (ev_op (ev_var rfl) (ev_var rfl) (rv_I (.inl (by have := cmul s hs; omega)))) (ev_var rfl) rv_I0)) (by show 2 ≤ _; omega)) b.ts.length (fun _ _ => Nat.le_refl _) (by omega) (by omega)) (two_all a.ts (fun _ => b.ts) (fun s t => (s.1 * (b.n : Int) + t.2, s.2 * (b.n : Int) + t.1)) pD)) (by rw [List.length_map, List.length_map]; omega)) ?_
  refine re_tell (i := 6) rfl ?_
  have lp : (prCols a b).length = a.cols.length * b.cols.length := flat_len _ _ _
  have sz2 : a.cols.length * b.cols.length ≤ 40 := sz
  refine re_ret (ev_call (ea2 (ef_is (cs := ((prCols a b).map mixC).map .int) (ef_lcm (prCols a b) pD (fun p => .int (mixC p)) (fun p => [.val (wD T.C a), .val (wD T.C b), .val (.int b.n), .val (.lst ((prCols a b).map pD)), .val (.int p.1), .val (.int p.2), .val (.lst ((tie1 a b).map pD ++ (tie2 a b).map pD)), .non, .non, .non, .non]) (it_lst (ev_var rfl)) (fun p _ => ge_two (by simp) (by simp)) (fun p _ => ?_) (by omega)) (by rw [List.map_map]; rfl)).e (ev_var rfl))
    ⟨(prCols a b).map mixC, tie1 a b ++ tie2 a b, .inr (by rw [List.map_append]), ot, by rw [List.length_append]; omega, rfl⟩)
  refine ev_if (b := decide (p.1 = p.2)) (et_test (ev_op (ev_var rfl) (ev_var rfl) rv_eqI)) (fun h => ?_) fun h => ?_
  · rw [decide_eq_true_eq] at h
    unfold mixC
    rw [if_pos h]
    exact ev_var rfl
  · rw [decide_eq_false_iff_not] at h
    unfold mixC
    rw [if_neg h]
    exact ev_int
theorem ok_times (T : Txt K mg) : FnOk P w K mg base CX0 9 T.times.a T.times.fd P_times (spD K (R_times T.C)) :=
  fn_pure _ T.times.F sc_times (fun ds z ⟨v, _, _, e, _⟩ => by rw [e]; rfl) (by decide) fun cdv A outer s H E hr => by
  refine ⟨_, (pss_cons (ps_expr (pe_call (ok_require_two T) (hr.mono (by omega)) rfl T.m_require_two T.require_two.F.kp T.require_two.b .nil pass0 (pa_cons (pv 0) (pa_cons (pv 1) pa_nil)))) (pss_cons (ps_expr (pe_call (ok_need_few_points T) (hr.mono (by omega)) rfl T.m_need_few_points T.need_few_points.F.kp T.need_few_points.b .nil pass0 (pa_cons (pe_op op_mul (pe_callB (call_lenSl (E := E0) T.ln T.lf (fnr_of (ok_Web_len T) T.Web_len.b) (hr.mono (by omega)) pass0) (by rfl) T.n_len PySem.boot_len (pa_cons (pv 0) pa_nil)) (pe_callB (call_lenSl (E := E0) T.ln T.lf (fnr_of (ok_Web_len T) T.Web_len.b) (hr.mono (by omega)) pass0) (by rfl) T.n_len PySem.boot_len (pa_cons (pv 1) pa_nil))) pa_nil))) (pss_one (ps_ret (pe_call (ok_times_in T) (hr.mono (by omega)) rfl T.m_times_in T.times_in.F.kp T.times_in.b .nil pass0 (pa_cons (pv 0) (pa_cons (pv 1) pa_nil))))))), fun ds z ⟨a, b, ft, e, ez⟩ => ?_⟩
  subst e ez
  have na := ok_n ft.oa
  have nb := ok_n ft.ob
  have sz := ft.sz
  refine re_seq (nx_drop (ev_call (ea2 (ev_var rfl) (ev_var rfl)) ⟨⟨a, b, rfl⟩, rfl⟩)) ?_
  refine re_seq (nx_drop (ev_call (ea1 (ev_op (ev_len (v := a) (ev_var rfl) (by omega)) (ev_len (v := b) (ev_var rfl) (by omega)) (rv_I (.inl ⟨by omega, by omega⟩)))) ⟨⟨_, rfl, by have := Int.ofNat_le.mpr sz; rw [Int.natCast_mul] at this; exact this⟩, rfl⟩)) ?_
  exact re_ret (ev_call (ea2 (ev_var rfl) (ev_var rfl)) ⟨a, b, ft, rfl, rfl⟩)
end
end FB
set_option Elab.async false
set_option autoImplicit false
set_option linter.all false
set_option maxRecDepth 100000
/-! The law's dice. -/
namespace FB
open PySem PySem.Spec PyProof.Rows L2 SlX FA
open FP (Wb OkW)
def Dice (os : List D) : Prop := ∃ g l : Int, os = [.int g, .int l]
section
variable {P : Program} {w : World} {K : PySem.W.Frag} {mg : Str → Option Value} {base : Heap} {es : Es} {ta tb tc te : TE}
def R_dice (ds cs : List D) : Prop := ∃ (ns : List Int) (k : Nat), ds = [.lst (ns.map .int), .int k] ∧ k ≤ 100 ∧ ns.length ≤ 63 ∧ cs = [.int ((max 0 ((((if (k : Int) < ns.length then ns.getD k 0 else 131 * (k : Int) + 71)).natAbs : Int) - 10 ^ 16)) % (10 ^ 55 * 10 ^ 55)),
  .int (((((if (k : Int) < ns.length then ns.getD k 0 else 131 * (k : Int) + 71)).natAbs : Int) % 18446744073709551557 + 7919 * (k : Int) + 31 * (if decide ((if (k : Int) < ns.length then ns.getD k 0 else 131 * (k : Int) + 71) < 0) then 1 else 0)) % 18446744073709551616)]
theorem ok__law_dice (T : Txt K mg) : FnOk P w K mg base CX0 1 T._law_dice.a T._law_dice.fd P__law_dice (spF K R_dice) :=
  fn_fresh _ T._law_dice.F sc__law_dice (fun ds z ⟨v, _, e, _⟩ => by rw [e]; rfl) fun cdv A outer s H E hr => by
  refine ⟨_, (pss_cons (ps_set (i := 2) sc__law_dice.nd rfl (by first | exact Or.inl rfl | exact Or.inr rfl) (pe_ifExp (pt_cmpR op_lt (pv 1) (pe_callB (call_lenK (K := K) rfl) (by rfl) T.n_len PySem.boot_len (pa_cons (pv 0) pa_nil)) (nomark _)) (pe_callTy call_int1 (by rfl) T.n_int (by rfl) (pa_cons (pe_ix (ix_listK (K := K) rfl) (pv 0) (pv 1) (fun _ _ => rfl)) pa_nil)) (pe_op op_add (pe_op op_mul pe_int (pv 1)) pe_int))) (pss_cons (ps_set (i := 3) sc__law_dice.nd rfl (by first | exact Or.inl rfl | exact Or.inr rfl) (pe_op op_mod (pe_callB (call_max2 rfl) (by rfl) T.n_max (by rfl) (pa_cons pe_int (pa_cons (pe_op op_sub (pe_callB call_abs (by rfl) T.n_abs (by rfl) (pa_cons (pv 2) pa_nil)) (pe_op op_pow pe_int pe_int)) pa_nil))) (pe_op op_mulW (pe_op op_pow pe_int pe_int) (pe_op op_pow pe_int pe_int)))) (pss_one (ps_ret (pe_lst (pa_cons (pv 3) (pa_cons (pe_op op_mod (pe_op op_add (pe_op op_add (pe_op op_mod (pe_callB call_abs (by rfl) T.n_abs (by rfl) (pa_cons (pv 2) pa_nil)) pe_int) (pe_op op_mul pe_int (pv 1))) (pe_op op_mul pe_int (pe_callTy call_int1 (by rfl) T.n_int (by rfl) (pa_cons (pe_cmpR op_lt (pv 2) pe_int (nomark _)) pa_nil)))) pe_int) pa_nil))))))), fun ds cs ⟨ns, k, e, hk, hl, ez⟩ => ?_⟩
  subst e ez
  generalize ec : (if (k : Int) < ns.length then ns.getD k 0 else 131 * (k : Int) + 71) = cell
  refine rf_seq (nx_asg (x := .int cell) (ev_if (b := decide ((k : Int) < ns.length)) (et_test (ev_is (ev_op (ev_var rfl) (ev_cb (ea1 (ev_var rfl)) rc_lenL) rv_B0) (by rw [List.length_map]))) (fun h => ?_) fun h => ?_)) ?_
  · rw [decide_eq_true_eq] at h
    rw [if_pos h] at ec
    subst ec
    refine ev_cb (ea1 (ev_op (ev_var rfl) (ev_var rfl) (rv_ixL (d := .int (ns.getD k 0)) ?_))) rc_intI
    refine atI_nat ?_
    rw [List.getElem?_map, List.getD_eq_getElem?_getD, List.getElem?_eq_getElem (by omega)]
    rfl
  · rw [decide_eq_false_iff_not] at h
    rw [if_neg h] at ec
    subst ec
    exact ev_op (ev_op ev_int (ev_var rfl) (rv_I (.inl ⟨by omega, by omega⟩))) ev_int rv_I0
  · refine rf_seq (nx_asg (x := .int ((max 0 ((cell.natAbs : Int) - 10 ^ 16)) % (10 ^ 55 * 10 ^ 55))) (ev_op (ev_cb (ea2 ev_int (ev_op (ev_cb (ea1 (ev_var rfl)) rc_abs) (ev_op ev_int ev_int (rv_I (g := fun i j => i ^ j.toNat) ⟨by decide, by decide, by decide⟩)) rv_I0)) rc_max) (ev_op (ev_op ev_int ev_int (rv_I (g := fun i j => i ^ j.toNat) ⟨by decide, by decide, by decide⟩)) (ev_op ev_int ev_int (rv_I (g := fun i j => i ^ j.toNat) ⟨by decide, by decide, by decide⟩)) (rv_I (by unfold CMulW; decide +kernel))) (rv_I (g := fun i j => i % j) (by decide +kernel)))) ?_
    refine rf_ret (ef_lst (ea2 (ev_var rfl) (ev_op (ev_op (ev_op (ev_op (ev_cb (ea1 (ev_var rfl)) rc_abs) ev_int (rv_I (g := fun i j => i % j) (by decide))) (ev_op ev_int (ev_var rfl) (rv_I (.inl ⟨by decide, by decide⟩))) rv_I0) (ev_op ev_int (ev_cb (ea1 (ev_op (ev_var rfl) ev_int rv_B0)) rc_intB) (rv_I (.inl ⟨by decide, by decide⟩))) rv_I0) ev_int (rv_I (g := fun i j => i % j) (by decide)))) (by show 2 ≤ _; omega))
def R_roll (os ds : List D) (post : D → List D → Prop) : Prop := Dice os ∧ ∃ t : Int, ds = [.int t] ∧ 0 < t ∧ t ≤ 1000 ∧ post = fun d os' => (∃ z : Int, d = .int z ∧ 0 ≤ z ∧ z < t) ∧ Dice os'
theorem small_log {t : Int} (h0 : 0 < t) (h : t < 2 ^ 62) : t.natAbs.log2 < 9000 := by
  have h1 : t.natAbs < 2 ^ 62 := by omega
  have := (Nat.log2_lt (by omega)).mpr h1
  omega
theorem ok__law_roll (T : Txt K mg) : FnOk P w K mg base CX0 1 T._law_roll.a T._law_roll.fd P__law_roll (spM K R_roll) :=
  fn_mut _ T._law_roll.F sc__law_roll (fun os ds post ⟨_, t, e, _⟩ => by rw [e]; rfl) (by decide) fun cdv A outer s H E hr => by
  refine ⟨_, (pss_cons (ps_if (pt_cmpR op_gt (pe_ix (ix_listK (K := K) rfl) (pv 0) pe_int (fun _ _ => rfl)) pe_int (nomark _)) (pss_cons (ps_set (i := 2) sc__law_roll.nd rfl (by first | exact Or.inl rfl | exact Or.inr rfl) (pe_callTy call_int1 (by rfl) T.n_int (by rfl) (pa_cons (pe_op op_mod (pe_ix (ix_listK (K := K) rfl) (pv 0) pe_int (fun _ _ => rfl)) (pv 1)) pa_nil))) (pss_cons (ps_asg (pe_op op_fdivW (pe_ix (ix_listK (K := K) rfl) (pv 0) pe_int (fun _ _ => rfl)) (pv 1)) (pg_sub (pv 0) pe_int set_list)) (pss_one (ps_ret (pv 2))))) pss_nil) (pss_cons (ps_asg (pe_op op_mod (pe_op op_add (pe_op op_mul (pe_ix (ix_listK (K := K) rfl) (pv 0) pe_int (fun _ _ => rfl)) pe_int) pe_int) pe_int) (pg_sub (pv 0) pe_int set_list)) (pss_one (ps_ret (pe_op op_mod (pe_callTy call_int1 (by rfl) T.n_int (by rfl) (pa_cons (pe_op op_fdivW (pe_ix (ix_listK (K := K) rfl) (pv 0) pe_int (fun _ _ => rfl)) pe_int) pa_nil)) (pv 1)))))), fun p os ds post ⟨⟨g, l, eo⟩, t, e, h0, h1, ep⟩ => ?_⟩
  subst eo e ep
  refine re_if (b := decide (0 < g)) (et_test (ev_op (ev_ixOwn (d := .int g) rfl ev_int rfl) ev_int rv_B0)) (fun _ => ?_) fun _ => ?_
  · refine re_seq (nx_asg (x := .int (g % t)) (ev_cb (ea1 (ev_op (ev_ixOwn (d := .int g) rfl ev_int rfl) (ev_var rfl) (rv_I (g := fun i j => i % j) h0))) rc_intI)) ?_
    refine re_seq (nx_setL (j := 0) rfl (ev_op (ev_ixOwn (d := .int g) rfl ev_int rfl) (ev_var rfl) (rv_I (g := fun i j => i / j) ⟨h0, small_log h0 (by omega)⟩)) ev_int rfl) ?_
    exact (re_retX (ev_var (d := .int (g % t)) rfl).toX).imp fun d es' ⟨e1, e2⟩ => by
      subst e2
      exact ⟨_, rfl, ⟨_, e1, Int.emod_nonneg _ (by omega), Int.emod_lt_of_pos _ h0⟩, _, _, rfl⟩
  · refine re_seq (nx_setL (j := 1) rfl (ev_op (ev_op (ev_op (ev_ixOwn (d := .int l) rfl ev_int rfl) ev_int (rv_I (.inr ⟨by decide, by decide⟩))) ev_int rv_I0) ev_int (rv_I (g := fun i j => i % j) (by decide))) ev_int rfl) ?_
    exact (re_retX (ev_op (ev_cb (ea1 (ev_op (ev_ixOwn rfl ev_int rfl) ev_int (rv_I (g := fun i j => i / j) ⟨by decide, small_log (by decide) (by decide)⟩))) rc_intI) (ev_var rfl) (rv_I (g := fun i j => i % j) h0)).toX).imp fun d es' ⟨e1, e2⟩ => by
      subst e2
      exact ⟨_, rfl, ⟨_, e1, Int.emod_nonneg _ (by omega), Int.emod_lt_of_pos _ h0⟩, _, _, rfl⟩
end
end FB
set_option Elab.async false
set_option autoImplicit false
set_option linter.all false
set_option maxRecDepth 100000
/-! The law's webs. -/
namespace FB
open PySem PySem.Spec PyProof.Rows L2 SlX FA
open FP (Wb OkW)
section
variable {P : Program} {w : World} {K : PySem.W.Frag} {mg : Str → Option Value} {base : Heap} {es : Es} {ta tb tc te : TE}
def R_ties (ds : List D) (z : D) : Prop := ∃ ps : List (Int × Int), ds = [.lst (ps.map pD)] ∧ ps.length < 64 ∧ (∀ p ∈ ps, 0 ≤ p.1 ∧ p.1 < 64 ∧ 0 ≤ p.2 ∧ p.2 < 64) ∧ z = .tup ((FP.sortP (ps.map mm)).map pD)
theorem ok__law_ties (T : Txt K mg) : FnOk P w K mg base CX0 1 T._law_ties.a T._law_ties.fd P__law_ties (spD K R_ties) :=
  fn_pure _ T._law_ties.F sc__law_ties (fun ds z ⟨v, e, _⟩ => by rw [e]; rfl) (by decide) fun cdv A outer s H E hr => by
  refine ⟨_, (pss_one (ps_ret (pe_tupleOfK (K := K) rfl rfl T.n_tuple (pe_callB (cr_sortedTK (K := K) (P := P) (w := w) rfl rfl rfl rfl) (by rfl) T.n_sorted (by rfl) (pa_cons (pe_callTy (cr_setOfTK (K := K) (P := P) (w := w) rfl rfl rfl rfl hr.units) (by rfl) T.n_set (by rfl) (pa_cons (pe_lc (own := [("pair", 1)]) rfl sc__law_ties.nd (pi_listK (K := K) rfl (pv 0)) (blkOk_by (N := N__law_ties) (sc := (defScope s__law_ties)) (by decide +kernel)) (fun _ _ _ _ _ => (pg_name (i := 1) sc__law_ties.nd rfl (by first | exact Or.inl rfl | exact Or.inr rfl))) (fun _ _ _ _ _ => pts_nil) (fun _ _ _ _ _ => (pe_tup (pa_cons (pe_callB (cr_minTK (K := K) rfl rfl hr.units) (by rfl) T.n_min (by rfl) (pa_cons (pv 1) pa_nil)) (pa_cons (pe_callB (cr_maxTK (K := K) rfl rfl hr.units) (by rfl) T.n_max (by rfl) (pa_cons (pv 1) pa_nil)) pa_nil))))) pa_nil)) pa_nil))))), fun ds z ⟨ps, e, hl, hb, ez⟩ => ?_⟩
  subst e ez
  refine re_ret (ev_tupL (ef_sortSet (ps := ps.map mm) (ef_is (ef_lcm ps pD (fun p => pD (mm p)) (fun p => [.val (.lst (ps.map pD)), .val (pD p)]) (it_lst (ev_var rfl)) (fun p _ => ge_name (by simp)) (fun p _ => ev_tup (ea2 (ev_cb (ea1 (ev_var rfl)) rc_minT) (ev_cb (ea1 (ev_var rfl)) rc_maxT)) (by show 2 ≤ _; omega)) (by omega)) (by rw [List.map_map]; rfl)).e (by rw [List.length_map]; exact hl) ?_).e)
  intro p hp
  obtain ⟨q, hq, rfl⟩ := List.mem_map.mp hp
  have := hb q hq
  unfold mm
  simp only
  omega
def ringT (n : Nat) : List (Int × Int) := FP.sortP (((FP.pts n).map fun a => (a, (a + 1) % (n : Int))).map mm)
def R_ring (ds : List D) (z : D) : Prop := ∃ n : Nat, ds = [.int n] ∧ 1 ≤ n ∧ n ≤ 6 ∧ z = .tup ((ringT n).map pD)
theorem ok__law_ring (T : Txt K mg) : FnOk P w K mg base CX0 2 T._law_ring.a T._law_ring.fd P__law_ring (spD K R_ring) :=
  fn_pure _ T._law_ring.F sc__law_ring (fun ds z ⟨v, e, _⟩ => by rw [e]; rfl) (by decide) fun cdv A outer s H E hr => by
  refine ⟨_, (pss_one (ps_ret (pe_call (ok__law_ties T) (hr.mono (by omega)) rfl T.m__law_ties T._law_ties.F.kp T._law_ties.b .nil pass0 (pa_cons (pe_lc (own := [("at", 1)]) rfl sc__law_ring.nd (pi_range1 rfl T.n_range (pa_cons (pv 0) pa_nil)) (blkOk_by (N := N__law_ring) (sc := (defScope s__law_ring)) (by decide +kernel)) (fun _ _ _ _ _ => (pg_name (i := 1) sc__law_ring.nd rfl (by first | exact Or.inl rfl | exact Or.inr rfl))) (fun _ _ _ _ _ => pts_nil) (fun _ _ _ _ _ => (pe_tup (pa_cons (pv 1) (pa_cons (pe_op op_mod (pe_op op_add (pv 1) pe_int) (pv 0)) pa_nil))))) pa_nil)))), fun ds z ⟨n, e, h1, hl, ez⟩ => ?_⟩
  subst e ez
  refine re_ret (ev_call (ea1 (ef_is (cs := ((FP.pts n).map fun a => (a, (a + 1) % (n : Int))).map pD) (ef_lcm (FP.pts n) .int (fun a => pD (a, (a + 1) % (n : Int))) (fun a => [.val (.int n), .val (.int a)]) (it_pts (ev_var rfl) (by omega)) (fun a _ => ge_name (by simp)) (fun a _ => ev_tup (ea2 (ev_var rfl) (ev_op (ev_op (ev_var rfl) ev_int rv_I0) (ev_var rfl) (rv_I (g := fun i j => i % j) (by omega)))) (by show 2 ≤ _; omega)) (by rw [FP.pts_len]; omega)) (by rw [List.map_map]; rfl)).e) ⟨_, rfl, ?_, ?_, rfl⟩)
  · rw [List.length_map, FP.pts_len]; omega
  · intro p hp
    obtain ⟨a, ha, rfl⟩ := List.mem_map.mp hp
    rw [FP.mem_pts] at ha
    have h2 := Int.emod_nonneg (a + 1) (show (n : Int) ≠ 0 by omega)
    have h3 := Int.emod_lt_of_pos (a + 1) (show (0 : Int) < n by omega)
    simp only
    omega
def fullPs (n : Nat) : List (Int × Int) := ((List.range n).map fun (b : Nat) => (FP.pts b).map fun a => (a, (b : Int))).flatten
def fullT (n : Nat) : List (Int × Int) := FP.sortP ((fullPs n).map mm)
def R_full (ds : List D) (z : D) : Prop := ∃ n : Nat, ds = [.int n] ∧ n ≤ 6 ∧ z = .tup ((fullT n).map pD)
theorem fullPs_len : ∀ n, n ≤ 6 → (fullPs n).length < 64 := by
  intro n hn
  have : ∀ m : Nat, m < 7 → (fullPs m).length < 64 := by decide +kernel
  exact this n (by omega)
theorem mem_fullPs {n : Nat} {p : Int × Int} : p ∈ fullPs n ↔ 0 ≤ p.1 ∧ p.1 < p.2 ∧ p.2 < (n : Int) := by
  unfold fullPs
  rw [List.mem_flatten]
  constructor
  · rintro ⟨l, hl, hp⟩
    obtain ⟨b, hb, rfl⟩ := List.mem_map.mp hl
    obtain ⟨a, ha, rfl⟩ := List.mem_map.mp hp
    rw [List.mem_range] at hb
    rw [FP.mem_pts] at ha
    simp only
    omega
  · intro h
    refine ⟨_, List.mem_map.mpr ⟨p.2.toNat, by rw [List.mem_range]; omega, rfl⟩, List.mem_map.mpr ⟨p.1, by rw [FP.mem_pts]; omega, ?_⟩⟩
    exact Prod.ext rfl (by simp only; omega)
theorem ok__law_full (T : Txt K mg) : FnOk P w K mg base CX0 2 T._law_full.a T._law_full.fd P__law_full (spD K R_full) :=
  fn_pure _ T._law_full.F sc__law_full (fun ds z ⟨v, e, _⟩ => by rw [e]; rfl) (by decide) fun cdv A outer s H E hr => by
  refine ⟨_, (pss_one (ps_ret (pe_call (ok__law_ties T) (hr.mono (by omega)) rfl T.m__law_ties T._law_ties.F.kp T._law_ties.b .nil pass0 (pa_cons (pe_callB (cr_sumLK (K := K) rfl rfl) (by rfl) T.n_sum (by rfl) (pa_cons (pe_lc (own := [("at", 1)]) rfl sc__law_full.nd (pi_range1 rfl T.n_range (pa_cons (pv 0) pa_nil)) (blkOk_by (N := N__law_full) (sc := (defScope s__law_full)) (by decide +kernel)) (fun _ _ _ _ _ => (pg_name (i := 1) sc__law_full.nd rfl (by first | exact Or.inl rfl | exact Or.inr rfl))) (fun _ _ _ _ _ => pts_nil) (fun _ _ _ _ _ => (pe_lc (own := [("to", 2)]) rfl sc__law_full.nd (pi_range1 rfl T.n_range (pa_cons (pv 1) pa_nil)) (blkN (N := N__law_full) (defScope s__law_full) rfl (by decide +kernel)) (fun _ _ _ _ _ => (pg_name (i := 2) sc__law_full.nd rfl (by first | exact Or.inl rfl | exact Or.inr rfl))) (fun _ _ _ _ _ => pts_nil) (fun _ _ _ _ _ => (pe_tup (pa_cons (pv 2) (pa_cons (pv 1) pa_nil))))))) (pa_cons (pe_lst pa_nil) pa_nil))) pa_nil)))), fun ds z ⟨n, e, hl, ez⟩ => ?_⟩
  subst e ez
  have key : ((List.range n).map fun (b : Nat) => (FP.pts b).map fun a => pD (a, (b : Int))).flatten = (fullPs n).map pD := by
    unfold fullPs
    rw [List.map_flatten, List.map_map]
    congr 1
    refine List.map_congr_left fun b _ => ?_
    simp only [Function.comp, List.map_map]
    rfl
  refine re_ret (ev_call (ea1 (ef_is (cs := (fullPs n).map pD) (ef_sumL (dss := (List.range n).map fun (b : Nat) => (FP.pts b).map fun a => pD (a, (b : Int))) (ev_is (ef_lcm (List.range n) (fun (b : Nat) => .int (b : Int)) (fun (b : Nat) => .lst ((FP.pts b).map fun a => pD (a, (b : Int)))) (fun b => [.val (.int n), .val (.int (b : Int)), .non]) ?_ (fun b _ => ge_name (by simp)) (fun b hb => ?_) (by rw [List.length_range]; omega)).e (by rw [List.map_map]; rfl)) ?_) key).e) ⟨_, rfl, fullPs_len n hl, ?_, rfl⟩)
  · have := it_pts (K := K) (es := [.val (.int n), .non, .non]) (ev_var (i := 0) (d := .int n) rfl) (by omega : n ≤ 1000000)
    unfold FP.pts at this
    rw [List.map_map] at this
    exact this
  · rw [List.mem_range] at hb
    exact (ef_lcm (FP.pts b) .int (fun a => pD (a, (b : Int))) (fun a => [.val (.int n), .val (.int (b : Int)), .val (.int a)]) (it_pts (ev_var rfl) (by omega)) (fun a _ => ge_name (by simp)) (fun a _ => ev_tup (ea2 (ev_var rfl) (ev_var rfl)) (by show 2 ≤ _; omega)) (by rw [FP.pts_len]; omega)).e
  · rw [key, List.length_map]
    have := fullPs_len n hl
    omega
  · intro p hp
    rw [mem_fullPs] at hp
    omega
def plainW (n : Nat) (ts : List (Int × Int)) : Wb := ⟨List.replicate n (-1), ts⟩
def R_plain (C : Addr) (ds : List D) (z : D) : Prop := ∃ (n : Nat) (ts : List (Int × Int)), ds = [.int n, .tup (ts.map pD)] ∧ 2 ≤ n ∧ n ≤ 6 ∧ OkW (plainW n ts) ∧ z = wD C (plainW n ts)
theorem ok__law_plain (T : Txt K mg) : FnOk P w K mg base CX0 7 T._law_plain.a T._law_plain.fd P__law_plain (spD K (R_plain T.C)) :=
  fn_pure _ T._law_plain.F sc__law_plain (fun ds z ⟨v, _, e, _⟩ => by rw [e]; rfl) (by decide) fun cdv A outer s H E hr => by
  refine ⟨_, (pss_one (ps_ret (pe_make T.mkW (ok_Web_init T) (hr.mono (by omega)) rfl T.mWeb T.Web_init.b .nil pass0 (pa_cons (pe_op (op_repTK (K := K) rfl) (pe_tup (pa_cons (pe_un un_neg pe_int) pa_nil)) (pv 0)) (pa_cons (pv 1) pa_nil))))), fun ds z ⟨n, ts, e, h2, h6, ok, ez⟩ => ?_⟩
  subst e ez
  refine re_ret (ev_make (ea2 (ev_is (ev_op (ev_tup (ea1 (ev_un ev_int ru_neg)) (by show 1 ≤ _; omega)) (ev_var rfl) (rv_repT (by simp) (by omega) (by omega) (by show 1 ≤ _; omega))) ?_) (ev_var rfl)) ⟨plainW n ts, ok, rfl, rfl⟩)
  unfold plainW
  simp only [Int.toNat_natCast]
  congr 1
  have : ∀ m : Nat, (List.replicate m [D.int (-1)]).flatten = (List.replicate m (-1 : Int)).map .int := by
    intro m
    induction m with
    | zero => rfl
    | succ m ih => rw [List.replicate_succ, List.replicate_succ, List.flatten_cons, ih]; rfl
  exact this n
def roadT (n : Nat) : List (Int × Int) := (FP.pts (n - 1)).map fun a => (a, a + 1)
def R_road (C : Addr) (ds : List D) (z : D) : Prop := ∃ (n : Nat), ds = [.int n] ∧ 2 ≤ n ∧ n ≤ 6 ∧ OkW (plainW n (roadT n)) ∧ z = wD C (plainW n (roadT n))
theorem ok__law_road (T : Txt K mg) : FnOk P w K mg base CX0 8 T._law_road.a T._law_road.fd P__law_road (spD K (R_road T.C)) :=
  fn_pure _ T._law_road.F sc__law_road (fun ds z ⟨v, e, _⟩ => by rw [e]; rfl) (by decide) fun cdv A outer s H E hr => by
  refine ⟨_, (pss_one (ps_ret (pe_call (ok__law_plain T) (hr.mono (by omega)) rfl T.m__law_plain T._law_plain.F.kp T._law_plain.b .nil pass0 (pa_cons (pv 0) (pa_cons (pe_tupleOfK (K := K) rfl rfl T.n_tuple (pe_lc (own := [("at", 1)]) rfl sc__law_road.nd (pi_range1 rfl T.n_range (pa_cons (pe_op op_sub (pv 0) pe_int) pa_nil)) (blkOk_by (N := N__law_road) (sc := (defScope s__law_road)) (by decide +kernel)) (fun _ _ _ _ _ => (pg_name (i := 1) sc__law_road.nd rfl (by first | exact Or.inl rfl | exact Or.inr rfl))) (fun _ _ _ _ _ => pts_nil) (fun _ _ _ _ _ => (pe_tup (pa_cons (pv 1) (pa_cons (pe_op op_add (pv 1) pe_int) pa_nil)))))) pa_nil))))), fun ds z ⟨n, e, h2, h6, ok, ez⟩ => ?_⟩
  subst e ez
  refine re_ret (ev_call (ea2 (ev_var rfl) (ev_tupL (ef_is (cs := (roadT n).map pD) (ef_lcm (FP.pts (n - 1)) .int (fun a => pD (a, a + 1)) (fun a => [.val (.int n), .val (.int a)]) (it_pts (ev_is (ev_op (ev_var rfl) ev_int rv_I0) (by congr 1; omega)) (by omega)) (fun a _ => ge_name (by simp)) (fun a _ => ev_tup (ea2 (ev_var rfl) (ev_op (ev_var rfl) ev_int rv_I0)) (by show 2 ≤ _; omega)) (by rw [FP.pts_len]; omega)) (by unfold roadT; rw [List.map_map]; rfl)).e)) ⟨n, roadT n, rfl, h2, h6, ok, rfl⟩)
end
end FB
set_option Elab.async false
set_option autoImplicit false
set_option linter.all false
set_option maxRecDepth 100000
/-! The law's tables of numbers. -/
namespace FB
open PySem PySem.Spec PyProof.Rows L2 SlX FA
open FP (Wb OkW sumN mulM idM adjI powM)
/-- a table of n rows of n numbers -/
def rowD (n : Nat) (f : Int → Int → Int) (a : Int) : D := .lst ((FP.pts n).map fun b => .int (f a b))
def mD (n : Nat) (f : Int → Int → Int) : D := .lst ((FP.pts n).map (rowD n f))
theorem at_pts {α : Type} {n : Nat} (f : Int → D) {a : Int} (h0 : 0 ≤ a) (h : a < n) : atI ((FP.pts n).map f) a = some (f a) := by
  refine atI_int h0 ?_
  rw [FP.pts_get (by omega), Int.toNat_of_nonneg h0]
section
variable {P : Program} {w : World} {K : PySem.W.Frag} {mg : Str → Option Value} {base : Heap} {es : Es} {ta tb tc te : TE}
theorem ev_row {n : Nat} {f : Int → Int → Int} {a : Int} (h : EvE K ta es (mD n f)) (hb : EvE K tb es (.int a)) (h0 : 0 ≤ a) (h1 : a < n) : EvE K (tOp (rIxL K) ta tb) es (rowD n f a) := ev_op h hb (rv_ixL (at_pts (α := Int) (rowD n f) h0 h1))
theorem ev_cell {n : Nat} {f : Int → Int → Int} {a b : Int} (h : EvE K ta es (rowD n f a)) (hb : EvE K tb es (.int b)) (h0 : 0 ≤ b) (h1 : b < n) : EvE K (tOp (rIxL K) ta tb) es (.int (f a b)) := ev_op h hb (rv_ixL (at_pts (α := Int) (fun b => .int (f a b)) h0 h1))
theorem ev_lenM {n : Nat} {f : Int → Int → Int} (h : EvE K ta es (mD n f)) : EvE K (tCB (rLenQ K) (tCons ta tNil)) es (.int n) := ev_is (ev_cb (ea1 h) rc_lenL) (by rw [List.length_map, FP.pts_len])
theorem enum_pts {n : Nat} (f : Int → D) : enumD ((FP.pts n).map f) = (FP.pts n).map fun a => D.tup [.int a, f a] := by
  unfold enumD
  refine List.ext_getElem? fun i => ?_
  rw [List.getElem?_map, List.getElem?_zipIdx, List.getElem?_map, List.getElem?_map]
  by_cases h : i < n
  · rw [FP.pts_get h]
    simp
  · rw [List.getElem?_eq_none (by rw [FP.pts_len]; omega)]
    rfl
def R_trace (ds : List D) (z : D) : Prop := ∃ (n : Nat) (f : Int → Int → Int), ds = [mD n f] ∧ n ≤ 40 ∧ z = .int (sumN n fun a => f a a)
theorem ok__law_trace (T : Txt K mg) : FnOk P w K mg base CX0 1 T._law_trace.a T._law_trace.fd P__law_trace (spD K R_trace) :=
  fn_pure _ T._law_trace.F sc__law_trace (fun ds z ⟨v, _, e, _⟩ => by rw [e]; rfl) (by decide) fun cdv A outer s H E hr => by
  refine ⟨_, (pss_one (ps_ret (pe_callB (cr_sumK (K := K) rfl rfl) (by rfl) T.n_sum (by rfl) (pa_cons (pe_lc (own := [("at", 1), ("row", 2)]) rfl sc__law_trace.nd (pi_enumK (K := K) rfl rfl T.n_enumerate (pa_cons (pv 0) pa_nil)) (blkOk_by (N := N__law_trace) (sc := (defScope s__law_trace)) (by decide +kernel)) (fun _ _ _ _ _ => (pg_tupK (K := K) (n := 2) rfl rfl (pgs_cons (pg_name (i := 1) sc__law_trace.nd rfl (by first | exact Or.inl rfl | exact Or.inr rfl)) (pgs_cons (pg_name (i := 2) sc__law_trace.nd rfl (by first | exact Or.inl rfl | exact Or.inr rfl)) pgs_nil)))) (fun _ _ _ _ _ => pts_nil) (fun _ _ _ _ _ => (pe_ix (ix_listK (K := K) rfl) (pv 2) (pv 1) (fun _ _ => rfl)))) pa_nil)))), fun ds z ⟨n, f, e, hn, ez⟩ => ?_⟩
  subst e ez
  refine re_ret (ev_cb (ea1 (ev_is (ef_lcm (FP.pts n) (fun a => D.tup [.int a, rowD n f a]) (fun a => .int (f a a)) (fun a => [.val (mD n f), .val (.int a), .val (rowD n f a)]) ?_ (fun a _ => ge_two (by simp) (by simp)) (fun a ha => ?_) (by rw [FP.pts_len]; omega)).e (by rw [List.map_map]; rfl))) rc_sum)
  · rw [← enum_pts]
    exact it_enum (ev_var rfl)
  · rw [FP.mem_pts] at ha
    exact ev_cell (ev_var rfl) (ev_var rfl) ha.1 ha.2
def R_mul (ds : List D) (z : D) : Prop := ∃ (n : Nat) (f g : Int → Int → Int), ds = [mD n f, mD n g] ∧ n ≤ 40 ∧ (∀ a b : Int, 0 ≤ a → a < n → 0 ≤ b → b < n → -(2 ^ 64) < g a b ∧ g a b < 2 ^ 64) ∧ z = mD n (mulM n f g)
theorem ok__law_times (T : Txt K mg) : FnOk P w K mg base CX0 1 T._law_times.a T._law_times.fd P__law_times (spD K R_mul) :=
  fn_pure _ T._law_times.F sc__law_times (fun ds z ⟨v, _, _, e, _⟩ => by rw [e]; rfl) (by decide) fun cdv A outer s H E hr => by
  refine ⟨_, (pss_one (ps_ret (pe_lc (own := [("here", 2)]) rfl sc__law_times.nd (pi_listK (K := K) rfl (pv 0)) (blkOk_by (N := N__law_times) (sc := (defScope s__law_times)) (by decide +kernel)) (fun _ _ _ _ _ => (pg_name (i := 2) sc__law_times.nd rfl (by first | exact Or.inl rfl | exact Or.inr rfl))) (fun _ _ _ _ _ => pts_nil) (fun _ _ _ _ _ => (pe_lc (own := [("to", 3)]) rfl sc__law_times.nd (pi_range1 rfl T.n_range (pa_cons (pe_callB (call_lenK (K := K) rfl) (by rfl) T.n_len PySem.boot_len (pa_cons (pv 1) pa_nil)) pa_nil)) (blkN (N := N__law_times) (defScope s__law_times) rfl (by decide +kernel)) (fun _ _ _ _ _ => (pg_name (i := 3) sc__law_times.nd rfl (by first | exact Or.inl rfl | exact Or.inr rfl))) (fun _ _ _ _ _ => pts_nil) (fun _ _ _ _ _ => (pe_callB (cr_sumK (K := K) rfl rfl) (by rfl) T.n_sum (by rfl) (pa_cons (pe_lc (own := [("at", 4)]) rfl sc__law_times.nd (pi_range1 rfl T.n_range (pa_cons (pe_callB (call_lenK (K := K) rfl) (by rfl) T.n_len PySem.boot_len (pa_cons (pv 1) pa_nil)) pa_nil)) (blkN2 (N := N__law_times) (defScope s__law_times) rfl (by decide +kernel)) (fun _ _ _ _ _ => (pg_name (i := 4) sc__law_times.nd rfl (by first | exact Or.inl rfl | exact Or.inr rfl))) (fun _ _ _ _ _ => pts_nil) (fun _ _ _ _ _ => (pe_op op_mul (pe_ix (ix_listK (K := K) rfl) (pv 2) (pv 4) (fun _ _ => rfl)) (pe_ix (ix_listK (K := K) rfl) (pe_ix (ix_listK (K := K) rfl) (pv 1) (pv 4) (fun _ _ => rfl)) (pv 3) (fun _ _ => rfl))))) pa_nil)))))))), fun ds z ⟨n, f, g, e, hn, hg, ez⟩ => ?_⟩
  subst e ez
  refine re_ret (ef_lcm (FP.pts n) (rowD n f) (rowD n (mulM n f g)) (fun a => [.val (mD n f), .val (mD n g), .val (rowD n f a), .non, .non]) (it_lst (ev_var rfl)) (fun a _ => ge_name (by simp)) (fun a ha => ?_) (by rw [FP.pts_len]; omega)).e
  refine (ef_lcm (FP.pts n) .int (fun b => .int (mulM n f g a b)) (fun b => [.val (mD n f), .val (mD n g), .val (rowD n f a), .val (.int b), .non]) (it_pts (ev_lenM (ev_var rfl)) (by omega)) (fun b _ => ge_name (by simp)) (fun b hb => ?_) (by rw [FP.pts_len]; omega)).e
  refine ev_cb (ea1 (ev_is (ef_lcm (FP.pts n) .int (fun c => .int (f a c * g c b)) (fun c => [.val (mD n f), .val (mD n g), .val (rowD n f a), .val (.int b), .val (.int c)]) (it_pts (ev_lenM (ev_var rfl)) (by omega)) (fun c _ => ge_name (by simp)) (fun c hc => ?_) (by rw [FP.pts_len]; omega)).e (by rw [List.map_map]; rfl))) rc_sum
  rw [FP.mem_pts] at hb hc
  exact ev_op (ev_cell (ev_var rfl) (ev_var rfl) hc.1 hc.2) (ev_cell (ev_row (ev_var rfl) (ev_var rfl) hc.1 hc.2) (ev_var rfl) hb.1 hb.2) (rv_I (.inr (hg c b hc.1 hc.2 hb.1 hb.2)))
theorem ev_cols (T : Txt K mg) {E : XK} {v : Wb} (h : EvE K te es (wD T.C v)) : EvE K (tPropSl T.C (spD K (R_Web_colours T.C)) E te) es (.tup (v.cols.map .int)) := ev_prop h ⟨v, rfl, rfl⟩
theorem ev_tiesP (T : Txt K mg) {E : XK} {v : Wb} (h : EvE K te es (wD T.C v)) : EvE K (tPropSl T.C (spD K (R_Web_ties T.C)) E te) es (.tup (v.ts.map pD)) := ev_prop h ⟨v, rfl, rfl⟩
theorem ev_ncols (T : Txt K mg) {E : XK} {v : Wb} (h : EvE K te es (wD T.C v)) : EvE K (tCB (rLenQ K) (tCons (tPropSl T.C (spD K (R_Web_colours T.C)) E te) tNil)) es (.int v.n) := ev_is (ev_cb (ea1 (ev_cols T h)) rc_lenT) (by rw [List.length_map]; rfl)
/-- rows[a][b] = 1 -/
theorem put_row {σ : L2.St} {H H0 F : Hp} {p q : Addr} {ps : List Addr} {n : Nat} {a b : Int} {r : Int → Int} {j1 j2 : Nat} (s : Sta K σ H H0 F es) (h3 : es[1]? = some (.val (.adr p))) (h1 : es[j1]? = some (.val (.int a))) (h2 : es[j2]? = some (.val (.int b))) (hF : F p = some (.lst (ps.map V.ref))) (a0 : 0 ≤ a) (ha : ps[a.toNat]? = some q) (b0 : 0 ≤ b) (bn : b < n)
    (hq : F q = some (.lst ((FP.pts n).map fun z => V.int (r z)))) (no : noOwnB es = true) (D0 : Ends) (c : Sta K σ (upd H q (.lst ((FP.pts n).map fun z => V.int (if z = b then 1 else r z)))) H0 (upd F q (.lst ((FP.pts n).map fun z => V.int (if z = b then 1 else r z)))) es → D0.nx σ (upd H q (.lst ((FP.pts n).map fun z => V.int (if z = b then 1 else r z))))) :
    tAsg (tC (.int 1)) (gSub (tOp (rIxL K) (tVar 1) (tVar j1)) (tVar j2) rSetL) D0 σ H := by
  obtain ⟨v3, e3, a3⟩ := s.val 1 _ h3
  cases a3
  obtain ⟨v1, e1, a1⟩ := s.val j1 _ h1
  cases a1
  obtain ⟨v2, e2, a2⟩ := s.val j2 _ h2
  cases a2
  have es1 : ((FP.pts n).map fun z => V.int (r z)).set b.toNat (V.int 1) = (FP.pts n).map fun z => V.int (if z = b then 1 else r z) := by
    refine List.ext_getElem? fun i => ?_
    by_cases hi : i < n
    · by_cases hb : b.toNat = i
      · subst hb
        rw [List.getElem?_set_self (by rw [List.length_map, FP.pts_len]; exact hi), List.getElem?_map, FP.pts_get hi, Int.toNat_of_nonneg b0]
        simp
      · rw [List.getElem?_set_ne hb, List.getElem?_map, List.getElem?_map, FP.pts_get hi]
        have : ¬ (i : Int) = b := by omega
        simp [this]
    · rw [List.getElem?_eq_none (by rw [List.length_set, List.length_map, FP.pts_len]; omega), List.getElem?_eq_none (by rw [List.length_map, FP.pts_len]; omega)]
  refine ⟨_, e3, _, e1, p, ps.map V.ref, a, .ref q, rfl, rfl, .inl (.inl (s.f _ _ hF)), ?_, _, e2, q, _, b, b.toNat, rfl, rfl, s.f _ _ hq, ?_, ?_⟩
  · have := atI_nat (xs := ps.map V.ref) (j := a.toNat) (v := .ref q) (by rw [List.getElem?_map, ha]; rfl)
    rw [Int.toNat_of_nonneg a0] at this
    exact this
  · rw [List.length_map, FP.pts_len]
    unfold ixN
    rw [if_pos b0, if_pos bn]
  · rw [es1]
    exact c (s.poke hq)
structure RowsI (ts : List (Int × Int)) (n : Nat) (p : Addr) (ps : List Addr) (c : D) (F4 : Hp) (i : Nat) (e : Es) (F : Hp) : Prop where
  es : ∃ d5 d6 : E1, e = [.val c, .val (.adr p), .non, d5, d6] ∧ noOwnB [d5, d6] = true
  lst : F p = some (.lst (ps.map V.ref))
  oth : ∀ a, a ≠ p → a ∉ ps → F a = F4 a
  row : ∀ (j : Nat) (a : Addr), ps[j]? = some a → F a = some (.lst ((FP.pts n).map fun z => V.int (adjI (ts.take i) j z)))
theorem row_step {ts : List (Int × Int)} {n : Nat} (ok : ∀ t ∈ ts, 0 ≤ t.1 ∧ t.1 < t.2 ∧ t.2 < (n : Int)) {p : Addr} {ps : List Addr} {c : D} {F4 : Hp} (pl : ps.length = n) (pn : ps.Nodup) (pp : p ∉ ps) (i : Nat) (y : D) (e : Es) (F : Hp) (hy : (ts.map pD)[i]? = some y) (I : RowsI ts n p ps c F4 i e F) :
    ∃ e1, GE K (gTup K 2 (gCons (gName 3) (gCons (gName 4) gNil))) [3, 4] e y e1 ∧ ∀ (D0 : Ends) (σ : L2.St) (H H0 : Hp), Sta K σ H H0 F e1 → (∀ (σ' : L2.St) (H' H0' : Hp) (e' : Es) (F' : Hp), RowsI ts n p ps c F4 (i + 1) e' F' → Sta K σ' H' H0' F' e' → Same H0 H0' → D0.nx σ' H') →
      tSeq (tAsg (tC (.int 1)) (gSub (tOp (rIxL K) (tVar 1) (tVar 3)) (tVar 4) rSetL)) (tAsg (tC (.int 1)) (gSub (tOp (rIxL K) (tVar 1) (tVar 4)) (tVar 3) rSetL)) D0 σ H := by
  obtain ⟨d5, d6, rfl, no⟩ := I.es
  rw [List.getElem?_map] at hy
  cases ht : ts[i]? with
  | none => rw [ht] at hy; cases hy
  | some tt =>
    rw [ht] at hy
    cases hy
    obtain ⟨a, b⟩ := tt
    obtain ⟨o1, o2, o3⟩ := ok (a, b) (List.mem_of_getElem? ht)
    simp only at o1 o2 o3
    refine ⟨[.val c, .val (.adr p), .non, .val (.int a), .val (.int b)], ge_two (x := .int a) (y := .int b) (es := [.val c, .val (.adr p), .non, d5, d6]) (by simp) (by simp), fun D0 σ H H0 s q => ?_⟩
    obtain ⟨qa, ha⟩ : ∃ q, ps[a.toNat]? = some q := ⟨_, List.getElem?_eq_getElem (by omega)⟩
    obtain ⟨qb, hb⟩ : ∃ q, ps[b.toNat]? = some q := ⟨_, List.getElem?_eq_getElem (by omega)⟩
    have nab : qa ≠ qb := fun z => by
      have := (List.getElem?_inj (List.getElem?_eq_some_iff.mp ha).1 pn).mp (ha.trans (by rw [z]; exact hb.symm))
      omega
    have pa : p ≠ qa := fun z => pp (z ▸ List.mem_of_getElem? ha)
    have pb : p ≠ qb := fun z => pp (z ▸ List.mem_of_getElem? hb)
    have fa := I.row _ _ ha
    have fb := I.row _ _ hb
    rw [Int.toNat_of_nonneg o1] at fa
    rw [Int.toNat_of_nonneg (by omega)] at fb
    have st := fun u => mem_take_succ (i := i) ht u
    refine put_row (K := K) (n := n) s rfl rfl rfl I.lst o1 ha (by omega) o3 fa rfl { D0 with nx := _ } fun s1 => ?_
    refine put_row (K := K) (n := n) s1 rfl rfl rfl (by rw [upd_ne pa]; exact I.lst) (by omega) hb o1 (by omega) (by rw [upd_ne (Ne.symm nab)]; exact fb) rfl D0 fun s2 => ?_
    refine q _ _ _ _ _ ⟨⟨_, _, rfl, rfl⟩, by rw [upd_ne pb, upd_ne pa]; exact I.lst, fun u u1 u2 => ?_, fun j u hu => ?_⟩ s2 (Same.refl _)
    · rw [upd_ne (a := qb) (fun z => u2 (by rw [z]; exact List.mem_of_getElem? hb)), upd_ne (a := qa) (fun z => u2 (by rw [z]; exact List.mem_of_getElem? ha))]
      exact I.oth u u1 u2
    · by_cases j1 : (j : Int) = a
      · have e : j = a.toNat := by omega
        rw [e, ha] at hu
        cases hu
        rw [upd_ne nab, upd_same, j1]
        congr 2
        refine List.map_congr_left fun z _ => ?_
        unfold adjI
        simp only [st, Prod.mk.injEq, true_and]
        congr 1
        by_cases hz : z = b
        · subst hz; simp
        · have : ¬ (z = a ∧ a = b) := fun h => by omega
          simp [hz, this]
      · by_cases j2 : (j : Int) = b
        · have e : j = b.toNat := by omega
          rw [e, hb] at hu
          cases hu
          rw [upd_same, j2]
          congr 2
          refine List.map_congr_left fun z _ => ?_
          unfold adjI
          simp only [st, Prod.mk.injEq, and_true]
          congr 1
          by_cases hz : z = a
          · subst hz; simp
          · have : ¬ (b = a ∧ z = b) := fun h => by omega
            simp [hz, this]
        · have n1 : u ≠ qa := fun z => by
            have := (List.getElem?_inj (List.getElem?_eq_some_iff.mp hu).1 pn).mp (hu.trans (by rw [z]; exact ha.symm))
            omega
          have n2 : u ≠ qb := fun z => by
            have := (List.getElem?_inj (List.getElem?_eq_some_iff.mp hu).1 pn).mp (hu.trans (by rw [z]; exact hb.symm))
            omega
          rw [upd_ne n2, upd_ne n1, I.row j u hu]
          congr 2
          refine List.map_congr_left fun z _ => ?_
          unfold adjI
          simp only [st, Prod.mk.injEq, j1, j2, false_and, and_false, or_false]
def R_rows (C : Addr) (ds : List D) (z : D) : Prop := ∃ v : Wb, OkW v ∧ ds = [wD C v] ∧ z = mD v.n (adjI v.ts)
theorem ok__law_rows (T : Txt K mg) : FnOk P w K mg base CX0 3 T._law_rows.a T._law_rows.fd P__law_rows (spD K (R_rows T.C)) :=
  fn_pure _ T._law_rows.F sc__law_rows (fun ds z ⟨v, _, e, _⟩ => by rw [e]; rfl) (by decide) fun cdv A outer s H E hr => by
  refine ⟨_, (pss_cons (ps_setLc (i := 1) (own := [("at", 2)]) rfl sc__law_rows.nd rfl rfl (sw_true rfl rfl rfl (by decide +kernel)) (pi_range1 rfl T.n_range (pa_cons (pe_callB (call_lenK (K := K) rfl) (by rfl) T.n_len PySem.boot_len (pa_cons (pe_propSl (E := E0) (pv 0) T.cls T.at_c T.ge_c T.tk_c T.rc_c (fnr_of (ok_Web_colours T) T.Web_colours.b) (hr.mono (by omega)) (fun _ _ _ _ z => z)) pa_nil)) pa_nil)) (blkOk_by (N := N__law_rows) (sc := (defScope s__law_rows)) (by decide +kernel)) (fun _ _ _ _ _ => (pg_name (i := 2) sc__law_rows.nd rfl (by first | exact Or.inl rfl | exact Or.inr rfl))) (fun _ _ _ _ _ => pts_nil) (fun _ _ _ _ _ => (pe_op op_rep (pe_lst (pa_cons pe_int pa_nil)) (pe_callB (call_lenK (K := K) rfl) (by rfl) T.n_len PySem.boot_len (pa_cons (pe_propSl (E := E0) (pv 0) T.cls T.at_c T.ge_c T.tk_c T.rc_c (fnr_of (ok_Web_colours T) T.Web_colours.b) (hr.mono (by omega)) (fun _ _ _ _ z => z)) pa_nil))))) (pss_cons (ps_for PassesOwn.never rfl (pi_tupleK (K := K) rfl (pe_propSl (E := E0) (pv 0) T.cls T.at_t T.ge_t T.tk_t T.rc_t (fnr_of (ok_Web_ties T) T.Web_ties.b) (hr.mono (by omega)) (fun _ _ _ _ z => z))) (pg_tupK (K := K) (n := 2) rfl rfl (pgs_cons (pg_name (i := 3) sc__law_rows.nd rfl (by first | exact Or.inl rfl | exact Or.inr rfl)) (pgs_cons (pg_name (i := 4) sc__law_rows.nd rfl (by first | exact Or.inl rfl | exact Or.inr rfl)) pgs_nil))) (pss_cons (ps_asg pe_int (pg_sub (pe_ix (ix_listK (K := K) rfl) (pv 1) (pv 3) (fun _ _ => rfl)) (pv 4) set_list)) (pss_one (ps_asg pe_int (pg_sub (pe_ix (ix_listK (K := K) rfl) (pv 1) (pv 4) (fun _ _ => rfl)) (pv 3) set_list))))) (pss_one (ps_ret (pv 1))))), fun ds z ⟨v, ok, e, ez⟩ => ?_⟩
  subst e ez
  have nv := ok_n ok
  intro D0 σ H H0 F s0 fin
  have s0 : Sta K σ H H0 F [.val (wD T.C v), .non, .non, .non, .non] := s0
  refine seq_asg ?_
  refine en_lc (FP.pts v.n) D.int (fun c => [.val (wD T.C v), .non, .val (.int c), .non, .non]) σ H H0 F s0 (it_pts (ev_ncols T (ev_var rfl)) (by omega)) (fun c _ => ge_name (by simp)) (fun c _ => en_rep (ev_ncols T (ev_var rfl)) (by omega) (by omega)) (by rw [FP.pts_len]; omega) _ fun p ps H5 H05 hp st5 hl5 hn5 pl pn pp pa => ?_
  rw [FP.pts_len] at pl
  let F5 : Hp := fun a => if a = p then H5 a else if a ∈ ps then H5 a else F a
  have s5 : Sta K (σ.set 1 (some (V.ref p))) H5 H05 F5 [.val (wD T.C v), .val (.adr p), .non, .non, .non] :=
    ((s0.stp st5).set (i := 1) (v := .ref p) .adr).frame rfl fun a o e => by
      have e : (if a = p then H5 a else if a ∈ ps then H5 a else F a) = some o := e
      split at e
      · rename_i h
        exact ⟨e, by rw [h]; exact hn5⟩
      · split at e
        · rename_i h
          exact ⟨e, (pa a h).2.1⟩
        · exact ⟨(s0.stp st5).f a o e, (s0.stp st5).ff a o e⟩
  have F5p : F5 p = some (.lst (ps.map V.ref)) := by
    show (if p = p then H5 p else if p ∈ ps then H5 p else F p) = _
    rw [if_pos rfl]; exact hl5
  have F5q : ∀ a, a ∈ ps → F5 a = some (.lst (List.replicate v.n (V.int 0))) := fun a h => by
    show (if a = p then H5 a else if a ∈ ps then H5 a else F a) = _
    rw [if_neg (fun z : a = p => pp (by rw [← z]; exact h)), if_pos h]; exact (pa a h).1
  have F5o : ∀ a o, F a = some o → F5 a = some o ∧ a ≠ p ∧ a ∉ ps := fun a o e => by
    have h4 := s0.f a o e
    have h1 : a ≠ p := ne_of_none h4 hp
    have h2 : a ∉ ps := fun z => by rw [(pa a z).2.2] at h4; cases h4
    refine ⟨?_, h1, h2⟩
    show (if a = p then H5 a else if a ∈ ps then H5 a else F a) = _
    rw [if_neg h1, if_neg h2]; exact e
  have e0 : List.replicate v.n (V.int 0) = (FP.pts v.n).map fun z => V.int 0 := by
    refine List.ext_getElem? fun i => ?_
    rw [List.getElem?_replicate, List.getElem?_map]
    by_cases hi : i < v.n
    · rw [FP.pts_get hi, if_pos hi]; rfl
    · rw [List.getElem?_eq_none (by rw [FP.pts_len]; omega), if_neg hi]; rfl
  refine seq_for ?_
  refine for_F (K := K) (vs := [3, 4]) (v.ts.map pD) (RowsI v.ts v.n p ps (wD T.C v) F5) _ H5 H05 F5 s5 (fun R r => it_tup (ev_tiesP T (ev_var rfl)) _ H5 H05 F5 s5 R r) ⟨⟨.non, .non, rfl, rfl⟩, F5p, fun _ _ _ => rfl, fun j a hj => by rw [F5q a (List.mem_of_getElem? hj), e0]; rfl⟩
    (fun i y e F hy I => row_step ok.tie pl pn pp i y e F hy I) _ fun σ6 H6 H06 e6 F6 I6 s6 b6 => ?_
  rw [List.length_map] at I6
  obtain ⟨d5, d6, ee6, no6⟩ := I6.es
  have row6 := I6.row
  rw [List.take_length] at row6
  subst ee6
  have no6' : noOwnB [.val (wD T.C v), .val (.adr p), .non, d5, d6] = true := by
    cases d5 <;> cases d6 <;> first | rfl | (simp [noOwnB] at no6)
  have s7 := s6.tellAll (fun a => a = p ∨ a ∈ ps) no6'
  have t6 : Same H06 (telH (fun a => a = p ∨ a ∈ ps) H06 F6) := tel_same s6.ff
  generalize hH7 : telH (fun a => a = p ∨ a ∈ ps) H06 F6 = H07 at s7 t6
  have h7p : H07 p = some (.lst (ps.map V.ref)) := by
    rw [← hH7]; unfold telH
    rw [if_pos (.inl rfl), I6.lst]
  have h7q : ∀ (j : Nat) (a : Addr), ps[j]? = some a → H07 a = some (.lst ((FP.pts v.n).map fun z => V.int (adjI v.ts j z))) := fun j a hj => by
    rw [← hH7]; unfold telH
    rw [if_pos (.inr (List.mem_of_getElem? hj)), row6 j a hj]
  have rows7 : At K H07 (.ref p) (mD v.n (adjI v.ts)) := by
    refine .lst (.inl (.inl h7p)) (AtL.of_get ?_ fun i u d hu hd => ?_)
    · rw [List.length_map, List.length_map, FP.pts_len]; exact pl
    · rw [List.getElem?_map] at hu hd
      cases hpi : ps[i]? with
      | none => rw [hpi] at hu; cases hu
      | some a =>
        rw [hpi] at hu
        cases hu
        have hin : i < v.n := by
          have := (List.getElem?_eq_some_iff.mp hpi).1
          rw [pl] at this
          exact this
        rw [FP.pts_get hin] at hd
        cases hd
        refine .lst (.inl (.inl (h7q i a hpi))) ?_
        have := AtL.ints (K := K) (H := H07) (ns := (FP.pts v.n).map fun z => adjI v.ts i z)
        rw [List.map_map, List.map_map] at this
        exact this
  obtain ⟨v3, e3, a3⟩ := s7.val 1 _ rfl
  cases a3
  have s8 := (s7.known e3 rows7).frame (F' := F) (by cases d5 <;> cases d6 <;> first | rfl | (simp [noOwnB] at no6)) fun a o e => by
    obtain ⟨h1, h2, h3⟩ := F5o a o e
    have e7 : (if a = p ∨ a ∈ ps then none else F6 a) = some o := by
      rw [if_neg (by rintro (z | z); exact h2 z; exact h3 z), I6.oth a h2 h3]
      exact h1
    exact ⟨s7.f a o e7, s7.ff a o e7⟩
  exact ⟨_, e3, fin _ _ _ _ _ _ rfl s8 (st5.b.trans (b6.trans t6)) rows7⟩
def R_powers (C : Addr) (ds : List D) (z : D) : Prop := ∃ (v : Wb) (m : Nat), OkW v ∧ ds = [wD C v, .int m] ∧ m ≤ 10 ∧ z = .lst ((List.range (m + 1)).map fun k => mD v.n (powM v.n (adjI v.ts) k))
theorem ok__law_powers (T : Txt K mg) : FnOk P w K mg base CX0 4 T._law_powers.a T._law_powers.fd P__law_powers (spD K (R_powers T.C)) :=
  fn_pure _ T._law_powers.F sc__law_powers (fun ds z ⟨v, _, _, e, _⟩ => by rw [e]; rfl) (by decide) fun cdv A outer s H E hr => by
  refine ⟨_, (pss_cons (ps_set (i := 2) sc__law_powers.nd rfl (by first | exact Or.inl rfl | exact Or.inr rfl) (pe_callB (call_lenK (K := K) rfl) (by rfl) T.n_len PySem.boot_len (pa_cons (pe_propSl (E := E0) (pv 0) T.cls T.at_c T.ge_c T.tk_c T.rc_c (fnr_of (ok_Web_colours T) T.Web_colours.b) (hr.mono (by omega)) (fun _ _ _ _ z => z)) pa_nil))) (pss_cons (ps_set (i := 3) sc__law_powers.nd rfl (by first | exact Or.inl rfl | exact Or.inr rfl) (pe_lst (pa_cons (pe_lc (own := [("at", 4)]) rfl sc__law_powers.nd (pi_range1 rfl T.n_range (pa_cons (pv 2) pa_nil)) (blkOk_by (N := N__law_powers) (sc := (defScope s__law_powers)) (by decide +kernel)) (fun _ _ _ _ _ => (pg_name (i := 4) sc__law_powers.nd rfl (by first | exact Or.inl rfl | exact Or.inr rfl))) (fun _ _ _ _ _ => pts_nil) (fun _ _ _ _ _ => (pe_lc (own := [("to", 5)]) rfl sc__law_powers.nd (pi_range1 rfl T.n_range (pa_cons (pv 2) pa_nil)) (blkN (N := N__law_powers) (defScope s__law_powers) rfl (by decide +kernel)) (fun _ _ _ _ _ => (pg_name (i := 5) sc__law_powers.nd rfl (by first | exact Or.inl rfl | exact Or.inr rfl))) (fun _ _ _ _ _ => pts_nil) (fun _ _ _ _ _ => (pe_callTy call_int1 (by rfl) T.n_int (by rfl) (pa_cons (pe_cmpR op_eq (pv 4) (pv 5) (nomark _)) pa_nil)))))) pa_nil))) (pss_cons (ps_for PassesOwn.never rfl (pi_range1 rfl T.n_range (pa_cons (pv 1) pa_nil)) (pg_name (i := 6) sc__law_powers.nd rfl (by first | exact Or.inl rfl | exact Or.inr rfl)) (pss_one (ps_expr (pe_bm PySem.F.plainAttrs_list PySem.F.slot_list_append PySem.F.type_list_append mt_append (pv 3) (pa_cons (pe_call (ok__law_times T) (hr.mono (by omega)) rfl T.m__law_times T._law_times.F.kp T._law_times.b .nil pass0 (pa_cons (pe_ix (ix_listK (K := K) rfl) (pv 3) (pe_un un_neg pe_int) (fun _ _ => rfl)) (pa_cons (pe_call (ok__law_rows T) (hr.mono (by omega)) rfl T.m__law_rows T._law_rows.F.kp T._law_rows.b .nil pass0 (pa_cons (pv 0) pa_nil)) pa_nil))) pa_nil))))) (pss_one (ps_ret (pv 3)))))), fun ds z ⟨v, m, ok, e, hm, ez⟩ => ?_⟩
  subst e ez
  have nv := ok_n ok
  refine re_seq (nx_asg (ev_ncols T (ev_var rfl))) ?_
  refine re_seq (nx_asgF (ef_lst (ea1 (ev_is (d := mD v.n idM) (ef_lcm (FP.pts v.n) .int (rowD v.n idM) (fun a => [.val (wD T.C v), .val (.int m), .val (.int v.n), .non, .val (.int a), .non, .non]) (it_pts (ev_var rfl) (by omega)) (fun a _ => ge_name (by simp)) (fun a _ => ?_) (by rw [FP.pts_len]; omega)).e rfl)) (by show 1 ≤ _; omega))) ?_
  · refine (ef_lcm (FP.pts v.n) .int (fun b => .int (idM a b)) (fun b => [.val (wD T.C v), .val (.int m), .val (.int v.n), .non, .val (.int a), .val (.int b), .non]) (it_pts (ev_var rfl) (by omega)) (fun b _ => ge_name (by simp)) (fun b _ => ev_is (ev_cb (ea1 (ev_op (ev_var rfl) (ev_var rfl) rv_eqI)) rc_intB) ?_) (by rw [FP.pts_len]; omega)).e
    unfold idM
    by_cases h : a = b <;> simp [h]
  · refine re_seqX (nx_for (vs := [6]) ((FP.pts m).map .int) (it_pts (ev_var rfl) (by omega)) (fun i e => ∃ d, e = [.val (wD T.C v), .val (.int m), .val (.int v.n), .own none ((List.range (i + 1)).map fun k => mD v.n (powM v.n (adjI v.ts) k)), .non, .non, d] ∧ noOwnB [d] = true) ⟨.non, rfl, rfl⟩ ?_) ?_
    · rintro i x e hx ⟨d, rfl, no⟩
      have him : i < m := by
        have := (List.getElem?_eq_some_iff.mp hx).1
        rw [List.length_map, FP.pts_len] at this
        exact this
      refine ⟨_, ge_name (by simp), (nx_app rfl (ev_call (R := R_mul) (z := mD v.n (powM v.n (adjI v.ts) (i + 1))) (ea2 (ev_ixOwn (d := mD v.n (powM v.n (adjI v.ts) i)) rfl (ev_un ev_int ru_neg) ?_) (ev_call (ea1 (ev_var rfl)) ⟨v, ok, rfl, rfl⟩)) ⟨v.n, _, _, rfl, by omega, fun a b _ _ _ _ => ?_, rfl⟩) ?_).imp fun e he => ⟨.val x, ?_, ?_⟩⟩
      · rw [List.range_succ, List.map_append]
        exact atI_last _ _
      · unfold adjI
        split <;> omega
      · rw [List.length_map, List.length_range]; omega
      · rw [he]
        have e1 : (List.range (i + 1 + 1)).map (fun k => mD v.n (powM v.n (adjI v.ts) k)) = (List.range (i + 1)).map (fun k => mD v.n (powM v.n (adjI v.ts) k)) ++ [mD v.n (powM v.n (adjI v.ts) (i + 1))] := by
          rw [List.range_succ, List.map_append]; rfl
        rw [e1]
        rfl
      · rfl
    · rintro e ⟨d, rfl, no⟩
      rw [List.length_map, FP.pts_len]
      exact (re_retOwn rfl).imp fun d e p => p.1
def R_drawn (os ds : List D) (post : D → List D → Prop) : Prop := Dice os ∧ ∃ (n : Nat) (c : Int), ds = [.int n, .int c] ∧ n ≤ 6 ∧ post = fun d os' => (∃ ts : List (Int × Int), ts.Sublist (fullT n) ∧ d = .tup (ts.map pD)) ∧ Dice os'
end
end FB
set_option Elab.async false
set_option autoImplicit false
set_option linter.all false
set_option maxRecDepth 100000
/-! The law's throws. -/
namespace FB
open PySem PySem.Spec PyProof.Rows L2 SlX FA
open FP (Wb OkW sumN mulM idM adjI powM)
theorem mem_fullT {n : Nat} {p : Int × Int} : p ∈ fullT n ↔ 0 ≤ p.1 ∧ p.1 < p.2 ∧ p.2 < (n : Int) := by
  unfold fullT
  rw [FP.mem_sortP, List.mem_map]
  constructor
  · rintro ⟨q, hq, rfl⟩
    rw [mem_fullPs] at hq
    unfold mm
    simp only
    omega
  · intro h
    refine ⟨p, mem_fullPs.mpr h, ?_⟩
    unfold mm
    exact Prod.ext (by simp only; omega) (by simp only; omega)
theorem fullT_len {n : Nat} (h : n ≤ 6) : (fullT n).length ≤ 15 := by
  have h1 := FP.sortP_len ((fullPs n).map mm)
  rw [List.length_map] at h1
  have : ∀ m : Nat, m < 7 → (fullPs m).length ≤ 15 := by decide +kernel
  have h2 := this n (by omega)
  unfold fullT
  omega
/-- a web that the law throws -/
structure GoodW (n : Nat) (v : Wb) : Prop where
  ok : OkW v
  n : v.n = n
  ts : v.ts.length ≤ 15
theorem goodW_of {n : Nat} {cols : List Int} {ts : List (Int × Int)} (hn : n ≤ 6) (hl : cols.length = n) (hc : ∀ c ∈ cols, -1 ≤ c ∧ c ≤ 9) (hs : ts.Sublist (fullT n)) : GoodW n ⟨cols, ts⟩ := by
  have hl2 := hs.length_le
  have := fullT_len hn
  refine ⟨⟨by show cols.length ≤ 40; omega, hc, fun t ht => ?_, (FP.sortP_strict _).sublist hs, by show ts.length ≤ 5000; omega⟩, hl, by show ts.length ≤ 15; omega⟩
  have := mem_fullT.mp (hs.subset ht)
  show 0 ≤ t.1 ∧ t.1 < t.2 ∧ t.2 < (cols.length : Int)
  rw [hl]
  exact this
/-- ints item by item -/
theorem all2_ints {α : Type} {xs : List α} {ds : List D} {lo hi : Int} (h : All2 (fun (_ : α) d => ∃ i : Int, d = .int i ∧ lo ≤ i ∧ i ≤ hi) xs ds) : ∃ is : List Int, ds = is.map .int ∧ is.length = xs.length ∧ ∀ i ∈ is, lo ≤ i ∧ i ≤ hi := by
  obtain ⟨hl, hr⟩ := h
  have key : ∀ (ds : List D), (∀ d ∈ ds, ∃ i : Int, d = .int i ∧ lo ≤ i ∧ i ≤ hi) → ∃ is : List Int, ds = is.map .int ∧ ∀ i ∈ is, lo ≤ i ∧ i ≤ hi := by
    intro ds
    induction ds with
    | nil => intro _; exact ⟨[], rfl, fun i hi => absurd hi (by simp)⟩
    | cons d ds ih =>
      intro hd
      obtain ⟨is, e1, e2⟩ := ih fun d hd' => hd d (List.mem_cons_of_mem _ hd')
      obtain ⟨i, rfl, h1⟩ := hd d List.mem_cons_self
      refine ⟨i :: is, by rw [e1]; rfl, fun k hk => ?_⟩
      rcases List.mem_cons.mp hk with z | z
      · rw [z]; exact h1
      · exact e2 k z
  obtain ⟨is, e1, e2⟩ := key ds fun d hd => by
    obtain ⟨i, hi, rfl⟩ := List.mem_iff_getElem.mp hd
    exact hr i (xs[i]'(by omega)) _ (List.getElem?_eq_getElem (by omega)) (List.getElem?_eq_getElem hi)
  exact ⟨is, e1, by rw [← hl, e1, List.length_map], e2⟩
section
variable {P : Program} {w : World} {K : PySem.W.Frag} {mg : Str → Option Value} {base : Heap} {es : Es} {ta tb tc te : TE}
/-- a throw -/
theorem evY_roll {j : Nat} {o : Option Addr} {E : List D → Es} {E' : XK} {t : Int} (f : Fam j o E) (h0 : 0 < t) (h1 : t ≤ 1000) : EvY K Dice (tCall (spM K R_roll) [] E' (tCons (tVar j) (tCons (tC (.int t)) tNil))) E fun d => ∃ z : Int, d = .int z ∧ 0 ≤ z ∧ z < t :=
  evY_callM f (eaY_cons (EvE.toY fun os _ => ev_int) eaY_nil) fun os ds d ⟨x, r, e1, e2, e3⟩ => by
    subst e1 e2 e3
    exact ⟨_, ⟨d, t, rfl, h0, h1, rfl⟩, fun d' os' h => h⟩
theorem ok__law_drawn (T : Txt K mg) : FnOk P w K mg base CX0 3 T._law_drawn.a T._law_drawn.fd P__law_drawn (spM K R_drawn) :=
  fn_mut _ T._law_drawn.F sc__law_drawn (fun os ds post ⟨_, n, c, e, _⟩ => by rw [e]; rfl) (by decide) fun cdv A outer s H E hr => by
  refine ⟨_, (pss_one (ps_ret (pe_tupleOfK (K := K) rfl rfl T.n_tuple (pe_lc (own := [("pair", 3)]) rfl sc__law_drawn.nd (pi_tupleK (K := K) rfl (pe_call (ok__law_full T) (hr.mono (by omega)) rfl T.m__law_full T._law_full.F.kp T._law_full.b .nil pass0 (pa_cons (pv 1) pa_nil))) (blkOk_by (N := N__law_drawn) (sc := (defScope s__law_drawn)) (by decide +kernel)) (fun _ _ _ _ _ => (pg_name (i := 3) sc__law_drawn.nd rfl (by first | exact Or.inl rfl | exact Or.inr rfl))) (fun _ _ _ _ _ => (pts_one (pt_cmpR op_lt (pe_call (ok__law_roll T) (hr.mono (by omega)) rfl T.m__law_roll T._law_roll.F.kp T._law_roll.b .nil pass0 (pa_cons (pv 0) (pa_cons pe_int pa_nil))) (pv 2) (nomark _)))) (fun _ _ _ _ _ => (pv 3)))))), fun p os ds post ⟨d0, n, c, e, hn, ep⟩ => ?_⟩
  subst e ep
  have f : Fam 0 (some p) (fun os => [.own (some p) os, .val (.int n), .val (.int c), .non]) := ⟨fun _ => rfl, fun _ _ => rfl, fun _ => rfl⟩
  have ft : ∀ x : Int × Int, Fam 0 (some p) (fun os => [.own (some p) os, .val (.int n), .val (.int c), .val (pD x)]) := fun x => ⟨fun _ => rfl, fun _ _ => rfl, fun _ => rfl⟩
  refine (reY_ret (E := fun os => [.own (some p) os, .val (.int n), .val (.int c), .non]) (Dc := Dice) (U := fun d => ∃ ts : List (Int × Int), ts.Sublist (fullT n) ∧ d = .tup (ts.map pD)) (evY_tupL (EvFY.e (lcYF (fullT n) pD (fun x os => [.own (some p) os, .val (.int n), .val (.int c), .val (pD x)]) pD f (fun x _ => ft x) (by simp) (fun os _ => it_tup (ev_call (ea1 (ev_var rfl)) ⟨n, rfl, hn, rfl⟩)) (fun x _ os => ge_name (by simp)) (fun x _ => etY_test (evY_op (evY_roll (ft x) (by decide) (by decide)) (EvE.toY (z := .int c) fun os _ => ev_var rfl) ?_)) (fun x _ os => ev_var rfl) ?_) ?_)) d0).imp ?_
  · rintro x y ⟨z, rfl, _⟩ rfl
    exact ⟨_, ⟨_, rfl, trivial⟩, rv_B0⟩
  · have := fullT_len hn
    omega
  · rintro ds ⟨ys, hs, rfl⟩
    exact ⟨_, rfl, ys, hs, rfl⟩
  · rintro d e ⟨⟨ts, hs, e1⟩, os', d', rfl⟩
    exact ⟨os', rfl, ⟨ts, hs, e1⟩, d'⟩
/-- a web thrown: Web(tuple([throw - 1 for at in range(n)]), drawn(dice, n, chance)) -/
theorem evY_web (T : Txt K mg) {o : Option Addr} {E : List D → Es} {tch tn : TE} {n : Nat} {i : Nat} (f : Fam 0 o E) (tg : Int → List D → Es) (ft : ∀ x, Fam 0 o (tg x)) (hn : n ≤ 6) (hv : ∀ os, EvE K tn (E os) (.int n)) (hg : ∀ (x : Int) os, GE K (gName i) [i] (wipeE (E os) [i]) (.int x) (tg x os)) (hi : i ≠ 0)
    (hc : EvY K Dice tch E fun d => ∃ c : Int, d = .int c) :
    EvY K Dice (tMake T.C (spInit K T.C R_init) [] E0 (tCons (tThen (tLc (iRng1 (tCons tn tNil)) (gName i) tYes (tOp (rI0 fun i j => .int (i - j)) (tCall (spM K R_roll) [] E0 (tCons (tVar 0) (tCons (tC (.int 3)) tNil))) (tC (.int 1))) [i]) (kTup K)) (tCons (tCall (spM K R_drawn) [] E0 (tCons (tVar 0) (tCons tn (tCons tch tNil)))) tNil))) E fun d => ∃ v, d = wD T.C v ∧ GoodW n v := by
  refine evY_make (eaY_cons (evY_tupL (U := fun d => ∃ is : List Int, d = .tup (is.map .int) ∧ is.length = n ∧ ∀ c ∈ is, -1 ≤ c ∧ c ≤ 1) (EvFY.e (lcY (FP.pts n) .int tg (fun _ d => ∃ i : Int, d = .int i ∧ -1 ≤ i ∧ i ≤ 1) f (fun x _ => ft x) (by simp [hi.symm]) (fun os _ => it_pts (hv os) (by omega)) (fun x _ os => hg x os) (fun x _ => evY_op (evY_roll (ft x) (by decide) (by decide)) (EvE.toY (z := .int 1) fun os _ => ev_int) ?_) ?_) ?_))
    (eaY_cons (evY_callM (U := fun d => ∃ ts : List (Int × Int), ts.Sublist (fullT n) ∧ d = .tup (ts.map pD)) f (eaY_cons (EvE.toY (z := .int n) fun os _ => hv os) (eaY_cons hc eaY_nil)) ?_) eaY_nil)) ?_
  · rintro x y ⟨z, rfl, h1, h2⟩ rfl
    exact ⟨.int (z - 1), ⟨z - 1, rfl, by omega, by omega⟩, rv_I0⟩
  · rw [FP.pts_len]; omega
  · intro ds h
    obtain ⟨is, e1, e2, e3⟩ := all2_ints h
    rw [FP.pts_len] at e2
    exact ⟨ds, rfl, is, by rw [e1], e2, e3⟩
  · rintro os ds d ⟨x, r, e1, e2, y, r2, e3, ⟨c, e4⟩, e5⟩
    subst e1 e2 e3 e4 e5
    exact ⟨_, ⟨d, n, c, rfl, hn, rfl⟩, fun d' os' h => h⟩
  · rintro ds ⟨x, r, e1, ⟨is, e2, e3, e4⟩, y, r2, e5, ⟨ts, e6, e7⟩, e8⟩
    subst e1 e2 e5 e7 e8
    have gw := goodW_of (cols := is) hn e3 (fun c hc => by have := e4 c hc; omega) e6
    exact ⟨wFs ⟨is, ts⟩, ⟨⟨is, ts⟩, rfl, gw⟩, ⟨is, ts⟩, gw.ok, rfl, rfl⟩
end
end FB
set_option Elab.async false
set_option autoImplicit false
set_option linter.all false
set_option maxRecDepth 100000
/-! What the law asks of numbers; the law's first part. -/
namespace FB
open PySem PySem.Spec PyProof.Rows L2 SlX FA
open FP (Wb OkW sumN mulM idM adjI powM tr tot opM homs)
def starW : Wb := plainW 4 [(0, 1), (0, 2), (0, 3)]
def someW : Wb := ⟨[0, -1, -1, 1], [(0, 1), (1, 2), (2, 3)]⟩
def rndW : Wb := ⟨[1, -1, -1, -1], ringT 4⟩
abbrev ringW (s : Nat) : Wb := plainW s (ringT s)
abbrev roadW (s : Nat) : Wb := plainW s (roadT s)
abbrev wk (v : Wb) (k : Nat) : Int → Int → Int := powM v.n (adjI v.ts) k
def bg (v : Wb) (c : Int) : List Int := (FP.pts v.n).filter fun a => decide (v.col a = c)
/-- the plain law -/
structure Facts : Prop where
  ringOk : ∀ s, 3 ≤ s → s ≤ 6 → OkW (ringW s)
  roadOk : ∀ s, 2 ≤ s → s ≤ 6 → OkW (roadW s)
  fullOk : OkW (plainW 5 (fullT 5))
  starOk : OkW starW
  someOk : OkW someW
  rndOk : OkW rndW
  ring : ∀ s v, 3 ≤ s → s ≤ 6 → OkW v → homs (ringW s) v = tr v.n (wk v s)
  road : ∀ s v, 3 ≤ s → s ≤ 5 → OkW v → homs (roadW s) v = tot v.n (wk v (s - 1))
  beOk : ∀ a b, GoodW a.n a → GoodW b.n b → a.n ≤ 6 → b.n ≤ 6 → OkW (wBeside a b)
  be : ∀ a b s, OkW a → OkW b → 3 ≤ s → s ≤ 5 → tr (wBeside a b).n (wk (wBeside a b) s) = tr a.n (wk a s) + tr b.n (wk b s)
  tiOk : ∀ a b, GoodW a.n a → GoodW b.n b → a.n ≤ 6 → b.n ≤ 4 → FitT a b
  ti : ∀ a b s, OkW a → OkW b → 1 ≤ b.n → 3 ≤ s → s ≤ 5 → tr (wTimes a b).n (wk (wTimes a b) s) = tr a.n (wk a s) * tr b.n (wk b s)
  opOk : ∀ v, OkW v → OkW (wOpp v)
  op3 : ∀ v, OkW v → homs (ringW 3) (wOpp v) = tr v.n (mulM v.n (mulM v.n (opM v.ts) (opM v.ts)) (opM v.ts))
  opR : ∀ v, OkW v → homs (roadW 4) (wOpp v) = tot v.n (mulM v.n (mulM v.n (opM v.ts) (opM v.ts)) (opM v.ts))
  op4 : ∀ v, OkW v → homs (ringW 4) (wOpp v) = tr v.n (mulM v.n (mulM v.n (opM v.ts) (opM v.ts)) (mulM v.n (opM v.ts) (opM v.ts)))
  star : ∀ v, OkW v → homs starW v = sumN v.n fun a => ((v.nb a).length : Int) * (v.nb a).length * (v.nb a).length
  some : ∀ v, OkW v → homs someW v = ((bg v 0).map fun a => ((bg v 1).map fun b => wk v 3 a b).sum).sum
  rnd : ∀ v, OkW v → homs rndW v = ((bg v 1).map fun a => wk v 4 a a).sum
  five1 : homs (ringW 3) (plainW 5 (fullT 5)) = 60 ∧ homs (ringW 4) (plainW 5 (fullT 5)) = 260 ∧ homs (ringW 5) (plainW 5 (fullT 5)) = 1020 ∧ homs (ringW 6) (plainW 5 (fullT 5)) = 4100
  five2 : homs (ringW 3) (wOpp (ringW 5)) = 0 ∧ homs (ringW 4) (wOpp (ringW 5)) = 30 ∧ homs (ringW 5) (wOpp (ringW 5)) = 10 ∧ homs (ringW 6) (wOpp (ringW 5)) = 100
theorem wBe_n (a b : Wb) : (wBeside a b).n = a.n + b.n := by
  show (a.cols ++ b.cols).length = _
  rw [List.length_append]; rfl
theorem wTi_n (a b : Wb) : (wTimes a b).n = a.n * b.n := by
  show ((prCols a b).map mixC).length = _
  rw [List.length_map]
  exact flat_len _ _ _
theorem wOp_n (v : Wb) : (wOpp v).n = v.n := rfl
theorem plain_n (n : Nat) (ts : List (Int × Int)) : (plainW n ts).n = n := List.length_replicate
theorem at_range {f : Nat → D} {n k : Nat} (h : k < n) : atI ((List.range n).map f) (k : Int) = some (f k) := atI_nat (by rw [List.getElem?_map, List.getElem?_range h]; rfl)
section
variable {P : Program} {w : World} {K : PySem.W.Frag} {mg : Str → Option Value} {base : Heap} {es : Es} {ta tb tc te : TE}
/-- two throws into two names, as a tuple -/
theorem nxY_asgT2 {Dc : List D → Prop} {E : List D → Es} {i k : Nat} {tl : TA} {os : List D} {W : List D → Prop} (h : EvAY K Dc tl E fun ds => W ds ∧ ds.length = 2) (d : Dc os) : NxX K (tAsg (tTup tl) (gTup K 2 (gCons (gName i) (gCons (gName k) gNil)))) (E os) fun e => ∃ x y os', W [x, y] ∧ Dc os' ∧ e = ((E os').set i (.val x)).set k (.val y) := fun D0 σ H H0 F s q =>
  h os d σ H H0 F s _ fun vs H' H0' ds os' w d' s' b al => by
  obtain ⟨w, l⟩ := w
  match ds, l with
  | [x, y], _ =>
    refine ⟨by rw [al.length]; exact sz_le (by show 2 ≤ 100000; decide), fun p hp => ?_⟩
    have st : Stp H' H0' (upd H' p (.tup vs)) (upd H0' p (.tup vs)) := Stp.new s'.h0 hp
    exact ge_two (vs := [i, k]) (x := x) (y := y) (by simp) (by simp) _ _ _ _ _ (s'.stp st) (.tup (.inl (.inl upd_same)) (al.mono st.b)) _ fun σ' s2 _ _ => q σ' _ _ _ ⟨x, y, os', w, d', rfl⟩ s2 (b.trans st.b)
theorem ev_sumRow {n : Nat} {f : Int → Int → Int} {a : Int} (h : EvE K te es (rowD n f a)) : EvE K (tCB (rSum K) (tCons te tNil)) es (.int (sumN n fun b => f a b)) := by
  refine ev_cb (ea1 (ev_is h ?_)) (rc_sum (ns := (FP.pts n).map fun b => f a b))
  unfold rowD
  rw [List.map_map]
  rfl
theorem ev_trace (T : Txt K mg) {E : XK} {n : Nat} {f : Int → Int → Int} (h : EvE K te es (mD n f)) (hn : n ≤ 40) : EvE K (tCall (spD K R_trace) [] E (tCons te tNil)) es (.int (tr n f)) := ev_call (ea1 h) ⟨n, f, rfl, hn, rfl⟩
theorem ev_homs (T : Txt K mg) {E : XK} {p v : Wb} (h1 : EvE K ta es (wD T.C p)) (h2 : EvE K tb es (wD T.C v)) (op : OkW p) (ov : OkW v) (h6 : p.n ≤ 6) (ht : v.n ^ p.n ≤ 100000) : EvE K (tCall (spD K (R_map_number T.C)) [] E (tCons ta (tCons tb tNil))) es (.int (homs p v)) := ev_call (ea2 h1 h2) ⟨p, v, op, ov, rfl, h6, ht, rfl⟩
theorem py_ints2 (a b c d : Int) (h1 : a = c) (h2 : b = d) : (!PyData.eqv (.list [.int a, .int b]) (.list [.int c, .int d])) = false := by
  subst h1 h2
  simp [PyData.eqv, PyData.eqvAll]
theorem py_ints3 (a b c a' b' c' : Int) (h1 : a = a') (h2 : b = b') (h3 : c = c') : (!PyData.eqv (.list [.int a, .int b, .int c]) (.list [.int a', .int b', .int c'])) = false := by
  subst h1 h2 h3
  simp [PyData.eqv, PyData.eqvAll]
theorem pow_le5 {n s : Nat} (h : n ≤ 10) (hs : s ≤ 5) : n ^ s ≤ 100000 := by
  have h1 : n ^ s ≤ 10 ^ s := Nat.pow_le_pow_left h s
  have h2 : 10 ^ s ≤ 10 ^ 5 := Nat.pow_le_pow_right (by decide) hs
  exact Nat.le_trans h1 (Nat.le_trans h2 (by decide))
end
end FB
set_option Elab.async false
set_option autoImplicit false
set_option linter.all false
set_option maxRecDepth 100000
/-! The law for one lot of dice. -/
namespace FB
open PySem PySem.Spec PyProof.Rows L2 SlX FA
open FP (Wb OkW sumN mulM idM adjI powM tr tot opM homs)
section
variable {P : Program} {w : World} {K : PySem.W.Frag} {mg : Str → Option Value} {base : Heap} {es : Es} {ta tb tc te : TE}
def R_right (os ds : List D) (post : D → List D → Prop) : Prop := Dice os ∧ ds = [] ∧ post = fun d os' => d = .bl true ∧ Dice os'
/-- the slots -/
abbrev lE (o : Option Addr) (os : List D) (n m : Int) (dv du pw mr md : E1) (r : List E1) : Es := [.own o os, .val (.int n), .val (.int m), dv, .non, du, pw, mr, md] ++ r
def pwD (v : Wb) : D := .lst ((List.range (6 + 1)).map fun k => mD v.n (wk v k))
set_option maxHeartbeats 0 in
theorem ok__law_right (T : Txt K mg) (MF : Facts) : FnOk P w K mg base CX0 14 T._law_right.a T._law_right.fd P__law_right (spM K R_right) :=
  fn_mut _ T._law_right.F sc__law_right (fun os ds post ⟨_, e, _⟩ => by rw [e]; rfl) (by decide) fun cdv A outer s H E hr => by
  refine ⟨_, (pss_cons (ps_asg (pe_tup (pa_cons (pe_call (ok__law_roll T) (hr.mono (by omega)) rfl T.m__law_roll T._law_roll.F.kp T._law_roll.b .nil pass0 (pa_cons (pv 0) (pa_cons pe_int pa_nil))) (pa_cons (pe_op op_add pe_int (pe_call (ok__law_roll T) (hr.mono (by omega)) rfl T.m__law_roll T._law_roll.F.kp T._law_roll.b .nil pass0 (pa_cons (pv 0) (pa_cons pe_int pa_nil)))) pa_nil))) (pg_tupK (K := K) (n := 2) rfl rfl (pgs_cons (pg_name (i := 1) sc__law_right.nd rfl (by first | exact Or.inl rfl | exact Or.inr rfl)) (pgs_cons (pg_name (i := 2) sc__law_right.nd rfl (by first | exact Or.inl rfl | exact Or.inr rfl)) pgs_nil)))) (pss_cons (ps_set (i := 3) sc__law_right.nd rfl (by first | exact Or.inl rfl | exact Or.inr rfl) (pe_make T.mkW (ok_Web_init T) (hr.mono (by omega)) rfl T.mWeb T.Web_init.b .nil pass0 (pa_cons (pe_tupleOfK (K := K) rfl rfl T.n_tuple (pe_lc (own := [("at", 4)]) rfl sc__law_right.nd (pi_range1 rfl T.n_range (pa_cons (pv 1) pa_nil)) (blkOk_by (N := N__law_right) (sc := (defScope s__law_right)) (by decide +kernel)) (fun _ _ _ _ _ => (pg_name (i := 4) sc__law_right.nd rfl (by first | exact Or.inl rfl | exact Or.inr rfl))) (fun _ _ _ _ _ => pts_nil) (fun _ _ _ _ _ => (pe_op op_sub (pe_call (ok__law_roll T) (hr.mono (by omega)) rfl T.m__law_roll T._law_roll.F.kp T._law_roll.b .nil pass0 (pa_cons (pv 0) (pa_cons pe_int pa_nil))) pe_int)))) (pa_cons (pe_call (ok__law_drawn T) (hr.mono (by omega)) rfl T.m__law_drawn T._law_drawn.F.kp T._law_drawn.b .nil pass0 (pa_cons (pv 0) (pa_cons (pv 1) (pa_cons (pe_op op_add pe_int (pe_call (ok__law_roll T) (hr.mono (by omega)) rfl T.m__law_roll T._law_roll.F.kp T._law_roll.b .nil pass0 (pa_cons (pv 0) (pa_cons pe_int pa_nil)))) pa_nil)))) pa_nil)))) (pss_cons (ps_set (i := 5) sc__law_right.nd rfl (by first | exact Or.inl rfl | exact Or.inr rfl) (pe_make T.mkW (ok_Web_init T) (hr.mono (by omega)) rfl T.mWeb T.Web_init.b .nil pass0 (pa_cons (pe_tupleOfK (K := K) rfl rfl T.n_tuple (pe_lc (own := [("at", 4)]) rfl sc__law_right.nd (pi_range1 rfl T.n_range (pa_cons (pv 2) pa_nil)) (blkOk_by (N := N__law_right) (sc := (defScope s__law_right)) (by decide +kernel)) (fun _ _ _ _ _ => (pg_name (i := 4) sc__law_right.nd rfl (by first | exact Or.inl rfl | exact Or.inr rfl))) (fun _ _ _ _ _ => pts_nil) (fun _ _ _ _ _ => (pe_op op_sub (pe_call (ok__law_roll T) (hr.mono (by omega)) rfl T.m__law_roll T._law_roll.F.kp T._law_roll.b .nil pass0 (pa_cons (pv 0) (pa_cons pe_int pa_nil))) pe_int)))) (pa_cons (pe_call (ok__law_drawn T) (hr.mono (by omega)) rfl T.m__law_drawn T._law_drawn.F.kp T._law_drawn.b .nil pass0 (pa_cons (pv 0) (pa_cons (pv 2) (pa_cons pe_int pa_nil)))) pa_nil)))) (pss_cons (ps_asg (pe_tup (pa_cons (pe_call (ok__law_powers T) (hr.mono (by omega)) rfl T.m__law_powers T._law_powers.F.kp T._law_powers.b .nil pass0 (pa_cons (pv 3) (pa_cons pe_int pa_nil))) (pa_cons (pe_call (ok__law_powers T) (hr.mono (by omega)) rfl T.m__law_powers T._law_powers.F.kp T._law_powers.b .nil pass0 (pa_cons (pv 5) (pa_cons pe_int pa_nil))) (pa_cons (pe_call (ok_times T) (hr.mono (by omega)) rfl T.m_times T.times.F.kp T.times.b .nil pass0 (pa_cons (pv 3) (pa_cons (pv 5) pa_nil))) pa_nil)))) (pg_tupK (K := K) (n := 3) rfl rfl (pgs_cons (pg_name (i := 6) sc__law_right.nd rfl (by first | exact Or.inl rfl | exact Or.inr rfl)) (pgs_cons (pg_name (i := 7) sc__law_right.nd rfl (by first | exact Or.inl rfl | exact Or.inr rfl)) (pgs_cons (pg_name (i := 8) sc__law_right.nd rfl (by first | exact Or.inl rfl | exact Or.inr rfl)) pgs_nil))))) (pss_cons (ps_for PassesOwn.never rfl (pi_tupleK (K := K) rfl (pe_tup (pa_cons pe_int (pa_cons pe_int (pa_cons pe_int pa_nil))))) (pg_name (i := 9) sc__law_right.nd rfl (by first | exact Or.inl rfl | exact Or.inr rfl)) (pss_cons (ps_par (i := 10) (j := 11) rfl sc__law_right.nd rfl rfl (by decide) rfl rfl (pa_cons (pe_call (ok__law_plain T) (hr.mono (by omega)) rfl T.m__law_plain T._law_plain.F.kp T._law_plain.b .nil pass0 (pa_cons (pv 9) (pa_cons (pe_call (ok__law_ring T) (hr.mono (by omega)) rfl T.m__law_ring T._law_ring.F.kp T._law_ring.b .nil pass0 (pa_cons (pv 9) pa_nil)) pa_nil))) (pa_cons (pe_call (ok__law_road T) (hr.mono (by omega)) rfl T.m__law_road T._law_road.F.kp T._law_road.b .nil pass0 (pa_cons (pv 9) pa_nil)) pa_nil)) (by rfl)) (pss_cons (ps_par (i := 12) (j := 13) rfl sc__law_right.nd rfl rfl (by decide) rfl rfl (pa_cons (pe_call (ok__law_trace T) (hr.mono (by omega)) rfl T.m__law_trace T._law_trace.F.kp T._law_trace.b .nil pass0 (pa_cons (pe_ix (ix_listK (K := K) rfl) (pv 6) (pv 9) (fun _ _ => rfl)) pa_nil)) (pa_cons (pe_callB (cr_sumK (K := K) rfl rfl) (by rfl) T.n_sum (by rfl) (pa_cons (pe_lc (own := [("row", 14)]) rfl sc__law_right.nd (pi_listK (K := K) rfl (pe_ix (ix_listK (K := K) rfl) (pv 6) (pe_op op_sub (pv 9) pe_int) (fun _ _ => rfl))) (blkOk_by (N := N__law_right) (sc := (defScope s__law_right)) (by decide +kernel)) (fun _ _ _ _ _ => (pg_name (i := 14) sc__law_right.nd rfl (by first | exact Or.inl rfl | exact Or.inr rfl))) (fun _ _ _ _ _ => pts_nil) (fun _ _ _ _ _ => (pe_callB (cr_sumK (K := K) rfl rfl) (by rfl) T.n_sum (by rfl) (pa_cons (pv 14) pa_nil)))) pa_nil)) pa_nil)) (by rfl)) (pss_cons (ps_if (pt_cmpR (op_neDK (K := K) rfl hr.units) (pe_lst (pa_cons (pe_call (ok_map_number T) (hr.mono (by omega)) rfl T.m_map_number T.map_number.F.kp T.map_number.b .nil pass0 (pa_cons (pv 10) (pa_cons (pv 3) pa_nil))) (pa_cons (pe_call (ok_map_number T) (hr.mono (by omega)) rfl T.m_map_number T.map_number.F.kp T.map_number.b .nil pass0 (pa_cons (pv 11) (pa_cons (pv 3) pa_nil))) pa_nil))) (pe_lst (pa_cons (pv 12) (pa_cons (pv 13) pa_nil))) (nomark _)) (pss_one (ps_ret pe_bl)) pss_nil) (pss_one (ps_if (PW.pt (pw_or (pt_cmpR op_ne (pe_call (ok_map_number T) (hr.mono (by omega)) rfl T.m_map_number T.map_number.F.kp T.map_number.b .nil pass0 (pa_cons (pv 10) (pa_cons (pe_call (ok_beside T) (hr.mono (by omega)) rfl T.m_beside T.beside.F.kp T.beside.b .nil pass0 (pa_cons (pv 3) (pa_cons (pv 5) pa_nil))) pa_nil))) (pe_op op_add (pv 12) (pe_call (ok__law_trace T) (hr.mono (by omega)) rfl T.m__law_trace T._law_trace.F.kp T._law_trace.b .nil pass0 (pa_cons (pe_ix (ix_listK (K := K) rfl) (pv 7) (pv 9) (fun _ _ => rfl)) pa_nil))) (nomark _)) (pw_or1 (PW.pt (pw_and (pt_cmpR op_lt (pe_callB (call_lenK (K := K) rfl) (by rfl) T.n_len PySem.boot_len (pa_cons (pe_propSl (E := E0) (pv 8) T.cls T.at_c T.ge_c T.tk_c T.rc_c (fnr_of (ok_Web_colours T) T.Web_colours.b) (hr.mono (by omega)) (fun _ _ _ _ z => z)) pa_nil)) pe_int (nomark _)) (pw_and1 (pt_cmpR op_ne (pe_call (ok_map_number T) (hr.mono (by omega)) rfl T.m_map_number T.map_number.F.kp T.map_number.b .nil pass0 (pa_cons (pv 10) (pa_cons (pv 8) pa_nil))) (pe_op op_mul (pv 12) (pe_call (ok__law_trace T) (hr.mono (by omega)) rfl T.m__law_trace T._law_trace.F.kp T._law_trace.b .nil pass0 (pa_cons (pe_ix (ix_listK (K := K) rfl) (pv 7) (pv 9) (fun _ _ => rfl)) pa_nil))) (nomark _)))))))) (pss_one (ps_ret pe_bl)) pss_nil)))))) (pss_cons (ps_set (i := 15) sc__law_right.nd rfl (by first | exact Or.inl rfl | exact Or.inr rfl) (pe_call (ok__law_plain T) (hr.mono (by omega)) rfl T.m__law_plain T._law_plain.F.kp T._law_plain.b .nil pass0 (pa_cons pe_int (pa_cons (pe_tup (pa_cons (pe_tup (pa_cons pe_int (pa_cons pe_int pa_nil))) (pa_cons (pe_tup (pa_cons pe_int (pa_cons pe_int pa_nil))) (pa_cons (pe_tup (pa_cons pe_int (pa_cons pe_int pa_nil))) pa_nil)))) pa_nil)))) (pss_cons (ps_if (pt_cmpR op_ne (pe_call (ok_map_number T) (hr.mono (by omega)) rfl T.m_map_number T.map_number.F.kp T.map_number.b .nil pass0 (pa_cons (pv 15) (pa_cons (pv 3) pa_nil))) (pe_callB (cr_sumK (K := K) rfl rfl) (by rfl) T.n_sum (by rfl) (pa_cons (pe_lc (own := [("degree", 16)]) rfl sc__law_right.nd (pi_tupleK (K := K) rfl (pe_propSl (E := E0) (pv 3) T.cls T.at_d T.ge_d T.tk_d T.rc_d (fnr_of (ok_Web_degrees T) T.Web_degrees.b) (hr.mono (by omega)) (fun _ _ _ _ z => z))) (blkOk_by (N := N__law_right) (sc := (defScope s__law_right)) (by decide +kernel)) (fun _ _ _ _ _ => (pg_name (i := 16) sc__law_right.nd rfl (by first | exact Or.inl rfl | exact Or.inr rfl))) (fun _ _ _ _ _ => pts_nil) (fun _ _ _ _ _ => (pe_op op_mul (pe_op op_mul (pv 16) (pv 16)) (pv 16)))) pa_nil)) (nomark _)) (pss_one (ps_ret pe_bl)) pss_nil) (pss_cons (ps_setLc (i := 17) (own := [("at", 4)]) rfl sc__law_right.nd rfl rfl (sw_true rfl rfl rfl (by decide +kernel)) (pi_range1 rfl T.n_range (pa_cons (pv 1) pa_nil)) (blkOk_by (N := N__law_right) (sc := (defScope s__law_right)) (by decide +kernel)) (fun _ _ _ _ _ => (pg_name (i := 4) sc__law_right.nd rfl (by first | exact Or.inl rfl | exact Or.inr rfl))) (fun _ _ _ _ _ => pts_nil) (fun _ _ _ _ _ => (pe_lc (own := [("to", 18)]) rfl sc__law_right.nd (pi_range1 rfl T.n_range (pa_cons (pv 1) pa_nil)) (blkN (N := N__law_right) (defScope s__law_right) rfl (by decide +kernel)) (fun _ _ _ _ _ => (pg_name (i := 18) sc__law_right.nd rfl (by first | exact Or.inl rfl | exact Or.inr rfl))) (fun _ _ _ _ _ => pts_nil) (fun _ _ _ _ _ => (pe_op op_sub (pe_op op_sub pe_int (pe_ix (ix_listK (K := K) rfl) (pe_ix (ix_listK (K := K) rfl) (pe_call (ok__law_rows T) (hr.mono (by omega)) rfl T.m__law_rows T._law_rows.F.kp T._law_rows.b .nil pass0 (pa_cons (pv 3) pa_nil)) (pv 4) (fun _ _ => rfl)) (pv 18) (fun _ _ => rfl))) (pe_callTy call_int1 (by rfl) T.n_int (by rfl) (pa_cons (pe_cmpR op_eq (pv 4) (pv 18) (nomark _)) pa_nil))))))) (pss_cons (ps_set (i := 19) sc__law_right.nd rfl (by first | exact Or.inl rfl | exact Or.inr rfl) (pe_call (ok__law_times T) (hr.mono (by omega)) rfl T.m__law_times T._law_times.F.kp T._law_times.b .nil pass0 (pa_cons (pv 17) (pa_cons (pv 17) pa_nil)))) (pss_cons (ps_set (i := 20) sc__law_right.nd rfl (by first | exact Or.inl rfl | exact Or.inr rfl) (pe_lst (pa_cons (pe_call (ok_map_number T) (hr.mono (by omega)) rfl T.m_map_number T.map_number.F.kp T.map_number.b .nil pass0 (pa_cons (pe_call (ok__law_plain T) (hr.mono (by omega)) rfl T.m__law_plain T._law_plain.F.kp T._law_plain.b .nil pass0 (pa_cons pe_int (pa_cons (pe_call (ok__law_ring T) (hr.mono (by omega)) rfl T.m__law_ring T._law_ring.F.kp T._law_ring.b .nil pass0 (pa_cons pe_int pa_nil)) pa_nil))) (pa_cons (pe_call (ok_opposite T) (hr.mono (by omega)) rfl T.m_opposite T.opposite.F.kp T.opposite.b .nil pass0 (pa_cons (pv 3) pa_nil)) pa_nil))) (pa_cons (pe_call (ok_map_number T) (hr.mono (by omega)) rfl T.m_map_number T.map_number.F.kp T.map_number.b .nil pass0 (pa_cons (pe_call (ok__law_road T) (hr.mono (by omega)) rfl T.m__law_road T._law_road.F.kp T._law_road.b .nil pass0 (pa_cons pe_int pa_nil)) (pa_cons (pe_call (ok_opposite T) (hr.mono (by omega)) rfl T.m_opposite T.opposite.F.kp T.opposite.b .nil pass0 (pa_cons (pv 3) pa_nil)) pa_nil))) (pa_cons (pe_call (ok_map_number T) (hr.mono (by omega)) rfl T.m_map_number T.map_number.F.kp T.map_number.b .nil pass0 (pa_cons (pe_call (ok__law_plain T) (hr.mono (by omega)) rfl T.m__law_plain T._law_plain.F.kp T._law_plain.b .nil pass0 (pa_cons pe_int (pa_cons (pe_call (ok__law_ring T) (hr.mono (by omega)) rfl T.m__law_ring T._law_ring.F.kp T._law_ring.b .nil pass0 (pa_cons pe_int pa_nil)) pa_nil))) (pa_cons (pe_call (ok_opposite T) (hr.mono (by omega)) rfl T.m_opposite T.opposite.F.kp T.opposite.b .nil pass0 (pa_cons (pv 3) pa_nil)) pa_nil))) pa_nil))))) (pss_cons (ps_set (i := 21) sc__law_right.nd rfl (by first | exact Or.inl rfl | exact Or.inr rfl) (pe_lst (pa_cons (pe_call (ok__law_trace T) (hr.mono (by omega)) rfl T.m__law_trace T._law_trace.F.kp T._law_trace.b .nil pass0 (pa_cons (pe_call (ok__law_times T) (hr.mono (by omega)) rfl T.m__law_times T._law_times.F.kp T._law_times.b .nil pass0 (pa_cons (pv 19) (pa_cons (pv 17) pa_nil))) pa_nil)) (pa_cons (pe_callB (cr_sumK (K := K) rfl rfl) (by rfl) T.n_sum (by rfl) (pa_cons (pe_lc (own := [("row", 14)]) rfl sc__law_right.nd (pi_listK (K := K) rfl (pe_call (ok__law_times T) (hr.mono (by omega)) rfl T.m__law_times T._law_times.F.kp T._law_times.b .nil pass0 (pa_cons (pv 19) (pa_cons (pv 17) pa_nil)))) (blkOk_by (N := N__law_right) (sc := (defScope s__law_right)) (by decide +kernel)) (fun _ _ _ _ _ => (pg_name (i := 14) sc__law_right.nd rfl (by first | exact Or.inl rfl | exact Or.inr rfl))) (fun _ _ _ _ _ => pts_nil) (fun _ _ _ _ _ => (pe_callB (cr_sumK (K := K) rfl rfl) (by rfl) T.n_sum (by rfl) (pa_cons (pv 14) pa_nil)))) pa_nil)) (pa_cons (pe_call (ok__law_trace T) (hr.mono (by omega)) rfl T.m__law_trace T._law_trace.F.kp T._law_trace.b .nil pass0 (pa_cons (pe_call (ok__law_times T) (hr.mono (by omega)) rfl T.m__law_times T._law_times.F.kp T._law_times.b .nil pass0 (pa_cons (pv 19) (pa_cons (pv 19) pa_nil))) pa_nil)) pa_nil))))) (pss_cons (ps_if (pt_cmpR (op_neDK (K := K) rfl hr.units) (pv 20) (pv 21) (nomark _)) (pss_one (ps_ret pe_bl)) pss_nil) (pss_cons (ps_set (i := 22) sc__law_right.nd rfl (by first | exact Or.inl rfl | exact Or.inr rfl) (pe_lc (own := [("colour", 23)]) rfl sc__law_right.nd (pi_tupleK (K := K) rfl (pe_propSl (E := E0) (pv 3) T.cls T.at_c T.ge_c T.tk_c T.rc_c (fnr_of (ok_Web_colours T) T.Web_colours.b) (hr.mono (by omega)) (fun _ _ _ _ z => z))) (blkOk_by (N := N__law_right) (sc := (defScope s__law_right)) (by decide +kernel)) (fun _ _ _ _ _ => (pg_name (i := 23) sc__law_right.nd rfl (by first | exact Or.inl rfl | exact Or.inr rfl))) (fun _ _ _ _ _ => pts_nil) (fun _ _ _ _ _ => (pv 23)))) (pss_cons (ps_set (i := 24) sc__law_right.nd rfl (by first | exact Or.inl rfl | exact Or.inr rfl) (pe_make T.mkW (ok_Web_init T) (hr.mono (by omega)) rfl T.mWeb T.Web_init.b .nil pass0 (pa_cons (pe_tup (pa_cons pe_int (pa_cons (pe_un un_neg pe_int) (pa_cons (pe_un un_neg pe_int) (pa_cons pe_int pa_nil))))) (pa_cons (pe_tup (pa_cons (pe_tup (pa_cons pe_int (pa_cons pe_int pa_nil))) (pa_cons (pe_tup (pa_cons pe_int (pa_cons pe_int pa_nil))) (pa_cons (pe_tup (pa_cons pe_int (pa_cons pe_int pa_nil))) pa_nil)))) pa_nil)))) (pss_cons (ps_asg (pe_tup (pa_cons (pe_lc (own := [("at", 4)]) rfl sc__law_right.nd (pi_range1 rfl T.n_range (pa_cons (pv 1) pa_nil)) (blkOk_by (N := N__law_right) (sc := (defScope s__law_right)) (by decide +kernel)) (fun _ _ _ _ _ => (pg_name (i := 4) sc__law_right.nd rfl (by first | exact Or.inl rfl | exact Or.inr rfl))) (fun _ _ _ _ _ => (pts_one (pt_cmpR op_eq (pe_ix (ix_listK (K := K) rfl) (pv 22) (pv 4) (fun _ _ => rfl)) pe_int (nomark _)))) (fun _ _ _ _ _ => (pv 4))) (pa_cons (pe_lc (own := [("at", 4)]) rfl sc__law_right.nd (pi_range1 rfl T.n_range (pa_cons (pv 1) pa_nil)) (blkOk_by (N := N__law_right) (sc := (defScope s__law_right)) (by decide +kernel)) (fun _ _ _ _ _ => (pg_name (i := 4) sc__law_right.nd rfl (by first | exact Or.inl rfl | exact Or.inr rfl))) (fun _ _ _ _ _ => (pts_one (pt_cmpR op_eq (pe_ix (ix_listK (K := K) rfl) (pv 22) (pv 4) (fun _ _ => rfl)) pe_int (nomark _)))) (fun _ _ _ _ _ => (pv 4))) pa_nil))) (pg_tupK (K := K) (n := 2) rfl rfl (pgs_cons (pg_name (i := 25) sc__law_right.nd rfl (by first | exact Or.inl rfl | exact Or.inr rfl)) (pgs_cons (pg_name (i := 26) sc__law_right.nd rfl (by first | exact Or.inl rfl | exact Or.inr rfl)) pgs_nil)))) (pss_cons (ps_set (i := 13) sc__law_right.nd rfl (by first | exact Or.inl rfl | exact Or.inr rfl) (pe_callB (cr_sumK (K := K) rfl rfl) (by rfl) T.n_sum (by rfl) (pa_cons (pe_lc (own := [("at", 4)]) rfl sc__law_right.nd (pi_listK (K := K) rfl (pv 25)) (blkOk_by (N := N__law_right) (sc := (defScope s__law_right)) (by decide +kernel)) (fun _ _ _ _ _ => (pg_name (i := 4) sc__law_right.nd rfl (by first | exact Or.inl rfl | exact Or.inr rfl))) (fun _ _ _ _ _ => pts_nil) (fun _ _ _ _ _ => (pe_callB (cr_sumK (K := K) rfl rfl) (by rfl) T.n_sum (by rfl) (pa_cons (pe_lc (own := [("to", 18)]) rfl sc__law_right.nd (pi_listK (K := K) rfl (pv 26)) (blkN (N := N__law_right) (defScope s__law_right) rfl (by decide +kernel)) (fun _ _ _ _ _ => (pg_name (i := 18) sc__law_right.nd rfl (by first | exact Or.inl rfl | exact Or.inr rfl))) (fun _ _ _ _ _ => pts_nil) (fun _ _ _ _ _ => (pe_ix (ix_listK (K := K) rfl) (pe_ix (ix_listK (K := K) rfl) (pe_ix (ix_listK (K := K) rfl) (pv 6) pe_int (fun _ _ => rfl)) (pv 4) (fun _ _ => rfl)) (pv 18) (fun _ _ => rfl)))) pa_nil)))) pa_nil))) (pss_cons (ps_set (i := 27) sc__law_right.nd rfl (by first | exact Or.inl rfl | exact Or.inr rfl) (pe_callB (cr_sumK (K := K) rfl rfl) (by rfl) T.n_sum (by rfl) (pa_cons (pe_lc (own := [("at", 4)]) rfl sc__law_right.nd (pi_listK (K := K) rfl (pv 26)) (blkOk_by (N := N__law_right) (sc := (defScope s__law_right)) (by decide +kernel)) (fun _ _ _ _ _ => (pg_name (i := 4) sc__law_right.nd rfl (by first | exact Or.inl rfl | exact Or.inr rfl))) (fun _ _ _ _ _ => pts_nil) (fun _ _ _ _ _ => (pe_ix (ix_listK (K := K) rfl) (pe_ix (ix_listK (K := K) rfl) (pe_ix (ix_listK (K := K) rfl) (pv 6) pe_int (fun _ _ => rfl)) (pv 4) (fun _ _ => rfl)) (pv 4) (fun _ _ => rfl)))) pa_nil))) (pss_one (ps_ret (pe_cmpR (op_eqDK (K := K) rfl hr.units) (pe_lst (pa_cons (pe_call (ok_map_number T) (hr.mono (by omega)) rfl T.m_map_number T.map_number.F.kp T.map_number.b .nil pass0 (pa_cons (pv 24) (pa_cons (pv 3) pa_nil))) (pa_cons (pe_call (ok_map_number T) (hr.mono (by omega)) rfl T.m_map_number T.map_number.F.kp T.map_number.b .nil pass0 (pa_cons (pe_make T.mkW (ok_Web_init T) (hr.mono (by omega)) rfl T.mWeb T.Web_init.b .nil pass0 (pa_cons (pe_tup (pa_cons pe_int (pa_cons (pe_un un_neg pe_int) (pa_cons (pe_un un_neg pe_int) (pa_cons (pe_un un_neg pe_int) pa_nil))))) (pa_cons (pe_call (ok__law_ring T) (hr.mono (by omega)) rfl T.m__law_ring T._law_ring.F.kp T._law_ring.b .nil pass0 (pa_cons pe_int pa_nil)) pa_nil))) (pa_cons (pv 3) pa_nil))) pa_nil))) (pe_lst (pa_cons (pv 13) (pa_cons (pv 27) pa_nil))) (nomark _))))))))))))))))))))), fun p os ds post ⟨d0, e, ep⟩ => ?_⟩
  subst e ep
  have f0 : Fam 0 (some p) (fun os => startE N__law_right.length (.own (some p) os :: ([] : List D).map .val)) := ⟨fun _ => rfl, fun _ _ => rfl, fun _ => rfl⟩
  -- how many
  refine re_seqX (nxY_asgT2 (E := fun os => startE N__law_right.length (.own (some p) os :: ([] : List D).map .val)) (Dc := Dice) (W := fun ds => ∃ n m : Nat, ds = [.int n, .int m] ∧ n ≤ 6 ∧ 1 ≤ m ∧ m ≤ 4) (EvAY.imp (eaY_cons (evY_roll f0 (by decide) (by decide)) (eaY_cons (evY_op (U := fun d => ∃ z : Int, d = .int z ∧ 1 ≤ z ∧ z ≤ 4) (EvE.toY (z := .int 1) fun os _ => ev_int) (evY_roll f0 (by decide) (by decide)) ?_) eaY_nil)) ?_) d0) ?_
  · rintro x y rfl ⟨z, rfl, h1, h2⟩
    exact ⟨_, ⟨_, rfl, by omega, by omega⟩, rv_I0⟩
  · rintro ds ⟨x, r, e1, ⟨z, e2, h1, h2⟩, y, r2, e3, ⟨z2, e4, h3, h4⟩, e5⟩
    subst e1 e2 e3 e4 e5
    refine ⟨⟨z.toNat, z2.toNat, ?_, by omega, by omega, by omega⟩, rfl⟩
    rw [Int.toNat_of_nonneg (by omega), Int.toNat_of_nonneg (by omega)]
  rintro e ⟨x, y, os1, ⟨n, m, exy, hn, hm1, hm⟩, d1, rfl⟩
  cases exy
  -- the webs
  have f1 : Fam 0 (some p) (fun os => lE (some p) os n m .non .non .non .non .non (List.replicate 19 .non)) := ⟨fun _ => rfl, fun _ _ => rfl, fun _ => rfl⟩
  have f1t : ∀ x : Int, Fam 0 (some p) (fun os => (lE (some p) os n m .non .non .non .non .non (List.replicate 19 .non)).set 4 (.val (.int x))) := fun x => ⟨fun _ => rfl, fun _ _ => rfl, fun _ => rfl⟩
  refine re_seqX (nxY_asg (E := fun os => lE (some p) os n m .non .non .non .non .non (List.replicate 19 .non)) (Dc := Dice) (U := fun d => ∃ v, d = wD T.C v ∧ GoodW n v) (evY_web T f1 (fun x os => (lE (some p) os n m .non .non .non .non .non (List.replicate 19 .non)).set 4 (.val (.int x))) f1t hn (fun os => ev_var rfl) (fun x os => ge_name (by simp)) (by decide)
    (evY_op (EvE.toY (z := .int 2) fun os _ => ev_int) (evY_roll f1 (by decide) (by decide)) ?_)) d1) ?_
  · rintro x y rfl ⟨z, rfl, h1, h2⟩
    exact ⟨_, ⟨_, rfl⟩, rv_I0⟩
  rintro e ⟨dv, os2, ⟨v, rfl, gv⟩, d2, rfl⟩
  have f2 : Fam 0 (some p) (fun os => lE (some p) os n m (.val (wD T.C v)) .non .non .non .non (List.replicate 19 .non)) := ⟨fun _ => rfl, fun _ _ => rfl, fun _ => rfl⟩
  have f2t : ∀ x : Int, Fam 0 (some p) (fun os => (lE (some p) os n m (.val (wD T.C v)) .non .non .non .non (List.replicate 19 .non)).set 4 (.val (.int x))) := fun x => ⟨fun _ => rfl, fun _ _ => rfl, fun _ => rfl⟩
  refine re_seqX (nxY_asg (E := fun os => lE (some p) os n m (.val (wD T.C v)) .non .non .non .non (List.replicate 19 .non)) (Dc := Dice) (U := fun d => ∃ v, d = wD T.C v ∧ GoodW m v) (evY_web T f2 (fun x os => (lE (some p) os n m (.val (wD T.C v)) .non .non .non .non (List.replicate 19 .non)).set 4 (.val (.int x))) f2t (by omega) (fun os => ev_var rfl) (fun x os => ge_name (by simp)) (by decide)
    ((EvE.toY (z := .int 4) fun os _ => ev_int).imp fun d hd => ⟨4, hd⟩)) d2) ?_
  rintro e ⟨du, os3, ⟨u, rfl, gu⟩, d3, rfl⟩
  have ok1 := gv.ok
  have ok2 := gu.ok
  have vn := gv.n
  have un := gu.n
  subst vn un
  have gv' : GoodW v.n v := ⟨ok1, rfl, gv.ts⟩
  have gu' : GoodW u.n u := ⟨ok2, rfl, gu.ts⟩
  have okB := MF.beOk v u gv' gu' (by omega) (by omega)
  have fit := MF.tiOk v u gv' gu' (by omega) (by omega)
  have okT := fit.ot
  have okO := MF.opOk v ok1
  -- powers, more, made
  refine re_seq (nx_asgG (x := .tup [pwD v, pwD u, wD T.C (wTimes v u)]) (vs := [6, 7, 8]) (ev_tup (ea3 (ev_call (ea2 (ev_var rfl) ev_int) ⟨v, 6, ok1, rfl, by decide, rfl⟩) (ev_call (ea2 (ev_var rfl) ev_int) ⟨u, 6, ok2, rfl, by decide, rfl⟩) (ev_call (ea2 (ev_var rfl) (ev_var rfl)) ⟨v, u, fit, rfl, rfl⟩)) (by show 3 ≤ _; omega))
    (ge_tup (gse_cons (ge_name (by simp)) (gse_cons (ge_name (by simp)) (gse_cons (ge_name (by simp)) gse_nil))) rfl)) ?_
  -- rings, roads
  refine re_seqX (nx_for (vs := [9]) [.int 3, .int 4, .int 5] (it_tup (ev_tup (ea3 ev_int ev_int ev_int) (by show 3 ≤ _; omega))) (fun i e => ∃ d9 d10 d11 d12 d13 : E1, e = lE (some p) os3 v.n u.n (.val (wD T.C v)) (.val (wD T.C u)) (.val (pwD v)) (.val (pwD u)) (.val (wD T.C (wTimes v u))) ([d9, d10, d11, d12, d13] ++ List.replicate 14 .non)) ⟨.non, .non, .non, .non, .non, rfl⟩ ?_) ?_
  · rintro i x e hx ⟨d9, d10, d11, d12, d13, rfl⟩
    obtain ⟨s, rfl, s3, s5⟩ : ∃ s : Nat, x = .int s ∧ 3 ≤ s ∧ s ≤ 5 := by
      match i, hx with
      | 0, hx => cases hx; exact ⟨3, rfl, by decide, by decide⟩
      | 1, hx => cases hx; exact ⟨4, rfl, by decide, by decide⟩
      | 2, hx => cases hx; exact ⟨5, rfl, by decide, by decide⟩
    have rk := MF.ringOk s s3 (by omega)
    have dk := MF.roadOk s (by omega) (by omega)
    refine ⟨_, ge_name (by simp), ?_⟩
    refine nx_seq (nx_par (x := wD T.C (ringW s)) (y := wD T.C (roadW s)) (ea2 (ev_call (ea2 (ev_var rfl) (ev_call (ea1 (ev_var rfl)) ⟨s, rfl, by omega, by omega, rfl⟩)) ⟨s, ringT s, rfl, by omega, by omega, rk, rfl⟩) (ev_call (ea1 (ev_var rfl)) ⟨s, rfl, by omega, by omega, dk, rfl⟩))) ?_
    refine nx_seq (nx_par (x := .int (tr v.n (wk v s))) (y := .int (tot v.n (wk v (s - 1)))) (ea2 (ev_trace T (ev_op (ev_var rfl) (ev_var rfl) (rv_ixL (at_range (by omega)))) (by omega)) (ev_cb (ea1 (ev_is (ef_lcm (FP.pts v.n) (rowD v.n (wk v (s - 1))) (fun a => .int (sumN v.n fun b => wk v (s - 1) a b))
      (fun a => (lE (some p) os3 v.n u.n (.val (wD T.C v)) (.val (wD T.C u)) (.val (pwD v)) (.val (pwD u)) (.val (wD T.C (wTimes v u))) ([.val (.int s), .val (wD T.C (ringW s)), .val (wD T.C (roadW s)), d12, d13] ++ List.replicate 14 .non)).set 14 (.val (rowD v.n (wk v (s - 1)) a)))
      (it_lst (ev_op (ev_var rfl) (ev_op (ev_var rfl) ev_int rv_I0) (rv_ixL ?_))) (fun a _ => ge_name (by simp)) (fun a _ => ev_sumRow (ev_var rfl)) (by rw [FP.pts_len]; omega)).e ?_)) rc_sum))) ?_
    · have e1 : (s : Int) - 1 = ((s - 1 : Nat) : Int) := by omega
      rw [e1]
      exact at_range (f := fun k => mD v.n (wk v k)) (by omega)
    · rw [List.map_map]; rfl
    have nB : (wBeside v u).n = v.n + u.n := wBe_n v u
    have nT : (wTimes v u).n = v.n * u.n := wTi_n v u
    have nR : (ringW s).n = s := plain_n _ _
    have nD : (roadW s).n = s := plain_n _ _
    have b1 := FP.tr_pow_bound (ts := v.ts) (n := v.n) (by omega) (k := s) (by omega)
    refine nx_seq (nx_pass (et_test (ev_op (ev_lst (ea2 (ev_homs T (p := ringW s) (v := v) (ev_var rfl) (ev_var rfl) rk ok1 (by rw [nR]; omega) (by rw [nR]; exact pow_le5 (by omega) s5)) (ev_homs T (p := roadW s) (v := v) (ev_var rfl) (ev_var rfl) dk ok1 (by rw [nD]; omega) (by rw [nD]; exact pow_le5 (by omega) s5))) (by show 2 ≤ _; omega)) (ev_lst (ea2 (ev_var rfl) (ev_var rfl)) (by show 2 ≤ _; omega)) (rv_neD rfl rfl rfl rfl (py_ints2 _ _ _ _ (MF.ring s v s3 (by omega) ok1) (MF.road s v s3 s5 ok1)))))) ?_
    refine (nx_pass (et_is (et_or (a := false) (b := false) (et_test (ev_is (ev_op (ev_homs T (p := ringW s) (v := wBeside v u) (ev_var rfl) (ev_call (ea2 (ev_var rfl) (ev_var rfl)) ⟨v, u, ok1, ok2, okB, rfl, rfl⟩) rk okB (by rw [nR]; omega) (by rw [nR]; exact pow_le5 (by omega) s5)) (ev_op (ev_var rfl) (ev_trace T (n := u.n) (f := wk u s) (ev_op (ev_var rfl) (ev_var rfl) (rv_ixL (at_range (by omega)))) (by omega)) rv_I0) rv_neI) ?_))
      fun _ => et_is (et_and (a := decide (((wTimes v u).n : Int) < 8)) (b := false) (et_test (ev_op (ev_ncols T (v := wTimes v u) (ev_var rfl)) ev_int rv_B0)) fun h8 => et_test (ev_is (ev_op (ev_homs T (p := ringW s) (v := wTimes v u) (ev_var rfl) (ev_var rfl) rk okT (by rw [nR]; omega) ?_) (ev_op (ev_var rfl) (ev_trace T (n := u.n) (f := wk u s) (ev_op (ev_var rfl) (ev_var rfl) (rv_ixL (at_range (by omega)))) (by omega)) (rv_I (.inl b1))) rv_neI) ?_)) (by simp)) rfl)).imp fun e he => by
      subst he
      exact ⟨_, _, _, _, _, rfl⟩
    · rw [MF.ring s _ s3 (by omega) okB, MF.be v u s ok1 ok2 s3 s5]
      simp
    · rw [decide_eq_true_eq] at h8
      rw [nR]
      exact pow_le5 (by omega) s5
    · rw [MF.ring s _ s3 (by omega) okT, MF.ti v u s ok1 ok2 hm1 s3 s5]
      simp
  rintro e ⟨d9, d10, d11, d12, d13, rfl⟩
  have lE' : ∃ B : Es, B = lE (some p) os3 v.n u.n (.val (wD T.C v)) (.val (wD T.C u)) (.val (pwD v)) (.val (pwD u)) (.val (wD T.C (wTimes v u))) ([d9, d10, d11, d12, d13] ++ List.replicate 14 .non) := ⟨_, rfl⟩
  -- the star
  have nS : starW.n = 4 := plain_n _ _
  refine re_seq (nx_asg (x := wD T.C starW) (ev_call (ea2 ev_int (ev_tup (ea3 (ev_tup (ea2 ev_int ev_int) (by show 2 ≤ _; omega)) (ev_tup (ea2 ev_int ev_int) (by show 2 ≤ _; omega)) (ev_tup (ea2 ev_int ev_int) (by show 2 ≤ _; omega))) (by show 3 ≤ _; omega))) ⟨4, [(0, 1), (0, 2), (0, 3)], rfl, by decide, by decide, MF.starOk, rfl⟩)) ?_
  refine re_seq (nx_pass (et_test (ev_is (ev_op (ev_homs T (p := starW) (v := v) (ev_var rfl) (ev_var rfl) MF.starOk ok1 (by rw [nS]; omega) (by rw [nS]; exact pow_le5 (by omega) (by decide))) (ev_cb (ea1 (ev_is (ef_lcm (FP.pts v.n) (fun a => .int ((v.nb a).length : Int)) (fun a => .int (((v.nb a).length : Int) * (v.nb a).length * (v.nb a).length))
    (fun a => ((lE (some p) os3 v.n u.n (.val (wD T.C v)) (.val (wD T.C u)) (.val (pwD v)) (.val (pwD u)) (.val (wD T.C (wTimes v u))) ([d9, d10, d11, d12, d13] ++ List.replicate 14 .non)).set 15 (.val (wD T.C starW))).set 16 (.val (.int ((v.nb a).length : Int)))) (it_tup (ev_prop (ev_var rfl) ⟨v, rfl, by omega, rfl⟩)) (fun a _ => ge_name (by simp)) (fun a _ => ?_) (by rw [FP.pts_len]; omega)).e (by rw [List.map_map]; rfl))) rc_sum) rv_neI) ?_))) ?_
  · have hl := v.nb_len a
    exact ev_op (ev_op (ev_var rfl) (ev_var rfl) (rv_I (.inl ⟨by omega, by omega⟩))) (ev_var rfl) (rv_I (.inr ⟨by omega, by omega⟩))
  · rw [MF.star v ok1]
    simp [sumN]
  -- the opposite web
  refine re_seq (nx_asg (x := mD v.n (opM v.ts)) (ef_lcm (FP.pts v.n) .int (rowD v.n (opM v.ts)) (fun a => ((lE (some p) os3 v.n u.n (.val (wD T.C v)) (.val (wD T.C u)) (.val (pwD v)) (.val (pwD u)) (.val (wD T.C (wTimes v u))) ([d9, d10, d11, d12, d13] ++ List.replicate 14 .non)).set 15 (.val (wD T.C starW))).set 4 (.val (.int a)))
    (it_pts (ev_var rfl) (by omega)) (fun a _ => ge_name (by simp)) (fun a ha => ?_) (by rw [FP.pts_len]; omega)).e) ?_
  · rw [FP.mem_pts] at ha
    refine (ef_lcm (FP.pts v.n) .int (fun b => .int (opM v.ts a b)) (fun b => (((lE (some p) os3 v.n u.n (.val (wD T.C v)) (.val (wD T.C u)) (.val (pwD v)) (.val (pwD u)) (.val (wD T.C (wTimes v u))) ([d9, d10, d11, d12, d13] ++ List.replicate 14 .non)).set 15 (.val (wD T.C starW))).set 4 (.val (.int a))).set 18 (.val (.int b)))
      (it_pts (ev_var rfl) (by omega)) (fun b _ => ge_name (by simp)) (fun b hb => ?_) (by rw [FP.pts_len]; omega)).e
    rw [FP.mem_pts] at hb
    refine ev_is (ev_op (ev_op ev_int (ev_cell (n := v.n) (f := adjI v.ts) (ev_row (ev_call (ea1 (ev_var rfl)) ⟨v, ok1, rfl, rfl⟩) (ev_var rfl) ha.1 ha.2) (ev_var rfl) hb.1 hb.2) rv_I0) (ev_cb (ea1 (ev_op (ev_var rfl) (ev_var rfl) rv_eqI)) rc_intB) rv_I0) ?_
    unfold opM idM
    by_cases h : a = b <;> simp [h]
  refine re_seq (nx_asg (x := mD v.n (mulM v.n (opM v.ts) (opM v.ts))) (ev_call (ea2 (ev_var rfl) (ev_var rfl)) ⟨v.n, _, _, rfl, by omega, fun a b _ _ _ _ => by have := FP.opM_b v.ts a b; omega, rfl⟩)) ?_
  have nO : (wOpp v).n = v.n := wOp_n v
  have n3 : (ringW 3).n = 3 := plain_n _ _
  have n4 : (ringW 4).n = 4 := plain_n _ _
  have r4 : (roadW 4).n = 4 := plain_n _ _
  have ring3 := MF.ringOk 3 (by decide) (by decide)
  have ring4 := MF.ringOk 4 (by decide) (by decide)
  have road4 := MF.roadOk 4 (by decide) (by decide)
  refine re_seq (nx_asg (x := .lst [.int (homs (ringW 3) (wOpp v)), .int (homs (roadW 4) (wOpp v)), .int (homs (ringW 4) (wOpp v))]) (ev_lst (ea3
    (ev_homs T (p := ringW 3) (v := wOpp v) (ev_call (ea2 ev_int (ev_call (ea1 ev_int) ⟨3, rfl, by decide, by decide, rfl⟩)) ⟨3, ringT 3, rfl, by decide, by decide, ring3, rfl⟩) (ev_call (ea1 (ev_var rfl)) ⟨v, ok1, okO, rfl, rfl⟩) ring3 okO (by rw [n3]; omega) (by rw [n3, nO]; exact pow_le5 (by omega) (by decide)))
    (ev_homs T (p := roadW 4) (v := wOpp v) (ev_call (ea1 ev_int) ⟨4, rfl, by decide, by decide, road4, rfl⟩) (ev_call (ea1 (ev_var rfl)) ⟨v, ok1, okO, rfl, rfl⟩) road4 okO (by rw [r4]; omega) (by rw [r4, nO]; exact pow_le5 (by omega) (by decide)))
    (ev_homs T (p := ringW 4) (v := wOpp v) (ev_call (ea2 ev_int (ev_call (ea1 ev_int) ⟨4, rfl, by decide, by decide, rfl⟩)) ⟨4, ringT 4, rfl, by decide, by decide, ring4, rfl⟩) (ev_call (ea1 (ev_var rfl)) ⟨v, ok1, okO, rfl, rfl⟩) ring4 okO (by rw [n4]; omega) (by rw [n4, nO]; exact pow_le5 (by omega) (by decide)))) (by show 3 ≤ _; omega))) ?_
  refine re_seq (nx_asg (x := .lst [.int (tr v.n (mulM v.n (mulM v.n (opM v.ts) (opM v.ts)) (opM v.ts))), .int (tot v.n (mulM v.n (mulM v.n (opM v.ts) (opM v.ts)) (opM v.ts))), .int (tr v.n (mulM v.n (mulM v.n (opM v.ts) (opM v.ts)) (mulM v.n (opM v.ts) (opM v.ts))))]) (ev_lst (ea3
    (ev_trace T (ev_call (ea2 (ev_var rfl) (ev_var rfl)) ⟨v.n, _, _, rfl, by omega, fun a b _ _ _ _ => by have := FP.opM_b v.ts a b; omega, rfl⟩) (by omega))
    (ev_cb (ea1 (ev_is (ef_lcm (FP.pts v.n) (rowD v.n (mulM v.n (mulM v.n (opM v.ts) (opM v.ts)) (opM v.ts))) (fun a => .int (sumN v.n fun b => mulM v.n (mulM v.n (opM v.ts) (opM v.ts)) (opM v.ts) a b))
      (fun a => (((((lE (some p) os3 v.n u.n (.val (wD T.C v)) (.val (wD T.C u)) (.val (pwD v)) (.val (pwD u)) (.val (wD T.C (wTimes v u))) ([d9, d10, d11, d12, d13] ++ List.replicate 14 .non)).set 15 (.val (wD T.C starW))).set 17 (.val (mD v.n (opM v.ts)))).set 19 (.val (mD v.n (mulM v.n (opM v.ts) (opM v.ts))))).set 20 (.val (.lst [.int (homs (ringW 3) (wOpp v)), .int (homs (roadW 4) (wOpp v)), .int (homs (ringW 4) (wOpp v))]))).set 14 (.val (rowD v.n (mulM v.n (mulM v.n (opM v.ts) (opM v.ts)) (opM v.ts)) a)))
      (it_lst (ev_call (ea2 (ev_var rfl) (ev_var rfl)) ⟨v.n, _, _, rfl, by omega, fun a b _ _ _ _ => by have := FP.opM_b v.ts a b; omega, rfl⟩)) (fun a _ => ge_name (by simp)) (fun a _ => ev_sumRow (ev_var rfl)) (by rw [FP.pts_len]; omega)).e (by rw [List.map_map]; rfl))) rc_sum)
    (ev_trace T (ev_call (ea2 (ev_var rfl) (ev_var rfl)) ⟨v.n, _, _, rfl, by omega, fun a b _ _ _ _ => by have := FP.opM2_b (n := v.n) v.ts a b; omega, rfl⟩) (by omega))) (by show 3 ≤ _; omega))) ?_
  refine re_seq (nx_pass (et_test (ev_op (ev_var rfl) (ev_var rfl) (rv_neD rfl rfl rfl rfl (py_ints3 _ _ _ _ _ _ (MF.op3 v ok1) (MF.opR v ok1) (MF.op4 v ok1)))))) ?_
  -- the marks
  have g6 : (bg v 0).length ≤ 6 ∧ (bg v 1).length ≤ 6 := by
    have h0 := List.length_filter_le (fun a => decide (v.col a = 0)) (FP.pts v.n)
    have h1 := List.length_filter_le (fun a => decide (v.col a = 1)) (FP.pts v.n)
    rw [FP.pts_len] at h0 h1
    unfold bg
    omega
  have inbg : ∀ c a, a ∈ bg v c → 0 ≤ a ∧ a < (v.n : Int) := fun c a ha => by
    unfold bg at ha
    rw [List.mem_filter, FP.mem_pts] at ha
    exact ha.1
  generalize hB : ((((((lE (some p) os3 v.n u.n (.val (wD T.C v)) (.val (wD T.C u)) (.val (pwD v)) (.val (pwD u)) (.val (wD T.C (wTimes v u))) ([d9, d10, d11, d12, d13] ++ List.replicate 14 .non)).set 15 (.val (wD T.C starW))).set 17 (.val (mD v.n (opM v.ts)))).set 19 (.val (mD v.n (mulM v.n (opM v.ts) (opM v.ts))))).set 20 (.val (.lst [.int (homs (ringW 3) (wOpp v)), .int (homs (roadW 4) (wOpp v)), .int (homs (ringW 4) (wOpp v))]))).set 21
    (.val (.lst [.int (tr v.n (mulM v.n (mulM v.n (opM v.ts) (opM v.ts)) (opM v.ts))), .int (tot v.n (mulM v.n (mulM v.n (opM v.ts) (opM v.ts)) (opM v.ts))), .int (tr v.n (mulM v.n (mulM v.n (opM v.ts) (opM v.ts)) (mulM v.n (opM v.ts) (opM v.ts))))]))) = B
  have hl : B.length = 28 := by rw [← hB]; rfl
  have B0 : B[0]? = some (.own (some p) os3) := by rw [← hB]; rfl
  have B1 : B[1]? = some (.val (.int v.n)) := by rw [← hB]; rfl
  have B3 : B[3]? = some (.val (wD T.C v)) := by rw [← hB]; rfl
  have B6 : B[6]? = some (.val (pwD v)) := by rw [← hB]; rfl
  clear hB
  obtain ⟨c0, c1, c2, c3, c4, c5, c6, c7, c8, c9, c10, c11, c12, c13, c14, c15, c16, c17, c18, c19, c20, c21, c22, c23, c24, c25, c26, c27, rfl⟩ : ∃ c0 c1 c2 c3 c4 c5 c6 c7 c8 c9 c10 c11 c12 c13 c14 c15 c16 c17 c18 c19 c20 c21 c22 c23 c24 c25 c26 c27 : E1, B = [c0, c1, c2, c3, c4, c5, c6, c7, c8, c9, c10, c11, c12, c13, c14, c15, c16, c17, c18, c19, c20, c21, c22, c23, c24, c25, c26, c27] := by
    match B, hl with
    | [c0, c1, c2, c3, c4, c5, c6, c7, c8, c9, c10, c11, c12, c13, c14, c15, c16, c17, c18, c19, c20, c21, c22, c23, c24, c25, c26, c27], _ => exact ⟨_, _, _, _, _, _, _, _, _, _, _, _, _, _, _, _, _, _, _, _, _, _, _, _, _, _, _, _, rfl⟩
  cases B0
  cases B1
  cases B3
  cases B6
  refine re_seq (nx_asg (x := .lst (v.cols.map .int)) (ef_lcm v.cols .int .int (fun c => [.own (some p) os3, .val (.int v.n), c2, .val (wD T.C v), c4, c5, .val (pwD v), c7, c8, c9, c10, c11, c12, c13, c14, c15, c16, c17, c18, c19, c20, c21, c22, .val (.int c), c24, c25, c26, c27]) (it_tup (ev_cols T (ev_var rfl))) (fun c _ => ge_name (by simp)) (fun c _ => ev_var rfl) (by have : v.cols.length ≤ 6 := hn; omega)).e) ?_
  refine re_seq (nx_asg (x := wD T.C someW) (ev_make (ds := [.tup (someW.cols.map .int), .tup (someW.ts.map pD)]) (fs := wFs someW) (ea2 (ev_tup (ea_cons ev_int (ea3 (ev_un ev_int ru_neg) (ev_un ev_int ru_neg) ev_int)) (by show 4 ≤ _; omega)) (ev_tup (ea3 (ev_tup (ea2 ev_int ev_int) (by show 2 ≤ _; omega)) (ev_tup (ea2 ev_int ev_int) (by show 2 ≤ _; omega)) (ev_tup (ea2 ev_int ev_int) (by show 2 ≤ _; omega))) (by show 3 ≤ _; omega))) ⟨someW, MF.someOk, rfl, rfl⟩)) ?_
  have lcB : ∀ c : Int, EvE K (tLc (iRng1 (tCons (tVar 1) tNil)) (gName 4) (tTest (tOp rEq (tOp (rIxL K) (tVar 22) (tVar 4)) (tC (.int c)))) (tVar 4) [4]) [.own (some p) os3, .val (.int v.n), c2, .val (wD T.C v), c4, c5, .val (pwD v), c7, c8, c9, c10, c11, c12, c13, c14, c15, c16, c17, c18, c19, c20, c21, .val (.lst (v.cols.map .int)), c23, .val (wD T.C someW), c25, c26, c27] (.lst ((bg v c).map .int)) := fun c =>
    (ef_lc (FP.pts v.n) .int (fun a => decide (v.col a = c)) .int (fun a => [.own (some p) os3, .val (.int v.n), c2, .val (wD T.C v), .val (.int a), c5, .val (pwD v), c7, c8, c9, c10, c11, c12, c13, c14, c15, c16, c17, c18, c19, c20, c21, .val (.lst (v.cols.map .int)), c23, .val (wD T.C someW), c25, c26, c27]) (it_pts (ev_var rfl) (by omega)) (fun a _ => ge_name (by simp))
      (fun a ha => et_test (ev_op (ev_op (ev_var rfl) (ev_var rfl) (rv_ixL (at_col v (FP.mem_pts.mp ha).1 (FP.mem_pts.mp ha).2))) ev_int rv_eqI)) (fun a _ _ => ev_var rfl) (by rw [FP.pts_len]; omega)).e
  refine re_seq (nx_asgG (x := .tup [.lst ((bg v 0).map .int), .lst ((bg v 1).map .int)]) (vs := [25, 26]) (ev_tup (ea2 (lcB 0) (lcB 1)) (by show 2 ≤ _; omega)) (ge_tup (gse_cons (ge_name (by simp)) (gse_cons (ge_name (by simp)) gse_nil)) rfl)) ?_
  have cell : ∀ (es : Es) (k : Nat) (a b : Int) (ja jb : Nat), k < 7 → es[6]? = some (.val (pwD v)) → es[ja]? = some (.val (.int a)) → es[jb]? = some (.val (.int b)) → 0 ≤ a → a < v.n → 0 ≤ b → b < v.n → EvE K (tOp (rIxL K) (tOp (rIxL K) (tOp (rIxL K) (tVar 6) (tC (.int (k : Int)))) (tVar ja)) (tVar jb)) es (.int (wk v k a b)) := fun es k a b ja jb hk h6 hja hjb a0 a1 b0 b1 =>
    ev_cell (ev_row (n := v.n) (f := wk v k) (ev_op (ev_var h6) ev_int (rv_ixL (at_range hk))) (ev_var hja) a0 a1) (ev_var hjb) b0 b1
  refine re_seq (nx_asg (x := .int (((bg v 0).map fun a => ((bg v 1).map fun b => wk v 3 a b).sum).sum)) (ev_cb (ea1 (ev_is (ef_lcm (bg v 0) .int (fun a => .int ((bg v 1).map fun b => wk v 3 a b).sum) (fun a => [.own (some p) os3, .val (.int v.n), c2, .val (wD T.C v), .val (.int a), c5, .val (pwD v), c7, c8, c9, c10, c11, c12, c13, c14, c15, c16, c17, c18, c19, c20, c21, .val (.lst (v.cols.map .int)), c23, .val (wD T.C someW), .val (.lst ((bg v 0).map .int)), .val (.lst ((bg v 1).map .int)), c27])
    (it_lst (ev_var rfl)) (fun a _ => ge_name (by simp)) (fun a ha => ?_) (by omega)).e (by rw [List.map_map]; rfl))) rc_sum)) ?_
  · have ha := inbg 0 a ha
    refine ev_cb (ea1 (ev_is (ef_lcm (bg v 1) .int (fun b => .int (wk v 3 a b)) (fun b => [.own (some p) os3, .val (.int v.n), c2, .val (wD T.C v), .val (.int a), c5, .val (pwD v), c7, c8, c9, c10, c11, c12, c13, c14, c15, c16, c17, .val (.int b), c19, c20, c21, .val (.lst (v.cols.map .int)), c23, .val (wD T.C someW), .val (.lst ((bg v 0).map .int)), .val (.lst ((bg v 1).map .int)), c27])
      (it_lst (ev_var rfl)) (fun b _ => ge_name (by simp)) (fun b hb => cell _ 3 a b 4 18 (by decide) rfl rfl rfl ha.1 ha.2 (inbg 1 b hb).1 (inbg 1 b hb).2) (by omega)).e (by rw [List.map_map]; rfl))) rc_sum
  refine re_seq (nx_asg (x := .int (((bg v 1).map fun a => wk v 4 a a).sum)) (ev_cb (ea1 (ev_is (ef_lcm (bg v 1) .int (fun a => .int (wk v 4 a a)) (fun a => [.own (some p) os3, .val (.int v.n), c2, .val (wD T.C v), .val (.int a), c5, .val (pwD v), c7, c8, c9, c10, c11, c12, .val (.int (((bg v 0).map fun a => ((bg v 1).map fun b => wk v 3 a b).sum).sum)), c14, c15, c16, c17, c18, c19, c20, c21, .val (.lst (v.cols.map .int)), c23, .val (wD T.C someW), .val (.lst ((bg v 0).map .int)), .val (.lst ((bg v 1).map .int)), c27])
    (it_lst (ev_var rfl)) (fun a _ => ge_name (by simp)) (fun a ha => cell _ 4 a a 4 4 (by decide) rfl rfl rfl (inbg 1 a ha).1 (inbg 1 a ha).2 (inbg 1 a ha).1 (inbg 1 a ha).2) (by omega)).e (by rw [List.map_map]; rfl))) rc_sum)) ?_
  have nSo : someW.n = 4 := rfl
  have nRo : rndW.n = 4 := rfl
  have k5 := pow_le5 (n := v.n) (s := 4) (by omega) (by decide)
  refine (re_retX (ev_op (x := .lst [.int (homs someW v), .int (homs rndW v)]) (y := .lst [.int (((bg v 0).map fun a => ((bg v 1).map fun b => wk v 3 a b).sum).sum), .int (((bg v 1).map fun a => wk v 4 a a).sum)]) (z := .bl true) (ev_lst (ea2 (ev_homs T (ev_var rfl) (ev_var rfl) MF.someOk ok1 (by rw [nSo]; omega) (by rw [nSo]; exact k5))
    (ev_homs T (p := rndW) (ev_make (ds := [.tup (rndW.cols.map .int), .tup (rndW.ts.map pD)]) (fs := wFs rndW) (ea2 (ev_tup (ea_cons ev_int (ea3 (ev_un ev_int ru_neg) (ev_un ev_int ru_neg) (ev_un ev_int ru_neg))) (by show 4 ≤ _; omega)) (ev_call (ea1 ev_int) ⟨4, rfl, by decide, by decide, rfl⟩)) ⟨rndW, MF.rndOk, rfl, rfl⟩) (ev_var rfl) MF.rndOk ok1 (by rw [nRo]; omega) (by rw [nRo]; exact k5))) (by show 2 ≤ _; omega))
    (ev_lst (ea2 (ev_var rfl) (ev_var rfl)) (by show 2 ≤ _; omega)) (rv_eqD rfl rfl rfl rfl ?_)).toX).imp fun d es' ⟨h1, h2⟩ => by
      subst h2
      exact ⟨os3, rfl, h1, d3⟩
  rw [MF.some v ok1, MF.rnd v ok1]
  simp [PyData.eqv, PyData.eqvAll]
end
end FB
set_option Elab.async false
set_option autoImplicit false
set_option linter.all false
set_option maxRecDepth 100000
/-! The law, walked. -/
namespace FB
open PySem PySem.Spec PyProof.Rows L2 SlX FA
open FP (Wb OkW sumN mulM idM adjI powM tr tot opM homs)
section
variable {P : Program} {w : World} {K : PySem.W.Frag} {mg : Str → Option Value} {base : Heap} {es : Es} {ta tb tc te : TE}
theorem nxY_pass {Dc : List D → Prop} {E : List D → Es} {tt : TT} {tu : TS} {os : List D} (h : EvTY K Dc tt E fun b => b = false) (d : Dc os) : NxX K (tIfS tt tu tNext) (E os) fun e => ∃ os', Dc os' ∧ e = E os' := fun D0 σ H H0 F s q =>
  h os d σ H H0 F s _ fun b H' H0' os' hb d' s' b' => by
    subst hb
    exact q σ H' H0' _ ⟨os', d', rfl⟩ s' b'
def R_law (ds : List D) (z : D) : Prop := ∃ ns : List Int, ds = [.lst (ns.map .int)] ∧ ns.length ≤ 63 ∧ z = .bl true
theorem py_ints4 (a b c d a' b' c' d' : Int) (h1 : a = a') (h2 : b = b') (h3 : c = c') (h4 : d = d') : PyData.eqv (.list [.int a, .int b, .int c, .int d]) (.list [.int a', .int b', .int c', .int d']) = true := by
  subst h1 h2 h3 h4
  simp [PyData.eqv, PyData.eqvAll]
set_option maxHeartbeats 0 in
theorem ok_law (T : Txt K mg) (MF : Facts) : FnOk P w K mg base CX0 15 T.law.a T.law.fd P_law (spD K R_law) :=
  fn_pure _ T.law.F sc_law (fun ds z ⟨n, e, _⟩ => by rw [e]; rfl) (by decide) fun cdv A outer s H E hr => by
  refine ⟨_, (pss_cons (ps_for PassesOwn.never rfl (pi_range1 rfl T.n_range (pa_cons (pe_callB (call_max2 rfl) (by rfl) T.n_max (by rfl) (pa_cons pe_int (pa_cons (pe_callB (call_min2 rfl) (by rfl) T.n_min (by rfl) (pa_cons pe_int (pa_cons (pe_callB (call_lenK (K := K) rfl) (by rfl) T.n_len PySem.boot_len (pa_cons (pv 0) pa_nil)) pa_nil))) pa_nil))) pa_nil)) (pg_name (i := 1) sc_law.nd rfl (by first | exact Or.inl rfl | exact Or.inr rfl)) (pss_cons (ps_set (i := 2) sc_law.nd rfl (by first | exact Or.inl rfl | exact Or.inr rfl) (pe_call (ok__law_dice T) (hr.mono (by omega)) rfl T.m__law_dice T._law_dice.F.kp T._law_dice.b .nil pass0 (pa_cons (pv 0) (pa_cons (pv 1) pa_nil)))) (pss_one (ps_if (pt_not (pt_val (pe_call (ok__law_right T MF) (hr.mono (by omega)) rfl T.m__law_right T._law_right.F.kp T._law_right.b .nil pass0 (pa_cons (pv 2) pa_nil)))) (pss_one (ps_ret pe_bl)) pss_nil)))) (pss_cons (ps_asg (pe_tup (pa_cons (pe_call (ok__law_plain T) (hr.mono (by omega)) rfl T.m__law_plain T._law_plain.F.kp T._law_plain.b .nil pass0 (pa_cons pe_int (pa_cons (pe_call (ok__law_full T) (hr.mono (by omega)) rfl T.m__law_full T._law_full.F.kp T._law_full.b .nil pass0 (pa_cons pe_int pa_nil)) pa_nil))) (pa_cons (pe_call (ok__law_plain T) (hr.mono (by omega)) rfl T.m__law_plain T._law_plain.F.kp T._law_plain.b .nil pass0 (pa_cons pe_int (pa_cons (pe_call (ok__law_ring T) (hr.mono (by omega)) rfl T.m__law_ring T._law_ring.F.kp T._law_ring.b .nil pass0 (pa_cons pe_int pa_nil)) pa_nil))) pa_nil))) (pg_tupK (K := K) (n := 2) rfl rfl (pgs_cons (pg_name (i := 3) sc_law.nd rfl (by first | exact Or.inl rfl | exact Or.inr rfl)) (pgs_cons (pg_name (i := 4) sc_law.nd rfl (by first | exact Or.inl rfl | exact Or.inr rfl)) pgs_nil)))) (pss_cons (ps_setLc (i := 5) (own := [("many", 6)]) rfl sc_law.nd rfl rfl (sw_true rfl rfl rfl (by decide +kernel)) (pi_tupleK (K := K) rfl (pe_tup (pa_cons pe_int (pa_cons pe_int (pa_cons pe_int (pa_cons pe_int pa_nil)))))) (blkOk_by (N := N_law) (sc := (defScope s_law)) (by decide +kernel)) (fun _ _ _ _ _ => (pg_name (i := 6) sc_law.nd rfl (by first | exact Or.inl rfl | exact Or.inr rfl))) (fun _ _ _ _ _ => pts_nil) (fun _ _ _ _ _ => (pe_call (ok_map_number T) (hr.mono (by omega)) rfl T.m_map_number T.map_number.F.kp T.map_number.b .nil pass0 (pa_cons (pe_call (ok__law_plain T) (hr.mono (by omega)) rfl T.m__law_plain T._law_plain.F.kp T._law_plain.b .nil pass0 (pa_cons (pv 6) (pa_cons (pe_call (ok__law_ring T) (hr.mono (by omega)) rfl T.m__law_ring T._law_ring.F.kp T._law_ring.b .nil pass0 (pa_cons (pv 6) pa_nil)) pa_nil))) (pa_cons (pv 3) pa_nil))))) (pss_one (ps_ret (pe_and (pe_cmpR (op_eqDK (K := K) rfl hr.units) (pv 5) (pe_lst (pa_cons pe_int (pa_cons pe_int (pa_cons pe_int (pa_cons pe_int pa_nil))))) (nomark _)) (pe_one (pe_cmpR (op_eqDK (K := K) rfl hr.units) (pe_lc (own := [("many", 6)]) rfl sc_law.nd (pi_tupleK (K := K) rfl (pe_tup (pa_cons pe_int (pa_cons pe_int (pa_cons pe_int (pa_cons pe_int pa_nil)))))) (blkOk_by (N := N_law) (sc := (defScope s_law)) (by decide +kernel)) (fun _ _ _ _ _ => (pg_name (i := 6) sc_law.nd rfl (by first | exact Or.inl rfl | exact Or.inr rfl))) (fun _ _ _ _ _ => pts_nil) (fun _ _ _ _ _ => (pe_call (ok_map_number T) (hr.mono (by omega)) rfl T.m_map_number T.map_number.F.kp T.map_number.b .nil pass0 (pa_cons (pe_call (ok__law_plain T) (hr.mono (by omega)) rfl T.m__law_plain T._law_plain.F.kp T._law_plain.b .nil pass0 (pa_cons (pv 6) (pa_cons (pe_call (ok__law_ring T) (hr.mono (by omega)) rfl T.m__law_ring T._law_ring.F.kp T._law_ring.b .nil pass0 (pa_cons (pv 6) pa_nil)) pa_nil))) (pa_cons (pe_call (ok_opposite T) (hr.mono (by omega)) rfl T.m_opposite T.opposite.F.kp T.opposite.b .nil pass0 (pa_cons (pv 4) pa_nil)) pa_nil))))) (pe_lst (pa_cons pe_int (pa_cons pe_int (pa_cons pe_int (pa_cons pe_int pa_nil))))) (nomark _))))))))), fun ds z ⟨ns, e, hl, ez⟩ => ?_⟩
  subst e ez
  refine re_seqX (nx_for (vs := [1]) ((List.range (max 1 (min 2 (ns.length : Int))).toNat).map fun (i : Nat) => D.int (i : Int)) (it_rng1 (ev_cb (ea2 ev_int (ev_cb (ea2 ev_int (ev_is (ev_cb (ea1 (ev_var rfl)) rc_lenL) (by rw [List.length_map]))) rc_min)) rc_max) (by omega) (by omega))
    (fun i e => ∃ d1 d2 : E1, e = [.val (.lst (ns.map .int)), d1, d2, .non, .non, .non, .non]) ⟨.non, .non, rfl⟩ ?_) ?_
  · rintro i x e hx ⟨d1, d2, rfl⟩
    have hi : i < (max 1 (min 2 (ns.length : Int))).toNat := by
      have := (List.getElem?_eq_some_iff.mp hx).1
      rw [List.length_map, List.length_range] at this
      exact this
    rw [List.getElem?_map, List.getElem?_range hi] at hx
    cases hx
    refine ⟨_, ge_name (by simp), ?_⟩
    refine nx_seq (nx_asgF (ef_call (ea2 (ev_var rfl) (ev_var rfl)) ⟨ns, i, rfl, by omega, hl, rfl⟩)) ?_
    have f : Fam 2 none (fun os => [.val (.lst (ns.map .int)), .val (.int (i : Int)), .own none os, .non, .non, .non, .non]) := ⟨fun _ => rfl, fun _ _ => rfl, fun _ => rfl⟩
    refine (nxY_pass (E := fun os => [.val (.lst (ns.map .int)), .val (.int (i : Int)), .own none os, .non, .non, .non, .non]) (Dc := Dice) (etY_not (etY_B (evY_callM f eaY_nil fun os ds d e => ?_))) ⟨_, _, rfl⟩).imp ?_
    · subst e
      exact ⟨_, ⟨d, rfl, rfl⟩, fun d' os' h => ⟨⟨true, h.1, rfl⟩, h.2⟩⟩
    · rintro e ⟨os', d', rfl⟩
      exact ⟨_, _, rfl⟩
  rintro e ⟨d1, d2, rfl⟩
  have okF := MF.fullOk
  have okR := MF.ringOk 5 (by decide) (by decide)
  have okO := MF.opOk _ okR
  have nF : (plainW 5 (fullT 5)).n = 5 := plain_n _ _
  have nO : (wOpp (ringW 5)).n = 5 := (wOp_n _).trans (plain_n _ _)
  have pw5 : ∀ k : Nat, k ≤ 6 → 5 ^ k ≤ 100000 := fun k hk => Nat.le_trans (Nat.pow_le_pow_right (by decide) hk) (by decide)
  refine re_seq (nx_asgG (x := .tup [wD T.C (plainW 5 (fullT 5)), wD T.C (ringW 5)]) (vs := [3, 4]) (ev_tup (ea2 (ev_call (ea2 ev_int (ev_call (ea1 ev_int) ⟨5, rfl, by decide, rfl⟩)) ⟨5, fullT 5, rfl, by decide, by decide, okF, rfl⟩) (ev_call (ea2 ev_int (ev_call (ea1 ev_int) ⟨5, rfl, by decide, by decide, rfl⟩)) ⟨5, ringT 5, rfl, by decide, by decide, okR, rfl⟩)) (by show 2 ≤ _; omega)) (ge_tup (gse_cons (ge_name (by simp)) (gse_cons (ge_name (by simp)) gse_nil)) rfl)) ?_
  have in4 : ∀ k : Nat, k ∈ [3, 4, 5, 6] → 3 ≤ k ∧ k ≤ 6 := fun k hk => by
    simp only [List.mem_cons, List.not_mem_nil, or_false] at hk
    omega
  refine re_seq (nx_asg (x := .lst [.int (homs (ringW 3) (plainW 5 (fullT 5))), .int (homs (ringW 4) (plainW 5 (fullT 5))), .int (homs (ringW 5) (plainW 5 (fullT 5))), .int (homs (ringW 6) (plainW 5 (fullT 5)))]) (ef_lcm [3, 4, 5, 6] (fun (k : Nat) => .int (k : Int)) (fun k => .int (homs (ringW k) (plainW 5 (fullT 5))))
    (fun k => [.val (.lst (ns.map .int)), d1, d2, .val (wD T.C (plainW 5 (fullT 5))), .val (wD T.C (ringW 5)), .non, .val (.int (k : Int))]) (it_tup (ev_tup (ea_cons ev_int (ea3 ev_int ev_int ev_int)) (by show 4 ≤ _; omega))) (fun k _ => ge_name (by simp)) (fun k hk => ?_) (by decide)).e) ?_
  · obtain ⟨h3, h6⟩ := in4 k hk
    have ok := MF.ringOk k h3 h6
    have nk : (ringW k).n = k := plain_n _ _
    exact ev_homs T (p := ringW k) (v := plainW 5 (fullT 5)) (ev_call (ea2 (ev_var rfl) (ev_call (ea1 (ev_var rfl)) ⟨k, rfl, by omega, h6, rfl⟩)) ⟨k, ringT k, rfl, by omega, h6, ok, rfl⟩) (ev_var rfl) ok okF (by rw [nk]; exact h6) (by rw [nk, nF]; exact pw5 k h6)
  refine re_ret (ev_and (a := true) (b := true) (ev_op (ev_var rfl) (ev_lst (ea_cons ev_int (ea3 ev_int ev_int ev_int)) (by show 4 ≤ _; omega)) (rv_eqD rfl rfl rfl rfl (py_ints4 _ _ _ _ _ _ _ _ MF.five1.1 MF.five1.2.1 MF.five1.2.2.1 MF.five1.2.2.2))) fun _ =>
    ev_op (x := .lst [.int (homs (ringW 3) (wOpp (ringW 5))), .int (homs (ringW 4) (wOpp (ringW 5))), .int (homs (ringW 5) (wOpp (ringW 5))), .int (homs (ringW 6) (wOpp (ringW 5)))]) (ef_lcm [3, 4, 5, 6] (fun (k : Nat) => .int (k : Int)) (fun k => .int (homs (ringW k) (wOpp (ringW 5))))
    (fun k => [.val (.lst (ns.map .int)), d1, d2, .val (wD T.C (plainW 5 (fullT 5))), .val (wD T.C (ringW 5)), .val (.lst [.int (homs (ringW 3) (plainW 5 (fullT 5))), .int (homs (ringW 4) (plainW 5 (fullT 5))), .int (homs (ringW 5) (plainW 5 (fullT 5))), .int (homs (ringW 6) (plainW 5 (fullT 5)))]), .val (.int (k : Int))]) (it_tup (ev_tup (ea_cons ev_int (ea3 ev_int ev_int ev_int)) (by show 4 ≤ _; omega))) (fun k _ => ge_name (by simp)) (fun k hk => ?_) (by decide)).e
    (ev_lst (ea_cons ev_int (ea3 ev_int ev_int ev_int)) (by show 4 ≤ _; omega)) (rv_eqD rfl rfl rfl rfl (py_ints4 _ _ _ _ _ _ _ _ MF.five2.1 MF.five2.2.1 MF.five2.2.2.1 MF.five2.2.2.2)))
  obtain ⟨h3, h6⟩ := in4 k hk
  have ok := MF.ringOk k h3 h6
  have nk : (ringW k).n = k := plain_n _ _
  exact ev_homs T (p := ringW k) (v := wOpp (ringW 5)) (ev_call (ea2 (ev_var rfl) (ev_call (ea1 (ev_var rfl)) ⟨k, rfl, by omega, h6, rfl⟩)) ⟨k, ringT k, rfl, by omega, h6, ok, rfl⟩) (ev_call (ea1 (ev_var rfl)) ⟨_, okR, okO, rfl, rfl⟩) ok okO (by rw [nk]; exact h6) (by rw [nk, nO]; exact pw5 k h6)
end
end FB
set_option Elab.async false
set_option autoImplicit false
set_option linter.all false
set_option maxRecDepth 100000
/-! Printed by gen4.py: what stands behind the top. -/
namespace FB
open PySem PySem.Spec PyProof.Rows L2 SlX FA
set_option maxHeartbeats 0 in
theorem all_mk {l : PySem.W.OpenLaw} {w : World} {K : PySem.W.Frag} {h : Heap} {mg : Str → Option Value} (MF : Facts) {fa C f_is_whole f_is_within f_are_colours f_is_tie f_are_ties f_Web_init f_Web_colours p_Web_colours f_Web_ties p_Web_ties f_Web_degrees p_Web_degrees f_Web_len f_is_tied_in f_web_of f_beside_in f_opposite_in f_require_web f_require_two f_need_few_points f_beside f_opposite f_fitting f_number_in f_map_number_in f_times_in f_need_few_tries f_require_tried f_map_number f_times f__law_dice f__law_roll f__law_ties f__law_ring f__law_full f__law_drawn f__law_plain f__law_rows f__law_times f__law_powers f__law_trace f__law_road f__law_right f_law d0 d1 d2 : Addr} (X : K.In h) (G : h.Ns mainGlobals mg) (hfa : mg "law" = some (.ref fa))
    {od_is_whole an_is_whole od_is_within an_is_within od_are_colours an_are_colours od_is_tie an_is_tie od_are_ties an_are_ties od_Web_init an_Web_init od_Web_colours an_Web_colours od_Web_ties an_Web_ties od_Web_degrees an_Web_degrees od_Web_len an_Web_len od_is_tied_in an_is_tied_in od_web_of an_web_of od_beside_in an_beside_in od_opposite_in an_opposite_in od_require_web an_require_web od_require_two an_require_two od_need_few_points an_need_few_points od_beside an_beside od_opposite an_opposite od_fitting an_fitting od_number_in an_number_in od_map_number_in an_map_number_in od_times_in an_times_in od_need_few_tries an_need_few_tries od_require_tried an_require_tried od_map_number an_map_number od_times an_times od__law_dice an__law_dice od__law_roll an__law_roll od__law_ties an__law_ties od__law_ring an__law_ring od__law_full an__law_full od__law_drawn an__law_drawn od__law_plain an__law_plain od__law_rows an__law_rows od__law_times an__law_times od__law_powers an__law_powers od__law_trace an__law_trace od__law_road an__law_road od__law_right an__law_right od_law an_law : Option Addr} {sl_is_whole sl_is_within sl_are_colours sl_is_tie sl_are_ties sl_Web_init sl_Web_colours sl_Web_ties sl_Web_degrees sl_Web_len sl_is_tied_in sl_web_of sl_beside_in sl_opposite_in sl_require_web sl_require_two sl_need_few_points sl_beside sl_opposite sl_fitting sl_number_in sl_map_number_in sl_times_in sl_need_few_tries sl_require_tried sl_map_number sl_times sl__law_dice sl__law_roll sl__law_ties sl__law_ring sl__law_full sl__law_drawn sl__law_plain sl__law_rows sl__law_times sl__law_powers sl__law_trace sl__law_road sl__law_right sl_law : Array (Option Value)} {oc_is_whole kV_is_whole dc_is_whole pm_is_whole cd_is_whole ct_is_whole oc_is_within kV_is_within dc_is_within pm_is_within cd_is_within ct_is_within oc_are_colours kV_are_colours dc_are_colours pm_are_colours cd_are_colours ct_are_colours oc_is_tie kV_is_tie dc_is_tie pm_is_tie cd_is_tie ct_is_tie oc_are_ties kV_are_ties dc_are_ties pm_are_ties cd_are_ties ct_are_ties oc_Web_init kV_Web_init dc_Web_init pm_Web_init cd_Web_init ct_Web_init oc_Web_colours kV_Web_colours dc_Web_colours pm_Web_colours cd_Web_colours ct_Web_colours oc_Web_ties kV_Web_ties dc_Web_ties pm_Web_ties cd_Web_ties ct_Web_ties oc_Web_degrees kV_Web_degrees dc_Web_degrees pm_Web_degrees cd_Web_degrees ct_Web_degrees oc_Web_len kV_Web_len dc_Web_len pm_Web_len cd_Web_len ct_Web_len oc_is_tied_in kV_is_tied_in dc_is_tied_in pm_is_tied_in cd_is_tied_in ct_is_tied_in oc_web_of kV_web_of dc_web_of pm_web_of cd_web_of ct_web_of oc_beside_in kV_beside_in dc_beside_in pm_beside_in cd_beside_in ct_beside_in oc_opposite_in kV_opposite_in dc_opposite_in pm_opposite_in cd_opposite_in ct_opposite_in oc_require_web kV_require_web dc_require_web pm_require_web cd_require_web ct_require_web oc_require_two kV_require_two dc_require_two pm_require_two cd_require_two ct_require_two oc_need_few_points kV_need_few_points dc_need_few_points pm_need_few_points cd_need_few_points ct_need_few_points oc_beside kV_beside dc_beside pm_beside cd_beside ct_beside oc_opposite kV_opposite dc_opposite pm_opposite cd_opposite ct_opposite oc_fitting kV_fitting dc_fitting pm_fitting cd_fitting ct_fitting oc_number_in kV_number_in dc_number_in pm_number_in cd_number_in ct_number_in oc_map_number_in kV_map_number_in dc_map_number_in pm_map_number_in cd_map_number_in ct_map_number_in oc_times_in kV_times_in dc_times_in pm_times_in cd_times_in ct_times_in oc_need_few_tries kV_need_few_tries dc_need_few_tries pm_need_few_tries cd_need_few_tries ct_need_few_tries oc_require_tried kV_require_tried dc_require_tried pm_require_tried cd_require_tried ct_require_tried oc_map_number kV_map_number dc_map_number pm_map_number cd_map_number ct_map_number oc_times kV_times dc_times pm_times cd_times ct_times oc__law_dice kV__law_dice dc__law_dice pm__law_dice cd__law_dice ct__law_dice oc__law_roll kV__law_roll dc__law_roll pm__law_roll cd__law_roll ct__law_roll oc__law_ties kV__law_ties dc__law_ties pm__law_ties cd__law_ties ct__law_ties oc__law_ring kV__law_ring dc__law_ring pm__law_ring cd__law_ring ct__law_ring oc__law_full kV__law_full dc__law_full pm__law_full cd__law_full ct__law_full oc__law_drawn kV__law_drawn dc__law_drawn pm__law_drawn cd__law_drawn ct__law_drawn oc__law_plain kV__law_plain dc__law_plain pm__law_plain cd__law_plain ct__law_plain oc__law_rows kV__law_rows dc__law_rows pm__law_rows cd__law_rows ct__law_rows oc__law_times kV__law_times dc__law_times pm__law_times cd__law_times ct__law_times oc__law_powers kV__law_powers dc__law_powers pm__law_powers cd__law_powers ct__law_powers oc__law_trace kV__law_trace dc__law_trace pm__law_trace cd__law_trace ct__law_trace oc__law_road kV__law_road dc__law_road pm__law_road cd__law_road ct__law_road oc__law_right kV__law_right dc__law_right pm__law_right cd__law_right ct__law_right oc_law kV_law dc_law pm_law cd_law ct_law : Value} {rs_Web_colours rs_Web_ties rs_Web_degrees : List Value} {t_MOST_POINTS t_LEAST_COLOUR t_MOST_COLOUR t_PAIR t_MOST_TRIES t_ANY : Tok}
    (aC : PySem.W.nsIn K mainGlobals "Web" = some (some (.ref C)))
    (a_is_whole : PySem.W.nsIn K mainGlobals "is_whole" = some (some (.ref f_is_whole)))
    (l_is_whole : K.lookup f_is_whole = some ⟨oc_is_whole, od_is_whole, .func (PySem.W.fnOf "is_whole" "is_whole" (defArgs s_is_whole) (defBody s_is_whole) (defScope s_is_whole) .none kV_is_whole dc_is_whole pm_is_whole an_is_whole cd_is_whole ct_is_whole), sl_is_whole⟩)
    (c_is_whole : PySem.W.codeIn K cd_is_whole "is_whole" = true)
    (k_is_whole : PySem.W.keepIn K (.ref f_is_whole) = true)
    (a_is_within : PySem.W.nsIn K mainGlobals "is_within" = some (some (.ref f_is_within)))
    (l_is_within : K.lookup f_is_within = some ⟨oc_is_within, od_is_within, .func (PySem.W.fnOf "is_within" "is_within" (defArgs s_is_within) (defBody s_is_within) (defScope s_is_within) .none kV_is_within dc_is_within pm_is_within an_is_within cd_is_within ct_is_within), sl_is_within⟩)
    (c_is_within : PySem.W.codeIn K cd_is_within "is_within" = true)
    (k_is_within : PySem.W.keepIn K (.ref f_is_within) = true)
    (a_are_colours : PySem.W.nsIn K mainGlobals "are_colours" = some (some (.ref f_are_colours)))
    (l_are_colours : K.lookup f_are_colours = some ⟨oc_are_colours, od_are_colours, .func (PySem.W.fnOf "are_colours" "are_colours" (defArgs s_are_colours) (defBody s_are_colours) (defScope s_are_colours) .none kV_are_colours dc_are_colours pm_are_colours an_are_colours cd_are_colours ct_are_colours), sl_are_colours⟩)
    (c_are_colours : PySem.W.codeIn K cd_are_colours "are_colours" = true)
    (k_are_colours : PySem.W.keepIn K (.ref f_are_colours) = true)
    (a_is_tie : PySem.W.nsIn K mainGlobals "is_tie" = some (some (.ref f_is_tie)))
    (l_is_tie : K.lookup f_is_tie = some ⟨oc_is_tie, od_is_tie, .func (PySem.W.fnOf "is_tie" "is_tie" (defArgs s_is_tie) (defBody s_is_tie) (defScope s_is_tie) .none kV_is_tie dc_is_tie pm_is_tie an_is_tie cd_is_tie ct_is_tie), sl_is_tie⟩)
    (c_is_tie : PySem.W.codeIn K cd_is_tie "is_tie" = true)
    (k_is_tie : PySem.W.keepIn K (.ref f_is_tie) = true)
    (a_are_ties : PySem.W.nsIn K mainGlobals "are_ties" = some (some (.ref f_are_ties)))
    (l_are_ties : K.lookup f_are_ties = some ⟨oc_are_ties, od_are_ties, .func (PySem.W.fnOf "are_ties" "are_ties" (defArgs s_are_ties) (defBody s_are_ties) (defScope s_are_ties) .none kV_are_ties dc_are_ties pm_are_ties an_are_ties cd_are_ties ct_are_ties), sl_are_ties⟩)
    (c_are_ties : PySem.W.codeIn K cd_are_ties "are_ties" = true)
    (k_are_ties : PySem.W.keepIn K (.ref f_are_ties) = true)
    (a_Web_init : PySem.W.findIn K (.ref C) "__init__" = some (some (.ref f_Web_init)))
    (l_Web_init : K.lookup f_Web_init = some ⟨oc_Web_init, od_Web_init, .func (PySem.W.fnOf "__init__" "Web.__init__" (defArgs s_Web_init) (defBody s_Web_init) (defScope s_Web_init) .none kV_Web_init dc_Web_init pm_Web_init an_Web_init cd_Web_init ct_Web_init), sl_Web_init⟩)
    (c_Web_init : PySem.W.codeIn K cd_Web_init "Web.__init__" = true)
    (k_Web_init : PySem.W.keepIn K (.ref f_Web_init) = true)
    (at_Web_colours : PySem.W.findIn K (.ref C) "colours" = some (some (.ref p_Web_colours)))
    (ge_Web_colours : PySem.W.specialIn K (.ref p_Web_colours) "__get__" = some (some (.builtin "property.__get__")))
    (tk_Web_colours : PySem.W.takesIn K (.ref p_Web_colours) = some true)
    (rc_Web_colours : PySem.W.recIn K p_Web_colours "property" = some (.ref f_Web_colours :: rs_Web_colours))
    (l_Web_colours : K.lookup f_Web_colours = some ⟨oc_Web_colours, od_Web_colours, .func (PySem.W.fnOf "colours" "Web.colours" (defArgs s_Web_colours) (defBody s_Web_colours) (defScope s_Web_colours) .none kV_Web_colours dc_Web_colours pm_Web_colours an_Web_colours cd_Web_colours ct_Web_colours), sl_Web_colours⟩)
    (c_Web_colours : PySem.W.codeIn K cd_Web_colours "Web.colours" = true)
    (k_Web_colours : PySem.W.keepIn K (.ref f_Web_colours) = true)
    (at_Web_ties : PySem.W.findIn K (.ref C) "ties" = some (some (.ref p_Web_ties)))
    (ge_Web_ties : PySem.W.specialIn K (.ref p_Web_ties) "__get__" = some (some (.builtin "property.__get__")))
    (tk_Web_ties : PySem.W.takesIn K (.ref p_Web_ties) = some true)
    (rc_Web_ties : PySem.W.recIn K p_Web_ties "property" = some (.ref f_Web_ties :: rs_Web_ties))
    (l_Web_ties : K.lookup f_Web_ties = some ⟨oc_Web_ties, od_Web_ties, .func (PySem.W.fnOf "ties" "Web.ties" (defArgs s_Web_ties) (defBody s_Web_ties) (defScope s_Web_ties) .none kV_Web_ties dc_Web_ties pm_Web_ties an_Web_ties cd_Web_ties ct_Web_ties), sl_Web_ties⟩)
    (c_Web_ties : PySem.W.codeIn K cd_Web_ties "Web.ties" = true)
    (k_Web_ties : PySem.W.keepIn K (.ref f_Web_ties) = true)
    (at_Web_degrees : PySem.W.findIn K (.ref C) "degrees" = some (some (.ref p_Web_degrees)))
    (ge_Web_degrees : PySem.W.specialIn K (.ref p_Web_degrees) "__get__" = some (some (.builtin "property.__get__")))
    (tk_Web_degrees : PySem.W.takesIn K (.ref p_Web_degrees) = some true)
    (rc_Web_degrees : PySem.W.recIn K p_Web_degrees "property" = some (.ref f_Web_degrees :: rs_Web_degrees))
    (l_Web_degrees : K.lookup f_Web_degrees = some ⟨oc_Web_degrees, od_Web_degrees, .func (PySem.W.fnOf "degrees" "Web.degrees" (defArgs s_Web_degrees) (defBody s_Web_degrees) (defScope s_Web_degrees) .none kV_Web_degrees dc_Web_degrees pm_Web_degrees an_Web_degrees cd_Web_degrees ct_Web_degrees), sl_Web_degrees⟩)
    (c_Web_degrees : PySem.W.codeIn K cd_Web_degrees "Web.degrees" = true)
    (k_Web_degrees : PySem.W.keepIn K (.ref f_Web_degrees) = true)
    (a_Web_len : PySem.W.findIn K (.ref C) "__len__" = some (some (.ref f_Web_len)))
    (l_Web_len : K.lookup f_Web_len = some ⟨oc_Web_len, od_Web_len, .func (PySem.W.fnOf "__len__" "Web.__len__" (defArgs s_Web_len) (defBody s_Web_len) (defScope s_Web_len) .none kV_Web_len dc_Web_len pm_Web_len an_Web_len cd_Web_len ct_Web_len), sl_Web_len⟩)
    (c_Web_len : PySem.W.codeIn K cd_Web_len "Web.__len__" = true)
    (k_Web_len : PySem.W.keepIn K (.ref f_Web_len) = true)
    (a_is_tied_in : PySem.W.nsIn K mainGlobals "is_tied_in" = some (some (.ref f_is_tied_in)))
    (l_is_tied_in : K.lookup f_is_tied_in = some ⟨oc_is_tied_in, od_is_tied_in, .func (PySem.W.fnOf "is_tied_in" "is_tied_in" (defArgs s_is_tied_in) (defBody s_is_tied_in) (defScope s_is_tied_in) .none kV_is_tied_in dc_is_tied_in pm_is_tied_in an_is_tied_in cd_is_tied_in ct_is_tied_in), sl_is_tied_in⟩)
    (c_is_tied_in : PySem.W.codeIn K cd_is_tied_in "is_tied_in" = true)
    (k_is_tied_in : PySem.W.keepIn K (.ref f_is_tied_in) = true)
    (a_web_of : PySem.W.nsIn K mainGlobals "web_of" = some (some (.ref f_web_of)))
    (l_web_of : K.lookup f_web_of = some ⟨oc_web_of, od_web_of, .func (PySem.W.fnOf "web_of" "web_of" (defArgs s_web_of) (defBody s_web_of) (defScope s_web_of) .none kV_web_of dc_web_of pm_web_of an_web_of cd_web_of ct_web_of), sl_web_of⟩)
    (c_web_of : PySem.W.codeIn K cd_web_of "web_of" = true)
    (k_web_of : PySem.W.keepIn K (.ref f_web_of) = true)
    (a_beside_in : PySem.W.nsIn K mainGlobals "beside_in" = some (some (.ref f_beside_in)))
    (l_beside_in : K.lookup f_beside_in = some ⟨oc_beside_in, od_beside_in, .func (PySem.W.fnOf "beside_in" "beside_in" (defArgs s_beside_in) (defBody s_beside_in) (defScope s_beside_in) .none kV_beside_in dc_beside_in pm_beside_in an_beside_in cd_beside_in ct_beside_in), sl_beside_in⟩)
    (c_beside_in : PySem.W.codeIn K cd_beside_in "beside_in" = true)
    (k_beside_in : PySem.W.keepIn K (.ref f_beside_in) = true)
    (a_opposite_in : PySem.W.nsIn K mainGlobals "opposite_in" = some (some (.ref f_opposite_in)))
    (l_opposite_in : K.lookup f_opposite_in = some ⟨oc_opposite_in, od_opposite_in, .func (PySem.W.fnOf "opposite_in" "opposite_in" (defArgs s_opposite_in) (defBody s_opposite_in) (defScope s_opposite_in) .none kV_opposite_in dc_opposite_in pm_opposite_in an_opposite_in cd_opposite_in ct_opposite_in), sl_opposite_in⟩)
    (c_opposite_in : PySem.W.codeIn K cd_opposite_in "opposite_in" = true)
    (k_opposite_in : PySem.W.keepIn K (.ref f_opposite_in) = true)
    (a_require_web : PySem.W.nsIn K mainGlobals "require_web" = some (some (.ref f_require_web)))
    (l_require_web : K.lookup f_require_web = some ⟨oc_require_web, od_require_web, .func (PySem.W.fnOf "require_web" "require_web" (defArgs s_require_web) (defBody s_require_web) (defScope s_require_web) .none kV_require_web dc_require_web pm_require_web an_require_web cd_require_web ct_require_web), sl_require_web⟩)
    (c_require_web : PySem.W.codeIn K cd_require_web "require_web" = true)
    (k_require_web : PySem.W.keepIn K (.ref f_require_web) = true)
    (a_require_two : PySem.W.nsIn K mainGlobals "require_two" = some (some (.ref f_require_two)))
    (l_require_two : K.lookup f_require_two = some ⟨oc_require_two, od_require_two, .func (PySem.W.fnOf "require_two" "require_two" (defArgs s_require_two) (defBody s_require_two) (defScope s_require_two) .none kV_require_two dc_require_two pm_require_two an_require_two cd_require_two ct_require_two), sl_require_two⟩)
    (c_require_two : PySem.W.codeIn K cd_require_two "require_two" = true)
    (k_require_two : PySem.W.keepIn K (.ref f_require_two) = true)
    (a_need_few_points : PySem.W.nsIn K mainGlobals "need_few_points" = some (some (.ref f_need_few_points)))
    (l_need_few_points : K.lookup f_need_few_points = some ⟨oc_need_few_points, od_need_few_points, .func (PySem.W.fnOf "need_few_points" "need_few_points" (defArgs s_need_few_points) (defBody s_need_few_points) (defScope s_need_few_points) .none kV_need_few_points dc_need_few_points pm_need_few_points an_need_few_points cd_need_few_points ct_need_few_points), sl_need_few_points⟩)
    (c_need_few_points : PySem.W.codeIn K cd_need_few_points "need_few_points" = true)
    (k_need_few_points : PySem.W.keepIn K (.ref f_need_few_points) = true)
    (a_beside : PySem.W.nsIn K mainGlobals "beside" = some (some (.ref f_beside)))
    (l_beside : K.lookup f_beside = some ⟨oc_beside, od_beside, .func (PySem.W.fnOf "beside" "beside" (defArgs s_beside) (defBody s_beside) (defScope s_beside) .none kV_beside dc_beside pm_beside an_beside cd_beside ct_beside), sl_beside⟩)
    (c_beside : PySem.W.codeIn K cd_beside "beside" = true)
    (k_beside : PySem.W.keepIn K (.ref f_beside) = true)
    (a_opposite : PySem.W.nsIn K mainGlobals "opposite" = some (some (.ref f_opposite)))
    (l_opposite : K.lookup f_opposite = some ⟨oc_opposite, od_opposite, .func (PySem.W.fnOf "opposite" "opposite" (defArgs s_opposite) (defBody s_opposite) (defScope s_opposite) .none kV_opposite dc_opposite pm_opposite an_opposite cd_opposite ct_opposite), sl_opposite⟩)
    (c_opposite : PySem.W.codeIn K cd_opposite "opposite" = true)
    (k_opposite : PySem.W.keepIn K (.ref f_opposite) = true)
    (a_fitting : PySem.W.nsIn K mainGlobals "fitting" = some (some (.ref f_fitting)))
    (l_fitting : K.lookup f_fitting = some ⟨oc_fitting, od_fitting, .func (PySem.W.fnOf "fitting" "fitting" (defArgs s_fitting) (defBody s_fitting) (defScope s_fitting) .none kV_fitting dc_fitting pm_fitting an_fitting cd_fitting ct_fitting), sl_fitting⟩)
    (c_fitting : PySem.W.codeIn K cd_fitting "fitting" = true)
    (k_fitting : PySem.W.keepIn K (.ref f_fitting) = true)
    (a_number_in : PySem.W.nsIn K mainGlobals "number_in" = some (some (.ref f_number_in)))
    (l_number_in : K.lookup f_number_in = some ⟨oc_number_in, od_number_in, .func (PySem.W.fnOf "number_in" "number_in" (defArgs s_number_in) (defBody s_number_in) (defScope s_number_in) .none kV_number_in dc_number_in pm_number_in an_number_in cd_number_in ct_number_in), sl_number_in⟩)
    (c_number_in : PySem.W.codeIn K cd_number_in "number_in" = true)
    (k_number_in : PySem.W.keepIn K (.ref f_number_in) = true)
    (a_map_number_in : PySem.W.nsIn K mainGlobals "map_number_in" = some (some (.ref f_map_number_in)))
    (l_map_number_in : K.lookup f_map_number_in = some ⟨oc_map_number_in, od_map_number_in, .func (PySem.W.fnOf "map_number_in" "map_number_in" (defArgs s_map_number_in) (defBody s_map_number_in) (defScope s_map_number_in) .none kV_map_number_in dc_map_number_in pm_map_number_in an_map_number_in cd_map_number_in ct_map_number_in), sl_map_number_in⟩)
    (c_map_number_in : PySem.W.codeIn K cd_map_number_in "map_number_in" = true)
    (k_map_number_in : PySem.W.keepIn K (.ref f_map_number_in) = true)
    (a_times_in : PySem.W.nsIn K mainGlobals "times_in" = some (some (.ref f_times_in)))
    (l_times_in : K.lookup f_times_in = some ⟨oc_times_in, od_times_in, .func (PySem.W.fnOf "times_in" "times_in" (defArgs s_times_in) (defBody s_times_in) (defScope s_times_in) .none kV_times_in dc_times_in pm_times_in an_times_in cd_times_in ct_times_in), sl_times_in⟩)
    (c_times_in : PySem.W.codeIn K cd_times_in "times_in" = true)
    (k_times_in : PySem.W.keepIn K (.ref f_times_in) = true)
    (a_need_few_tries : PySem.W.nsIn K mainGlobals "need_few_tries" = some (some (.ref f_need_few_tries)))
    (l_need_few_tries : K.lookup f_need_few_tries = some ⟨oc_need_few_tries, od_need_few_tries, .func (PySem.W.fnOf "need_few_tries" "need_few_tries" (defArgs s_need_few_tries) (defBody s_need_few_tries) (defScope s_need_few_tries) .none kV_need_few_tries dc_need_few_tries pm_need_few_tries an_need_few_tries cd_need_few_tries ct_need_few_tries), sl_need_few_tries⟩)
    (c_need_few_tries : PySem.W.codeIn K cd_need_few_tries "need_few_tries" = true)
    (k_need_few_tries : PySem.W.keepIn K (.ref f_need_few_tries) = true)
    (a_require_tried : PySem.W.nsIn K mainGlobals "require_tried" = some (some (.ref f_require_tried)))
    (l_require_tried : K.lookup f_require_tried = some ⟨oc_require_tried, od_require_tried, .func (PySem.W.fnOf "require_tried" "require_tried" (defArgs s_require_tried) (defBody s_require_tried) (defScope s_require_tried) .none kV_require_tried dc_require_tried pm_require_tried an_require_tried cd_require_tried ct_require_tried), sl_require_tried⟩)
    (c_require_tried : PySem.W.codeIn K cd_require_tried "require_tried" = true)
    (k_require_tried : PySem.W.keepIn K (.ref f_require_tried) = true)
    (a_map_number : PySem.W.nsIn K mainGlobals "map_number" = some (some (.ref f_map_number)))
    (l_map_number : K.lookup f_map_number = some ⟨oc_map_number, od_map_number, .func (PySem.W.fnOf "map_number" "map_number" (defArgs s_map_number) (defBody s_map_number) (defScope s_map_number) .none kV_map_number dc_map_number pm_map_number an_map_number cd_map_number ct_map_number), sl_map_number⟩)
    (c_map_number : PySem.W.codeIn K cd_map_number "map_number" = true)
    (k_map_number : PySem.W.keepIn K (.ref f_map_number) = true)
    (a_times : PySem.W.nsIn K mainGlobals "times" = some (some (.ref f_times)))
    (l_times : K.lookup f_times = some ⟨oc_times, od_times, .func (PySem.W.fnOf "times" "times" (defArgs s_times) (defBody s_times) (defScope s_times) .none kV_times dc_times pm_times an_times cd_times ct_times), sl_times⟩)
    (c_times : PySem.W.codeIn K cd_times "times" = true)
    (k_times : PySem.W.keepIn K (.ref f_times) = true)
    (a__law_dice : PySem.W.nsIn K mainGlobals "_law_dice" = some (some (.ref f__law_dice)))
    (l__law_dice : K.lookup f__law_dice = some ⟨oc__law_dice, od__law_dice, .func (PySem.W.fnOf "_law_dice" "_law_dice" (defArgs s__law_dice) (defBody s__law_dice) (defScope s__law_dice) .none kV__law_dice dc__law_dice pm__law_dice an__law_dice cd__law_dice ct__law_dice), sl__law_dice⟩)
    (c__law_dice : PySem.W.codeIn K cd__law_dice "_law_dice" = true)
    (k__law_dice : PySem.W.keepIn K (.ref f__law_dice) = true)
    (a__law_roll : PySem.W.nsIn K mainGlobals "_law_roll" = some (some (.ref f__law_roll)))
    (l__law_roll : K.lookup f__law_roll = some ⟨oc__law_roll, od__law_roll, .func (PySem.W.fnOf "_law_roll" "_law_roll" (defArgs s__law_roll) (defBody s__law_roll) (defScope s__law_roll) .none kV__law_roll dc__law_roll pm__law_roll an__law_roll cd__law_roll ct__law_roll), sl__law_roll⟩)
    (c__law_roll : PySem.W.codeIn K cd__law_roll "_law_roll" = true)
    (k__law_roll : PySem.W.keepIn K (.ref f__law_roll) = true)
    (a__law_ties : PySem.W.nsIn K mainGlobals "_law_ties" = some (some (.ref f__law_ties)))
    (l__law_ties : K.lookup f__law_ties = some ⟨oc__law_ties, od__law_ties, .func (PySem.W.fnOf "_law_ties" "_law_ties" (defArgs s__law_ties) (defBody s__law_ties) (defScope s__law_ties) .none kV__law_ties dc__law_ties pm__law_ties an__law_ties cd__law_ties ct__law_ties), sl__law_ties⟩)
    (c__law_ties : PySem.W.codeIn K cd__law_ties "_law_ties" = true)
    (k__law_ties : PySem.W.keepIn K (.ref f__law_ties) = true)
    (a__law_ring : PySem.W.nsIn K mainGlobals "_law_ring" = some (some (.ref f__law_ring)))
    (l__law_ring : K.lookup f__law_ring = some ⟨oc__law_ring, od__law_ring, .func (PySem.W.fnOf "_law_ring" "_law_ring" (defArgs s__law_ring) (defBody s__law_ring) (defScope s__law_ring) .none kV__law_ring dc__law_ring pm__law_ring an__law_ring cd__law_ring ct__law_ring), sl__law_ring⟩)
    (c__law_ring : PySem.W.codeIn K cd__law_ring "_law_ring" = true)
    (k__law_ring : PySem.W.keepIn K (.ref f__law_ring) = true)
    (a__law_full : PySem.W.nsIn K mainGlobals "_law_full" = some (some (.ref f__law_full)))
    (l__law_full : K.lookup f__law_full = some ⟨oc__law_full, od__law_full, .func (PySem.W.fnOf "_law_full" "_law_full" (defArgs s__law_full) (defBody s__law_full) (defScope s__law_full) .none kV__law_full dc__law_full pm__law_full an__law_full cd__law_full ct__law_full), sl__law_full⟩)
    (c__law_full : PySem.W.codeIn K cd__law_full "_law_full" = true)
    (k__law_full : PySem.W.keepIn K (.ref f__law_full) = true)
    (a__law_drawn : PySem.W.nsIn K mainGlobals "_law_drawn" = some (some (.ref f__law_drawn)))
    (l__law_drawn : K.lookup f__law_drawn = some ⟨oc__law_drawn, od__law_drawn, .func (PySem.W.fnOf "_law_drawn" "_law_drawn" (defArgs s__law_drawn) (defBody s__law_drawn) (defScope s__law_drawn) .none kV__law_drawn dc__law_drawn pm__law_drawn an__law_drawn cd__law_drawn ct__law_drawn), sl__law_drawn⟩)
    (c__law_drawn : PySem.W.codeIn K cd__law_drawn "_law_drawn" = true)
    (k__law_drawn : PySem.W.keepIn K (.ref f__law_drawn) = true)
    (a__law_plain : PySem.W.nsIn K mainGlobals "_law_plain" = some (some (.ref f__law_plain)))
    (l__law_plain : K.lookup f__law_plain = some ⟨oc__law_plain, od__law_plain, .func (PySem.W.fnOf "_law_plain" "_law_plain" (defArgs s__law_plain) (defBody s__law_plain) (defScope s__law_plain) .none kV__law_plain dc__law_plain pm__law_plain an__law_plain cd__law_plain ct__law_plain), sl__law_plain⟩)
    (c__law_plain : PySem.W.codeIn K cd__law_plain "_law_plain" = true)
    (k__law_plain : PySem.W.keepIn K (.ref f__law_plain) = true)
    (a__law_rows : PySem.W.nsIn K mainGlobals "_law_rows" = some (some (.ref f__law_rows)))
    (l__law_rows : K.lookup f__law_rows = some ⟨oc__law_rows, od__law_rows, .func (PySem.W.fnOf "_law_rows" "_law_rows" (defArgs s__law_rows) (defBody s__law_rows) (defScope s__law_rows) .none kV__law_rows dc__law_rows pm__law_rows an__law_rows cd__law_rows ct__law_rows), sl__law_rows⟩)
    (c__law_rows : PySem.W.codeIn K cd__law_rows "_law_rows" = true)
    (k__law_rows : PySem.W.keepIn K (.ref f__law_rows) = true)
    (a__law_times : PySem.W.nsIn K mainGlobals "_law_times" = some (some (.ref f__law_times)))
    (l__law_times : K.lookup f__law_times = some ⟨oc__law_times, od__law_times, .func (PySem.W.fnOf "_law_times" "_law_times" (defArgs s__law_times) (defBody s__law_times) (defScope s__law_times) .none kV__law_times dc__law_times pm__law_times an__law_times cd__law_times ct__law_times), sl__law_times⟩)
    (c__law_times : PySem.W.codeIn K cd__law_times "_law_times" = true)
    (k__law_times : PySem.W.keepIn K (.ref f__law_times) = true)
    (a__law_powers : PySem.W.nsIn K mainGlobals "_law_powers" = some (some (.ref f__law_powers)))
    (l__law_powers : K.lookup f__law_powers = some ⟨oc__law_powers, od__law_powers, .func (PySem.W.fnOf "_law_powers" "_law_powers" (defArgs s__law_powers) (defBody s__law_powers) (defScope s__law_powers) .none kV__law_powers dc__law_powers pm__law_powers an__law_powers cd__law_powers ct__law_powers), sl__law_powers⟩)
    (c__law_powers : PySem.W.codeIn K cd__law_powers "_law_powers" = true)
    (k__law_powers : PySem.W.keepIn K (.ref f__law_powers) = true)
    (a__law_trace : PySem.W.nsIn K mainGlobals "_law_trace" = some (some (.ref f__law_trace)))
    (l__law_trace : K.lookup f__law_trace = some ⟨oc__law_trace, od__law_trace, .func (PySem.W.fnOf "_law_trace" "_law_trace" (defArgs s__law_trace) (defBody s__law_trace) (defScope s__law_trace) .none kV__law_trace dc__law_trace pm__law_trace an__law_trace cd__law_trace ct__law_trace), sl__law_trace⟩)
    (c__law_trace : PySem.W.codeIn K cd__law_trace "_law_trace" = true)
    (k__law_trace : PySem.W.keepIn K (.ref f__law_trace) = true)
    (a__law_road : PySem.W.nsIn K mainGlobals "_law_road" = some (some (.ref f__law_road)))
    (l__law_road : K.lookup f__law_road = some ⟨oc__law_road, od__law_road, .func (PySem.W.fnOf "_law_road" "_law_road" (defArgs s__law_road) (defBody s__law_road) (defScope s__law_road) .none kV__law_road dc__law_road pm__law_road an__law_road cd__law_road ct__law_road), sl__law_road⟩)
    (c__law_road : PySem.W.codeIn K cd__law_road "_law_road" = true)
    (k__law_road : PySem.W.keepIn K (.ref f__law_road) = true)
    (a__law_right : PySem.W.nsIn K mainGlobals "_law_right" = some (some (.ref f__law_right)))
    (l__law_right : K.lookup f__law_right = some ⟨oc__law_right, od__law_right, .func (PySem.W.fnOf "_law_right" "_law_right" (defArgs s__law_right) (defBody s__law_right) (defScope s__law_right) .none kV__law_right dc__law_right pm__law_right an__law_right cd__law_right ct__law_right), sl__law_right⟩)
    (c__law_right : PySem.W.codeIn K cd__law_right "_law_right" = true)
    (k__law_right : PySem.W.keepIn K (.ref f__law_right) = true)
    (a_law : PySem.W.nsIn K mainGlobals "law" = some (some (.ref f_law)))
    (l_law : K.lookup f_law = some ⟨oc_law, od_law, .func (PySem.W.fnOf "law" "law" (defArgs s_law) (defBody s_law) (defScope s_law) .none kV_law dc_law pm_law an_law cd_law ct_law), sl_law⟩)
    (c_law : PySem.W.codeIn K cd_law "law" = true)
    (k_law : PySem.W.keepIn K (.ref f_law) = true)
    (z_abs : PySem.W.nsIn K mainGlobals "abs" = some none)
    (z_all : PySem.W.nsIn K mainGlobals "all" = some none)
    (z_any : PySem.W.nsIn K mainGlobals "any" = some none)
    (z_bool : PySem.W.nsIn K mainGlobals "bool" = some none)
    (z_enumerate : PySem.W.nsIn K mainGlobals "enumerate" = some none)
    (z_int : PySem.W.nsIn K mainGlobals "int" = some none)
    (z_isinstance : PySem.W.nsIn K mainGlobals "isinstance" = some none)
    (z_len : PySem.W.nsIn K mainGlobals "len" = some none)
    (z_list : PySem.W.nsIn K mainGlobals "list" = some none)
    (z_max : PySem.W.nsIn K mainGlobals "max" = some none)
    (z_min : PySem.W.nsIn K mainGlobals "min" = some none)
    (z_range : PySem.W.nsIn K mainGlobals "range" = some none)
    (z_set : PySem.W.nsIn K mainGlobals "set" = some none)
    (z_sorted : PySem.W.nsIn K mainGlobals "sorted" = some none)
    (z_sum : PySem.W.nsIn K mainGlobals "sum" = some none)
    (z_tuple : PySem.W.nsIn K mainGlobals "tuple" = some none)
    (z_zip : PySem.W.nsIn K mainGlobals "zip" = some none)
    (g_MOST_POINTS : PySem.W.nsIn K mainGlobals "MOST_POINTS" = some (some (.int (40) t_MOST_POINTS)))
    (g_LEAST_COLOUR : PySem.W.nsIn K mainGlobals "LEAST_COLOUR" = some (some (.int (-1) t_LEAST_COLOUR)))
    (g_MOST_COLOUR : PySem.W.nsIn K mainGlobals "MOST_COLOUR" = some (some (.int (9) t_MOST_COLOUR)))
    (g_PAIR : PySem.W.nsIn K mainGlobals "PAIR" = some (some (.int (2) t_PAIR)))
    (g_MOST_TRIES : PySem.W.nsIn K mainGlobals "MOST_TRIES" = some (some (.int (100000) t_MOST_TRIES)))
    (g_ANY : PySem.W.nsIn K mainGlobals "ANY" = some (some (.int (-1) t_ANY)))
    (pg : PySem.W.plainGet K C Str.empty = true)
    (ic : PySem.W.isClsIn K C = true)
    (po : PySem.W.plainOver K C = true)
    (sa : PySem.W.findIn K (.ref C) "__setattr__" = some (some (.builtin "object.__setattr__")))
    (ca : PySem.W.findIn K (.ref C) "__class__" = some (some (.builtin "object.__class__")))
    (cn : PySem.W.specialIn K (.builtin "object.__class__") "__get__" = some (some (.builtin "getset_descriptor.__get__")))
    (ct : PySem.W.takesIn K (.builtin "object.__class__") = some true)
    (cm : PySem.W.mroIn K C (.type "object") = some true)
    (sa0 : PySem.W.findIn K (.ref C) "own_colours" = some (some (.ref d0)))
    (sg0 : PySem.W.specialIn K (.ref d0) "__get__" = some (some (.builtin "member_descriptor.__get__")))
    (sk0 : PySem.W.takesIn K (.ref d0) = some true)
    (st0 : PySem.W.typeIn K (.ref d0) = some (.type "member_descriptor"))
    (sx0 : PySem.W.slotIn K d0 C = some 0)
    (sa1 : PySem.W.findIn K (.ref C) "own_near" = some (some (.ref d1)))
    (sg1 : PySem.W.specialIn K (.ref d1) "__get__" = some (some (.builtin "member_descriptor.__get__")))
    (sk1 : PySem.W.takesIn K (.ref d1) = some true)
    (st1 : PySem.W.typeIn K (.ref d1) = some (.type "member_descriptor"))
    (sx1 : PySem.W.slotIn K d1 C = some 1)
    (sa2 : PySem.W.findIn K (.ref C) "own_ties" = some (some (.ref d2)))
    (sg2 : PySem.W.specialIn K (.ref d2) "__get__" = some (some (.builtin "member_descriptor.__get__")))
    (sk2 : PySem.W.takesIn K (.ref d2) = some true)
    (st2 : PySem.W.typeIn K (.ref d2) = some (.type "member_descriptor"))
    (sx2 : PySem.W.slotIn K d2 C = some 2)
    (mk : PySem.W.makesIn K C = true)
    (fi : PySem.W.isFn K (.ref f_Web_init) = true)
    (kc : PySem.W.keepIn K (.ref C) = true)
    (lf : PySem.W.isFn K (.ref f_Web_len) = true)
    : ∃ fd : FuncData, (∀ (s : Shared) (v : Value), BindsTo s fd ⟨[v], []⟩ [("script", v)]) ∧ ∀ base : Heap, K.In base → base.Ns mainGlobals mg → FnOk l.prog w K mg base CX0 15 fa fd ["script"] (spD K R_law) := by
  have e := hfa.symm.trans (PySem.W.mg_of X G a_law)
  cases e
  have F_is_whole := fun_mk (st := s_is_whole) l_is_whole c_is_whole k_is_whole
  have b_is_whole := F_is_whole.binds (ps := P_is_whole) fun _ _ _ _ _ _ us hl => match us, hl with | [_], _ => rfl
  have F_is_within := fun_mk (st := s_is_within) l_is_within c_is_within k_is_within
  have b_is_within := F_is_within.binds (ps := P_is_within) fun _ _ _ _ _ _ us hl => match us, hl with | [_, _, _], _ => rfl
  have F_are_colours := fun_mk (st := s_are_colours) l_are_colours c_are_colours k_are_colours
  have b_are_colours := F_are_colours.binds (ps := P_are_colours) fun _ _ _ _ _ _ us hl => match us, hl with | [_], _ => rfl
  have F_is_tie := fun_mk (st := s_is_tie) l_is_tie c_is_tie k_is_tie
  have b_is_tie := F_is_tie.binds (ps := P_is_tie) fun _ _ _ _ _ _ us hl => match us, hl with | [_, _], _ => rfl
  have F_are_ties := fun_mk (st := s_are_ties) l_are_ties c_are_ties k_are_ties
  have b_are_ties := F_are_ties.binds (ps := P_are_ties) fun _ _ _ _ _ _ us hl => match us, hl with | [_, _], _ => rfl
  have F_Web_init := fun_mk (st := s_Web_init) l_Web_init c_Web_init k_Web_init
  have b_Web_init := F_Web_init.binds (ps := P_Web_init) fun _ _ _ _ _ _ us hl => match us, hl with | [_, _, _], _ => rfl
  have F_Web_colours := fun_mk (st := s_Web_colours) l_Web_colours c_Web_colours k_Web_colours
  have b_Web_colours := F_Web_colours.binds (ps := P_Web_colours) fun _ _ _ _ _ _ us hl => match us, hl with | [_], _ => rfl
  have F_Web_ties := fun_mk (st := s_Web_ties) l_Web_ties c_Web_ties k_Web_ties
  have b_Web_ties := F_Web_ties.binds (ps := P_Web_ties) fun _ _ _ _ _ _ us hl => match us, hl with | [_], _ => rfl
  have F_Web_degrees := fun_mk (st := s_Web_degrees) l_Web_degrees c_Web_degrees k_Web_degrees
  have b_Web_degrees := F_Web_degrees.binds (ps := P_Web_degrees) fun _ _ _ _ _ _ us hl => match us, hl with | [_], _ => rfl
  have F_Web_len := fun_mk (st := s_Web_len) l_Web_len c_Web_len k_Web_len
  have b_Web_len := F_Web_len.binds (ps := P_Web_len) fun _ _ _ _ _ _ us hl => match us, hl with | [_], _ => rfl
  have F_is_tied_in := fun_mk (st := s_is_tied_in) l_is_tied_in c_is_tied_in k_is_tied_in
  have b_is_tied_in := F_is_tied_in.binds (ps := P_is_tied_in) fun _ _ _ _ _ _ us hl => match us, hl with | [_, _, _], _ => rfl
  have F_web_of := fun_mk (st := s_web_of) l_web_of c_web_of k_web_of
  have b_web_of := F_web_of.binds (ps := P_web_of) fun _ _ _ _ _ _ us hl => match us, hl with | [_, _], _ => rfl
  have F_beside_in := fun_mk (st := s_beside_in) l_beside_in c_beside_in k_beside_in
  have b_beside_in := F_beside_in.binds (ps := P_beside_in) fun _ _ _ _ _ _ us hl => match us, hl with | [_, _], _ => rfl
  have F_opposite_in := fun_mk (st := s_opposite_in) l_opposite_in c_opposite_in k_opposite_in
  have b_opposite_in := F_opposite_in.binds (ps := P_opposite_in) fun _ _ _ _ _ _ us hl => match us, hl with | [_], _ => rfl
  have F_require_web := fun_mk (st := s_require_web) l_require_web c_require_web k_require_web
  have b_require_web := F_require_web.binds (ps := P_require_web) fun _ _ _ _ _ _ us hl => match us, hl with | [_], _ => rfl
  have F_require_two := fun_mk (st := s_require_two) l_require_two c_require_two k_require_two
  have b_require_two := F_require_two.binds (ps := P_require_two) fun _ _ _ _ _ _ us hl => match us, hl with | [_, _], _ => rfl
  have F_need_few_points := fun_mk (st := s_need_few_points) l_need_few_points c_need_few_points k_need_few_points
  have b_need_few_points := F_need_few_points.binds (ps := P_need_few_points) fun _ _ _ _ _ _ us hl => match us, hl with | [_], _ => rfl
  have F_beside := fun_mk (st := s_beside) l_beside c_beside k_beside
  have b_beside := F_beside.binds (ps := P_beside) fun _ _ _ _ _ _ us hl => match us, hl with | [_, _], _ => rfl
  have F_opposite := fun_mk (st := s_opposite) l_opposite c_opposite k_opposite
  have b_opposite := F_opposite.binds (ps := P_opposite) fun _ _ _ _ _ _ us hl => match us, hl with | [_], _ => rfl
  have F_fitting := fun_mk (st := s_fitting) l_fitting c_fitting k_fitting
  have b_fitting := F_fitting.binds (ps := P_fitting) fun _ _ _ _ _ _ us hl => match us, hl with | [_, _, _], _ => rfl
  have F_number_in := fun_mk (st := s_number_in) l_number_in c_number_in k_number_in
  have b_number_in := F_number_in.binds (ps := P_number_in) fun _ _ _ _ _ _ us hl => match us, hl with | [_, _, _], _ => rfl
  have F_map_number_in := fun_mk (st := s_map_number_in) l_map_number_in c_map_number_in k_map_number_in
  have b_map_number_in := F_map_number_in.binds (ps := P_map_number_in) fun _ _ _ _ _ _ us hl => match us, hl with | [_, _], _ => rfl
  have F_times_in := fun_mk (st := s_times_in) l_times_in c_times_in k_times_in
  have b_times_in := F_times_in.binds (ps := P_times_in) fun _ _ _ _ _ _ us hl => match us, hl with | [_, _], _ => rfl
  have F_need_few_tries := fun_mk (st := s_need_few_tries) l_need_few_tries c_need_few_tries k_need_few_tries
  have b_need_few_tries := F_need_few_tries.binds (ps := P_need_few_tries) fun _ _ _ _ _ _ us hl => match us, hl with | [_, _], _ => rfl
  have F_require_tried := fun_mk (st := s_require_tried) l_require_tried c_require_tried k_require_tried
  have b_require_tried := F_require_tried.binds (ps := P_require_tried) fun _ _ _ _ _ _ us hl => match us, hl with | [_, _], _ => rfl
  have F_map_number := fun_mk (st := s_map_number) l_map_number c_map_number k_map_number
  have b_map_number := F_map_number.binds (ps := P_map_number) fun _ _ _ _ _ _ us hl => match us, hl with | [_, _], _ => rfl
  have F_times := fun_mk (st := s_times) l_times c_times k_times
  have b_times := F_times.binds (ps := P_times) fun _ _ _ _ _ _ us hl => match us, hl with | [_, _], _ => rfl
  have F__law_dice := fun_mk (st := s__law_dice) l__law_dice c__law_dice k__law_dice
  have b__law_dice := F__law_dice.binds (ps := P__law_dice) fun _ _ _ _ _ _ us hl => match us, hl with | [_, _], _ => rfl
  have F__law_roll := fun_mk (st := s__law_roll) l__law_roll c__law_roll k__law_roll
  have b__law_roll := F__law_roll.binds (ps := P__law_roll) fun _ _ _ _ _ _ us hl => match us, hl with | [_, _], _ => rfl
  have F__law_ties := fun_mk (st := s__law_ties) l__law_ties c__law_ties k__law_ties
  have b__law_ties := F__law_ties.binds (ps := P__law_ties) fun _ _ _ _ _ _ us hl => match us, hl with | [_], _ => rfl
  have F__law_ring := fun_mk (st := s__law_ring) l__law_ring c__law_ring k__law_ring
  have b__law_ring := F__law_ring.binds (ps := P__law_ring) fun _ _ _ _ _ _ us hl => match us, hl with | [_], _ => rfl
  have F__law_full := fun_mk (st := s__law_full) l__law_full c__law_full k__law_full
  have b__law_full := F__law_full.binds (ps := P__law_full) fun _ _ _ _ _ _ us hl => match us, hl with | [_], _ => rfl
  have F__law_drawn := fun_mk (st := s__law_drawn) l__law_drawn c__law_drawn k__law_drawn
  have b__law_drawn := F__law_drawn.binds (ps := P__law_drawn) fun _ _ _ _ _ _ us hl => match us, hl with | [_, _, _], _ => rfl
  have F__law_plain := fun_mk (st := s__law_plain) l__law_plain c__law_plain k__law_plain
  have b__law_plain := F__law_plain.binds (ps := P__law_plain) fun _ _ _ _ _ _ us hl => match us, hl with | [_, _], _ => rfl
  have F__law_rows := fun_mk (st := s__law_rows) l__law_rows c__law_rows k__law_rows
  have b__law_rows := F__law_rows.binds (ps := P__law_rows) fun _ _ _ _ _ _ us hl => match us, hl with | [_], _ => rfl
  have F__law_times := fun_mk (st := s__law_times) l__law_times c__law_times k__law_times
  have b__law_times := F__law_times.binds (ps := P__law_times) fun _ _ _ _ _ _ us hl => match us, hl with | [_, _], _ => rfl
  have F__law_powers := fun_mk (st := s__law_powers) l__law_powers c__law_powers k__law_powers
  have b__law_powers := F__law_powers.binds (ps := P__law_powers) fun _ _ _ _ _ _ us hl => match us, hl with | [_, _], _ => rfl
  have F__law_trace := fun_mk (st := s__law_trace) l__law_trace c__law_trace k__law_trace
  have b__law_trace := F__law_trace.binds (ps := P__law_trace) fun _ _ _ _ _ _ us hl => match us, hl with | [_], _ => rfl
  have F__law_road := fun_mk (st := s__law_road) l__law_road c__law_road k__law_road
  have b__law_road := F__law_road.binds (ps := P__law_road) fun _ _ _ _ _ _ us hl => match us, hl with | [_], _ => rfl
  have F__law_right := fun_mk (st := s__law_right) l__law_right c__law_right k__law_right
  have b__law_right := F__law_right.binds (ps := P__law_right) fun _ _ _ _ _ _ us hl => match us, hl with | [_], _ => rfl
  have F_law := fun_mk (st := s_law) l_law c_law k_law
  have b_law := F_law.binds (ps := P_law) fun _ _ _ _ _ _ us hl => match us, hl with | [_], _ => rfl
  let T : Txt K mg := {
    is_whole := ⟨f_is_whole, _, F_is_whole, b_is_whole⟩
    m_is_whole := PySem.W.mg_of X G a_is_whole
    is_within := ⟨f_is_within, _, F_is_within, b_is_within⟩
    m_is_within := PySem.W.mg_of X G a_is_within
    are_colours := ⟨f_are_colours, _, F_are_colours, b_are_colours⟩
    m_are_colours := PySem.W.mg_of X G a_are_colours
    is_tie := ⟨f_is_tie, _, F_is_tie, b_is_tie⟩
    m_is_tie := PySem.W.mg_of X G a_is_tie
    are_ties := ⟨f_are_ties, _, F_are_ties, b_are_ties⟩
    m_are_ties := PySem.W.mg_of X G a_are_ties
    Web_init := ⟨f_Web_init, _, F_Web_init, b_Web_init⟩
    Web_colours := ⟨f_Web_colours, _, F_Web_colours, b_Web_colours⟩
    Web_ties := ⟨f_Web_ties, _, F_Web_ties, b_Web_ties⟩
    Web_degrees := ⟨f_Web_degrees, _, F_Web_degrees, b_Web_degrees⟩
    Web_len := ⟨f_Web_len, _, F_Web_len, b_Web_len⟩
    is_tied_in := ⟨f_is_tied_in, _, F_is_tied_in, b_is_tied_in⟩
    m_is_tied_in := PySem.W.mg_of X G a_is_tied_in
    web_of := ⟨f_web_of, _, F_web_of, b_web_of⟩
    m_web_of := PySem.W.mg_of X G a_web_of
    beside_in := ⟨f_beside_in, _, F_beside_in, b_beside_in⟩
    m_beside_in := PySem.W.mg_of X G a_beside_in
    opposite_in := ⟨f_opposite_in, _, F_opposite_in, b_opposite_in⟩
    m_opposite_in := PySem.W.mg_of X G a_opposite_in
    require_web := ⟨f_require_web, _, F_require_web, b_require_web⟩
    m_require_web := PySem.W.mg_of X G a_require_web
    require_two := ⟨f_require_two, _, F_require_two, b_require_two⟩
    m_require_two := PySem.W.mg_of X G a_require_two
    need_few_points := ⟨f_need_few_points, _, F_need_few_points, b_need_few_points⟩
    m_need_few_points := PySem.W.mg_of X G a_need_few_points
    beside := ⟨f_beside, _, F_beside, b_beside⟩
    m_beside := PySem.W.mg_of X G a_beside
    opposite := ⟨f_opposite, _, F_opposite, b_opposite⟩
    m_opposite := PySem.W.mg_of X G a_opposite
    fitting := ⟨f_fitting, _, F_fitting, b_fitting⟩
    m_fitting := PySem.W.mg_of X G a_fitting
    number_in := ⟨f_number_in, _, F_number_in, b_number_in⟩
    m_number_in := PySem.W.mg_of X G a_number_in
    map_number_in := ⟨f_map_number_in, _, F_map_number_in, b_map_number_in⟩
    m_map_number_in := PySem.W.mg_of X G a_map_number_in
    times_in := ⟨f_times_in, _, F_times_in, b_times_in⟩
    m_times_in := PySem.W.mg_of X G a_times_in
    need_few_tries := ⟨f_need_few_tries, _, F_need_few_tries, b_need_few_tries⟩
    m_need_few_tries := PySem.W.mg_of X G a_need_few_tries
    require_tried := ⟨f_require_tried, _, F_require_tried, b_require_tried⟩
    m_require_tried := PySem.W.mg_of X G a_require_tried
    map_number := ⟨f_map_number, _, F_map_number, b_map_number⟩
    m_map_number := PySem.W.mg_of X G a_map_number
    times := ⟨f_times, _, F_times, b_times⟩
    m_times := PySem.W.mg_of X G a_times
    _law_dice := ⟨f__law_dice, _, F__law_dice, b__law_dice⟩
    m__law_dice := PySem.W.mg_of X G a__law_dice
    _law_roll := ⟨f__law_roll, _, F__law_roll, b__law_roll⟩
    m__law_roll := PySem.W.mg_of X G a__law_roll
    _law_ties := ⟨f__law_ties, _, F__law_ties, b__law_ties⟩
    m__law_ties := PySem.W.mg_of X G a__law_ties
    _law_ring := ⟨f__law_ring, _, F__law_ring, b__law_ring⟩
    m__law_ring := PySem.W.mg_of X G a__law_ring
    _law_full := ⟨f__law_full, _, F__law_full, b__law_full⟩
    m__law_full := PySem.W.mg_of X G a__law_full
    _law_drawn := ⟨f__law_drawn, _, F__law_drawn, b__law_drawn⟩
    m__law_drawn := PySem.W.mg_of X G a__law_drawn
    _law_plain := ⟨f__law_plain, _, F__law_plain, b__law_plain⟩
    m__law_plain := PySem.W.mg_of X G a__law_plain
    _law_rows := ⟨f__law_rows, _, F__law_rows, b__law_rows⟩
    m__law_rows := PySem.W.mg_of X G a__law_rows
    _law_times := ⟨f__law_times, _, F__law_times, b__law_times⟩
    m__law_times := PySem.W.mg_of X G a__law_times
    _law_powers := ⟨f__law_powers, _, F__law_powers, b__law_powers⟩
    m__law_powers := PySem.W.mg_of X G a__law_powers
    _law_trace := ⟨f__law_trace, _, F__law_trace, b__law_trace⟩
    m__law_trace := PySem.W.mg_of X G a__law_trace
    _law_road := ⟨f__law_road, _, F__law_road, b__law_road⟩
    m__law_road := PySem.W.mg_of X G a__law_road
    _law_right := ⟨f__law_right, _, F__law_right, b__law_right⟩
    m__law_right := PySem.W.mg_of X G a__law_right
    law := ⟨fa, _, F_law, b_law⟩
    m_law := PySem.W.mg_of X G a_law
    n_abs := PySem.W.mg_none_of X G z_abs
    n_all := PySem.W.mg_none_of X G z_all
    n_any := PySem.W.mg_none_of X G z_any
    n_bool := PySem.W.mg_none_of X G z_bool
    n_enumerate := PySem.W.mg_none_of X G z_enumerate
    n_int := PySem.W.mg_none_of X G z_int
    n_isinstance := PySem.W.mg_none_of X G z_isinstance
    n_len := PySem.W.mg_none_of X G z_len
    n_list := PySem.W.mg_none_of X G z_list
    n_max := PySem.W.mg_none_of X G z_max
    n_min := PySem.W.mg_none_of X G z_min
    n_range := PySem.W.mg_none_of X G z_range
    n_set := PySem.W.mg_none_of X G z_set
    n_sorted := PySem.W.mg_none_of X G z_sorted
    n_sum := PySem.W.mg_none_of X G z_sum
    n_tuple := PySem.W.mg_none_of X G z_tuple
    n_zip := PySem.W.mg_none_of X G z_zip
    k_MOST_POINTS := t_MOST_POINTS
    g_MOST_POINTS := PySem.W.mg_of X G g_MOST_POINTS
    k_LEAST_COLOUR := t_LEAST_COLOUR
    g_LEAST_COLOUR := PySem.W.mg_of X G g_LEAST_COLOUR
    k_MOST_COLOUR := t_MOST_COLOUR
    g_MOST_COLOUR := PySem.W.mg_of X G g_MOST_COLOUR
    k_PAIR := t_PAIR
    g_PAIR := PySem.W.mg_of X G g_PAIR
    k_MOST_TRIES := t_MOST_TRIES
    g_MOST_TRIES := PySem.W.mg_of X G g_MOST_TRIES
    k_ANY := t_ANY
    g_ANY := PySem.W.mg_of X G g_ANY
    C := C
    mWeb := PySem.W.mg_of X G aC
    cls := ⟨pg, ic, po, sa⟩
    isi := ⟨ca, cn, ct, cm⟩
    p0 := d0
    p1 := d1
    p2 := d2
    sl0 := ⟨sa0, sg0, sk0, st0, sx0, by decide⟩
    sl1 := ⟨sa1, sg1, sk1, st1, sx1, by decide⟩
    sl2 := ⟨sa2, sg2, sk2, st2, sx2, by decide⟩
    mkW := ⟨mk, a_Web_init, fi, kc⟩
    pc := p_Web_colours
    pt := p_Web_ties
    pd := p_Web_degrees
    at_c := at_Web_colours
    at_t := at_Web_ties
    at_d := at_Web_degrees
    ge_c := ge_Web_colours
    ge_t := ge_Web_ties
    ge_d := ge_Web_degrees
    tk_c := tk_Web_colours
    tk_t := tk_Web_ties
    tk_d := tk_Web_degrees
    rc_c := ⟨_, rc_Web_colours⟩
    rc_t := ⟨_, rc_Web_ties⟩
    rc_d := ⟨_, rc_Web_degrees⟩
    ln := a_Web_len
    lf := lf
    ko := by unfold PySem.W.kitOne; rw [if_pos (by simp)] }
  exact ⟨PySem.W.fnOf "law" "law" (defArgs s_law) (defBody s_law) (defScope s_law) .none kV_law dc_law pm_law an_law cd_law ct_law, fun s v => .of_eq rfl, fun base _ _ => ok_law T MF⟩
theorem walk {l : PySem.W.OpenLaw} {q : Program} {loose : List Str} {XP : (Str → Option Value) → Heap → Prop} {YP : World → Heap → Prop} {d : DefRec} {K : Params → PySem.W.Frag} (hn : l.most = some 63) (hdf : d.params.defaults = [])
    (hY : ∀ (w : World) (h : Heap), YP w h → (K w.params).In h)
    (F : ∀ (w : World) (mg : Str → Option Value) (fa : Addr) (h : Heap), (K w.params).In h → h.Ns mainGlobals mg → mg d.name = some (.ref fa) →
      ∃ fd : FuncData, (∀ (s : Shared) (u : Value), BindsTo s fd ⟨[u], []⟩ [("script", u)]) ∧ ∀ base : Heap, (K w.params).In base → base.Ns mainGlobals mg → FnOk l.prog w (K w.params) mg base CX0 15 fa fd ["script"] (spD (K w.params) R_law)) :
    PySem.W.WalkO q loose XP YP l.row.toRowW d [] (fun f vs => PySem.call f vs) :=
  L2.walk_of (n := 63) (k := 15) (x := "script") (CX := fun _ => CX0) (sp := fun w => spD (K w.params) R_law) hn (by decide) hdf ⟨rfl, by decide, by decide⟩ hY F (fun _ H a ns hl _ hS => ⟨H, [.lst (ns.map .int)], .bl true, Same.refl _, .cons (.lst hS AtL.ints) .nil, ⟨ns, rfl, hl, rfl⟩, fun v H' H0' _ a => by
    cases a
    rfl⟩) fun _ _ _ _ _ z => z
end FB
set_option Elab.async false
set_option autoImplicit false
set_option linter.all false
set_option maxRecDepth 100000
/-! The plain law: walks and powers. -/
namespace FB
open FP
theorem adjI_eq (v : Wb) (a b : Int) : adjI v.ts a b = if v.adj a b = true then 1 else 0 := by
  unfold adjI Wb.adj
  by_cases h : (a, b) ∈ v.ts ∨ (b, a) ∈ v.ts
  · rw [if_pos h, if_pos (decide_eq_true h)]
  · rw [if_neg h, if_neg (by simpa using h)]
theorem adjI_comm (ts : List (Int × Int)) (a b : Int) : adjI ts a b = adjI ts b a := by
  unfold adjI
  by_cases h : (a, b) ∈ ts ∨ (b, a) ∈ ts
  · rw [if_pos h, if_pos h.symm]
  · rw [if_neg h, if_neg fun z => h z.symm]
/-! ### tables -/
theorem mul_id_left {n : Nat} {f : Int → Int → Int} {a b : Int} (h0 : 0 ≤ a) (h : a < n) : mulM n idM f a b = f a b := by
  unfold mulM
  have : sumN n (fun c => idM a c * f c b) = sumN n fun c => if c = a then f c b else 0 := sumN_congr fun c _ _ => by
    unfold idM
    by_cases e : a = c
    · rw [if_pos e, if_pos e.symm, Int.one_mul]
    · rw [if_neg e, if_neg (Ne.symm e), Int.zero_mul]
  rw [this, sumN_single h0 h]
theorem mul_id_right {n : Nat} {f : Int → Int → Int} {a b : Int} (h0 : 0 ≤ b) (h : b < n) : mulM n f idM a b = f a b := by
  unfold mulM
  have : sumN n (fun c => f a c * idM c b) = sumN n fun c => if c = b then f a c else 0 := sumN_congr fun c _ _ => by
    unfold idM
    by_cases e : c = b
    · rw [if_pos e, if_pos e, Int.mul_one]
    · rw [if_neg e, if_neg e, Int.mul_zero]
  rw [this, sumN_single h0 h]
theorem mul_assoc (n : Nat) (f g h : Int → Int → Int) (a b : Int) : mulM n (mulM n f g) h a b = mulM n f (mulM n g h) a b := by
  unfold mulM
  have e1 : sumN n (fun c => sumN n (fun d => f a d * g d c) * h c b) = sumN n fun c => sumN n fun d => f a d * g d c * h c b := sumN_congr fun c _ _ => (sumN_mul_right n (h c b) fun d => f a d * g d c).symm
  have e2 : sumN n (fun d => f a d * sumN n (fun c => g d c * h c b)) = sumN n fun d => sumN n fun c => f a d * (g d c * h c b) := sumN_congr fun d _ _ => (sumN_mul_left n (f a d) fun c => g d c * h c b).symm
  rw [e1, e2, sumN_comm]
  exact sumN_congr fun d _ _ => sumN_congr fun c _ _ => Int.mul_assoc _ _ _
theorem mul_congr {n : Nat} {f f' g g' : Int → Int → Int} {a b : Int} (h1 : ∀ c : Int, 0 ≤ c → c < n → f a c = f' a c) (h2 : ∀ c : Int, 0 ≤ c → c < n → g c b = g' c b) : mulM n f g a b = mulM n f' g' a b := sumN_congr fun c h0 h => by rw [h1 c h0 h, h2 c h0 h]
theorem pow_one {n : Nat} {f : Int → Int → Int} {a b : Int} (h0 : 0 ≤ a) (h : a < n) : powM n f 1 a b = f a b := mul_id_left h0 h
/-- a power from the left -/
theorem pow_left {n : Nat} {f : Int → Int → Int} : ∀ (k : Nat) {a b : Int}, 0 ≤ a → a < n → 0 ≤ b → b < n → powM n f (k + 1) a b = sumN n fun c => f a c * powM n f k c b
  | 0, a, b, a0, a1, b0, b1 => by
    rw [pow_one a0 a1]
    exact (mul_id_right b0 b1).symm
  | k + 1, a, b, a0, a1, b0, b1 => by
    have e1 : powM n f (k + 2) a b = mulM n (mulM n f (powM n f k)) f a b := mul_congr (fun c c0 c1 => pow_left k a0 a1 c0 c1) fun _ _ _ => rfl
    rw [e1, mul_assoc]
    rfl
theorem pow_congr {n : Nat} {f g : Int → Int → Int} (h : ∀ a b : Int, 0 ≤ a → a < n → 0 ≤ b → b < n → f a b = g a b) : ∀ (k : Nat) {a b : Int}, 0 ≤ a → a < n → 0 ≤ b → b < n → powM n f k a b = powM n g k a b
  | 0, _, _, _, _, _, _ => rfl
  | k + 1, a, b, a0, a1, b0, b1 => mul_congr (fun c c0 c1 => pow_congr h k a0 a1 c0 c1) fun c c0 c1 => h c b c0 c1 b0 b1
/-! ### counting, a point at a time -/
def prodA (v : Wb) (x : Int) : List Int → Int
  | [] => 1
  | g :: gs => adjI v.ts x g * prodA v x gs
theorem prodA_all (v : Wb) (x : Int) : ∀ gs : List Int, prodA v x gs = if (gs.all fun g => v.adj x g) = true then 1 else 0
  | [] => rfl
  | g :: gs => by
    unfold prodA
    rw [prodA_all v x gs, adjI_eq, List.all_cons]
    cases v.adj x g <;> cases (gs.all fun g => v.adj x g) <;> rfl
def colB (p v : Wb) (k : Nat) (x : Int) : Int := if decide (p.col k ∈ [-1, v.col x]) = true then 1 else 0
theorem cnt_step (p v : Wb) (k : Nat) (im : List Int) : cnt p v (k + 1) im = sumN v.n fun x => colB p v im.length x * prodA v x (goals p im) * cnt p v k (im ++ [x]) := by
  show ((fitL p v im).map fun x => cnt p v k (im ++ [x])).sum = _
  unfold fitL places
  rw [sum_filter, sum_filter]
  unfold sumN
  refine sum_congr fun x _ => ?_
  unfold colB
  rw [prodA_all]
  by_cases h1 : decide (p.col im.length ∈ [-1, v.col x]) = true
  · rw [if_pos h1, if_pos h1, Int.one_mul]
    by_cases h2 : ((goals p im).all fun g => v.adj x g) = true
    · rw [if_pos h2, if_pos h2, Int.one_mul]
    · rw [if_neg h2, if_neg h2, Int.zero_mul]
  · rw [if_neg h1, if_neg h1, Int.zero_mul, Int.zero_mul]
theorem colB_any {p v : Wb} {k : Nat} {x : Int} (h : p.col k = -1) : colB p v k x = 1 := by
  unfold colB
  rw [h]
  simp
theorem goals_of {p : Wb} {im : List Int} {k : Nat} {l : List Int} (hk : im.length = k) (h : ((p.nb k).filter fun a => decide (a < (k : Int))) = l) : goals p im = l.map (imAt im) := by
  unfold goals
  rw [hk, h]
theorem imAt_last (im : List Int) (x : Int) : imAt (im ++ [x]) im.length = x := by
  unfold imAt
  rw [Int.toNat_natCast, List.getD_eq_getElem?_getD, List.getElem?_append_right (Nat.le_refl _)]
  simp
theorem imAt_first {im : List Int} (h : 1 ≤ im.length) (x : Int) : imAt (im ++ [x]) 0 = imAt im 0 := by
  unfold imAt
  rw [List.getD_eq_getElem?_getD, List.getD_eq_getElem?_getD]
  have e : (0 : Int).toNat = 0 := rfl
  rw [e, List.getElem?_append_left (by omega)]
/-- the points below k that k is tied to -/
def blw (p : Wb) (k : Nat) : List Int := (p.nb k).filter fun a => decide (a < (k : Int))
section
variable {p v : Wb} {s : Nat}
/-- a pattern where each point is tied to the one ahead of it, among those ahead -/
theorem road_cnt (hc : ∀ k, k < s → p.col k = -1) (hb : ∀ k, 1 ≤ k → k < s → blw p k = [(k : Int) - 1]) : ∀ (r : Nat) (im : List Int) (x : Int), (im ++ [x]).length + r = s → 0 ≤ x → x < v.n → cnt p v r (im ++ [x]) = sumN v.n fun b => powM v.n (adjI v.ts) r x b
  | 0, im, x, _, x0, x1 => by
    show (1 : Int) = sumN v.n fun b => idM x b
    have := sumN_single (n := v.n) (a := x) x0 x1 fun _ => 1
    rw [← this]
    refine sumN_congr fun b _ _ => ?_
    unfold idM
    by_cases e : b = x
    · rw [if_pos e, if_pos e.symm]
    · rw [if_neg e, if_neg (Ne.symm e)]
  | r + 1, im, x, hl, x0, x1 => by
    rw [cnt_step]
    have l1 : (im ++ [x]).length = im.length + 1 := by simp
    have g : goals p (im ++ [x]) = [x] := by
      rw [goals_of l1 (hb (im.length + 1) (by omega) (by omega))]
      have : ((im.length + 1 : Nat) : Int) - 1 = im.length := by omega
      rw [List.map_cons, this, imAt_last]
      rfl
    have e1 : sumN v.n (fun y => colB p v (im ++ [x]).length y * prodA v y (goals p (im ++ [x])) * cnt p v r (im ++ [x] ++ [y])) = sumN v.n fun y => sumN v.n fun b => adjI v.ts x y * powM v.n (adjI v.ts) r y b := sumN_congr fun y y0 y1 => by
      rw [g, colB_any (hc _ (by omega)), road_cnt hc hb r (im ++ [x]) y (by simp only [List.length_append, List.length_cons, List.length_nil] at hl ⊢; omega) y0 y1, sumN_mul_left]
      show 1 * (adjI v.ts y x * 1) * _ = _
      rw [Int.one_mul, Int.mul_one, adjI_comm]
    rw [e1, sumN_comm]
    exact sumN_congr fun b b0 b1 => (pow_left r x0 x1 b0 b1).symm
theorem road_homs (hn : p.n = s) (hs : 1 ≤ s) (hc : ∀ k, k < s → p.col k = -1) (h0 : blw p 0 = []) (hb : ∀ k, 1 ≤ k → k < s → blw p k = [(k : Int) - 1]) : homs p v = tot v.n (powM v.n (adjI v.ts) (s - 1)) := by
  obtain ⟨m, rfl⟩ : ∃ m, s = m + 1 := ⟨s - 1, by omega⟩
  unfold homs
  rw [hn, cnt_step]
  unfold tot
  refine sumN_congr fun x x0 x1 => ?_
  rw [colB_any (hc _ (by simp)), goals_of (im := []) rfl h0]
  show 1 * 1 * cnt p v m ([] ++ [x]) = _
  rw [Int.one_mul, Int.one_mul, road_cnt hc hb m [] x (by simp; omega) x0 x1]
  rfl
/-- .. and the last one to the first, too -/
theorem ring_cnt (hs : 3 ≤ s) (hc : ∀ k, 1 ≤ k → k < s → p.col k = -1) (hb : ∀ k, 1 ≤ k → k + 1 < s → blw p k = [(k : Int) - 1]) (hz : blw p (s - 1) = [0, (s : Int) - 2]) : ∀ (r : Nat) (im : List Int) (x : Int), (im ++ [x]).length + (r + 1) = s → 0 ≤ x → x < v.n → 0 ≤ imAt (im ++ [x]) 0 → imAt (im ++ [x]) 0 < v.n →
    cnt p v (r + 1) (im ++ [x]) = powM v.n (adjI v.ts) (r + 2) x (imAt (im ++ [x]) 0)
  | 0, im, x, hl, x0, x1, z0, z1 => by
    rw [cnt_step]
    have l1 : (im ++ [x]).length = s - 1 := by omega
    have l2 : im.length + 1 = s - 1 := by simpa using l1
    have g : goals p (im ++ [x]) = [imAt (im ++ [x]) 0, x] := by
      rw [goals_of l1 hz]
      have : (s : Int) - 2 = im.length := by omega
      rw [List.map_cons, List.map_cons, this, imAt_last]
      rfl
    rw [pow_left 1 x0 x1 z0 z1]
    refine sumN_congr fun y y0 y1 => ?_
    rw [g, colB_any (hc _ (by omega) (by omega)), pow_one y0 y1]
    show 1 * (adjI v.ts y (imAt (im ++ [x]) 0) * (adjI v.ts y x * 1)) * 1 = _
    rw [Int.one_mul, Int.mul_one, Int.mul_one, Int.mul_comm, adjI_comm v.ts y x]
  | r + 1, im, x, hl, x0, x1, z0, z1 => by
    rw [cnt_step]
    have l1 : (im ++ [x]).length = im.length + 1 := by simp
    have g : goals p (im ++ [x]) = [x] := by
      rw [goals_of l1 (hb (im.length + 1) (by omega) (by omega))]
      have : ((im.length + 1 : Nat) : Int) - 1 = im.length := by omega
      rw [List.map_cons, this, imAt_last]
      rfl
    rw [pow_left (r + 2) x0 x1 z0 z1]
    refine sumN_congr fun y y0 y1 => ?_
    have hf : imAt (im ++ [x] ++ [y]) 0 = imAt (im ++ [x]) 0 := imAt_first (by omega) y
    rw [g, colB_any (hc _ (by omega) (by omega)), ring_cnt hs hc hb hz r (im ++ [x]) y (by simp only [List.length_append, List.length_cons, List.length_nil] at hl ⊢; omega) y0 y1 (by rw [hf]; exact z0) (by rw [hf]; exact z1), hf]
    show 1 * (adjI v.ts y x * 1) * _ = _
    rw [Int.one_mul, Int.mul_one, adjI_comm]
theorem ring_homs (hn : p.n = s) (hs : 3 ≤ s) (hc : ∀ k, 1 ≤ k → k < s → p.col k = -1) (h0 : blw p 0 = []) (hb : ∀ k, 1 ≤ k → k + 1 < s → blw p k = [(k : Int) - 1]) (hz : blw p (s - 1) = [0, (s : Int) - 2]) : homs p v = sumN v.n fun a => colB p v 0 a * powM v.n (adjI v.ts) s a a := by
  obtain ⟨m, rfl⟩ : ∃ m, s = m + 2 := ⟨s - 2, by omega⟩
  unfold homs
  rw [hn, cnt_step]
  refine sumN_congr fun x x0 x1 => ?_
  rw [goals_of (im := []) rfl h0]
  show colB p v 0 x * 1 * cnt p v (m + 1) ([] ++ [x]) = _
  rw [Int.mul_one, ring_cnt hs hc hb hz m [] x (by simp; omega) x0 x1 x0 x1]
  rfl
end
end FB
set_option Elab.async false
set_option autoImplicit false
set_option linter.all false
set_option maxRecDepth 100000
/-! The plain law: the law's patterns. -/
namespace FB
open FP
theorem ring3E : ringT 3 = [(0, 1), (0, 2), (1, 2)] := sortP_of (by decide) fun x => (show List.Perm [(0, 1), (0, 2), (1, 2)] (((pts 3).map fun a => (a, (a + 1) % ((3 : Nat) : Int))).map mm) by decide).mem_iff
theorem ring4E : ringT 4 = [(0, 1), (0, 3), (1, 2), (2, 3)] := sortP_of (by decide) fun x => (show List.Perm [(0, 1), (0, 3), (1, 2), (2, 3)] (((pts 4).map fun a => (a, (a + 1) % ((4 : Nat) : Int))).map mm) by decide).mem_iff
theorem ring5E : ringT 5 = [(0, 1), (0, 4), (1, 2), (2, 3), (3, 4)] := sortP_of (by decide) fun x => (show List.Perm [(0, 1), (0, 4), (1, 2), (2, 3), (3, 4)] (((pts 5).map fun a => (a, (a + 1) % ((5 : Nat) : Int))).map mm) by decide).mem_iff
theorem ring6E : ringT 6 = [(0, 1), (0, 5), (1, 2), (2, 3), (3, 4), (4, 5)] := sortP_of (by decide) fun x => (show List.Perm [(0, 1), (0, 5), (1, 2), (2, 3), (3, 4), (4, 5)] (((pts 6).map fun a => (a, (a + 1) % ((6 : Nat) : Int))).map mm) by decide).mem_iff
theorem col_plain {n k : Nat} (ts : List (Int × Int)) (h : k < n) : (plainW n ts).col k = -1 := by
  unfold Wb.col plainW
  rw [Int.toNat_natCast, List.getD_eq_getElem?_getD, List.getElem?_replicate, if_pos h]
  rfl
theorem cases4 {P : Nat → Prop} (h3 : P 3) (h4 : P 4) (h5 : P 5) (h6 : P 6) : ∀ s, 3 ≤ s → s ≤ 6 → P s := fun s a b => by
  have : s = 3 ∨ s = 4 ∨ s = 5 ∨ s = 6 := by omega
  rcases this with rfl | rfl | rfl | rfl
  · exact h3
  · exact h4
  · exact h5
  · exact h6
/-- the points below, of explicit rings -/
def RingB (p : Wb) (s : Nat) : Prop := blw p 0 = [] ∧ (∀ k, k < s → 1 ≤ k → k + 1 < s → blw p k = [(k : Int) - 1]) ∧ blw p (s - 1) = [0, (s : Int) - 2]
instance (p : Wb) (s : Nat) : Decidable (RingB p s) := by unfold RingB; infer_instance
theorem ringB_all : ∀ s, 3 ≤ s → s ≤ 6 → RingB (ringW s) s := cases4
  (by unfold ringW plainW; rw [ring3E]; decide +kernel) (by unfold ringW plainW; rw [ring4E]; decide +kernel) (by unfold ringW plainW; rw [ring5E]; decide +kernel) (by unfold ringW plainW; rw [ring6E]; decide +kernel)
theorem f_ring (s : Nat) (v : Wb) (h3 : 3 ≤ s) (h6 : s ≤ 6) : homs (ringW s) v = tr v.n (wk v s) := by
  obtain ⟨b0, b1, b2⟩ := ringB_all s h3 h6
  rw [ring_homs (p := ringW s) (v := v) (s := s) (plain_n _ _) h3 (fun k _ hk => col_plain _ hk) b0 (fun k h1 h2 => b1 k (by omega) h1 h2) b2]
  refine sumN_congr fun a _ _ => ?_
  rw [colB_any (col_plain (k := 0) _ (by omega)), Int.one_mul]
def RoadB (p : Wb) (s : Nat) : Prop := blw p 0 = [] ∧ ∀ k, k < s → 1 ≤ k → blw p k = [(k : Int) - 1]
instance (p : Wb) (s : Nat) : Decidable (RoadB p s) := by unfold RoadB; infer_instance
theorem roadB_all : ∀ s, 3 ≤ s → s ≤ 6 → RoadB (roadW s) s := cases4 (by decide +kernel) (by decide +kernel) (by decide +kernel) (by decide +kernel)
theorem f_road (s : Nat) (v : Wb) (h3 : 3 ≤ s) (h5 : s ≤ 5) : homs (roadW s) v = tot v.n (wk v (s - 1)) := by
  obtain ⟨b0, b1⟩ := roadB_all s h3 (by omega)
  exact road_homs (p := roadW s) (v := v) (s := s) (plain_n _ _) (by omega) (fun k hk => col_plain _ hk) b0 fun k h1 h2 => b1 k h2 h1
theorem f_rnd (v : Wb) : homs rndW v = ((bg v 1).map fun a => wk v 4 a a).sum := by
  have hb : RingB rndW 4 := by unfold rndW; rw [ring4E]; decide +kernel
  obtain ⟨b0, b1, b2⟩ := hb
  have hc : ∀ k : Nat, 1 ≤ k → k < 4 → rndW.col k = -1 := by
    have : ∀ k : Nat, k < 4 → 1 ≤ k → rndW.col k = -1 := by decide
    exact fun k h1 h2 => this k h2 h1
  rw [ring_homs (p := rndW) (v := v) (s := 4) rfl (by decide) hc b0 (fun k h1 h2 => b1 k (by omega) h1 h2) b2]
  unfold bg sumN
  rw [sum_filter]
  refine sum_congr fun a _ => ?_
  have e : colB rndW v 0 a = if decide (v.col a = 1) = true then 1 else 0 := by
    unfold colB
    have : rndW.col ((0 : Nat) : Int) = 1 := rfl
    rw [this]
    by_cases h : v.col a = 1
    · simp [h]
    · have h2 : ¬ (1 : Int) = v.col a := fun z => h z.symm
      simp [h, h2]
  rw [e]
  split <;> simp
/-- the last point of a colour -/
theorem some_cnt {p v : Wb} {s : Nat} {c : Int} (hc : ∀ k, 1 ≤ k → k + 1 < s → p.col k = -1) (hl : ∀ x, colB p v (s - 1) x = if v.col x = c then 1 else 0) (hb : ∀ k, 1 ≤ k → k < s → blw p k = [(k : Int) - 1]) : ∀ (r : Nat) (im : List Int) (x : Int), (im ++ [x]).length + (r + 1) = s → 0 ≤ x → x < v.n →
    cnt p v (r + 1) (im ++ [x]) = sumN v.n fun b => powM v.n (adjI v.ts) (r + 1) x b * (if v.col b = c then 1 else 0)
  | 0, im, x, hs, x0, x1 => by
    rw [cnt_step]
    have l1 : (im ++ [x]).length = im.length + 1 := by simp
    refine sumN_congr fun y y0 y1 => ?_
    have g : goals p (im ++ [x]) = [x] := by
      rw [goals_of l1 (hb (im.length + 1) (by omega) (by omega))]
      have : ((im.length + 1 : Nat) : Int) - 1 = im.length := by omega
      rw [List.map_cons, this, imAt_last]
      rfl
    have e : (im ++ [x]).length = s - 1 := by omega
    rw [g, e, hl, pow_one x0 x1]
    show _ * (adjI v.ts y x * 1) * 1 = _
    rw [Int.mul_one, Int.mul_one, Int.mul_comm, adjI_comm]
  | r + 1, im, x, hs, x0, x1 => by
    rw [cnt_step]
    have l1 : (im ++ [x]).length = im.length + 1 := by simp
    have g : goals p (im ++ [x]) = [x] := by
      rw [goals_of l1 (hb (im.length + 1) (by omega) (by omega))]
      have : ((im.length + 1 : Nat) : Int) - 1 = im.length := by omega
      rw [List.map_cons, this, imAt_last]
      rfl
    have e1 : sumN v.n (fun y => colB p v (im ++ [x]).length y * prodA v y (goals p (im ++ [x])) * cnt p v (r + 1) (im ++ [x] ++ [y])) = sumN v.n fun y => sumN v.n fun b => adjI v.ts x y * powM v.n (adjI v.ts) (r + 1) y b * (if v.col b = c then 1 else 0) := sumN_congr fun y y0 y1 => by
      rw [g, colB_any (hc _ (by omega) (by omega)), some_cnt hc hl hb r (im ++ [x]) y (by simp only [List.length_append, List.length_cons, List.length_nil] at hs ⊢; omega) y0 y1, ← sumN_mul_left]
      refine sumN_congr fun b _ _ => ?_
      show 1 * (adjI v.ts y x * 1) * _ = _
      rw [Int.one_mul, Int.mul_one, adjI_comm, Int.mul_assoc]
    rw [e1, sumN_comm]
    refine sumN_congr fun b b0 b1 => ?_
    rw [sumN_mul_right, ← pow_left (r + 1) x0 x1 b0 b1]
theorem f_some (v : Wb) : homs someW v = ((bg v 0).map fun a => ((bg v 1).map fun b => wk v 3 a b).sum).sum := by
  have hb : RoadB someW 4 := by decide +kernel
  obtain ⟨b0, b1⟩ := hb
  have hc : ∀ k : Nat, 1 ≤ k → k + 1 < 4 → someW.col k = -1 := by
    have : ∀ k : Nat, k < 4 → 1 ≤ k → k + 1 < 4 → someW.col k = -1 := by decide
    exact fun k h1 h2 => this k (by omega) h1 h2
  have hl : ∀ x, colB someW v (4 - 1) x = if v.col x = 1 then 1 else 0 := fun x => by
    unfold colB
    have : someW.col ((4 - 1 : Nat) : Int) = 1 := rfl
    rw [this]
    by_cases h : v.col x = 1
    · simp [h]
    · have h2 : ¬ (1 : Int) = v.col x := fun z => h z.symm
      simp [h, h2]
  show cnt someW v 4 [] = _
  rw [cnt_step]
  unfold bg
  rw [sum_filter]
  unfold sumN
  refine sum_congr fun a ha => ?_
  rw [mem_pts] at ha
  rw [goals_of (im := []) rfl b0]
  have e : colB someW v ([] : List Int).length a = if decide (v.col a = 0) = true then 1 else 0 := by
    unfold colB
    have : someW.col ((([] : List Int).length : Nat) : Int) = 0 := rfl
    rw [this]
    by_cases h : v.col a = 0
    · simp [h]
    · have h2 : ¬ (0 : Int) = v.col a := fun z => h z.symm
      simp [h, h2]
  rw [e, some_cnt hc hl (fun k h1 h2 => b1 k h2 h1) 2 [] a (by simp) ha.1 ha.2]
  rw [sum_filter]
  have e2 : sumN v.n (fun b => powM v.n (adjI v.ts) (2 + 1) a b * (if v.col b = 1 then 1 else 0)) = ((pts v.n).map fun b => if decide (v.col b = 1) = true then wk v 3 a b else 0).sum := by
    unfold sumN
    refine sum_congr fun b _ => ?_
    by_cases h : v.col b = 1 <;> simp [h]
  rw [e2]
  show _ * 1 * _ = _
  rw [Int.mul_one]
  by_cases h : decide (v.col a = 0) = true
  · rw [if_pos h, if_pos h, Int.one_mul]
  · rw [if_neg h, if_neg h, Int.zero_mul]
theorem nb_count (v : Wb) (a : Int) : ((v.nb a).length : Int) = sumN v.n fun b => adjI v.ts a b := by
  unfold Wb.nb sumN
  have e : ∀ l : List Int, ((l.filter fun b => v.adj a b).length : Int) = (l.map fun b => adjI v.ts a b).sum := by
    intro l
    induction l with
    | nil => rfl
    | cons x l ih =>
      rw [List.filter_cons, List.map_cons, List.sum_cons, ← ih, adjI_eq]
      by_cases h : v.adj a x = true
      · rw [if_pos h, if_pos h, List.length_cons]; omega
      · rw [if_neg h, if_neg h]; omega
  exact e _
theorem f_star (v : Wb) : homs starW v = sumN v.n fun a => ((v.nb a).length : Int) * (v.nb a).length * (v.nb a).length := by
  have hb : blw starW 0 = [] ∧ blw starW 1 = [0] ∧ blw starW 2 = [0] ∧ blw starW 3 = [0] := by decide +kernel
  obtain ⟨b0, b1, b2, b3⟩ := hb
  have hc : ∀ k : Nat, k < 4 → starW.col k = -1 := fun k hk => col_plain _ hk
  show cnt starW v 4 [] = _
  rw [cnt_step]
  refine sumN_congr fun x x0 x1 => ?_
  rw [goals_of (im := []) rfl b0, colB_any (p := starW) (k := ([] : List Int).length) (hc 0 (by decide))]
  show 1 * 1 * cnt starW v 3 [x] = _
  have i1 : ∀ (l : List Int), imAt (x :: l) 0 = x := fun l => rfl
  have lastS : ∀ a b : Int, cnt starW v 1 [x, a, b] = ((v.nb x).length : Int) := fun a b => by
    rw [cnt_step, nb_count]
    refine sumN_congr fun y _ _ => ?_
    rw [goals_of (im := [x, a, b]) (k := 3) rfl b3, colB_any (p := starW) (k := [x, a, b].length) (hc 3 (by decide))]
    show 1 * (adjI v.ts y (imAt [x, a, b] 0) * 1) * 1 = _
    rw [i1, Int.one_mul, Int.mul_one, Int.mul_one, adjI_comm]
  have midS : ∀ a : Int, cnt starW v 2 [x, a] = ((v.nb x).length : Int) * (v.nb x).length := fun a => by
    rw [cnt_step]
    have : sumN v.n (fun y => colB starW v [x, a].length y * prodA v y (goals starW [x, a]) * cnt starW v 1 ([x, a] ++ [y])) = sumN v.n fun y => adjI v.ts x y * (v.nb x).length := sumN_congr fun y _ _ => by
      rw [goals_of (im := [x, a]) (k := 2) rfl b2, colB_any (p := starW) (k := [x, a].length) (hc 2 (by decide))]
      show 1 * (adjI v.ts y (imAt [x, a] 0) * 1) * cnt starW v 1 [x, a, y] = _
      rw [i1, lastS, Int.one_mul, Int.mul_one, adjI_comm]
    rw [this, sumN_mul_right, ← nb_count]
  rw [cnt_step]
  have : sumN v.n (fun y => colB starW v [x].length y * prodA v y (goals starW [x]) * cnt starW v 2 ([x] ++ [y])) = sumN v.n fun y => adjI v.ts x y * (((v.nb x).length : Int) * (v.nb x).length) := sumN_congr fun y _ _ => by
    rw [goals_of (im := [x]) (k := 1) rfl b1, colB_any (p := starW) (k := [x].length) (hc 1 (by decide))]
    show 1 * (adjI v.ts y (imAt [x] 0) * 1) * cnt starW v 2 [x, y] = _
    rw [i1, midS, Int.one_mul, Int.mul_one, adjI_comm]
  rw [this, sumN_mul_right, ← nb_count, Int.one_mul, Int.one_mul, Int.mul_assoc]
end FB
set_option Elab.async false
set_option autoImplicit false
set_option linter.all false
set_option maxRecDepth 100000
/-! The plain law: which webs are webs. -/
namespace FB
open FP
theorem okW_plain {n : Nat} {ts : List (Int × Int)} (hn : n ≤ 6) (ht : ∀ t ∈ ts, 0 ≤ t.1 ∧ t.1 < t.2 ∧ t.2 < (n : Int)) (ha : ts.Pairwise PLt) (hl : ts.length ≤ 5000) : OkW (plainW n ts) := by
  refine ⟨by show (List.replicate n (-1 : Int)).length ≤ 40; rw [List.length_replicate]; omega, fun c hc => ?_, fun t h => ?_, ha, hl⟩
  · have := List.eq_of_mem_replicate (show c ∈ List.replicate n (-1 : Int) from hc)
    omega
  · show 0 ≤ t.1 ∧ t.1 < t.2 ∧ t.2 < ((List.replicate n (-1 : Int)).length : Int)
    rw [List.length_replicate]
    exact ht t h
theorem ringT_ok {n : Nat} (h : 2 ≤ n) : (∀ t ∈ ringT n, 0 ≤ t.1 ∧ t.1 < t.2 ∧ t.2 < (n : Int)) ∧ (ringT n).length ≤ n := by
  refine ⟨fun t ht => ?_, ?_⟩
  · unfold ringT at ht
    rw [mem_sortP, List.mem_map] at ht
    obtain ⟨q, hq, rfl⟩ := ht
    obtain ⟨a, ha, rfl⟩ := List.mem_map.mp hq
    rw [mem_pts] at ha
    have h2 := Int.emod_nonneg (a + 1) (show (n : Int) ≠ 0 by omega)
    have h3 := Int.emod_lt_of_pos (a + 1) (show (0 : Int) < n by omega)
    have h4 : (a + 1) % (n : Int) ≠ a := by
      by_cases e : a + 1 < n
      · rw [Int.emod_eq_of_lt (by omega) e]; omega
      · have : a + 1 = n := by omega
        rw [this, Int.emod_self]; omega
    unfold mm
    simp only
    omega
  · have := sortP_len (((pts n).map fun a => (a, (a + 1) % (n : Int))).map mm)
    rw [List.length_map, List.length_map, pts_len] at this
    exact this
theorem okW_ring {n : Nat} (h : 2 ≤ n) (hn : n ≤ 6) : OkW (ringW n) := okW_plain hn (ringT_ok h).1 (sortP_strict _) (Nat.le_trans (ringT_ok h).2 (by omega))
theorem okW_road {n : Nat} (h : 2 ≤ n) (hn : n ≤ 6) : OkW (roadW n) := by
  refine okW_plain hn (fun t ht => ?_) ?_ ?_
  · obtain ⟨a, ha, rfl⟩ := List.mem_map.mp ht
    rw [mem_pts] at ha
    simp only
    omega
  · unfold roadT
    rw [List.pairwise_map]
    exact (pts_asc _).imp fun h => .inl h
  · unfold roadT
    rw [List.length_map, pts_len]
    omega
theorem okW_full : OkW (plainW 5 (fullT 5)) := okW_plain (by decide) (fun t ht => mem_fullT.mp ht) (sortP_strict _) (Nat.le_trans (fullT_len (by decide)) (by decide))
theorem okW_star : OkW starW := okW_plain (by decide) (by decide) (by decide) (by decide)
theorem okW_some : OkW someW := ⟨by decide, by decide, by decide, by decide, by decide⟩
theorem okW_rnd : OkW rndW := by
  have h := okW_ring (n := 4) (by decide) (by decide)
  refine ⟨by decide, by decide, fun t ht => ?_, sortP_strict _, h.lim⟩
  have := h.tie t ht
  rw [show (ringW 4).cols.length = 4 from List.length_replicate] at this
  exact this
/-! ### beside -/
theorem okB_beside {a b : Wb} (oa : OkW a) (ob : OkW b) (hn : a.n + b.n ≤ 40) (hl : a.ts.length + b.ts.length ≤ 5000) : OkW (wBeside a b) := by
  have n1 : (wBeside a b).cols.length = a.n + b.n := wBe_n a b
  refine ⟨by rw [n1]; exact hn, fun c hc => ?_, fun t ht => ?_, ?_, ?_⟩
  · rcases List.mem_append.mp hc with h | h
    · exact oa.col c h
    · exact ob.col c h
  · rw [n1]
    rcases List.mem_append.mp ht with h | h
    · have := oa.tie t h
      have e : a.cols.length = a.n := rfl
      rw [e] at this
      omega
    · obtain ⟨q, hq, rfl⟩ := List.mem_map.mp h
      have := ob.tie q hq
      have e : b.cols.length = b.n := rfl
      rw [e] at this
      simp only
      omega
  · show (a.ts ++ b.ts.map fun t => ((a.n : Int) + t.1, (a.n : Int) + t.2)).Pairwise PLt
    refine List.pairwise_append.mpr ⟨oa.asc, ?_, fun x hx y hy => ?_⟩
    · rw [List.pairwise_map]
      refine ob.asc.imp fun {p q} h => ?_
      unfold PLt at h ⊢
      simp only
      omega
    · obtain ⟨q, hq, rfl⟩ := List.mem_map.mp hy
      have h1 := oa.tie x hx
      have h2 := ob.tie q hq
      have e : a.cols.length = a.n := rfl
      rw [e] at h1
      refine .inl ?_
      simp only
      omega
  · show (a.ts ++ b.ts.map fun t => ((a.n : Int) + t.1, (a.n : Int) + t.2)).length ≤ 5000
    rw [List.length_append, List.length_map]
    exact hl
theorem sumN_split (n m : Nat) (f : Int → Int) : sumN (n + m) f = sumN n f + sumN m fun x => f ((n : Int) + x) := by
  induction m with
  | zero => rw [Nat.add_zero, sumN_zero']; omega
  | succ m ih =>
    rw [show n + (m + 1) = (n + m) + 1 from rfl, sumN_succ, sumN_succ, ih]
    have : ((n + m : Nat) : Int) = (n : Int) + (m : Int) := by omega
    rw [this]
    omega
theorem be_11 {a b : Wb} (oa : OkW a) (ob : OkW b) {x y : Int} (hx : x < a.n) (hy : y < a.n) : adjI (wBeside a b).ts x y = adjI a.ts x y := by
  unfold adjI
  have e : ∀ p q : Int, p < a.n → ((p, q) ∈ (wBeside a b).ts ↔ (p, q) ∈ a.ts) := fun p q hp => by
    show (p, q) ∈ a.ts ++ b.ts.map (fun t => ((a.n : Int) + t.1, (a.n : Int) + t.2)) ↔ _
    rw [List.mem_append]
    constructor
    · rintro (h | h)
      · exact h
      · obtain ⟨t, ht, e⟩ := List.mem_map.mp h
        have := ob.tie t ht
        have e1 := congrArg Prod.fst e
        simp only at e1
        omega
    · exact .inl
  simp only [e x y hx, e y x hy]
theorem be_22 {a b : Wb} (oa : OkW a) (ob : OkW b) {x y : Int} (hx : 0 ≤ x) (hy : 0 ≤ y) : adjI (wBeside a b).ts ((a.n : Int) + x) ((a.n : Int) + y) = adjI b.ts x y := by
  unfold adjI
  have e : ∀ p q : Int, 0 ≤ p → (((a.n : Int) + p, (a.n : Int) + q) ∈ (wBeside a b).ts ↔ (p, q) ∈ b.ts) := fun p q hp => by
    show ((a.n : Int) + p, (a.n : Int) + q) ∈ a.ts ++ b.ts.map (fun t => ((a.n : Int) + t.1, (a.n : Int) + t.2)) ↔ _
    rw [List.mem_append]
    constructor
    · rintro (h | h)
      · have := oa.tie _ h
        have e : a.cols.length = a.n := rfl
        rw [e] at this
        simp only at this
        omega
      · obtain ⟨t, ht, e⟩ := List.mem_map.mp h
        have e1 := congrArg Prod.fst e
        have e2 := congrArg Prod.snd e
        simp only at e1 e2
        have : t = (p, q) := Prod.ext (by simp only; omega) (by simp only; omega)
        rw [← this]; exact ht
    · intro h
      exact .inr (List.mem_map.mpr ⟨(p, q), h, rfl⟩)
  simp only [e x y hx, e y x hy]
theorem be_12 {a b : Wb} (oa : OkW a) (ob : OkW b) {x y : Int} (hx : x < a.n) (hy : 0 ≤ y) : adjI (wBeside a b).ts x ((a.n : Int) + y) = 0 ∧ adjI (wBeside a b).ts ((a.n : Int) + y) x = 0 := by
  have e1 : (x, (a.n : Int) + y) ∉ (wBeside a b).ts := fun h => by
    rcases List.mem_append.mp h with h | h
    · have := oa.tie _ h
      have e : a.cols.length = a.n := rfl
      rw [e] at this
      simp only at this
      omega
    · obtain ⟨t, ht, e⟩ := List.mem_map.mp h
      have := ob.tie t ht
      have e1 := congrArg Prod.fst e
      simp only at e1
      omega
  have e2 : ((a.n : Int) + y, x) ∉ (wBeside a b).ts := fun h => by
    rcases List.mem_append.mp h with h | h
    · have := oa.tie _ h
      have e : a.cols.length = a.n := rfl
      rw [e] at this
      simp only at this
      omega
    · obtain ⟨t, ht, e⟩ := List.mem_map.mp h
      have := ob.tie t ht
      have e1 := congrArg Prod.snd e
      simp only at e1
      omega
  unfold adjI
  constructor
  · rw [if_neg (by rintro (h | h); exact e1 h; exact e2 h)]
  · rw [if_neg (by rintro (h | h); exact e2 h; exact e1 h)]
/-- a table in blocks -/
structure Blk (n m : Nat) (f g h : Int → Int → Int) : Prop where
  b11 : ∀ x y : Int, 0 ≤ x → x < n → 0 ≤ y → y < n → h x y = f x y
  b22 : ∀ x y : Int, 0 ≤ x → x < m → 0 ≤ y → y < m → h ((n : Int) + x) ((n : Int) + y) = g x y
  b12 : ∀ x y : Int, 0 ≤ x → x < n → 0 ≤ y → y < m → h x ((n : Int) + y) = 0
  b21 : ∀ x y : Int, 0 ≤ x → x < n → 0 ≤ y → y < m → h ((n : Int) + y) x = 0
theorem Blk.mul {n m : Nat} {f g h f' g' h' : Int → Int → Int} (A : Blk n m f g h) (B : Blk n m f' g' h') : Blk n m (mulM n f f') (mulM m g g') (mulM (n + m) h h') := by
  refine ⟨fun x y x0 x1 y0 y1 => ?_, fun x y x0 x1 y0 y1 => ?_, fun x y x0 x1 y0 y1 => ?_, fun x y x0 x1 y0 y1 => ?_⟩
  · unfold mulM
    rw [sumN_split]
    have e1 : sumN n (fun c => h x c * h' c y) = sumN n fun c => f x c * f' c y := sumN_congr fun c c0 c1 => by rw [A.b11 x c x0 x1 c0 c1, B.b11 c y c0 c1 y0 y1]
    have e2 : sumN m (fun c => h x ((n : Int) + c) * h' ((n : Int) + c) y) = sumN m fun _ => 0 := sumN_congr fun c c0 c1 => by rw [A.b12 x c x0 x1 c0 c1, Int.zero_mul]
    rw [e1, e2, sumN_zero, Int.add_zero]
  · unfold mulM
    rw [sumN_split]
    have e1 : sumN n (fun c => h ((n : Int) + x) c * h' c ((n : Int) + y)) = sumN n fun _ => 0 := sumN_congr fun c c0 c1 => by rw [A.b21 c x c0 c1 x0 x1, Int.zero_mul]
    have e2 : sumN m (fun c => h ((n : Int) + x) ((n : Int) + c) * h' ((n : Int) + c) ((n : Int) + y)) = sumN m fun c => g x c * g' c y := sumN_congr fun c c0 c1 => by rw [A.b22 x c x0 x1 c0 c1, B.b22 c y c0 c1 y0 y1]
    rw [e1, e2, sumN_zero, Int.zero_add]
  · unfold mulM
    rw [sumN_split]
    have e1 : sumN n (fun c => h x c * h' c ((n : Int) + y)) = sumN n fun _ => 0 := sumN_congr fun c c0 c1 => by rw [B.b12 c y c0 c1 y0 y1, Int.mul_zero]
    have e2 : sumN m (fun c => h x ((n : Int) + c) * h' ((n : Int) + c) ((n : Int) + y)) = sumN m fun _ => 0 := sumN_congr fun c c0 c1 => by rw [A.b12 x c x0 x1 c0 c1, Int.zero_mul]
    rw [e1, e2, sumN_zero, sumN_zero, Int.add_zero]
  · unfold mulM
    rw [sumN_split]
    have e1 : sumN n (fun c => h ((n : Int) + y) c * h' c x) = sumN n fun _ => 0 := sumN_congr fun c c0 c1 => by rw [A.b21 c y c0 c1 y0 y1, Int.zero_mul]
    have e2 : sumN m (fun c => h ((n : Int) + y) ((n : Int) + c) * h' ((n : Int) + c) x) = sumN m fun _ => 0 := sumN_congr fun c c0 c1 => by rw [B.b21 x c x0 x1 c0 c1, Int.mul_zero]
    rw [e1, e2, sumN_zero, sumN_zero, Int.add_zero]
theorem Blk.id (n m : Nat) : Blk n m idM idM idM := by
  refine ⟨fun x y _ _ _ _ => rfl, fun x y _ _ _ _ => ?_, fun x y _ _ _ _ => ?_, fun x y _ _ _ _ => ?_⟩
  · unfold idM
    by_cases e : x = y
    · rw [if_pos e, if_pos (by omega)]
    · rw [if_neg e, if_neg (by omega)]
  · unfold idM; rw [if_neg (by omega)]
  · unfold idM; rw [if_neg (by omega)]
theorem Blk.pow {n m : Nat} {f g h : Int → Int → Int} (A : Blk n m f g h) : ∀ k : Nat, Blk n m (powM n f k) (powM m g k) (powM (n + m) h k)
  | 0 => Blk.id n m
  | k + 1 => (A.pow k).mul A
theorem f_be (a b : Wb) (s : Nat) (oa : OkW a) (ob : OkW b) : tr (wBeside a b).n (wk (wBeside a b) s) = tr a.n (wk a s) + tr b.n (wk b s) := by
  have A : Blk a.n b.n (adjI a.ts) (adjI b.ts) (adjI (wBeside a b).ts) := ⟨fun x y _ x1 _ y1 => be_11 oa ob x1 y1, fun x y x0 _ y0 _ => be_22 oa ob x0 y0, fun x y _ x1 y0 _ => (be_12 oa ob x1 y0).1, fun x y _ x1 y0 _ => (be_12 oa ob x1 y0).2⟩
  have B := A.pow s
  unfold tr wk
  rw [wBe_n, sumN_split]
  congr 1
  · exact sumN_congr fun x x0 x1 => B.b11 x x x0 x1 x0 x1
  · exact sumN_congr fun x x0 x1 => B.b22 x x x0 x1 x0 x1
end FB
set_option Elab.async false
set_option autoImplicit false
set_option linter.all false
set_option maxRecDepth 100000
/-! The plain law: products, opposite webs, known numbers. -/
namespace FB
open FP FA
/-! ### products -/
theorem dm {m s i t c : Int} (hm : 0 < m) (t0 : 0 ≤ t) (t1 : t < m) (c0 : 0 ≤ c) (c1 : c < m) (h : s * m + t = i * m + c) : s = i ∧ t = c := by
  have e : s = i := by
    have h1 : (t + s * m) / m = t / m + s := Int.add_mul_ediv_right t s (by omega)
    have h2 : (c + i * m) / m = c / m + i := Int.add_mul_ediv_right c i (by omega)
    rw [Int.ediv_eq_zero_of_lt t0 t1] at h1
    rw [Int.ediv_eq_zero_of_lt c0 c1] at h2
    have h3 : t + s * m = c + i * m := by omega
    rw [h3, h2] at h1
    omega
  subst e
  exact ⟨rfl, by omega⟩
theorem mul_lt' {s i m : Int} (hm : 0 < m) (h : s < i) : s * m + m ≤ i * m := by
  have h1 : (s + 1) * m ≤ i * m := Int.mul_le_mul_of_nonneg_right (by omega) (by omega)
  rw [Int.add_mul, Int.one_mul] at h1
  exact h1
section
variable {a b : Wb}
theorem mem_tie (oa : OkW a) (ob : OkW b) {p : Int × Int} (h : p ∈ tie1 a b ++ tie2 a b) : ∃ s ∈ a.ts, ∃ t ∈ b.ts, (p = (s.1 * (b.n : Int) + t.1, s.2 * (b.n : Int) + t.2) ∨ p = (s.1 * (b.n : Int) + t.2, s.2 * (b.n : Int) + t.1)) ∧ 0 ≤ p.1 ∧ p.1 < p.2 ∧ p.2 < (a.n : Int) * (b.n : Int) := by
  have key : ∀ s ∈ a.ts, ∀ t ∈ b.ts, ∀ c d : Int, 0 ≤ c → c < b.n → 0 ≤ d → d < b.n → 0 ≤ s.1 * (b.n : Int) + c ∧ s.1 * (b.n : Int) + c < s.2 * (b.n : Int) + d ∧ s.2 * (b.n : Int) + d < (a.n : Int) * (b.n : Int) := fun s hs t ht c d c0 c1 d0 d1 => by
    have h1 := oa.tie s hs
    have e1 : a.cols.length = a.n := rfl
    rw [e1] at h1
    have m0 : 0 < (b.n : Int) := by omega
    have h3 := mul_lt' m0 h1.2.1
    have h4 := mul_lt' m0 h1.2.2
    have h5 : 0 ≤ s.1 * (b.n : Int) := Int.mul_nonneg h1.1 (by omega)
    omega
  rcases List.mem_append.mp h with h | h
  · obtain ⟨l, hl, hp⟩ := List.mem_flatten.mp h
    obtain ⟨s, hs, rfl⟩ := List.mem_map.mp hl
    obtain ⟨t, ht, rfl⟩ := List.mem_map.mp hp
    have h2 := ob.tie t ht
    have e2 : b.cols.length = b.n := rfl
    rw [e2] at h2
    exact ⟨s, hs, t, ht, .inl rfl, key s hs t ht t.1 t.2 (by omega) (by omega) (by omega) (by omega)⟩
  · obtain ⟨l, hl, hp⟩ := List.mem_flatten.mp h
    obtain ⟨s, hs, rfl⟩ := List.mem_map.mp hl
    obtain ⟨t, ht, rfl⟩ := List.mem_map.mp hp
    have h2 := ob.tie t ht
    have e2 : b.cols.length = b.n := rfl
    rw [e2] at h2
    exact ⟨s, hs, t, ht, .inr rfl, key s hs t ht t.2 t.1 (by omega) (by omega) (by omega) (by omega)⟩
theorem mm_id {p : Int × Int} (h : p.1 < p.2) : mm p = p := by
  unfold mm
  exact Prod.ext (by simp only; omega) (by simp only; omega)
theorem mem_wTimes (oa : OkW a) (ob : OkW b) {p : Int × Int} : p ∈ (wTimes a b).ts ↔ p ∈ tie1 a b ++ tie2 a b := by
  show p ∈ sortP ((tie1 a b ++ tie2 a b).map mm) ↔ _
  rw [mem_sortP, List.mem_map]
  constructor
  · rintro ⟨q, hq, rfl⟩
    obtain ⟨s, _, t, _, _, _, h2, _⟩ := mem_tie oa ob hq
    rw [mm_id h2]; exact hq
  · intro h
    obtain ⟨s, _, t, _, _, _, h2, _⟩ := mem_tie oa ob h
    exact ⟨p, h, mm_id h2⟩
theorem okB_times (oa : OkW a) (ob : OkW b) (hn : a.n * b.n ≤ 40) (hl : a.ts.length * b.ts.length ≤ 2000) : FitT a b := by
  have n1 : (wTimes a b).cols.length = a.n * b.n := wTi_n a b
  refine ⟨oa, ob, ⟨by rw [n1]; exact hn, fun c hc => ?_, fun t ht => ?_, sortP_strict _, ?_⟩, hn, hl⟩
  · obtain ⟨p, hp, rfl⟩ := List.mem_map.mp hc
    obtain ⟨l, hl, hp2⟩ := List.mem_flatten.mp hp
    obtain ⟨h, hh, rfl⟩ := List.mem_map.mp hl
    obtain ⟨t, ht, rfl⟩ := List.mem_map.mp hp2
    unfold mixC
    simp only
    split
    · exact oa.col h hh
    · omega
  · rw [n1]
    obtain ⟨_, _, _, _, _, h⟩ := mem_tie oa ob ((mem_wTimes oa ob).mp ht)
    rw [Int.natCast_mul]
    exact h
  · have h1 := sortP_len ((tie1 a b ++ tie2 a b).map mm)
    rw [List.length_map, List.length_append] at h1
    have l1 : (tie1 a b).length = a.ts.length * b.ts.length := flat_len _ _ _
    have l2 : (tie2 a b).length = a.ts.length * b.ts.length := flat_len _ _ _
    show (sortP ((tie1 a b ++ tie2 a b).map mm)).length ≤ 5000
    omega
theorem tie_iff (oa : OkW a) (ob : OkW b) {i j c d : Int} (c0 : 0 ≤ c) (c1 : c < b.n) (d0 : 0 ≤ d) (d1 : d < b.n) : (i * (b.n : Int) + c, j * (b.n : Int) + d) ∈ (wTimes a b).ts ↔ (i, j) ∈ a.ts ∧ ((c, d) ∈ b.ts ∨ (d, c) ∈ b.ts) := by
  rw [mem_wTimes oa ob]
  have m0 : 0 < (b.n : Int) := by omega
  constructor
  · intro h
    obtain ⟨s, hs, t, ht, e, _⟩ := mem_tie oa ob h
    have h2 := ob.tie t ht
    have e2 : b.cols.length = b.n := rfl
    rw [e2] at h2
    rcases e with e | e
    · rw [Prod.mk.injEq] at e
      obtain ⟨x1, x2⟩ := dm m0 c0 c1 (by omega) (by omega) e.1
      obtain ⟨x3, x4⟩ := dm m0 d0 d1 (by omega) (by omega) e.2
      subst x1 x2 x3 x4
      exact ⟨hs, .inl ht⟩
    · rw [Prod.mk.injEq] at e
      obtain ⟨x1, x2⟩ := dm m0 c0 c1 (by omega) (by omega) e.1
      obtain ⟨x3, x4⟩ := dm m0 d0 d1 (by omega) (by omega) e.2
      subst x1 x2 x3 x4
      exact ⟨hs, .inr ht⟩
  · rintro ⟨h1, h2 | h2⟩
    · exact List.mem_append.mpr (.inl (List.mem_flatten.mpr ⟨_, List.mem_map.mpr ⟨(i, j), h1, rfl⟩, List.mem_map.mpr ⟨(c, d), h2, rfl⟩⟩))
    · exact List.mem_append.mpr (.inr (List.mem_flatten.mpr ⟨_, List.mem_map.mpr ⟨(i, j), h1, rfl⟩, List.mem_map.mpr ⟨(d, c), h2, rfl⟩⟩))
theorem adj_times (oa : OkW a) (ob : OkW b) {i j c d : Int} (c0 : 0 ≤ c) (c1 : c < b.n) (d0 : 0 ≤ d) (d1 : d < b.n) : adjI (wTimes a b).ts (i * (b.n : Int) + c) (j * (b.n : Int) + d) = adjI a.ts i j * adjI b.ts c d := by
  unfold adjI
  have hiff : ((i * (b.n : Int) + c, j * (b.n : Int) + d) ∈ (wTimes a b).ts ∨ (j * (b.n : Int) + d, i * (b.n : Int) + c) ∈ (wTimes a b).ts) ↔ (((i, j) ∈ a.ts ∨ (j, i) ∈ a.ts) ∧ ((c, d) ∈ b.ts ∨ (d, c) ∈ b.ts)) := by
    rw [tie_iff oa ob c0 c1 d0 d1, tie_iff oa ob d0 d1 c0 c1]
    constructor
    · rintro (⟨h1, h2⟩ | ⟨h1, h2⟩)
      · exact ⟨.inl h1, h2⟩
      · exact ⟨.inr h1, h2.symm⟩
    · rintro ⟨h1 | h1, h2⟩
      · exact .inl ⟨h1, h2⟩
      · exact .inr ⟨h1, h2.symm⟩
  simp only [hiff]
  by_cases h1 : (i, j) ∈ a.ts ∨ (j, i) ∈ a.ts
  · by_cases h2 : (c, d) ∈ b.ts ∨ (d, c) ∈ b.ts
    · rw [if_pos ⟨h1, h2⟩, if_pos h1, if_pos h2]; rfl
    · rw [if_neg (fun h => h2 h.2), if_neg h2, Int.mul_zero]
  · rw [if_neg (fun h => h1 h.1), if_neg h1, Int.zero_mul]
theorem sumN_prod (n m : Nat) (f : Int → Int) : sumN (n * m) f = sumN n fun i => sumN m fun c => f (i * (m : Int) + c) := by
  induction n with
  | zero => rw [Nat.zero_mul]; rfl
  | succ n ih =>
    rw [Nat.succ_mul, sumN_split, ih, sumN_succ]
    congr 1
theorem pow_times (oa : OkW a) (ob : OkW b) : ∀ (k : Nat) {i j c d : Int}, 0 ≤ i → i < a.n → 0 ≤ j → j < a.n → 0 ≤ c → c < b.n → 0 ≤ d → d < b.n →
    powM (a.n * b.n) (adjI (wTimes a b).ts) k (i * (b.n : Int) + c) (j * (b.n : Int) + d) = powM a.n (adjI a.ts) k i j * powM b.n (adjI b.ts) k c d
  | 0, i, j, c, d, _, _, _, _, c0, c1, d0, d1 => by
    show idM _ _ = idM i j * idM c d
    unfold idM
    by_cases h : i = j ∧ c = d
    · rw [h.1, h.2]; simp
    · have h2 : ¬ (i * (b.n : Int) + c = j * (b.n : Int) + d) := fun e => h (dm (by omega) c0 c1 d0 d1 e)
      rw [if_neg h2]
      by_cases e1 : i = j
      · have : ¬ c = d := fun e => h ⟨e1, e⟩
        rw [if_neg this, Int.mul_zero]
      · rw [if_neg e1, Int.zero_mul]
  | k + 1, i, j, c, d, i0, i1, j0, j1, c0, c1, d0, d1 => by
    show sumN (a.n * b.n) _ = sumN a.n _ * sumN b.n _
    rw [sumN_prod]
    have e1 : sumN a.n (fun p => sumN b.n fun q => powM (a.n * b.n) (adjI (wTimes a b).ts) k (i * (b.n : Int) + c) (p * (b.n : Int) + q) * adjI (wTimes a b).ts (p * (b.n : Int) + q) (j * (b.n : Int) + d)) =
        sumN a.n fun p => (powM a.n (adjI a.ts) k i p * adjI a.ts p j) * sumN b.n fun q => powM b.n (adjI b.ts) k c q * adjI b.ts q d := sumN_congr fun p p0 p1 => by
      rw [← sumN_mul_left]
      refine sumN_congr fun q q0 q1 => ?_
      rw [pow_times oa ob k i0 i1 p0 p1 c0 c1 q0 q1, adj_times oa ob q0 q1 d0 d1]
      rw [Int.mul_assoc, Int.mul_assoc]
      congr 1
      rw [← Int.mul_assoc, ← Int.mul_assoc, Int.mul_comm (powM b.n (adjI b.ts) k c q)]
    rw [e1, sumN_mul_right]
theorem f_ti (s : Nat) (oa : OkW a) (ob : OkW b) : tr (wTimes a b).n (wk (wTimes a b) s) = tr a.n (wk a s) * tr b.n (wk b s) := by
  unfold tr wk
  rw [wTi_n, sumN_prod]
  have e1 : sumN a.n (fun i => sumN b.n fun c => powM (a.n * b.n) (adjI (wTimes a b).ts) s (i * (b.n : Int) + c) (i * (b.n : Int) + c)) = sumN a.n fun i => powM a.n (adjI a.ts) s i i * sumN b.n fun c => powM b.n (adjI b.ts) s c c := sumN_congr fun i i0 i1 => by
    rw [← sumN_mul_left]
    exact sumN_congr fun c c0 c1 => pow_times oa ob s i0 i1 i0 i1 c0 c1 c0 c1
  rw [e1, sumN_mul_right]
end
/-! ### opposite webs -/
section
variable {v : Wb}
theorem mem_wOpp {p : Int × Int} : p ∈ (wOpp v).ts ↔ 0 ≤ p.1 ∧ p.1 < p.2 ∧ p.2 < (v.n : Int) ∧ v.adj p.1 p.2 = false := by
  have key : ∀ q : Int × Int, q ∈ opPairs v ↔ 0 ≤ q.1 ∧ q.1 < q.2 ∧ q.2 < (v.n : Int) ∧ v.adj q.1 q.2 = false := fun q => by
    unfold opPairs
    rw [List.mem_flatten]
    constructor
    · rintro ⟨l, hl, hq⟩
      obtain ⟨a, ha, rfl⟩ := List.mem_map.mp hl
      obtain ⟨b, hb, rfl⟩ := List.mem_map.mp hq
      rw [List.mem_filter, mem_rngI] at hb
      rw [mem_pts] at ha
      refine ⟨ha.1, by simp only; omega, hb.1.2, ?_⟩
      simpa using hb.2
    · rintro ⟨h1, h2, h3, h4⟩
      exact ⟨_, List.mem_map.mpr ⟨q.1, by rw [mem_pts]; omega, rfl⟩, List.mem_map.mpr ⟨q.2, by rw [List.mem_filter, mem_rngI]; exact ⟨by omega, by rw [h4]; rfl⟩, rfl⟩⟩
  show p ∈ sortP ((opPairs v).map mm) ↔ _
  rw [mem_sortP, List.mem_map, ← key p]
  constructor
  · rintro ⟨q, hq, rfl⟩
    have := (key q).mp hq
    rw [mm_id this.2.1]; exact hq
  · intro h
    have := (key p).mp h
    exact ⟨p, h, mm_id this.2.1⟩
theorem okB_opp (o : OkW v) : OkW (wOpp v) := by
  refine ⟨o.few, o.col, fun t ht => ?_, sortP_strict _, ?_⟩
  · have := mem_wOpp.mp ht
    exact ⟨this.1, this.2.1, this.2.2.1⟩
  · have h1 := sortP_len ((opPairs v).map mm)
    rw [List.length_map] at h1
    have h2 := opPairs_len v o.few
    show (sortP ((opPairs v).map mm)).length ≤ 5000
    omega
theorem adj_opp (o : OkW v) {a b : Int} (a0 : 0 ≤ a) (a1 : a < v.n) (b0 : 0 ≤ b) (b1 : b < v.n) : adjI (wOpp v).ts a b = opM v.ts a b := by
  unfold opM
  rw [adjI_eq v]
  unfold adjI idM
  simp only [mem_wOpp]
  rcases Int.lt_trichotomy a b with h | h | h
  · have n2 : ¬ (0 ≤ b ∧ b < a ∧ a < (v.n : Int) ∧ v.adj b a = false) := fun z => by omega
    rw [if_neg (show ¬ a = b by omega)]
    cases e : v.adj a b with
    | true => rw [if_neg (by rintro (z | z); exact absurd z.2.2.2 (by simp); exact n2 z)]; rfl
    | false => rw [if_pos (.inl ⟨a0, h, b1, rfl⟩)]; rfl
  · subst h
    have hf : v.adj a a = false := by
      cases e : v.adj a a with
      | false => rfl
      | true => exact absurd rfl (Wb.adj_lt o e).2.2.2.2
    rw [if_neg (by rintro (z | z) <;> omega), hf]
    simp
  · have n1 : ¬ (0 ≤ a ∧ a < b ∧ b < (v.n : Int) ∧ v.adj a b = false) := fun z => by omega
    rw [if_neg (show ¬ a = b by omega)]
    rw [Wb.adj_comm v b a]
    cases e : v.adj a b with
    | true => rw [if_neg (by rintro (z | z); exact n1 (by simp at z); exact absurd z.2.2.2 (by simp))]; rfl
    | false => rw [if_pos (.inr ⟨b0, h, a1, rfl⟩)]; rfl
theorem pow_opp (o : OkW v) (k : Nat) {a b : Int} (a0 : 0 ≤ a) (a1 : a < v.n) (b0 : 0 ≤ b) (b1 : b < v.n) : wk (wOpp v) k a b = powM v.n (opM v.ts) k a b :=
  pow_congr (fun x y x0 x1 y0 y1 => adj_opp o x0 x1 y0 y1) k a0 a1 b0 b1
theorem pow3 {n : Nat} {f : Int → Int → Int} {a b : Int} (a0 : 0 ≤ a) (a1 : a < n) : powM n f 3 a b = mulM n (mulM n f f) f a b := by
  refine mul_congr (fun c _ _ => ?_) fun _ _ _ => rfl
  exact mul_congr (fun d _ _ => pow_one a0 a1) fun _ _ _ => rfl
theorem pow4 {n : Nat} {f : Int → Int → Int} {a b : Int} (a0 : 0 ≤ a) (a1 : a < n) : powM n f 4 a b = mulM n (mulM n f f) (mulM n f f) a b := by
  rw [← mul_assoc]
  exact mul_congr (fun c _ _ => pow3 a0 a1) fun _ _ _ => rfl
theorem f_op3 (o : OkW v) : homs (ringW 3) (wOpp v) = tr v.n (mulM v.n (mulM v.n (opM v.ts) (opM v.ts)) (opM v.ts)) := by
  rw [f_ring 3 (wOpp v) (by decide) (by decide)]
  exact sumN_congr fun a a0 a1 => (pow_opp o 3 a0 a1 a0 a1).trans (pow3 a0 a1)
theorem f_opR (o : OkW v) : homs (roadW 4) (wOpp v) = tot v.n (mulM v.n (mulM v.n (opM v.ts) (opM v.ts)) (opM v.ts)) := by
  rw [f_road 4 (wOpp v) (by decide) (by decide)]
  exact sumN_congr fun a a0 a1 => sumN_congr fun b b0 b1 => (pow_opp o 3 a0 a1 b0 b1).trans (pow3 a0 a1)
theorem f_op4 (o : OkW v) : homs (ringW 4) (wOpp v) = tr v.n (mulM v.n (mulM v.n (opM v.ts) (opM v.ts)) (mulM v.n (opM v.ts) (opM v.ts))) := by
  rw [f_ring 4 (wOpp v) (by decide) (by decide)]
  exact sumN_congr fun a a0 a1 => (pow_opp o 4 a0 a1 a0 a1).trans (pow4 a0 a1)
end
/-! ### known numbers -/
/-- powers by a table of them -/
theorem pow_table {n : Nat} {f : Int → Int → Int} {g : Nat → Int → Int → Int} {m : Nat} (h0 : ∀ a ∈ pts n, ∀ b ∈ pts n, g 0 a b = idM a b) (h : ∀ k, k < m → ∀ a ∈ pts n, ∀ b ∈ pts n, sumN n (fun c => g k a c * f c b) = g (k + 1) a b) : ∀ k, k ≤ m → ∀ a ∈ pts n, ∀ b ∈ pts n, powM n f k a b = g k a b
  | 0, _, a, ha, b, hb => (h0 a ha b hb).symm
  | k + 1, hk, a, ha, b, hb => by
    rw [← h k (by omega) a ha b hb]
    refine sumN_congr fun c c0 c1 => ?_
    rw [pow_table h0 h k (by omega) a ha c (mem_pts.mpr ⟨c0, c1⟩)]
theorem tr_table {n : Nat} {f : Int → Int → Int} {g : Nat → Int → Int → Int} {m : Nat} (h0 : ∀ a ∈ pts n, ∀ b ∈ pts n, g 0 a b = idM a b) (h : ∀ k, k < m → ∀ a ∈ pts n, ∀ b ∈ pts n, sumN n (fun c => g k a c * f c b) = g (k + 1) a b) {k : Nat} (hk : k ≤ m) : tr n (powM n f k) = tr n (g k) :=
  sumN_congr fun a a0 a1 => pow_table h0 h k hk a (mem_pts.mpr ⟨a0, a1⟩) a (mem_pts.mpr ⟨a0, a1⟩)
def fullG (k : Nat) (a b : Int) : Int := if a = b then [1, 0, 4, 12, 52, 204, 820].getD k 0 else [0, 1, 3, 13, 51, 205, 819].getD k 0
def oneM (a b : Int) : Int := if a = b then 0 else 1
theorem full_adj {a b : Int} (a0 : 0 ≤ a) (a1 : a < 5) (b0 : 0 ≤ b) (b1 : b < 5) : adjI (plainW 5 (fullT 5)).ts a b = oneM a b := by
  unfold adjI oneM
  show (if (a, b) ∈ fullT 5 ∨ (b, a) ∈ fullT 5 then (1 : Int) else 0) = _
  simp only [mem_fullT]
  by_cases h : a = b
  · rw [if_pos h, if_neg (by omega)]
  · rw [if_neg h, if_pos (by omega)]
theorem f_five1 : homs (ringW 3) (plainW 5 (fullT 5)) = 60 ∧ homs (ringW 4) (plainW 5 (fullT 5)) = 260 ∧ homs (ringW 5) (plainW 5 (fullT 5)) = 1020 ∧ homs (ringW 6) (plainW 5 (fullT 5)) = 4100 := by
  have key : ∀ s, 3 ≤ s → s ≤ 6 → homs (ringW s) (plainW 5 (fullT 5)) = tr 5 (fullG s) := fun s h3 h6 => by
    rw [f_ring s _ h3 h6]
    show tr 5 (powM 5 (adjI (plainW 5 (fullT 5)).ts) s) = _
    have e : tr 5 (powM 5 (adjI (plainW 5 (fullT 5)).ts) s) = tr 5 (powM 5 oneM s) := sumN_congr fun a a0 a1 => pow_congr (fun x y x0 x1 y0 y1 => full_adj x0 x1 y0 y1) s a0 a1 a0 a1
    rw [e]
    exact tr_table (m := 6) (by decide +kernel) (by decide +kernel) h6
  refine ⟨?_, ?_, ?_, ?_⟩
  · rw [key 3 (by decide) (by decide)]; decide +kernel
  · rw [key 4 (by decide) (by decide)]; decide +kernel
  · rw [key 5 (by decide) (by decide)]; decide +kernel
  · rw [key 6 (by decide) (by decide)]; decide +kernel
def fiveG (k : Nat) (a b : Int) : Int := ([[1, 0, 0, 0, 0], [0, 0, 1, 1, 0], [2, 1, 0, 0, 1], [0, 1, 3, 3, 1], [6, 4, 1, 1, 4], [2, 5, 10, 10, 5], [20, 15, 7, 7, 15]].getD k []).getD ((a - b) % 5).toNat 0
def fiveM (a b : Int) : Int := 1 - adjI [(0, 1), (0, 4), (1, 2), (2, 3), (3, 4)] a b - idM a b
theorem f_five2 : homs (ringW 3) (wOpp (ringW 5)) = 0 ∧ homs (ringW 4) (wOpp (ringW 5)) = 30 ∧ homs (ringW 5) (wOpp (ringW 5)) = 10 ∧ homs (ringW 6) (wOpp (ringW 5)) = 100 := by
  have key : ∀ s, 3 ≤ s → s ≤ 6 → homs (ringW s) (wOpp (ringW 5)) = tr 5 (fiveG s) := fun s h3 h6 => by
    rw [f_ring s _ h3 h6]
    have e : tr (wOpp (ringW 5)).n (wk (wOpp (ringW 5)) s) = tr 5 (powM 5 fiveM s) := by
      rw [show (wOpp (ringW 5)).n = 5 from (wOp_n _).trans (plain_n _ _)]
      refine sumN_congr fun a a0 a1 => ?_
      have n5 : (ringW 5).n = 5 := plain_n _ _
      have := pow_opp (v := ringW 5) (okW_ring (by decide) (by decide)) s (a := a) (b := a) a0 (by rw [n5]; exact a1) a0 (by rw [n5]; exact a1)
      rw [this, n5]
      have e2 : opM (ringW 5).ts = fiveM := by
        show opM (ringT 5) = fiveM
        rw [ring5E]
        rfl
      rw [e2]
    rw [e]
    exact tr_table (m := 6) (by decide +kernel) (by decide +kernel) h6
  refine ⟨?_, ?_, ?_, ?_⟩
  · rw [key 3 (by decide) (by decide)]; decide +kernel
  · rw [key 4 (by decide) (by decide)]; decide +kernel
  · rw [key 5 (by decide) (by decide)]; decide +kernel
  · rw [key 6 (by decide) (by decide)]; decide +kernel
/-- all of it -/
theorem facts : Facts where
  ringOk s h3 h6 := okW_ring (by omega) h6
  roadOk s h2 h6 := okW_road h2 h6
  fullOk := okW_full
  starOk := okW_star
  someOk := okW_some
  rndOk := okW_rnd
  ring s v h3 h6 _ := f_ring s v h3 h6
  road s v h3 h5 _ := f_road s v h3 h5
  beOk a b ga gb ha hb := okB_beside ga.ok gb.ok (by omega) (by have := ga.ts; have := gb.ts; omega)
  be a b s oa ob _ _ := f_be a b s oa ob
  tiOk a b ga gb ha hb := okB_times ga.ok gb.ok (Nat.le_trans (Nat.mul_le_mul ha hb) (by decide)) (Nat.le_trans (Nat.mul_le_mul ga.ts gb.ts) (by decide))
  ti a b s oa ob _ _ _ := f_ti s oa ob
  opOk v o := okB_opp o
  op3 v o := f_op3 o
  opR v o := f_opR o
  op4 v o := f_op4 o
  star v _ := f_star v
  some v _ := f_some v
  rnd v _ := f_rnd v
  five1 := f_five1
  five2 := f_five2
end FB
open PySem PySem.W PyProof.Rows in
set_option maxRecDepth 100000 in
set_option maxHeartbeats 0 in
theorem PySem.Challenge.cw_fivealike_k01_whole_closed_walks_holds : PySem.Challenge.rw_fivealike_k01_whole_closed_walks.Holds := by
  w_on; o_law; k_head; (case hw => w_witness2)
  k_fill
  refine FB.walk (l := PySem.Challenge.rw_fivealike_k01_whole_closed_walks) rfl rfl (fun w h Y => PySem.W.kIn_of Y) ?F
  case F =>
    intro w mg fa h KX G hmg
    refine' FB.all_mk FB.facts KX G hmg ?aC ?a_is_whole ?l_is_whole ?c_is_whole ?k_is_whole ?a_is_within ?l_is_within ?c_is_within ?k_is_within ?a_are_colours ?l_are_colours ?c_are_colours ?k_are_colours ?a_is_tie ?l_is_tie ?c_is_tie ?k_is_tie ?a_are_ties ?l_are_ties ?c_are_ties ?k_are_ties ?a_Web_init ?l_Web_init ?c_Web_init ?k_Web_init ?at_Web_colours ?ge_Web_colours ?tk_Web_colours ?rc_Web_colours ?l_Web_colours ?c_Web_colours ?k_Web_colours ?at_Web_ties ?ge_Web_ties ?tk_Web_ties ?rc_Web_ties ?l_Web_ties ?c_Web_ties ?k_Web_ties ?at_Web_degrees ?ge_Web_degrees ?tk_Web_degrees ?rc_Web_degrees ?l_Web_degrees ?c_Web_degrees ?k_Web_degrees ?a_Web_len ?l_Web_len ?c_Web_len ?k_Web_len ?a_is_tied_in ?l_is_tied_in ?c_is_tied_in ?k_is_tied_in ?a_web_of ?l_web_of ?c_web_of ?k_web_of ?a_beside_in ?l_beside_in ?c_beside_in ?k_beside_in ?a_opposite_in ?l_opposite_in ?c_opposite_in ?k_opposite_in ?a_require_web ?l_require_web ?c_require_web ?k_require_web ?a_require_two ?l_require_two ?c_require_two ?k_require_two ?a_need_few_points ?l_need_few_points ?c_need_few_points ?k_need_few_points ?a_beside ?l_beside ?c_beside ?k_beside ?a_opposite ?l_opposite ?c_opposite ?k_opposite ?a_fitting ?l_fitting ?c_fitting ?k_fitting ?a_number_in ?l_number_in ?c_number_in ?k_number_in ?a_map_number_in ?l_map_number_in ?c_map_number_in ?k_map_number_in ?a_times_in ?l_times_in ?c_times_in ?k_times_in ?a_need_few_tries ?l_need_few_tries ?c_need_few_tries ?k_need_few_tries ?a_require_tried ?l_require_tried ?c_require_tried ?k_require_tried ?a_map_number ?l_map_number ?c_map_number ?k_map_number ?a_times ?l_times ?c_times ?k_times ?a__law_dice ?l__law_dice ?c__law_dice ?k__law_dice ?a__law_roll ?l__law_roll ?c__law_roll ?k__law_roll ?a__law_ties ?l__law_ties ?c__law_ties ?k__law_ties ?a__law_ring ?l__law_ring ?c__law_ring ?k__law_ring ?a__law_full ?l__law_full ?c__law_full ?k__law_full ?a__law_drawn ?l__law_drawn ?c__law_drawn ?k__law_drawn ?a__law_plain ?l__law_plain ?c__law_plain ?k__law_plain ?a__law_rows ?l__law_rows ?c__law_rows ?k__law_rows ?a__law_times ?l__law_times ?c__law_times ?k__law_times ?a__law_powers ?l__law_powers ?c__law_powers ?k__law_powers ?a__law_trace ?l__law_trace ?c__law_trace ?k__law_trace ?a__law_road ?l__law_road ?c__law_road ?k__law_road ?a__law_right ?l__law_right ?c__law_right ?k__law_right ?a_law ?l_law ?c_law ?k_law ?z_abs ?z_all ?z_any ?z_bool ?z_enumerate ?z_int ?z_isinstance ?z_len ?z_list ?z_max ?z_min ?z_range ?z_set ?z_sorted ?z_sum ?z_tuple ?z_zip ?g_MOST_POINTS ?g_LEAST_COLOUR ?g_MOST_COLOUR ?g_PAIR ?g_MOST_TRIES ?g_ANY ?pg ?ic ?po ?sa ?ca ?cn ?ct ?cm ?sa0 ?sg0 ?sk0 ?st0 ?sx0 ?sa1 ?sg1 ?sk1 ?st1 ?sx1 ?sa2 ?sg2 ?sk2 ?st2 ?sx2 ?mk ?fi ?kc ?lf
    (case aC => k_is)
    (case a_is_whole => k_is)
    (case l_is_whole => k_is)
    (case c_is_whole => k_is)
    (case k_is_whole => k_is)
    (case a_is_within => k_is)
    (case l_is_within => k_is)
    (case c_is_within => k_is)
    (case k_is_within => k_is)
    (case a_are_colours => k_is)
    (case l_are_colours => k_is)
    (case c_are_colours => k_is)
    (case k_are_colours => k_is)
    (case a_is_tie => k_is)
    (case l_is_tie => k_is)
    (case c_is_tie => k_is)
    (case k_is_tie => k_is)
    (case a_are_ties => k_is)
    (case l_are_ties => k_is)
    (case c_are_ties => k_is)
    (case k_are_ties => k_is)
    (case a_Web_init => k_is)
    (case l_Web_init => k_is)
    (case c_Web_init => k_is)
    (case k_Web_init => k_is)
    (case at_Web_colours => k_is)
    (case ge_Web_colours => k_is)
    (case tk_Web_colours => k_is)
    (case rc_Web_colours => k_is)
    (case l_Web_colours => k_is)
    (case c_Web_colours => k_is)
    (case k_Web_colours => k_is)
    (case at_Web_ties => k_is)
    (case ge_Web_ties => k_is)
    (case tk_Web_ties => k_is)
    (case rc_Web_ties => k_is)
    (case l_Web_ties => k_is)
    (case c_Web_ties => k_is)
    (case k_Web_ties => k_is)
    (case at_Web_degrees => k_is)
    (case ge_Web_degrees => k_is)
    (case tk_Web_degrees => k_is)
    (case rc_Web_degrees => k_is)
    (case l_Web_degrees => k_is)
    (case c_Web_degrees => k_is)
    (case k_Web_degrees => k_is)
    (case a_Web_len => k_is)
    (case l_Web_len => k_is)
    (case c_Web_len => k_is)
    (case k_Web_len => k_is)
    (case a_is_tied_in => k_is)
    (case l_is_tied_in => k_is)
    (case c_is_tied_in => k_is)
    (case k_is_tied_in => k_is)
    (case a_web_of => k_is)
    (case l_web_of => k_is)
    (case c_web_of => k_is)
    (case k_web_of => k_is)
    (case a_beside_in => k_is)
    (case l_beside_in => k_is)
    (case c_beside_in => k_is)
    (case k_beside_in => k_is)
    (case a_opposite_in => k_is)
    (case l_opposite_in => k_is)
    (case c_opposite_in => k_is)
    (case k_opposite_in => k_is)
    (case a_require_web => k_is)
    (case l_require_web => k_is)
    (case c_require_web => k_is)
    (case k_require_web => k_is)
    (case a_require_two => k_is)
    (case l_require_two => k_is)
    (case c_require_two => k_is)
    (case k_require_two => k_is)
    (case a_need_few_points => k_is)
    (case l_need_few_points => k_is)
    (case c_need_few_points => k_is)
    (case k_need_few_points => k_is)
    (case a_beside => k_is)
    (case l_beside => k_is)
    (case c_beside => k_is)
    (case k_beside => k_is)
    (case a_opposite => k_is)
    (case l_opposite => k_is)
    (case c_opposite => k_is)
    (case k_opposite => k_is)
    (case a_fitting => k_is)
    (case l_fitting => k_is)
    (case c_fitting => k_is)
    (case k_fitting => k_is)
    (case a_number_in => k_is)
    (case l_number_in => k_is)
    (case c_number_in => k_is)
    (case k_number_in => k_is)
    (case a_map_number_in => k_is)
    (case l_map_number_in => k_is)
    (case c_map_number_in => k_is)
    (case k_map_number_in => k_is)
    (case a_times_in => k_is)
    (case l_times_in => k_is)
    (case c_times_in => k_is)
    (case k_times_in => k_is)
    (case a_need_few_tries => k_is)
    (case l_need_few_tries => k_is)
    (case c_need_few_tries => k_is)
    (case k_need_few_tries => k_is)
    (case a_require_tried => k_is)
    (case l_require_tried => k_is)
    (case c_require_tried => k_is)
    (case k_require_tried => k_is)
    (case a_map_number => k_is)
    (case l_map_number => k_is)
    (case c_map_number => k_is)
    (case k_map_number => k_is)
    (case a_times => k_is)
    (case l_times => k_is)
    (case c_times => k_is)
    (case k_times => k_is)
    (case a__law_dice => k_is)
    (case l__law_dice => k_is)
    (case c__law_dice => k_is)
    (case k__law_dice => k_is)
    (case a__law_roll => k_is)
    (case l__law_roll => k_is)
    (case c__law_roll => k_is)
    (case k__law_roll => k_is)
    (case a__law_ties => k_is)
    (case l__law_ties => k_is)
    (case c__law_ties => k_is)
    (case k__law_ties => k_is)
    (case a__law_ring => k_is)
    (case l__law_ring => k_is)
    (case c__law_ring => k_is)
    (case k__law_ring => k_is)
    (case a__law_full => k_is)
    (case l__law_full => k_is)
    (case c__law_full => k_is)
    (case k__law_full => k_is)
    (case a__law_drawn => k_is)
    (case l__law_drawn => k_is)
    (case c__law_drawn => k_is)
    (case k__law_drawn => k_is)
    (case a__law_plain => k_is)
    (case l__law_plain => k_is)
    (case c__law_plain => k_is)
    (case k__law_plain => k_is)
    (case a__law_rows => k_is)
    (case l__law_rows => k_is)
    (case c__law_rows => k_is)
    (case k__law_rows => k_is)
    (case a__law_times => k_is)
    (case l__law_times => k_is)
    (case c__law_times => k_is)
    (case k__law_times => k_is)
    (case a__law_powers => k_is)
    (case l__law_powers => k_is)
    (case c__law_powers => k_is)
    (case k__law_powers => k_is)
    (case a__law_trace => k_is)
    (case l__law_trace => k_is)
    (case c__law_trace => k_is)
    (case k__law_trace => k_is)
    (case a__law_road => k_is)
    (case l__law_road => k_is)
    (case c__law_road => k_is)
    (case k__law_road => k_is)
    (case a__law_right => k_is)
    (case l__law_right => k_is)
    (case c__law_right => k_is)
    (case k__law_right => k_is)
    (case a_law => k_is)
    (case l_law => k_is)
    (case c_law => k_is)
    (case k_law => k_is)
    (case z_abs => k_is)
    (case z_all => k_is)
    (case z_any => k_is)
    (case z_bool => k_is)
    (case z_enumerate => k_is)
    (case z_int => k_is)
    (case z_isinstance => k_is)
    (case z_len => k_is)
    (case z_list => k_is)
    (case z_max => k_is)
    (case z_min => k_is)
    (case z_range => k_is)
    (case z_set => k_is)
    (case z_sorted => k_is)
    (case z_sum => k_is)
    (case z_tuple => k_is)
    (case z_zip => k_is)
    (case g_MOST_POINTS => k_is)
    (case g_LEAST_COLOUR => k_is)
    (case g_MOST_COLOUR => k_is)
    (case g_PAIR => k_is)
    (case g_MOST_TRIES => k_is)
    (case g_ANY => k_is)
    (case pg => k_is)
    (case ic => k_is)
    (case po => k_is)
    (case sa => k_is)
    (case ca => k_is)
    (case cn => k_is)
    (case ct => k_is)
    (case cm => k_is)
    (case sa0 => k_is)
    (case sg0 => k_is)
    (case sk0 => k_is)
    (case st0 => k_is)
    (case sx0 => k_is)
    (case sa1 => k_is)
    (case sg1 => k_is)
    (case sk1 => k_is)
    (case st1 => k_is)
    (case sx1 => k_is)
    (case sa2 => k_is)
    (case sg2 => k_is)
    (case sk2 => k_is)
    (case st2 => k_is)
    (case sx2 => k_is)
    (case mk => k_is)
    (case fi => k_is)
    (case kc => k_is)
    (case lf => k_is)
