import PyProof.Rows.All
import Wide.All
import OpenK.AllK
import Wide.FinOn
import HandS.ForMost
import HandS.Wide
import HandS.Gcd
import HandS.Zip
import HandS.IsInst
import HandS.Flow
import HandS.Defaults
import HandS.OwnEq
import HandS.TupAny
import HandS.SlotsOwn
import HandS.Walk
import KE.GoesMore
import KE.KDictPairs
import HandS.Exc
import HandS.ExcOwn
import HandS.ExcInit
import HandS.ExcField
import HandS.Words
import KE.SortKeyHeap
import KE.KLam
import KE.KDictList
import KE.KDictSum
import HandS.Lambda
import HandS.SortKw
import HandS.More
import HandS.WordsDict
import HandS.DictComp
import HandS.TryOnly
import HandS.WordsExc
import HandS.Hot
import HandS.HotCalls
import HandS.ExcInitHot
import HandS.ExcCtx
import KE.Datum
import KE.KStateDown
import HandS.Head0
import HandS.Head1
import HandS.Head2
import HandS.Head3
import HandS.HeadEnd
import HandS.HeadHook1
import HandS.HeadHook2
import HandS.HeadHook3
import HandS.HeadHook4
import HandS.HeadWalk
import PySem.Challenge.RW_plumbnet_k43_whole_datums_and_functions
set_option Elab.async false
/-! PnA: sums, dot products, matrices applied; vectors are functions Nat -> Rat read below n. -/
namespace PN
def sm : Nat → (Nat → Rat) → Rat
  | 0, _ => 0
  | n + 1, f => sm n f + f n
theorem sm_congr : ∀ {n : Nat} {f g : Nat → Rat}, (∀ i, i < n → f i = g i) → sm n f = sm n g
  | 0, _, _, _ => rfl
  | n + 1, f, g, h => by
    show sm n f + f n = sm n g + g n
    rw [sm_congr (n := n) fun i hi => h i (by omega), h n (by omega)]
theorem sm_zero : ∀ {n : Nat} {f : Nat → Rat}, (∀ i, i < n → f i = 0) → sm n f = 0
  | 0, _, _ => rfl
  | n + 1, f, h => by
    show sm n f + f n = 0
    rw [sm_zero (n := n) fun i hi => h i (by omega), h n (by omega)]
    grind
theorem sm_add : ∀ (n : Nat) (f g : Nat → Rat), sm n (fun i => f i + g i) = sm n f + sm n g
  | 0, _, _ => by simp only [sm]; grind
  | n + 1, f, g => by simp only [sm]; rw [sm_add n f g]; grind
theorem sm_sub : ∀ (n : Nat) (f g : Nat → Rat), sm n (fun i => f i - g i) = sm n f - sm n g
  | 0, _, _ => by simp only [sm]; grind
  | n + 1, f, g => by simp only [sm]; rw [sm_sub n f g]; grind
theorem sm_mul : ∀ (n : Nat) (c : Rat) (f : Nat → Rat), sm n (fun i => c * f i) = c * sm n f
  | 0, _, _ => by simp only [sm]; grind
  | n + 1, c, f => by simp only [sm]; rw [sm_mul n c f]; grind
theorem sm_comm : ∀ (n m : Nat) (f : Nat → Nat → Rat), sm n (fun i => sm m (fun j => f i j)) = sm m (fun j => sm n (fun i => f i j))
  | 0, m, f => by
    show (0 : Rat) = sm m fun j => 0
    rw [sm_zero fun _ _ => rfl]
  | n + 1, m, f => by
    show sm n (fun i => sm m (fun j => f i j)) + sm m (fun j => f n j) = sm m (fun j => sm n (fun i => f i j) + f n j)
    rw [sm_add, sm_comm n m f]
theorem sm_nonneg : ∀ {n : Nat} {f : Nat → Rat}, (∀ i, i < n → 0 ≤ f i) → 0 ≤ sm n f
  | 0, _, _ => Rat.le_refl
  | n + 1, f, h => Rat.add_nonneg (sm_nonneg fun i hi => h i (by omega)) (h n (by omega))
theorem sq_nonneg (a : Rat) : 0 ≤ a * a := by
  rcases Rat.le_total (a := 0) (b := a) with h | h
  · exact Rat.mul_nonneg h h
  · have h2 : 0 ≤ -a := by grind
    have := Rat.mul_nonneg h2 h2
    grind
theorem sm_nonneg_zero : ∀ {n : Nat} {f : Nat → Rat}, (∀ i, i < n → 0 ≤ f i) → sm n f = 0 → ∀ i, i < n → f i = 0
  | 0, _, _, _, i, hi => by omega
  | n + 1, f, h, e, i, hi => by
    have h1 : 0 ≤ sm n f := sm_nonneg fun i hi => h i (by omega)
    have h2 := h n (by omega)
    have e' : sm n f + f n = 0 := e
    have e1 : sm n f = 0 := by grind
    have e2 : f n = 0 := by grind
    by_cases hin : i = n
    · rw [hin]; exact e2
    · exact sm_nonneg_zero (fun i hi => h i (by omega)) e1 i (by omega)
theorem sm_single : ∀ {n : Nat} (j : Nat) (f : Nat → Rat), j < n → (∀ i, i < n → i ≠ j → f i = 0) → sm n f = f j
  | 0, j, _, h, _ => by omega
  | n + 1, j, f, h, z => by
    show sm n f + f n = f j
    by_cases e : j = n
    · subst e
      rw [sm_zero fun i hi => z i (by omega) (by omega)]
      grind
    · rw [sm_single j f (by omega) fun i hi hn => z i (by omega) hn, z n (by omega) (by omega)]
      grind

/-- dot product -/
def dt (n : Nat) (x y : Nat → Rat) : Rat := sm n fun i => x i * y i
theorem dt_congr {n : Nat} {x x' y y' : Nat → Rat} (h : ∀ i, i < n → x i = x' i) (h' : ∀ i, i < n → y i = y' i) : dt n x y = dt n x' y' :=
  sm_congr fun i hi => by rw [h i hi, h' i hi]
theorem dt_comm (n : Nat) (x y : Nat → Rat) : dt n x y = dt n y x := sm_congr fun i _ => by grind
theorem dt_add (n : Nat) (x y z : Nat → Rat) : dt n x (fun i => y i + z i) = dt n x y + dt n x z := by
  unfold dt
  rw [← sm_add]
  exact sm_congr fun i _ => by grind
theorem dt_sub (n : Nat) (x y z : Nat → Rat) : dt n x (fun i => y i - z i) = dt n x y - dt n x z := by
  unfold dt
  rw [← sm_sub]
  exact sm_congr fun i _ => by grind
theorem dt_smul (n : Nat) (c : Rat) (x y : Nat → Rat) : dt n x (fun i => c * y i) = c * dt n x y := by
  unfold dt
  rw [← sm_mul]
  exact sm_congr fun i _ => by grind
theorem dt_add_l (n : Nat) (x y z : Nat → Rat) : dt n (fun i => x i + y i) z = dt n x z + dt n y z := by
  rw [dt_comm, dt_add, dt_comm n z x, dt_comm n z y]
theorem dt_sub_l (n : Nat) (x y z : Nat → Rat) : dt n (fun i => x i - y i) z = dt n x z - dt n y z := by
  rw [dt_comm, dt_sub, dt_comm n z x, dt_comm n z y]
theorem dt_smul_l (n : Nat) (c : Rat) (x y : Nat → Rat) : dt n (fun i => c * x i) y = c * dt n x y := by
  rw [dt_comm, dt_smul, dt_comm n y x]
theorem dt_zero {n : Nat} {x y : Nat → Rat} (h : ∀ i, i < n → y i = 0) : dt n x y = 0 := sm_zero fun i hi => by rw [h i hi]; grind
theorem dt_zero_l {n : Nat} {x y : Nat → Rat} (h : ∀ i, i < n → x i = 0) : dt n x y = 0 := by rw [dt_comm]; exact dt_zero h
/-- a linear combination -/
theorem dt_comb (n r : Nat) (x : Nat → Rat) (z : Nat → Rat) (B : Nat → Nat → Rat) : dt n x (fun i => sm r fun k => z k * B k i) = sm r fun k => z k * dt n x (B k) := by
  unfold dt
  have e : (fun i => x i * sm r fun k => z k * B k i) = fun i => sm r fun k => x i * (z k * B k i) := by
    funext i; rw [sm_mul]
  rw [e, sm_comm]
  refine sm_congr fun k _ => ?_
  rw [← sm_mul]
  exact sm_congr fun i _ => by grind
theorem dt_self_nonneg (n : Nat) (x : Nat → Rat) : 0 ≤ dt n x x := sm_nonneg fun i _ => sq_nonneg _
theorem sq_zero {a : Rat} (h : a * a = 0) : a = 0 := by
  rcases Rat.mul_eq_zero.mp h with h | h <;> exact h
theorem dt_self_zero {n : Nat} {x : Nat → Rat} (h : dt n x x = 0) : ∀ i, i < n → x i = 0 := fun i hi =>
  sq_zero (sm_nonneg_zero (fun i _ => sq_nonneg (x i)) h i hi)
/-- the unit vector -/
def un (j : Nat) : Nat → Rat := fun i => if i = j then 1 else 0
theorem dt_un {n j : Nat} (x : Nat → Rat) (h : j < n) : dt n (un j) x = x j := by
  unfold dt
  rw [sm_single j (fun i => un j i * x i) h fun i _ hn => by unfold un; rw [if_neg hn]; grind]
  unfold un
  rw [if_pos rfl]; grind
theorem dt_un_r {n j : Nat} (x : Nat → Rat) (h : j < n) : dt n x (un j) = x j := by rw [dt_comm]; exact dt_un x h
/-- a vector is told by its dot products -/
theorem ext_dt {n : Nat} {x y : Nat → Rat} (h : ∀ z, dt n z x = dt n z y) : ∀ i, i < n → x i = y i := fun i hi => by
  rw [← dt_un x hi, ← dt_un y hi]; exact h _

/-- a matrix applied -/
def ap (n : Nat) (M : Nat → Nat → Rat) (y : Nat → Rat) : Nat → Rat := fun i => dt n (M i) y
theorem ap_add (n : Nat) (M : Nat → Nat → Rat) (y z : Nat → Rat) : ap n M (fun i => y i + z i) = fun i => ap n M y i + ap n M z i := by
  funext i; exact dt_add n (M i) y z
theorem ap_sub (n : Nat) (M : Nat → Nat → Rat) (y z : Nat → Rat) : ap n M (fun i => y i - z i) = fun i => ap n M y i - ap n M z i := by
  funext i; exact dt_sub n (M i) y z
theorem ap_smul (n : Nat) (c : Rat) (M : Nat → Nat → Rat) (y : Nat → Rat) : ap n M (fun i => c * y i) = fun i => c * ap n M y i := by
  funext i; exact dt_smul n c (M i) y
theorem ap_congr {n : Nat} {M : Nat → Nat → Rat} {y z : Nat → Rat} (h : ∀ i, i < n → y i = z i) : ap n M y = ap n M z := by
  funext i; exact dt_congr (fun _ _ => rfl) h
theorem ap_comb (n r : Nat) (M : Nat → Nat → Rat) (z : Nat → Rat) (B : Nat → Nat → Rat) : ap n M (fun i => sm r fun k => z k * B k i) = fun i => sm r fun k => z k * ap n M (B k) i := by
  funext i; exact dt_comb n r (M i) z B
/-- an outer product added -/
theorem dt_outer (n : Nat) (c : Rat) (P : Nat → Nat → Rat) (a b x y : Nat → Rat) : dt n x (ap n (fun i j => P i j + c * (a i * b j)) y) = dt n x (ap n P y) + c * (dt n x a * dt n b y) := by
  have e : ∀ i, ap n (fun i j => P i j + c * (a i * b j)) y i = ap n P y i + (c * dt n b y) * a i := fun i => by
    show dt n (fun j => P i j + c * (a i * b j)) y = dt n (P i) y + (c * dt n b y) * a i
    rw [dt_add_l]
    have e2 : (fun j => c * (a i * b j)) = fun j => (c * a i) * b j := by funext j; grind
    rw [e2, dt_smul_l]
    grind
  rw [dt_congr (fun _ _ => rfl) fun i _ => e i, dt_add, dt_smul]
  grind
theorem ap_outer (n : Nat) (c : Rat) (P : Nat → Nat → Rat) (a b y : Nat → Rat) (i : Nat) : ap n (fun i j => P i j + c * (a i * b j)) y i = ap n P y i + (c * dt n b y) * a i := by
  show dt n (fun j => P i j + c * (a i * b j)) y = dt n (P i) y + (c * dt n b y) * a i
  rw [dt_add_l]
  have e2 : (fun j => c * (a i * b j)) = fun j => (c * a i) * b j := by funext j; grind
  rw [e2, dt_smul_l]
  grind
end PN

set_option Elab.async false
set_option linter.all false
/-! PnB: the pseudo-inverse kept under added terms. -/
namespace PN
/-- what the law needs of the kept matrices: n points, m readings with rows A k and weights W k; M the normal matrix, P its pseudo-inverse; the rows with the places ix k (k < r) are a basis of the rows -/
structure Good (n m r : Nat) (A : Nat → Nat → Rat) (W : Nat → Rat) (M P : Nat → Nat → Rat) (ix : Nat → Nat) : Prop where
  wpos : ∀ k, k < m → 0 < W k
  mform : ∀ x y, dt n x (ap n M y) = sm m fun k => W k * (dt n (A k) x * dt n (A k) y)
  sym : ∀ x y, dt n x (ap n P y) = dt n y (ap n P x)
  psd : ∀ x, 0 ≤ dt n x (ap n P x)
  proj : ∀ x y, dt n x (ap n M (ap n P y)) = dt n y (ap n M (ap n P x))
  fix : ∀ k, k < m → ∀ x, dt n x (ap n M (ap n P (A k))) = dt n x (A k)
  ixm : ∀ k, k < r → ix k < m
  indep : ∀ z : Nat → Rat, (∀ x, sm r (fun k => z k * dt n x (A (ix k))) = 0) → ∀ k, k < r → z k = 0
  spanA : ∀ k, k < m → ∃ z : Nat → Rat, ∀ x, dt n x (A k) = sm r fun j => z j * dt n x (A (ix j))
  spanP : ∀ y, ∃ z : Nat → Rat, ∀ x, dt n x (ap n P y) = sm r fun j => z j * dt n x (A (ix j))
  tr : sm n (fun j => dt n (un j) (ap n M (ap n P (un j)))) = (r : Rat)

section
variable {n m r : Nat} {A : Nat → Nat → Rat} {W : Nat → Rat} {M P : Nat → Nat → Rat} {ix : Nat → Nat}
theorem Good.msym (G : Good n m r A W M P ix) (x y : Nat → Rat) : dt n x (ap n M y) = dt n y (ap n M x) := by
  rw [G.mform, G.mform]
  exact sm_congr fun k _ => by grind
/-- M y lies in the span of the rows' basis -/
theorem span_comb {B : Nat → Nat → Rat} {ix : Nat → Nat} {q : Nat} (c : Nat → Rat) (h : ∀ k, k < q → ∃ z : Nat → Rat, ∀ x, dt n x (B k) = sm r fun j => z j * dt n x (A (ix j))) :
    ∃ z : Nat → Rat, ∀ x, sm q (fun k => c k * dt n x (B k)) = sm r fun j => z j * dt n x (A (ix j)) := by
  induction q with
  | zero => exact ⟨fun _ => 0, fun x => by show (0 : Rat) = _; rw [sm_zero fun i _ => by grind]⟩
  | succ q ih =>
    obtain ⟨z1, h1⟩ := ih fun k hk => h k (by omega)
    obtain ⟨z2, h2⟩ := h q (by omega)
    refine ⟨fun j => z1 j + c q * z2 j, fun x => ?_⟩
    show sm q _ + c q * dt n x (B q) = _
    rw [h1, h2, ← sm_mul, ← sm_add]
    exact sm_congr fun j _ => by grind
theorem Good.spanM (G : Good n m r A W M P ix) (y : Nat → Rat) : ∃ z : Nat → Rat, ∀ x, dt n x (ap n M y) = sm r fun j => z j * dt n x (A (ix j)) := by
  obtain ⟨z, h⟩ := span_comb (q := m) (B := A) (A := A) (fun k => W k * dt n (A k) y) G.spanA
  refine ⟨z, fun x => ?_⟩
  rw [← h, G.mform]
  exact sm_congr fun k _ => by rw [dt_comm n (A k) x]; grind
/-- what is orthogonal to the rows is orthogonal to P y -/
theorem Good.orth (G : Good n m r A W M P ix) {v : Nat → Rat} (h : ∀ k, k < m → dt n v (A k) = 0) (y : Nat → Rat) : dt n v (ap n P y) = 0 := by
  obtain ⟨z, hz⟩ := G.spanP y
  rw [hz]
  exact sm_zero fun j hj => by rw [h _ (G.ixm j hj)]; grind
theorem Good.orthM (G : Good n m r A W M P ix) {v : Nat → Rat} (h : ∀ k, k < m → dt n v (A k) = 0) (y : Nat → Rat) : dt n v (ap n M y) = 0 := by
  rw [G.mform]
  exact sm_zero fun j hj => by rw [dt_comm n (A j) v, h j hj]; grind
theorem Good.swap (G : Good n m r A W M P ix) (x v : Nat → Rat) : dt n x (ap n M (ap n P v)) = dt n v (ap n P (ap n M x)) := by
  rw [G.msym x, dt_comm n (ap n P v), G.sym]
/-- what is fixed by M P: the basis' span -/
theorem Good.fixS (G : Good n m r A W M P ix) {v : Nat → Rat} (hv : ∃ z : Nat → Rat, ∀ x, dt n x v = sm r fun j => z j * dt n x (A (ix j))) (x : Nat → Rat) : dt n x (ap n M (ap n P v)) = dt n x v := by
  obtain ⟨z, hz⟩ := hv
  rw [G.swap, dt_comm, hz, hz]
  refine sm_congr fun j hj => ?_
  rw [dt_comm n _ (A (ix j)), ← G.swap, G.fix _ (G.ixm j hj)]
theorem Good.share (G : Good n m r A W M P ix) (a : Nat → Rat) : 0 ≤ dt n a (ap n P a) := G.psd a
/-- the trace of a projection: r is at most n -/
theorem Good.diag (G : Good n m r A W M P ix) (x : Nat → Rat) : dt n x (ap n M (ap n P x)) ≤ dt n x x := by
  -- q = E x with E x = M P x; x.E x = E x . E x
  have h1 : dt n (ap n M (ap n P x)) (ap n M (ap n P x)) = dt n x (ap n M (ap n P x)) := by
    rw [G.proj (ap n M (ap n P x)) x]
    exact G.fixS (G.spanM _) x
  have h2 := dt_self_nonneg n (fun i => x i - ap n M (ap n P x) i)
  rw [dt_sub, dt_sub_l, dt_sub_l, h1, dt_comm n (ap n M (ap n P x)) x] at h2
  grind
end
end PN

set_option Elab.async false
set_option linter.all false
/-! PnC: a reading added. -/
namespace PN
def snoc {α : Type} (m : Nat) (A : Nat → α) (a : α) : Nat → α := fun k => if k = m then a else A k
theorem snoc_at {α : Type} (m : Nat) (A : Nat → α) (a : α) : snoc m A a m = a := if_pos rfl
theorem snoc_lt {α : Type} {m k : Nat} (A : Nat → α) (a : α) (h : k < m) : snoc m A a k = A k := if_neg (by omega)
theorem sm_snoc (m : Nat) (f : Nat → Rat) (g : Nat → Rat) (h : ∀ k, k < m → f k = g k) : sm (m + 1) f = sm m g + f m := by
  show sm m f + f m = _
  rw [sm_congr h]
theorem one_add_pos {w s : Rat} (hw : 0 < w) (hs : 0 ≤ s) : 0 < 1 + w * s := by
  have := Rat.mul_nonneg (Rat.le_of_lt hw) hs
  grind
/-- the matrix with a term -/
def addT (w : Rat) (a : Nat → Rat) (M : Nat → Nat → Rat) : Nat → Nat → Rat := fun i j => M i j + w * (a i * a j)
def addSame (w s : Rat) (g : Nat → Rat) (P : Nat → Nat → Rat) : Nat → Nat → Rat := fun i j => P i j + (-(w / (1 + w * s))) * (g i * g j)
def addMore (w s : Rat) (c g : Nat → Rat) (P : Nat → Nat → Rat) : Nat → Nat → Rat := fun i j => ((P i j + (-1) * (c i * g j)) + (-1) * (g i * c j)) + (1 / w + s) * (c i * c j)
section
variable {n m r : Nat} {A : Nat → Nat → Rat} {W : Nat → Rat} {M P : Nat → Nat → Rat} {ix : Nat → Nat}
theorem mform_add (G : Good n m r A W M P ix) (w : Rat) (a x y : Nat → Rat) :
    dt n x (ap n (addT w a M) y) = sm (m + 1) fun k => snoc m W w k * (dt n (snoc m A a k) x * dt n (snoc m A a k) y) := by
  rw [sm_snoc m _ (fun k => W k * (dt n (A k) x * dt n (A k) y)) fun k hk => by rw [snoc_lt _ _ hk, snoc_lt _ _ hk], snoc_at, snoc_at, ← G.mform]
  unfold addT
  rw [dt_outer, dt_comm n x a]
theorem cauchy (G : Good n m r A W M P ix) (a x : Nat → Rat) : dt n x (ap n P a) * dt n x (ap n P a) ≤ dt n x (ap n P x) * dt n a (ap n P a) := by
  -- (x - t a) P (x - t a) >= 0 for all t
  have q : ∀ t : Rat, 0 ≤ dt n x (ap n P x) - 2 * t * dt n x (ap n P a) + t * t * dt n a (ap n P a) := fun t => by
    have h := G.psd (fun i => x i - t * a i)
    rw [ap_sub, ap_smul, dt_sub, dt_sub_l, dt_sub_l, dt_smul, dt_smul, dt_smul_l, dt_smul_l, G.sym a x] at h
    grind
  have hs := G.psd a
  by_cases e : dt n a (ap n P a) = 0
  · -- then x P a = 0
    by_cases e2 : dt n x (ap n P a) = 0
    · rw [e, e2]; grind
    · exfalso
      have h := q ((dt n x (ap n P x) + 1) / (2 * dt n x (ap n P a)))
      rw [e] at h
      have e3 : 2 * ((dt n x (ap n P x) + 1) / (2 * dt n x (ap n P a))) * dt n x (ap n P a) = dt n x (ap n P x) + 1 := by grind
      grind
  · have h := q (dt n x (ap n P a) / dt n a (ap n P a))
    have hp : 0 < dt n a (ap n P a) := Rat.lt_of_le_of_ne hs (Ne.symm e)
    have h2 := Rat.mul_nonneg h hs
    have e3 : (dt n x (ap n P x) - 2 * (dt n x (ap n P a) / dt n a (ap n P a)) * dt n x (ap n P a) + (dt n x (ap n P a) / dt n a (ap n P a)) * (dt n x (ap n P a) / dt n a (ap n P a)) * dt n a (ap n P a)) * dt n a (ap n P a)
      = dt n x (ap n P x) * dt n a (ap n P a) - dt n x (ap n P a) * dt n x (ap n P a) := by grind
    rw [e3] at h2
    grind
theorem dt_same (w s : Rat) (g x y : Nat → Rat) (P : Nat → Nat → Rat) : dt n x (ap n (addSame w s g P) y) = dt n x (ap n P y) + (-(w / (1 + w * s))) * (dt n x g * dt n g y) := by
  unfold addSame
  rw [dt_outer]
/-- the rest is 0: the row lies in the span -/
theorem Good.same (G : Good n m r A W M P ix) {w : Rat} {a : Nat → Rat} (hw : 0 < w) (hu : ∀ i, i < n → a i - ap n M (ap n P a) i = 0) :
    Good n (m + 1) r (snoc m A a) (snoc m W w) (addT w a M) (addSame w (dt n a (ap n P a)) (ap n P a) P) ix := by
  have hMg : ∀ x, dt n x (ap n M (ap n P a)) = dt n x a := fun x => dt_congr (fun _ _ => rfl) fun i hi => by
    have := hu i hi
    grind
  have hs := G.psd a
  have hp := one_add_pos hw hs
  have hne : 1 + w * dt n a (ap n P a) ≠ 0 := by grind
  have sA : ∀ {k}, k < m + 1 → ∃ z : Nat → Rat, ∀ x, dt n x (snoc m A a k) = sm r fun j => z j * dt n x (A (ix j)) := fun {k} hk => by
    by_cases e : k = m
    · subst e
      obtain ⟨z, hz⟩ := G.spanM (ap n P a)
      exact ⟨z, fun x => by rw [snoc_at, ← hMg, hz]⟩
    · obtain ⟨z, hz⟩ := G.spanA k (by omega)
      exact ⟨z, fun x => by rw [snoc_lt _ _ (by omega), hz]⟩
  have ixe : ∀ {j}, j < r → snoc m A a (ix j) = A (ix j) := fun {j} hj => snoc_lt _ _ (G.ixm j hj)
  -- M' P' = M P
  have key : ∀ x y, dt n x (ap n (addT w a M) (ap n (addSame w (dt n a (ap n P a)) (ap n P a) P) y)) = dt n x (ap n M (ap n P y)) := fun x y => by
    have e1 : ap n (addSame w (dt n a (ap n P a)) (ap n P a) P) y = fun i => ap n P y i + ((-(w / (1 + w * dt n a (ap n P a)))) * dt n (ap n P a) y) * ap n P a i := by
      funext i; unfold addSame; exact ap_outer n _ P _ _ y i
    unfold addT
    rw [e1, dt_outer, ap_add, ap_smul, dt_add, dt_smul, dt_add, dt_smul, hMg, G.sym a y, dt_comm n y (ap n P a)]
    have : dt n (ap n P a) y = dt n y (ap n P a) := dt_comm _ _ _
    grind
  refine ⟨fun k hk => ?_, mform_add G w a, fun x y => ?_, fun x => ?_, fun x y => ?_, fun k hk x => ?_, fun k hk => Nat.lt_succ_of_lt (G.ixm k hk), fun z hz => G.indep z fun x => ?_, fun k hk => ?_, fun y => ?_, ?_⟩
  · by_cases e : k = m
    · subst e; rw [snoc_at]; exact hw
    · rw [snoc_lt _ _ (by omega)]; exact G.wpos k (by omega)
  · rw [dt_same, dt_same, G.sym x y, dt_comm n x (ap n P a), dt_comm n (ap n P a) y]
    grind
  · rw [dt_same, dt_comm n (ap n P a) x]
    have hc := cauchy G a x
    have e3 : dt n x (ap n P x) + -(w / (1 + w * dt n a (ap n P a))) * (dt n x (ap n P a) * dt n x (ap n P a)) = (dt n x (ap n P x) + w * (dt n x (ap n P x) * dt n a (ap n P a) - dt n x (ap n P a) * dt n x (ap n P a))) * (1 + w * dt n a (ap n P a))⁻¹ := by grind
    rw [e3]
    refine Rat.mul_nonneg (Rat.add_nonneg (G.psd x) (Rat.mul_nonneg (Rat.le_of_lt hw) (by grind))) ?_
    exact Rat.le_of_lt (by
      have := Rat.inv_pos.mpr hp
      exact this)
  · rw [key, key]; exact G.proj x y
  · rw [key]
    obtain ⟨z, hz⟩ := sA hk
    exact G.fixS ⟨z, hz⟩ x
  · rw [← hz x]; exact sm_congr fun k hk => by rw [ixe hk]
  · obtain ⟨z, hz⟩ := sA hk
    exact ⟨z, fun x => by rw [hz]; exact sm_congr fun j hj => by rw [ixe hj]⟩
  · obtain ⟨z1, h1⟩ := G.spanP y
    obtain ⟨z2, h2⟩ := G.spanP a
    refine ⟨fun j => z1 j + (-(w / (1 + w * dt n a (ap n P a))) * dt n (ap n P a) y) * z2 j, fun x => ?_⟩
    rw [dt_same, h1]
    have e4 : -(w / (1 + w * dt n a (ap n P a))) * (dt n x (ap n P a) * dt n (ap n P a) y) = (-(w / (1 + w * dt n a (ap n P a))) * dt n (ap n P a) y) * dt n x (ap n P a) := by grind
    rw [e4, h2 x, ← sm_mul, ← sm_add]
    exact sm_congr fun j hj => by rw [ixe hj]; grind
  · rw [← G.tr]
    exact sm_congr fun j _ => key _ _
end
end PN

set_option Elab.async false
set_option linter.all false
/-! PnD: a reading added whose row is new. -/
namespace PN
section
variable {n m r : Nat} {A : Nat → Nat → Rat} {W : Nat → Rat} {M P : Nat → Nat → Rat} {ix : Nat → Nat}
def rest (n : Nat) (M P : Nat → Nat → Rat) (a : Nat → Rat) : Nat → Rat := fun i => a i - ap n M (ap n P a) i
def way (n : Nat) (M P : Nat → Nat → Rat) (a : Nat → Rat) : Nat → Rat := fun i => (1 / dt n (rest n M P a) (rest n M P a)) * rest n M P a i
theorem dt_rest (x a : Nat → Rat) : dt n x (rest n M P a) = dt n x a - dt n x (ap n M (ap n P a)) := by
  unfold rest
  rw [dt_sub]
theorem dt_way (x a : Nat → Rat) : dt n x (way n M P a) = (1 / dt n (rest n M P a) (rest n M P a)) * (dt n x a - dt n x (ap n M (ap n P a))) := by
  unfold way
  rw [dt_smul, dt_rest x a]
theorem Good.rest0 (G : Good n m r A W M P ix) (a : Nat → Rat) {v : Nat → Rat} (hv : ∃ z : Nat → Rat, ∀ x, dt n x v = sm r fun j => z j * dt n x (A (ix j))) : dt n v (rest n M P a) = 0 := by
  rw [dt_rest, G.proj, G.fixS hv, dt_comm n a v]
  grind
theorem dt_more (w s : Rat) (c g x y : Nat → Rat) (P : Nat → Nat → Rat) :
    dt n x (ap n (addMore w s c g P) y) = dt n x (ap n P y) - dt n x c * dt n g y - dt n x g * dt n c y + (1 / w + s) * (dt n x c * dt n c y) := by
  unfold addMore
  rw [dt_outer n (1 / w + s) (fun i j => (P i j + (-1) * (c i * g j)) + (-1) * (g i * c j)) c c x y, dt_outer n (-1) (fun i j => P i j + (-1) * (c i * g j)) g c x y, dt_outer]
  grind
theorem ap_more (w s : Rat) (c g y : Nat → Rat) (P : Nat → Nat → Rat) :
    ap n (addMore w s c g P) y = fun i => ap n P y i + ((-dt n g y + (1 / w + s) * dt n c y) * c i + (-dt n c y) * g i) := by
  funext i
  unfold addMore
  rw [ap_outer n (1 / w + s) (fun i j => (P i j + (-1) * (c i * g j)) + (-1) * (g i * c j)) c c y i, ap_outer n (-1) (fun i j => P i j + (-1) * (c i * g j)) g c y i, ap_outer]
  grind
theorem Good.more (G : Good n m r A W M P ix) {w : Rat} {a : Nat → Rat} (hw : 0 < w) (hu : dt n (rest n M P a) (rest n M P a) ≠ 0) :
    Good n (m + 1) (r + 1) (snoc m A a) (snoc m W w) (addT w a M) (addMore w (dt n a (ap n P a)) (way n M P a) (ap n P a) P) (snoc r ix m) := by
  have spA : ∀ j, j < r → ∃ z : Nat → Rat, ∀ x, dt n x (A (ix j)) = sm r fun j => z j * dt n x (A (ix j)) := fun j hj => G.spanA _ (G.ixm j hj)
  have uA : ∀ k, k < m → dt n (A k) (rest n M P a) = 0 := fun k hk => G.rest0 a (G.spanA k hk)
  have cx : ∀ x, dt n x (way n M P a) = (1 / dt n (rest n M P a) (rest n M P a)) * dt n x (rest n M P a) := fun x => by rw [dt_way, dt_rest x a]
  have cA : ∀ k, k < m → dt n (A k) (way n M P a) = 0 := fun k hk => by rw [cx, uA k hk]; grind
  have ua : dt n a (rest n M P a) = dt n (rest n M P a) (rest n M P a) := by
    have h1 := G.rest0 a (G.spanM (ap n P a))
    have h2 := dt_rest (n := n) (M := M) (P := P) (rest n M P a) a
    rw [dt_comm n (rest n M P a) (ap n M (ap n P a)), h1, dt_comm n (rest n M P a) a] at h2
    grind
  have ca : dt n a (way n M P a) = 1 := by rw [cx, ua]; grind
  have cg : dt n (ap n P a) (way n M P a) = 0 := by rw [cx, G.rest0 a (G.spanP a)]; grind
  have Mc : ∀ x, dt n x (ap n M (way n M P a)) = 0 := fun x => by
    rw [G.mform]
    exact sm_zero fun k hk => by rw [cA k hk]; grind
  have ixe : ∀ {j}, j < r → snoc m A a (snoc r ix m j) = A (ix j) := fun {j} hj => by rw [snoc_lt ix m hj, snoc_lt A a (G.ixm j hj)]
  have ixr : snoc m A a (snoc r ix m r) = a := by rw [snoc_at, snoc_at]
  have smr : ∀ (z x : Nat → Rat), sm (r + 1) (fun j => z j * dt n x (snoc m A a (snoc r ix m j))) = sm r (fun j => z j * dt n x (A (ix j))) + z r * dt n x a := fun z x => by
    rw [sm_snoc r _ (fun j => z j * dt n x (A (ix j))) fun j hj => by rw [ixe hj], ixr]
  have hs := G.psd a
  have hwn : w ≠ 0 := by grind
  -- M' P' = M P + u c'
  have key : ∀ x y, dt n x (ap n (addT w a M) (ap n (addMore w (dt n a (ap n P a)) (way n M P a) (ap n P a) P) y)) = dt n x (ap n M (ap n P y)) + dt n x (rest n M P a) * dt n (way n M P a) y := fun x y => by
    have hx : dt n x (rest n M P a) = dt n x a - dt n x (ap n M (ap n P a)) := dt_rest x a
    unfold addT
    rw [ap_more, dt_outer, ap_add, ap_add, ap_smul, ap_smul, dt_add, dt_add, dt_smul, dt_smul, Mc, hx, dt_add, dt_add, dt_smul, dt_smul, ca, G.sym a y]
    have e1 : dt n (ap n P a) y = dt n y (ap n P a) := dt_comm _ _ _
    rw [e1]
    have e2 : w * (1 / w) = 1 := by grind
    grind
  have sA : ∀ {k}, k < m + 1 → ∃ z : Nat → Rat, ∀ x, dt n x (snoc m A a k) = sm (r + 1) fun j => z j * dt n x (snoc m A a (snoc r ix m j)) := fun {k} hk => by
    by_cases e : k = m
    · subst e
      refine ⟨fun j => if j = r then 1 else 0, fun x => ?_⟩
      rw [smr, snoc_at, sm_zero fun j hj => by rw [if_neg (by omega)]; grind]
      rw [if_pos rfl]; grind
    · obtain ⟨z, hz⟩ := G.spanA k (by omega)
      refine ⟨fun j => if j = r then 0 else z j, fun x => ?_⟩
      rw [smr, snoc_lt A a (show k < m by omega), hz, if_pos rfl]
      have e9 : sm r (fun j => (if j = r then 0 else z j) * dt n x (A (ix j))) = sm r (fun j => z j * dt n x (A (ix j))) := sm_congr fun j hj => by rw [if_neg (show ¬ j = r by omega)]
      rw [e9]
      grind
  refine ⟨fun k hk => ?_, mform_add G w a, fun x y => ?_, fun x => ?_, fun x y => ?_, fun k hk x => ?_, fun k hk => ?_, fun z hz => ?_, fun k hk => sA hk, fun y => ?_, ?_⟩
  · by_cases e : k = m
    · subst e; rw [snoc_at]; exact hw
    · rw [snoc_lt _ _ (by omega)]; exact G.wpos k (by omega)
  · rw [dt_more, dt_more, G.sym x y, dt_comm n y (way n M P a), dt_comm n x (way n M P a), dt_comm n y (ap n P a), dt_comm n x (ap n P a)]
    grind
  · rw [dt_more]
    have h1 := G.psd (fun i => x i - dt n x (way n M P a) * a i)
    rw [ap_sub, ap_smul, dt_sub, dt_sub_l, dt_sub_l, dt_smul, dt_smul, dt_smul_l, dt_smul_l, G.sym a x] at h1
    have h2 : 0 ≤ 1 / w * (dt n x (way n M P a) * dt n x (way n M P a)) := by
      refine Rat.mul_nonneg ?_ (sq_nonneg _)
      have := Rat.inv_pos.mpr hw
      grind
    rw [dt_comm n (ap n P a) x, dt_comm n (way n M P a) x]
    grind
  · rw [key, key, G.proj x y, dt_comm n (way n M P a) y, dt_comm n (way n M P a) x, cx, cx]
    grind
  · rw [key]
    by_cases e : k = m
    · subst e
      rw [snoc_at, dt_comm n (way n M P a) a, ca, dt_rest]
      grind
    · rw [snoc_lt _ _ (by omega), dt_comm n (way n M P a), cA k (by omega), G.fix k (by omega)]
      grind
  · by_cases e : k = r
    · subst e; rw [snoc_at]; omega
    · rw [snoc_lt _ _ (by omega)]
      have := G.ixm k (by omega)
      omega
  · have h0 := hz (way n M P a)
    rw [smr, dt_comm n (way n M P a) a, ca, sm_zero fun j hj => by rw [dt_comm n (way n M P a), cA _ (G.ixm j hj)]; grind] at h0
    have zr : z r = 0 := by grind
    intro k hk
    by_cases e : k = r
    · rw [e]; exact zr
    · refine G.indep z (fun x => ?_) k (by omega)
      have h1 := hz x
      rw [smr, zr] at h1
      grind
  · obtain ⟨z1, h1⟩ := G.spanP y
    obtain ⟨z2, h2⟩ := G.spanP a
    obtain ⟨z3, h3⟩ := G.spanM (ap n P a)
    refine ⟨fun j => if j = r then (-dt n (ap n P a) y + (1 / w + dt n a (ap n P a)) * dt n (way n M P a) y) * (1 / dt n (rest n M P a) (rest n M P a)) else
      z1 j + (-dt n (way n M P a) y) * z2 j + (-((-dt n (ap n P a) y + (1 / w + dt n a (ap n P a)) * dt n (way n M P a) y) * (1 / dt n (rest n M P a) (rest n M P a)))) * z3 j, fun x => ?_⟩
    rw [smr, if_pos rfl, dt_more, dt_way, h1, h2 x, h3 x]
    have e5 : sm r (fun j => (if j = r then (-dt n (ap n P a) y + (1 / w + dt n a (ap n P a)) * dt n (way n M P a) y) * (1 / dt n (rest n M P a) (rest n M P a)) else
      z1 j + (-dt n (way n M P a) y) * z2 j + (-((-dt n (ap n P a) y + (1 / w + dt n a (ap n P a)) * dt n (way n M P a) y) * (1 / dt n (rest n M P a) (rest n M P a)))) * z3 j) * dt n x (A (ix j)))
      = sm r (fun j => z1 j * dt n x (A (ix j))) + (-dt n (way n M P a) y) * sm r (fun j => z2 j * dt n x (A (ix j))) + (-((-dt n (ap n P a) y + (1 / w + dt n a (ap n P a)) * dt n (way n M P a) y) * (1 / dt n (rest n M P a) (rest n M P a)))) * sm r (fun j => z3 j * dt n x (A (ix j))) := by
      rw [← sm_mul, ← sm_mul, ← sm_add, ← sm_add]
      exact sm_congr fun j hj => by rw [if_neg (by omega)]; grind
    rw [e5]
    grind
  · have e1 : (fun j => dt n (un j) (ap n (addT w a M) (ap n (addMore w (dt n a (ap n P a)) (way n M P a) (ap n P a) P) (un j)))) = fun j => dt n (un j) (ap n M (ap n P (un j))) + dt n (un j) (rest n M P a) * dt n (way n M P a) (un j) := by
      funext j; exact key _ _
    rw [e1, sm_add, G.tr]
    have e2 : sm n (fun j => dt n (un j) (rest n M P a) * dt n (way n M P a) (un j)) = dt n (rest n M P a) (way n M P a) := sm_congr fun j hj => by rw [dt_un _ hj, dt_un_r _ hj]
    rw [e2, cx]
    have e3 : (1 / dt n (rest n M P a) (rest n M P a)) * dt n (rest n M P a) (rest n M P a) = 1 := by grind
    rw [e3]
    have e4 : ((r + 1 : Nat) : Rat) = (r : Rat) + 1 := by
      have := Rat.natCast_add r 1
      exact this
    rw [e4]
end
end PN

set_option Elab.async false
set_option linter.all false
/-! PnE: reduced forms. -/
namespace PN
/-- the first of k rows from s on with a number other than 0 in the column -/
def pvt (R : Nat → Nat → Rat) (c : Nat) : Nat → Nat → Option Nat
  | 0, _ => none
  | k + 1, s => if R s c = 0 then pvt R c k (s + 1) else some s
theorem pvt_some {R : Nat → Nat → Rat} {c : Nat} : ∀ {k s f : Nat}, pvt R c k s = some f → s ≤ f ∧ f < s + k ∧ R f c ≠ 0
  | 0, _, _, h => by cases h
  | k + 1, s, f, h => by
    unfold pvt at h
    split at h
    · obtain ⟨a, b, d⟩ := pvt_some h
      exact ⟨by omega, by omega, d⟩
    · rename_i hn
      cases h
      exact ⟨by omega, by omega, hn⟩
theorem pvt_none {R : Nat → Nat → Rat} {c : Nat} : ∀ {k s : Nat}, pvt R c k s = none → ∀ i, s ≤ i → i < s + k → R i c = 0
  | 0, _, _, _, _, _ => by omega
  | k + 1, s, h, i, h1, h2 => by
    unfold pvt at h
    split at h
    · rename_i hz
      by_cases e : i = s
      · rw [e]; exact hz
      · exact pvt_none h i (by omega) (by omega)
    · cases h
/-- two rows swapped -/
def sw (R : Nat → Nat → Rat) (p f : Nat) : Nat → Nat → Rat := fun i => if i = f then R p else if i = p then R f else R i
/-- the column cleared by the row p -/
def clr (R : Nat → Nat → Rat) (p c : Nat) : Nat → Nat → Rat := fun i => if i = p then fun j => 1 / R p c * R p j else fun j => R i j - R i c * (1 / R p c * R p j)
structure RS where
  R : Nat → Nat → Rat
  piv : List Nat
def redS (h c : Nat) (s : RS) : RS := match pvt s.R c (h - s.piv.length) s.piv.length with
  | none => s
  | some f => ⟨clr (sw s.R s.piv.length f) s.piv.length c, s.piv ++ [c]⟩
def red (h : Nat) (R : Nat → Nat → Rat) : Nat → RS
  | 0 => ⟨R, []⟩
  | c + 1 => redS h c (red h R c)
/-- a set of rows that linear combinations do not leave -/
structure Lin (S : (Nat → Rat) → Prop) : Prop where
  sub : ∀ x y t, S x → S y → S fun j => x j - t * y j
  mul : ∀ y t, S y → S fun j => t * y j
theorem sw_self {R : Nat → Nat → Rat} {p f : Nat} : sw R p f p = R f := by
  unfold sw
  split
  · rename_i e; rw [e]
  · rw [if_pos rfl]
theorem sw_all {S : (Nat → Rat) → Prop} {R : Nat → Nat → Rat} {p f h : Nat} (hp : p < h) (hf : f < h) : (∀ i, i < h → S (R i)) ↔ ∀ i, i < h → S (sw R p f i) := by
  constructor
  · intro H i hi
    unfold sw
    split
    · exact H p hp
    · split
      · exact H f hf
      · exact H i hi
  · intro H i hi
    by_cases e1 : i = f
    · have := H p hp
      rw [sw_self] at this
      rw [e1]; exact this
    · by_cases e2 : i = p
      · have := H f hf
        unfold sw at this
        rw [if_pos rfl] at this
        rw [e2]; exact this
      · have := H i hi
        unfold sw at this
        rw [if_neg e1, if_neg e2] at this
        exact this
theorem clr_all {S : (Nat → Rat) → Prop} (L : Lin S) {R : Nat → Nat → Rat} {p c h : Nat} (hp : p < h) (hn : R p c ≠ 0) : (∀ i, i < h → S (R i)) ↔ ∀ i, i < h → S (clr R p c i) := by
  constructor
  · intro H i hi
    unfold clr
    split
    · exact L.mul _ _ (H p hp)
    · exact L.sub _ _ _ (H i hi) (L.mul _ _ (H p hp))
  · intro H i hi
    have hP : S (clr R p c p) := H p hp
    unfold clr at hP
    rw [if_pos rfl] at hP
    by_cases e : i = p
    · have h1 := L.mul _ (R p c) hP
      have e2 : (fun j => R p c * (1 / R p c * R p j)) = R p := by funext j; grind
      rw [e2] at h1
      rw [e]; exact h1
    · have h2 := H i hi
      unfold clr at h2
      rw [if_neg e] at h2
      have h1 := L.sub _ _ (-R i c) h2 hP
      have e2 : (fun j => R i j - R i c * (1 / R p c * R p j) - -R i c * (1 / R p c * R p j)) = R i := by funext j; grind
      rw [e2] at h1
      exact h1
/-- what holds behind c columns -/
structure RInv (h c : Nat) (R0 : Nat → Nat → Rat) (s : RS) : Prop where
  len : s.piv.length ≤ h
  lt : ∀ q, q ∈ s.piv → q < c
  asc : s.piv.Pairwise (· < ·)
  one : ∀ k q, s.piv[k]? = some q → s.R k q = 1
  off : ∀ k q, s.piv[k]? = some q → ∀ i, i < h → i ≠ k → s.R i q = 0
  zero : ∀ i, s.piv.length ≤ i → i < h → ∀ j, j < c → s.R i j = 0
  span : ∀ S, Lin S → ((∀ i, i < h → S (R0 i)) ↔ ∀ i, i < h → S (s.R i))
theorem rinv {h : Nat} {R0 : Nat → Nat → Rat} : ∀ c, RInv h c R0 (red h R0 c)
  | 0 => ⟨Nat.zero_le _, fun _ hq => (by cases hq), List.Pairwise.nil, fun k q hq => (by simp [red] at hq), fun k q hq => (by simp [red] at hq), fun _ _ _ j hj => (by omega), fun _ _ => Iff.rfl⟩
  | c + 1 => by
    have I := rinv (h := h) (R0 := R0) c
    show RInv h (c + 1) R0 (redS h c (red h R0 c))
    generalize red h R0 c = s at I
    unfold redS
    split
    · rename_i e
      refine ⟨I.len, fun q hq => Nat.lt_succ_of_lt (I.lt q hq), I.asc, I.one, I.off, fun i h1 h2 j hj => ?_, I.span⟩
      by_cases ej : j = c
      · rw [ej]; exact pvt_none e i h1 (by omega)
      · exact I.zero i h1 h2 j (by omega)
    · rename_i f e
      obtain ⟨f1, f2, f3⟩ := pvt_some e
      have hfh : f < h := by omega
      have hph : s.piv.length < h := by omega
      have n1 : sw s.R s.piv.length f s.piv.length c ≠ 0 := by rw [sw_self]; exact f3
      -- rows at or below the place have 0 at the pivots and ahead of c
      have z1 : ∀ i, s.piv.length ≤ i → i < h → ∀ j, j < c → sw s.R s.piv.length f i j = 0 := fun i h1 h2 j hj => by
        unfold sw
        split
        · exact I.zero _ (Nat.le_refl _) hph j hj
        · split
          · exact I.zero _ f1 hfh j hj
          · exact I.zero i h1 h2 j hj
      have same : ∀ i, i < s.piv.length → sw s.R s.piv.length f i = s.R i := fun i hi => by
        unfold sw
        rw [if_neg (by omega), if_neg (by omega)]
      have at_ : ∀ k q, (s.piv ++ [c])[k]? = some q → (s.piv[k]? = some q ∧ k < s.piv.length) ∨ (k = s.piv.length ∧ q = c) := fun k q hk => by
        by_cases e1 : k < s.piv.length
        · rw [List.getElem?_append_left e1] at hk
          exact .inl ⟨hk, e1⟩
        · rw [List.getElem?_append_right (by omega)] at hk
          by_cases e2 : k = s.piv.length
          · subst e2
            simp at hk
            exact .inr ⟨rfl, hk.symm⟩
          · have : ([c] : List Nat)[k - s.piv.length]? = none := by
              rw [List.getElem?_eq_none_iff]; simp; omega
            rw [this] at hk; cases hk
      refine ⟨by simp; omega, fun q hq => ?_, ?_, fun k q hk => ?_, fun k q hk i hi hik => ?_, fun i h1 h2 j hj => ?_, fun S L => (I.span S L).trans ((sw_all hph hfh).trans (clr_all L hph n1))⟩
      · rcases List.mem_append.mp hq with hq | hq
        · exact Nat.lt_succ_of_lt (I.lt q hq)
        · rw [List.mem_singleton.mp hq]; omega
      · rw [List.pairwise_append]
        exact ⟨I.asc, List.pairwise_singleton _ _, fun a ha b hb => by rw [List.mem_singleton.mp hb]; exact I.lt a ha⟩
      · rcases at_ k q hk with ⟨a, b⟩ | ⟨a, b⟩
        · show clr _ _ _ k q = 1
          have hq : q < c := I.lt q (List.mem_of_getElem? a)
          unfold clr
          rw [if_neg (by omega)]
          show sw s.R s.piv.length f k q - _ * (_ * sw s.R s.piv.length f s.piv.length q) = 1
          rw [z1 _ (Nat.le_refl _) hph q hq, same k b, I.one k q a]
          grind
        · show clr _ _ _ k q = 1
          unfold clr
          rw [if_pos a, b]
          show 1 / sw s.R s.piv.length f s.piv.length c * sw s.R s.piv.length f s.piv.length c = 1
          grind
      · show clr _ _ _ i q = 0
        rcases at_ k q hk with ⟨a, b⟩ | ⟨a, b⟩
        · have hq : q < c := I.lt q (List.mem_of_getElem? a)
          unfold clr
          split
          · show _ * sw s.R s.piv.length f s.piv.length q = 0
            rw [z1 _ (Nat.le_refl _) hph q hq]; grind
          · rename_i hip
            show sw s.R s.piv.length f i q - _ * (_ * sw s.R s.piv.length f s.piv.length q) = 0
            rw [z1 _ (Nat.le_refl _) hph q hq]
            have : sw s.R s.piv.length f i q = 0 := by
              by_cases e1 : i < s.piv.length
              · rw [same i e1]; exact I.off k q a i hi hik
              · exact z1 i (by omega) hi q hq
            rw [this]; grind
        · unfold clr
          rw [if_neg (by omega), b]
          show sw s.R s.piv.length f i c - sw s.R s.piv.length f i c * (1 / sw s.R s.piv.length f s.piv.length c * sw s.R s.piv.length f s.piv.length c) = 0
          grind
      · have h1' : s.piv.length + 1 ≤ i := by simpa using h1
        show clr _ _ _ i j = 0
        unfold clr
        rw [if_neg (by omega)]
        show sw s.R s.piv.length f i j - sw s.R s.piv.length f i c * (1 / sw s.R s.piv.length f s.piv.length c * sw s.R s.piv.length f s.piv.length j) = 0
        by_cases ej : j = c
        · rw [ej]; grind
        · rw [z1 i (by omega) h2 j (by omega), z1 _ (Nat.le_refl _) hph j (by omega)]; grind

/-! ### the kernel -/
def kv (R : Nat → Nat → Rat) (piv : List Nat) (f : Nat) : Nat → Rat := fun j => match piv.idxOf? j with
  | some k => -R k f
  | none => if j = f then 1 else 0
theorem idx_some {piv : List Nat} {j k : Nat} (h : piv.idxOf? j = some k) : piv[k]? = some j := by
  rw [List.idxOf?_eq_some_iff] at h
  obtain ⟨h1, h2, _⟩ := h
  rw [List.getElem?_eq_getElem h1]
  simpa using h2
theorem idx_none {piv : List Nat} {j : Nat} (h : piv.idxOf? j = none) : j ∉ piv := by
  rw [List.idxOf?_eq_none_iff] at h
  exact h
theorem nd_of_asc {piv : List Nat} (h : piv.Pairwise (· < ·)) : piv.Nodup := h.imp fun hab => Nat.ne_of_lt hab
theorem idx_at {piv : List Nat} (nd : piv.Nodup) {j k : Nat} (h : piv[k]? = some j) : piv.idxOf? j = some k := by
  cases e : piv.idxOf? j with
  | none => exact absurd (List.mem_of_getElem? h) (idx_none e)
  | some l =>
    have h2 := idx_some e
    obtain ⟨a1, b1⟩ := List.getElem?_eq_some_iff.mp h
    obtain ⟨a2, b2⟩ := List.getElem?_eq_some_iff.mp h2
    have := (List.getElem_inj nd).mp (b1.trans b2.symm)
    rw [this]
theorem sm_two : ∀ {n : Nat} {p q : Nat} {f : Nat → Rat}, p < n → q < n → p ≠ q → (∀ i, i < n → i ≠ p → i ≠ q → f i = 0) → sm n f = f p + f q := fun {n p q f} hp hq hpq h => by
  have e : sm n f = sm n (fun i => (if i = p then f p else 0) + (if i = q then f q else 0)) := sm_congr fun i hi => by
    by_cases e1 : i = p
    · subst e1; rw [if_pos rfl, if_neg hpq]; grind
    · by_cases e2 : i = q
      · subst e2; rw [if_neg e1, if_pos rfl]; grind
      · rw [if_neg e1, if_neg e2, h i hi e1 e2]; grind
  rw [e, sm_add, sm_single p (fun i => if i = p then f p else 0) hp fun i _ hn => if_neg hn, sm_single q (fun i => if i = q then f q else 0) hq fun i _ hn => if_neg hn, if_pos rfl, if_pos rfl]
theorem lin_dt (w : Nat) (v : Nat → Rat) : Lin fun x => dt w x v = 0 :=
  ⟨fun x y t hx hy => by rw [dt_sub_l, dt_smul_l, hx, hy]; grind, fun y t hy => by rw [dt_smul_l, hy]; grind⟩
/-- the told vectors are orthogonal to the rows -/
theorem kv_orth {h w : Nat} {R0 : Nat → Nat → Rat} {f : Nat} (hf : f < w) (hn : f ∉ (red h R0 w).piv) : ∀ i, i < h → dt w (R0 i) (kv (red h R0 w).R (red h R0 w).piv f) = 0 := by
  have I := rinv (h := h) (R0 := R0) w
  refine (I.span _ (lin_dt w _)).mpr fun i hi => ?_
  generalize red h R0 w = s at I hn
  by_cases hl : i < s.piv.length
  · have hq : s.piv[i]? = some s.piv[i] := List.getElem?_eq_getElem hl
    have hne : s.piv[i] ≠ f := fun e => hn (e ▸ List.getElem_mem hl)
    unfold dt
    rw [sm_two (p := s.piv[i]) (q := f) (I.lt _ (List.getElem_mem hl)) hf hne fun j hj h1 h2 => ?_]
    · rw [I.one i _ hq]
      unfold kv
      rw [idx_at (nd_of_asc I.asc) hq]
      have : s.piv.idxOf? f = none := List.idxOf?_eq_none_iff.mpr hn
      rw [this]
      simp only [if_true]
      grind
    · unfold kv
      cases e : s.piv.idxOf? j with
      | none => simp only [if_neg h2]; grind
      | some l =>
        have hl2 := idx_some e
        have : i ≠ l := fun q => by
          subst q
          rw [hq] at hl2
          exact h1 (Option.some.inj hl2).symm
        rw [I.off l j hl2 i hi this]; grind
  · exact dt_zero_l fun j hj => I.zero i (by omega) hi j hj
theorem kv_free {R : Nat → Nat → Rat} {piv : List Nat} {f : Nat} (hn : f ∉ piv) : kv R piv f f = 1 := by
  unfold kv
  have : piv.idxOf? f = none := List.idxOf?_eq_none_iff.mpr hn
  rw [this]
  exact if_pos rfl
def frees (w : Nat) (piv : List Nat) : List Nat := (List.range w).filter fun f => !piv.contains f
def kern (h w : Nat) (R0 : Nat → Nat → Rat) : List (Nat → Rat) := (frees w (red h R0 w).piv).map (kv (red h R0 w).R (red h R0 w).piv)
theorem mem_frees {w : Nat} {piv : List Nat} {f : Nat} : f ∈ frees w piv ↔ f < w ∧ f ∉ piv := by
  unfold frees
  simp
theorem kern_orth {h w : Nat} {R0 : Nat → Nat → Rat} {v : Nat → Rat} (hv : v ∈ kern h w R0) : ∀ i, i < h → dt w (R0 i) v = 0 := by
  obtain ⟨f, hf, rfl⟩ := List.mem_map.mp hv
  obtain ⟨h1, h2⟩ := mem_frees.mp hf
  exact kv_orth h1 h2
/-- the units of all columns among the rows: nothing is free -/
theorem kern_full {h w : Nat} {R0 : Nat → Nat → Rat} (hu : ∀ j, j < w → ∃ i, i < h ∧ ∀ x, dt w (R0 i) x = x j) : kern h w R0 = [] := by
  unfold kern
  rw [List.map_eq_nil_iff]
  cases e : frees w (red h R0 w).piv with
  | nil => rfl
  | cons f l =>
    have hf : f ∈ frees w (red h R0 w).piv := by rw [e]; exact List.mem_cons_self
    obtain ⟨h1, h2⟩ := mem_frees.mp hf
    obtain ⟨i, hi, hx⟩ := hu f h1
    have := kv_orth h1 h2 i hi
    rw [hx, kv_free h2] at this
    exact absurd this (by decide)
theorem frees_len {w : Nat} {piv : List Nat} (nd : piv.Nodup) (lt : ∀ q, q ∈ piv → q < w) : (frees w piv).length + piv.length = w := by
  have h1 : ((List.range w).filter fun f => piv.contains f).Perm piv := by
    rw [List.perm_ext_iff_of_nodup (List.nodup_range.filter _) nd]
    intro a
    simp
    exact fun ha => lt a ha
  have h2 := List.length_eq_countP_add_countP (fun f => piv.contains f) (l := List.range w)
  rw [List.countP_eq_length_filter, h1.length_eq, List.length_range, List.countP_eq_length_filter] at h2
  unfold frees
  have e : (fun f => !piv.contains f) = fun a => decide ¬ piv.contains a = true := by
    funext f
    cases piv.contains f <;> rfl
  rw [e]
  omega
end PN

set_option Elab.async false
set_option linter.all false
/-! PnF: solutions. -/
namespace PN
/-- the rows with a number more -/
def jn (k : Nat) (G : Nat → Nat → Rat) (v : Nat → Rat) : Nat → Nat → Rat := fun i j => if j = k then v i else G i j
theorem redS_none {h c : Nat} {s : RS} (e : pvt s.R c (h - s.piv.length) s.piv.length = none) : redS h c s = s := by
  unfold redS
  rw [e]
theorem redS_some {h c f : Nat} {s : RS} (e : pvt s.R c (h - s.piv.length) s.piv.length = some f) : redS h c s = ⟨clr (sw s.R s.piv.length f) s.piv.length c, s.piv ++ [c]⟩ := by
  unfold redS
  rw [e]
/-- the normal equations have a solution: the last column is no pivot -/
theorem gram_none {k q : Nat} {part : Nat → Nat → Rat} {aims : Nat → Rat} (R0 : Nat → Nat → Rat)
    (h0 : ∀ i, i < k → ∀ j, j < k → R0 i j = dt q (part i) (part j)) (h1 : ∀ i, i < k → R0 i k = dt q (part i) aims) :
    pvt (red k R0 k).R k (k - (red k R0 k).piv.length) (red k R0 k).piv.length = none := by
  cases e : pvt (red k R0 k).R k (k - (red k R0 k).piv.length) (red k R0 k).piv.length with
  | none => rfl
  | some f =>
    exfalso
    have I := rinv (h := k) (R0 := R0) k
    generalize red k R0 k = s at I e
    obtain ⟨f1, f2, f3⟩ := pvt_some e
    have hf : f < k := by omega
    let S : (Nat → Rat) → Prop := fun x => ∃ z, (∀ y, (∀ j, j < k → dt q y (part j) = 0) → dt q y z = 0) ∧ (∀ j, j < k → x j = dt q z (part j)) ∧ x k = dt q z aims
    have L : Lin S := by
      refine ⟨fun x y t ⟨z1, a1, b1, c1⟩ ⟨z2, a2, b2, c2⟩ => ⟨fun i => z1 i - t * z2 i, fun y' hy => ?_, fun j hj => ?_, ?_⟩, fun y t ⟨z2, a2, b2, c2⟩ => ⟨fun i => t * z2 i, fun y' hy => ?_, fun j hj => ?_, ?_⟩⟩
      · rw [dt_sub, dt_smul, a1 y' hy, a2 y' hy]; grind
      · show x j - t * y j = _
        rw [dt_sub_l, dt_smul_l, b1 j hj, b2 j hj]
      · show x k - t * y k = _
        rw [dt_sub_l, dt_smul_l, c1, c2]
      · rw [dt_smul, a2 y' hy]; grind
      · show t * y j = _
        rw [dt_smul_l, b2 j hj]
      · show t * y k = _
        rw [dt_smul_l, c2]
    obtain ⟨z, a, b, c⟩ := (I.span S L).mp (fun i hi => ⟨part i, fun y hy => hy i hi, fun j hj => h0 i hi j hj, h1 i hi⟩) f hf
    have hz : dt q z z = 0 := a z fun j hj => by rw [← b j hj]; exact I.zero f f1 hf j hj
    rw [c, dt_zero_l (dt_self_zero hz)] at f3
    exact f3 rfl
/-- a column that is 0 stays 0 -/
theorem col_zero {h c k : Nat} {R0 : Nat → Nat → Rat} (h0 : ∀ i, i < h → R0 i k = 0) : ∀ i, i < h → (red h R0 c).R i k = 0 := by
  have I := rinv (h := h) (R0 := R0) c
  refine (I.span (fun x => x k = 0) ⟨fun x y t hx hy => ?_, fun y t hy => ?_⟩).mp h0
  · show x k - t * y k = 0
    rw [hx, hy]; grind
  · show t * y k = 0
    rw [hy]; grind
/-- the told solution -/
def sol (R : Nat → Nat → Rat) (piv : List Nat) (k : Nat) : Nat → Rat := fun j => match piv.idxOf? j with
  | some l => R l k
  | none => 0
theorem sol_zero {h c k : Nat} {R0 : Nat → Nat → Rat} (h0 : ∀ i, i < h → R0 i k = 0) (j : Nat) : sol (red h R0 c).R (red h R0 c).piv k j = 0 := by
  unfold sol
  split
  · rename_i l e
    have I := rinv (h := h) (R0 := R0) c
    have := idx_some e
    obtain ⟨a, _⟩ := List.getElem?_eq_some_iff.mp this
    exact col_zero h0 l (Nat.lt_of_lt_of_le a I.len)
  · rfl
end PN

set_option Elab.async false
set_option linter.all false
/-! PnG: how large numbers are. Dn D k q: q D is a whole number below 2^k. -/
namespace PN
def Dn (D : Int) (k : Nat) (q : Rat) : Prop := ∃ N : Int, q * (D : Rat) = (N : Rat) ∧ N.natAbs < 2 ^ k
/-- small enough for every step -/
def LIM : Nat := 4480
def Sm (q : Rat) : Prop := q.num.natAbs < 2 ^ LIM ∧ q.den < 2 ^ LIM
theorem den_num (q : Rat) : q * ((q.den : Int) : Rat) = (q.num : Rat) := by
  have h : q = (q.num : Rat) / ((q.den : Int) : Rat) := by
    have := Rat.num_divInt_den q
    rw [Rat.divInt_eq_div] at this
    exact this.symm
  have hn : ((q.den : Int) : Rat) ≠ 0 := by
    intro e
    have := Rat.intCast_eq_zero_iff.mp e
    have := q.den_nz
    omega
  have h2 : (q.num : Rat) / ((q.den : Int) : Rat) * ((q.den : Int) : Rat) = (q.num : Rat) := Rat.div_mul_cancel hn
  rw [← h] at h2
  exact h2
theorem dn_cross {D : Int} {q : Rat} {N : Int} (h : q * (D : Rat) = (N : Rat)) : q.num * D = N * (q.den : Int) := by
  have h1 := den_num q
  have h2 : (q.num : Rat) * (D : Rat) = (N : Rat) * ((q.den : Int) : Rat) := by
    rw [← h1, ← h]; grind
  rw [← Rat.intCast_mul, ← Rat.intCast_mul, Rat.intCast_inj] at h2
  exact h2
theorem dn_le {D : Int} {k : Nat} {q : Rat} (hD : D ≠ 0) (h : Dn D k q) : q.num.natAbs < 2 ^ k ∧ q.den ≤ D.natAbs := by
  obtain ⟨N, e, hN⟩ := h
  have h1 := dn_cross e
  have h2 : q.num.natAbs * D.natAbs = N.natAbs * q.den := by
    have := congrArg Int.natAbs h1
    rw [Int.natAbs_mul, Int.natAbs_mul, Int.natAbs_natCast] at this
    exact this
  have hc : Nat.Coprime q.num.natAbs q.den := q.reduced
  have hDp : 0 < D.natAbs := Int.natAbs_pos.mpr hD
  refine ⟨?_, ?_⟩
  · have hd : q.num.natAbs ∣ N.natAbs * q.den := ⟨D.natAbs, h2.symm⟩
    have hd2 := hc.dvd_of_dvd_mul_right hd
    by_cases z : N.natAbs = 0
    · rw [z, Nat.zero_mul] at h2
      have : q.num.natAbs = 0 := by
        rcases Nat.mul_eq_zero.mp h2 with h | h
        · exact h
        · omega
      rw [this]; exact Nat.two_pow_pos k
    · exact Nat.lt_of_le_of_lt (Nat.le_of_dvd (Nat.pos_of_ne_zero z) hd2) hN
  · have hd : q.den ∣ q.num.natAbs * D.natAbs := ⟨N.natAbs, by rw [h2, Nat.mul_comm]⟩
    have hd2 := hc.symm.dvd_of_dvd_mul_left hd
    exact Nat.le_of_dvd hDp hd2
theorem Dn.small {D : Int} {d k : Nat} {q : Rat} (h : Dn D k q) (hD : D ≠ 0) (hd : D.natAbs < 2 ^ d) (h1 : k ≤ LIM) (h2 : d ≤ LIM) : Sm q := by
  obtain ⟨a, b⟩ := dn_le hD h
  exact ⟨Nat.lt_of_lt_of_le a (Nat.pow_le_pow_right (by decide) h1), Nat.lt_of_le_of_lt b (Nat.lt_of_lt_of_le hd (Nat.pow_le_pow_right (by decide) h2))⟩
theorem pow_add_lt {a b : Nat} {x y : Nat} (h1 : x < 2 ^ a) (h2 : y < 2 ^ b) : x * y < 2 ^ (a + b) := by
  rw [Nat.pow_add]
  exact Nat.mul_lt_mul'' h1 h2
theorem Dn.mono {D : Int} {k l : Nat} {q : Rat} (h : Dn D k q) (hl : k ≤ l) : Dn D l q :=
  let ⟨N, e, b⟩ := h
  ⟨N, e, Nat.lt_of_lt_of_le b (Nat.pow_le_pow_right (by decide) hl)⟩
theorem Dn.int (N : Int) {k : Nat} (h : N.natAbs < 2 ^ k) : Dn 1 k (N : Rat) := ⟨N, by rw [Rat.intCast_one]; grind, h⟩
/-- over a larger denominator -/
theorem Dn.over {D E : Int} {k e : Nat} {q : Rat} (h : Dn D k q) (he : E.natAbs < 2 ^ e) : Dn (D * E) (k + e) q := by
  obtain ⟨N, a, b⟩ := h
  refine ⟨N * E, ?_, ?_⟩
  · rw [Rat.intCast_mul, Rat.intCast_mul, ← a]; grind
  · rw [Int.natAbs_mul]; exact pow_add_lt b he
theorem Dn.mul {D E : Int} {k l : Nat} {p q : Rat} (h : Dn D k p) (h' : Dn E l q) : Dn (D * E) (k + l) (p * q) := by
  obtain ⟨N, a, b⟩ := h
  obtain ⟨N', a', b'⟩ := h'
  refine ⟨N * N', ?_, ?_⟩
  · rw [Rat.intCast_mul, Rat.intCast_mul, ← a, ← a']; grind
  · rw [Int.natAbs_mul]; exact pow_add_lt b b'
theorem Dn.add {D : Int} {k : Nat} {p q : Rat} (h : Dn D k p) (h' : Dn D k q) : Dn D (k + 1) (p + q) := by
  obtain ⟨N, a, b⟩ := h
  obtain ⟨N', a', b'⟩ := h'
  refine ⟨N + N', ?_, ?_⟩
  · rw [Rat.intCast_add, ← a, ← a']; grind
  · rw [Nat.pow_succ]; omega
theorem Dn.neg {D : Int} {k : Nat} {p : Rat} (h : Dn D k p) : Dn D k (-p) := by
  obtain ⟨N, a, b⟩ := h
  exact ⟨-N, by rw [Rat.intCast_neg, ← a]; grind, by rw [Int.natAbs_neg]; exact b⟩
theorem Dn.sub {D : Int} {k : Nat} {p q : Rat} (h : Dn D k p) (h' : Dn D k q) : Dn D (k + 1) (p - q) := by
  have := h.add h'.neg
  rw [show p - q = p + -q by grind]
  exact this
theorem Dn.zero {D : Int} {k : Nat} : Dn D k 0 := ⟨0, by rw [Rat.intCast_zero]; grind, by simpa using Nat.two_pow_pos k⟩
/-- up to eight numbers summed -/
theorem Dn.sum {D : Int} {k : Nat} : ∀ {n : Nat} {f : Nat → Rat}, (∀ i, i < n → Dn D k (f i)) → ∃ N : Int, sm n f * (D : Rat) = (N : Rat) ∧ N.natAbs ≤ n * 2 ^ k
  | 0, _, _ => ⟨0, by show (0 : Rat) * _ = _; rw [Rat.intCast_zero]; grind, by simp⟩
  | n + 1, f, h => by
    obtain ⟨N, a, b⟩ := Dn.sum (n := n) fun i hi => h i (by omega)
    obtain ⟨N', a', b'⟩ := h n (by omega)
    refine ⟨N + N', ?_, ?_⟩
    · show (sm n f + f n) * _ = _
      rw [Rat.intCast_add, ← a, ← a']; grind
    · rw [Nat.succ_mul]; omega
theorem Dn.sum8 {D : Int} {k n : Nat} {f : Nat → Rat} (hn : n < 8) (h : ∀ i, i < n → Dn D k (f i)) : Dn D (k + 3) (sm n f) := by
  obtain ⟨N, a, b⟩ := Dn.sum h
  refine ⟨N, a, ?_⟩
  have : 0 < 2 ^ k := Nat.two_pow_pos k
  have h8 : n * 2 ^ k < 8 * 2 ^ k := Nat.mul_lt_mul_of_pos_right hn this
  have e : 2 ^ (k + 3) = 8 * 2 ^ k := by rw [Nat.pow_add]; omega
  omega
theorem Dn.dot {D E : Int} {k l n : Nat} {x y : Nat → Rat} (hn : n < 8) (h : ∀ i, i < n → Dn D k (x i)) (h' : ∀ i, i < n → Dn E l (y i)) : Dn (D * E) (k + l + 3) (dt n x y) :=
  Dn.sum8 hn fun i hi => (h i hi).mul (h' i hi)
/-- the inverse of a number -/
theorem Dn.inv {D N : Int} {d : Nat} {q : Rat} (h : q * (D : Rat) = (N : Rat)) (hq : q ≠ 0) (hD : D ≠ 0) (hd : D.natAbs < 2 ^ d) : Dn N d (1 / q) ∧ N ≠ 0 := by
  have hDn : (D : Rat) ≠ 0 := fun e => hD (Rat.intCast_eq_zero_iff.mp e)
  have hN : (N : Rat) ≠ 0 := by
    rw [← h]
    intro e
    rcases Rat.mul_eq_zero.mp e with e | e
    · exact hq e
    · exact hDn e
  refine ⟨⟨D, ?_, hd⟩, fun e => hN (by rw [e]; rfl)⟩
  rw [← h]; grind
end PN

set_option Elab.async false
set_option linter.all false
/-! PnH: the numbers that occur while a matrix is reduced. -/
namespace PN
structure StepOk (h w c p : Nat) (R : Nat → Nat → Rat) : Prop where
  rows : ∀ i, i < h → ∀ j, j < w → Sm (R i j)
  inv : Sm (1 / R p c)
  unit : ∀ j, j < w → Sm (1 / R p c * R p j)
  prod : ∀ i, i < h → ∀ j, j < w → Sm (R i c * (1 / R p c * R p j))
def RedOk (h w : Nat) (R0 : Nat → Nat → Rat) : Prop := ∀ c, c < w → ∀ f, pvt (red h R0 c).R c (h - (red h R0 c).piv.length) (red h R0 c).piv.length = some f →
  StepOk h w c (red h R0 c).piv.length (sw (red h R0 c).R (red h R0 c).piv.length f)
/-- all rows over one denominator D, of the last columns D F -/
structure IRep (h w0 w : Nat) (R : Nat → Nat → Rat) (D F : Int) (d b l : Nat) : Prop where
  nz : D ≠ 0
  dl : D.natAbs < 2 ^ d
  le : d ≤ b + 1
  lo : ∀ i, i < h → ∀ j, j < w0 → Dn D b (R i j)
  hi : ∀ i, i < h → ∀ j, w0 ≤ j → j < w → Dn (D * F) l (R i j)
section
variable {h w0 w c p f : Nat} {R : Nat → Nat → Rat} {D F : Int} {d b l : Nat}
theorem IRep.sw (I : IRep h w0 w R D F d b l) (hp : p < h) (hf : f < h) : IRep h w0 w (sw R p f) D F d b l := by
  refine ⟨I.nz, I.dl, I.le, fun i hi j hj => ?_, fun i hi j h1 h2 => ?_⟩
  · unfold PN.sw
    split
    · exact I.lo p hp j hj
    · split
      · exact I.lo f hf j hj
      · exact I.lo i hi j hj
  · unfold PN.sw
    split
    · exact I.hi p hp j h1 h2
    · split
      · exact I.hi f hf j h1 h2
      · exact I.hi i hi j h1 h2
/-- a row's number over the new denominator -/
theorem mul_unit {Q : Int} {k : Nat} {x q y : Rat} {X : Int} (hx : x * (D : Rat) = (X : Rat)) (hx0 : x ≠ 0) (hD : D ≠ 0) {kq : Nat} (hq : Dn D kq q) (hy : Dn (D * Q) k y) : Dn (D * X * Q) (kq + k) (q * (1 / x * y)) := by
  have hDn : (D : Rat) ≠ 0 := fun e => hD (Rat.intCast_eq_zero_iff.mp e)
  obtain ⟨N, a, a'⟩ := hq
  obtain ⟨Y, e, e'⟩ := hy
  refine ⟨N * Y, ?_, by rw [Int.natAbs_mul]; exact pow_add_lt a' e'⟩
  rw [Rat.intCast_mul, Rat.intCast_mul, Rat.intCast_mul, ← hx, ← a, ← e, Rat.intCast_mul]
  grind
theorem unit_dn {Q : Int} {k : Nat} {x y : Rat} {X : Int} (hx : x * (D : Rat) = (X : Rat)) (hx0 : x ≠ 0) (hD : D ≠ 0) (hd : D.natAbs < 2 ^ d) (hy : Dn (D * Q) k y) : Dn (D * X * Q) (d + k) (1 / x * y) := by
  have h1 : Dn D d (1 : Rat) := ⟨D, by grind, hd⟩
  have := mul_unit hx hx0 hD h1 hy
  rw [show (1 : Rat) * (1 / x * y) = 1 / x * y by grind] at this
  exact this
theorem IRep.clr (I : IRep h w0 w R D F d b l) (hp : p < h) (hc : c < w0) (hn : R p c ≠ 0) : ∃ X : Int, R p c * (D : Rat) = (X : Rat) ∧ IRep h w0 w (clr R p c) (D * X) F (d + b) (2 * b + 1) (b + l + 1) := by
  obtain ⟨X, hX, hXb⟩ := I.lo p hp c hc
  have hDn : (D : Rat) ≠ 0 := fun e => I.nz (Rat.intCast_eq_zero_iff.mp e)
  have hX0 : X ≠ 0 := fun e => by
    rw [e] at hX
    rcases Rat.mul_eq_zero.mp hX with z | z
    · exact hn z
    · exact hDn z
  have hle := I.le
  refine ⟨X, hX, Int.mul_ne_zero I.nz hX0, by rw [Int.natAbs_mul]; exact pow_add_lt I.dl hXb, by omega, fun i hi j hj => ?_, fun i hi j h1 h2 => ?_⟩
  · have hy : Dn (D * 1) b (R p j) := by rw [Int.mul_one]; exact I.lo p hp j hj
    unfold PN.clr
    split
    · have := unit_dn hX hn I.nz I.dl hy
      rw [Int.mul_one] at this
      exact this.mono (by omega)
    · have h1 := mul_unit hX hn I.nz (I.lo i hi c hc) hy
      rw [Int.mul_one] at h1
      have h2 := (I.lo i hi j hj).over hXb
      exact (h2.sub h1).mono (by omega)
  · have hy := I.hi p hp j h1 h2
    unfold PN.clr
    split
    · exact (unit_dn hX hn I.nz I.dl hy).mono (by omega)
    · have h3 := mul_unit hX hn I.nz (I.lo i hi c hc) hy
      have h4 := (I.hi i hi j h1 h2).over hXb
      rw [show D * F * X = D * X * F by rw [Int.mul_assoc, Int.mul_comm F X, ← Int.mul_assoc]] at h4
      exact ((h4.mono (show l + b ≤ b + l by omega)).sub h3).mono (by omega)
theorem IRep.step (I : IRep h w0 w R D F d b l) (hp : p < h) (hc : c < w0) (hn : R p c ≠ 0) (hF : F ≠ 0) {u : Nat} (hu : F.natAbs < 2 ^ u) (g1 : d + b + u ≤ LIM) (g2 : 2 * b + 1 ≤ LIM) (g3 : b + l + 1 ≤ LIM) : StepOk h w c p R := by
  obtain ⟨X, hX, hXb⟩ := I.lo p hp c hc
  have hDn : (D : Rat) ≠ 0 := fun e => I.nz (Rat.intCast_eq_zero_iff.mp e)
  have hX0 : X ≠ 0 := fun e => by
    rw [e] at hX
    rcases Rat.mul_eq_zero.mp hX with z | z
    · exact hn z
    · exact hDn z
  have hle := I.le
  have hDF : (D * F).natAbs < 2 ^ (d + u) := by rw [Int.natAbs_mul]; exact pow_add_lt I.dl hu
  have hDX : (D * X).natAbs < 2 ^ (d + b) := by rw [Int.natAbs_mul]; exact pow_add_lt I.dl hXb
  have hDXF : (D * X * F).natAbs < 2 ^ (d + b + u) := by rw [Int.natAbs_mul]; exact pow_add_lt hDX hu
  have nDF := Int.mul_ne_zero I.nz hF
  have nDX := Int.mul_ne_zero I.nz hX0
  have nDXF := Int.mul_ne_zero nDX hF
  refine ⟨fun i hi j hj => ?_, ?_, fun j hj => ?_, fun i hi j hj => ?_⟩
  · by_cases e : j < w0
    · exact (I.lo i hi j e).small I.nz I.dl (by omega) (by omega)
    · exact (I.hi i hi j (by omega) hj).small nDF hDF (by omega) (by omega)
  · obtain ⟨a, b⟩ := Dn.inv hX hn I.nz I.dl
    exact a.small b hXb (by omega) (by omega)
  · by_cases e : j < w0
    · have hy : Dn (D * 1) b (R p j) := by rw [Int.mul_one]; exact I.lo p hp j e
      have := unit_dn hX hn I.nz I.dl hy
      rw [Int.mul_one] at this
      exact this.small nDX hDX (by omega) (by omega)
    · exact (unit_dn hX hn I.nz I.dl (I.hi p hp j (by omega) hj)).small nDXF hDXF (by omega) (by omega)
  · by_cases e : j < w0
    · have hy : Dn (D * 1) b (R p j) := by rw [Int.mul_one]; exact I.lo p hp j e
      have := mul_unit hX hn I.nz (I.lo i hi c hc) hy
      rw [Int.mul_one] at this
      exact this.small nDX hDX (by omega) (by omega)
    · exact (mul_unit hX hn I.nz (I.lo i hi c hc) (I.hi p hp j (by omega) hj)).small nDXF hDXF (by omega) (by omega)
end
/-! ### the whole way; e t = 2^t (b + 1) -/
theorem piv_step {h c : Nat} {R0 : Nat → Nat → Rat} : (red h R0 c).piv.length ≤ (red h R0 (c + 1)).piv.length := by
  show _ ≤ (redS h c (red h R0 c)).piv.length
  unfold redS
  split
  · exact Nat.le_refl _
  · simp
theorem piv_mono {h : Nat} {R0 : Nat → Nat → Rat} {c e : Nat} (hce : c ≤ e) : (red h R0 c).piv.length ≤ (red h R0 e).piv.length := by
  induction hce with
  | refl => exact Nat.le_refl _
  | step _ ih => exact Nat.le_trans ih piv_step
theorem irep_all {h w0 w : Nat} {R0 : Nat → Nat → Rat} {D F : Int} {d b l : Nat} (I : IRep h w0 w R0 D F d b l) : ∀ c, c ≤ w0 →
    ∃ D' : Int, IRep h w0 w (red h R0 c).R D' F (d + 2 ^ (red h R0 c).piv.length * (b + 1) - (b + 1)) (2 ^ (red h R0 c).piv.length * (b + 1) - 1) (l + 2 ^ (red h R0 c).piv.length * (b + 1) - (b + 1))
  | 0, _ => by
    refine ⟨D, ?_⟩
    show IRep h w0 w R0 D F (d + 2 ^ 0 * (b + 1) - (b + 1)) (2 ^ 0 * (b + 1) - 1) (l + 2 ^ 0 * (b + 1) - (b + 1))
    have e1 : d + 2 ^ 0 * (b + 1) - (b + 1) = d := by omega
    have e2 : 2 ^ 0 * (b + 1) - 1 = b := by omega
    have e3 : l + 2 ^ 0 * (b + 1) - (b + 1) = l := by omega
    rw [e1, e2, e3]
    exact I
  | c + 1, hc => by
    obtain ⟨D', J⟩ := irep_all I c (by omega)
    have len := (rinv (h := h) (R0 := R0) c).len
    show ∃ D' : Int, IRep h w0 w (redS h c (red h R0 c)).R D' F (d + 2 ^ (redS h c (red h R0 c)).piv.length * (b + 1) - (b + 1)) (2 ^ (redS h c (red h R0 c)).piv.length * (b + 1) - 1) (l + 2 ^ (redS h c (red h R0 c)).piv.length * (b + 1) - (b + 1))
    generalize red h R0 c = s at J len
    unfold redS
    split
    · exact ⟨D', J⟩
    · rename_i f e
      obtain ⟨f1, f2, f3⟩ := pvt_some e
      obtain ⟨X, hX, K⟩ := (J.sw (p := s.piv.length) (f := f) (by omega) (by omega)).clr (c := c) (p := s.piv.length) (by omega) (by omega) (by rw [sw_self]; exact f3)
      refine ⟨D' * X, ?_⟩
      have hb : 1 ≤ 2 ^ s.piv.length := Nat.two_pow_pos _
      have hb2 : b + 1 ≤ 2 ^ s.piv.length * (b + 1) := Nat.le_mul_of_pos_left _ hb
      have e5 : 2 ^ (s.piv ++ [c]).length * (b + 1) = 2 * (2 ^ s.piv.length * (b + 1)) := by
        rw [List.length_append, List.length_singleton, Nat.pow_succ]
        rw [Nat.mul_comm (2 ^ s.piv.length) 2, Nat.mul_assoc]
      rw [e5]
      generalize 2 ^ s.piv.length * (b + 1) = t at K hb2
      exact ⟨K.nz, Nat.lt_of_lt_of_le K.dl (Nat.pow_le_pow_right (by decide) (by omega)), by have := I.le; omega, fun i hi j hj => (K.lo i hi j hj).mono (by omega), fun i hi j h1 h2 => (K.hi i hi j h1 h2).mono (by omega)⟩
theorem red_ok {h w0 w : Nat} {R0 : Nat → Nat → Rat} {D F : Int} {d b l u T : Nat} (I : IRep h w0 w R0 D F d b l) (hF : F ≠ 0) (hu : F.natAbs < 2 ^ u) (hT : (red h R0 w0).piv.length ≤ T)
    (g1 : d + 2 ^ T * (b + 1) + u ≤ LIM) (g3 : l + 2 ^ T * (b + 1) ≤ LIM) (g2 : 2 ^ T * (b + 1) ≤ LIM) :
    ∀ c, c < w0 → ∀ f, pvt (red h R0 c).R c (h - (red h R0 c).piv.length) (red h R0 c).piv.length = some f → StepOk h w c (red h R0 c).piv.length (sw (red h R0 c).R (red h R0 c).piv.length f) := by
  intro c hc f e
  obtain ⟨D', J⟩ := irep_all I c (by omega)
  have len := (rinv (h := h) (R0 := R0) c).len
  have m1 : (red h R0 (c + 1)).piv.length ≤ T := Nat.le_trans (piv_mono (by omega)) hT
  have m2 : (red h R0 (c + 1)).piv.length = (red h R0 c).piv.length + 1 := by
    show (redS h c (red h R0 c)).piv.length = _
    unfold redS
    rw [e]
    simp
  generalize red h R0 c = s at J len e m2
  obtain ⟨f1, f2, f3⟩ := pvt_some e
  have hb : 1 ≤ 2 ^ s.piv.length := Nat.two_pow_pos _
  have hb2 : b + 1 ≤ 2 ^ s.piv.length * (b + 1) := Nat.le_mul_of_pos_left _ hb
  have e5 : 2 * (2 ^ s.piv.length * (b + 1)) ≤ 2 ^ T * (b + 1) := by
    have h1 : 2 ^ (s.piv.length + 1) ≤ 2 ^ T := Nat.pow_le_pow_right (by decide) (by omega)
    have h2 := Nat.mul_le_mul_right (b + 1) h1
    rw [Nat.pow_succ, Nat.mul_comm (2 ^ s.piv.length) 2, Nat.mul_assoc] at h2
    exact h2
  have hle := I.le
  generalize 2 ^ s.piv.length * (b + 1) = t at J hb2 e5
  generalize 2 ^ T * (b + 1) = tT at g1 g2 g3 e5
  exact (J.sw (p := s.piv.length) (f := f) (by omega) (by omega)).step (by omega) hc (by rw [sw_self]; exact f3) hF hu (by omega) (by omega) (by omega)
end PN

set_option Elab.async false
set_option linter.all false
/-! PnI: a whole linear system's solution is bounded; so is the pseudo-inverse. -/
namespace PN
def dl : Nat → Nat → Nat
  | 0, _ => 1
  | r + 1, b => b + dl r (2 * b + 1)
def tl : Nat → Nat → Nat
  | 0, _ => 0
  | r + 1, b => b + max (dl r (2 * b + 1)) (tl r (2 * b + 1) + 3) + 1
def skp (p i : Nat) : Nat := if i < p then i else i + 1
theorem skp_ne (p i : Nat) : skp p i ≠ p := by unfold skp; split <;> omega
theorem skp_lt {p i r : Nat} (h : i < r) : skp p i < r + 1 := by unfold skp; split <;> omega
theorem skp_onto {p k r : Nat} (hk : k < r + 1) (h : k ≠ p) (hp : p < r + 1) : ∃ i, i < r ∧ skp p i = k := by
  by_cases e : k < p
  · exact ⟨k, by omega, by unfold skp; rw [if_pos e]⟩
  · exact ⟨k - 1, by omega, by unfold skp; rw [if_neg (by omega)]; omega⟩
theorem lin_bound : ∀ (r b : Nat) (Q : Nat → Nat → Int), r < 8 → (∀ z : Nat → Rat, (∀ k, k < r → sm r (fun l => (Q k l : Rat) * z l) = 0) → ∀ l, l < r → z l = 0) → (∀ k, k < r → ∀ l, l < r → (Q k l).natAbs < 2 ^ b) →
    ∃ D : Int, D ≠ 0 ∧ D.natAbs < 2 ^ dl r b ∧ ∀ (z : Nat → Rat) (B : Nat → Int), (∀ k, k < r → sm r (fun l => (Q k l : Rat) * z l) = (B k : Rat)) → (∀ k, k < r → (B k).natAbs < 2 ^ b) → ∀ l, l < r → Dn D (tl r b) (z l)
  | 0, b, Q, _, _, _ => ⟨1, by decide, by show (1 : Int).natAbs < 2 ^ 1; decide, fun _ _ _ _ l hl => by omega⟩
  | r + 1, b, Q, hr, hns, hQ => by
    -- a row whose last number is not 0
    obtain ⟨p, hp, hpn⟩ : ∃ p, p < r + 1 ∧ Q p r ≠ 0 := by
      by_cases e : ∃ p, p < r + 1 ∧ Q p r ≠ 0
      · exact e
      · exfalso
        have h1 := hns (un r) (fun k hk => by
          have hz : Q k r = 0 := by
            by_cases z : Q k r = 0
            · exact z
            · exact absurd ⟨k, hk, z⟩ e
          rw [sm_single r (fun l => (Q k l : Rat) * un r l) (by omega) fun i _ hi => by unfold un; rw [if_neg hi]; grind]
          rw [hz, Rat.intCast_zero]; grind) r (by omega)
        unfold un at h1
        rw [if_pos rfl] at h1
        exact absurd h1 (by decide)
    have hpr : (Q p r : Rat) ≠ 0 := fun e => hpn (Rat.intCast_eq_zero_iff.mp e)
    let Q' : Nat → Nat → Int := fun i l => Q p r * Q (skp p i) l - Q (skp p i) r * Q p l
    have sum' : ∀ (z : Nat → Rat) (i : Nat), sm r (fun l => (Q' i l : Rat) * z l) = (Q p r : Rat) * sm r (fun l => (Q (skp p i) l : Rat) * z l) - (Q (skp p i) r : Rat) * sm r (fun l => (Q p l : Rat) * z l) := fun z i => by
      rw [← sm_mul, ← sm_mul, ← sm_sub]
      refine sm_congr fun l _ => ?_
      show ((Q p r * Q (skp p i) l - Q (skp p i) r * Q p l : Int) : Rat) * z l = _
      rw [Rat.intCast_sub, Rat.intCast_mul, Rat.intCast_mul]; grind
    have split : ∀ (z : Nat → Rat) (k : Nat), sm (r + 1) (fun l => (Q k l : Rat) * z l) = sm r (fun l => (Q k l : Rat) * z l) + (Q k r : Rat) * z r := fun z k => rfl
    have hb1 : ∀ i, i < r → ∀ l, l < r → (Q' i l).natAbs < 2 ^ (2 * b + 1) := fun i hi l hl => by
      have h1 := pow_add_lt (hQ p hp r (by omega)) (hQ (skp p i) (skp_lt hi) l (by omega))
      have h2 := pow_add_lt (hQ (skp p i) (skp_lt hi) r (by omega)) (hQ p hp l (by omega))
      rw [← Int.natAbs_mul] at h1 h2
      show (Q p r * Q (skp p i) l - Q (skp p i) r * Q p l).natAbs < _
      have e : 2 ^ (2 * b + 1) = 2 ^ (b + b) + 2 ^ (b + b) := by rw [Nat.pow_succ, show 2 * b = b + b by omega]; omega
      omega
    obtain ⟨D, hD, hDb, hz⟩ := lin_bound r (2 * b + 1) Q' (by omega) (fun z h l hl => by
      let z' : Nat → Rat := fun l => if l = r then -(sm r (fun l => (Q p l : Rat) * z l)) / (Q p r : Rat) else z l
      have ez : ∀ k, sm r (fun l => (Q k l : Rat) * z' l) = sm r (fun l => (Q k l : Rat) * z l) := fun k => sm_congr fun l hl => by
        show _ * (if l = r then _ else z l) = _
        rw [if_neg (by omega)]
      have er : z' r = -(sm r (fun l => (Q p l : Rat) * z l)) / (Q p r : Rat) := if_pos rfl
      have h1 := hns z' (fun k hk => by
        rw [split, ez, er]
        by_cases e : k = p
        · subst e; grind
        · obtain ⟨i, hi, ei⟩ := skp_onto hk e hp
          have h2 := h i hi
          rw [sum', ei] at h2
          grind) l (by omega)
      have e2 : z' l = z l := if_neg (by omega)
      rw [← e2]; exact h1) hb1
    refine ⟨D * Q p r, Int.mul_ne_zero hD hpn, ?_, fun z B hzB hB => ?_⟩
    · rw [Int.natAbs_mul]
      show _ < 2 ^ (b + dl r (2 * b + 1))
      rw [Nat.add_comm]
      exact pow_add_lt hDb (hQ p hp r (by omega))
    · have low := hz z (fun i => Q p r * B (skp p i) - Q (skp p i) r * B p) (fun i hi => by
        rw [sum', Rat.intCast_sub, Rat.intCast_mul, Rat.intCast_mul, ← hzB _ (skp_lt hi), ← hzB p hp, split, split]
        grind) (fun i hi => by
        have h1 := pow_add_lt (hQ p hp r (by omega)) (hB (skp p i) (skp_lt hi))
        have h2 := pow_add_lt (hQ (skp p i) (skp_lt hi) r (by omega)) (hB p hp)
        rw [← Int.natAbs_mul] at h1 h2
        have e : 2 ^ (2 * b + 1) = 2 ^ (b + b) + 2 ^ (b + b) := by rw [Nat.pow_succ, show 2 * b = b + b by omega]; omega
        omega)
      intro l hl
      by_cases e : l = r
      · -- the last: Q p r z r = B p - sum
        have h0 := hzB p hp
        rw [split] at h0
        have h1 : Dn (D * 1) (tl r (2 * b + 1) + b + 3) (sm r (fun l => (Q p l : Rat) * z l)) := Dn.sum8 (by omega) fun l hl => by
          have h3 := (low l hl).mul (Dn.int (Q p l) (hQ p hp l (by omega)))
          rw [show (Q p l : Rat) * z l = z l * (Q p l : Rat) by grind]
          exact h3
        rw [Int.mul_one] at h1
        obtain ⟨N, hN, hNb⟩ := h1
        refine ⟨B p * D - N, ?_, ?_⟩
        · rw [Rat.intCast_sub, Rat.intCast_mul, Rat.intCast_mul, ← hN, ← h0, e]; grind
        · have h4 := pow_add_lt (hB p hp) hDb
          rw [← Int.natAbs_mul] at h4
          show _ < 2 ^ (b + max (dl r (2 * b + 1)) (tl r (2 * b + 1) + 3) + 1)
          have h5 : 2 ^ (b + dl r (2 * b + 1)) ≤ 2 ^ (b + max (dl r (2 * b + 1)) (tl r (2 * b + 1) + 3)) := Nat.pow_le_pow_right (by decide) (by omega)
          have h6 : 2 ^ (tl r (2 * b + 1) + b + 3) ≤ 2 ^ (b + max (dl r (2 * b + 1)) (tl r (2 * b + 1) + 3)) := Nat.pow_le_pow_right (by decide) (by omega)
          rw [Nat.pow_succ]
          omega
      · exact ((low l (by omega)).over (hQ p hp r (by omega))).mono (by show _ ≤ b + max (dl r (2 * b + 1)) (tl r (2 * b + 1) + 3) + 1; omega)
theorem dl_le5 {r : Nat} (h : r ≤ 5) : dl r 30 ≤ 957 ∧ tl r 30 ≤ 976 := by
  have : r = 0 ∨ r = 1 ∨ r = 2 ∨ r = 3 ∨ r = 4 ∨ r = 5 := by omega
  rcases this with rfl | rfl | rfl | rfl | rfl | rfl <;> decide
theorem dl_le4 {r : Nat} (h : r ≤ 4) : dl r 30 ≤ 462 ∧ tl r 30 ≤ 477 := by
  have : r = 0 ∨ r = 1 ∨ r = 2 ∨ r = 3 ∨ r = 4 := by omega
  rcases this with rfl | rfl | rfl | rfl | rfl <;> decide
theorem sm_le_n : ∀ {n : Nat} {f : Nat → Rat}, (∀ i, i < n → f i ≤ 1) → sm n f ≤ (n : Rat)
  | 0, _, _ => Rat.le_refl
  | n + 1, f, h => by
    have h1 := sm_le_n (n := n) fun i hi => h i (by omega)
    have h2 := h n (by omega)
    have e : ((n + 1 : Nat) : Rat) = (n : Rat) + 1 := Rat.natCast_add n 1
    show sm n f + f n ≤ _
    rw [e]
    grind
section
variable {n m r : Nat} {A : Nat → Nat → Rat} {W : Nat → Rat} {M P : Nat → Nat → Rat} {ix : Nat → Nat}
theorem Good.rank_le (G : Good n m r A W M P ix) : r ≤ n := by
  have h := sm_le_n (n := n) (f := fun j => dt n (un j) (ap n M (ap n P (un j)))) fun j hj => by
    have h1 := G.diag (un j)
    rw [dt_un (un j) hj] at h1
    unfold un at h1 ⊢
    rw [if_pos rfl] at h1
    exact h1
  rw [G.tr] at h
  exact Rat.natCast_le_natCast.mp h
/-- whole rows, weights of sixths -/
structure Whole (n m : Nat) (A : Nat → Nat → Rat) (W : Nat → Rat) : Prop where
  row : ∀ k, k < m → ∀ i, i < n → Dn 1 4 (A k i)
  wei : ∀ k, k < m → Dn 6 5 (W k)
theorem Good.mbound (G : Good n m r A W M P ix) (H : Whole n m A W) (hm : m < 8) {i j : Nat} (hi : i < n) (hj : j < n) : Dn 6 16 (M i j) := by
  have e : M i j = sm m fun k => W k * (A k i * A k j) := by
    have h1 := G.mform (un i) (un j)
    rw [dt_un _ hi] at h1
    have h2 : ap n M (un j) i = M i j := dt_un_r (M i) hj
    rw [← h2, h1]
    exact sm_congr fun k _ => by rw [dt_un_r _ hi, dt_un_r _ hj]
  rw [e]
  exact (Dn.sum8 hm fun k hk => (H.wei k hk).mul ((H.row k hk i hi).mul (H.row k hk j hj)))
theorem span_vec {r : Nat} {B : Nat → Nat → Rat} {z : Nat → Rat} {v : Nat → Rat} (h : ∀ x, dt n x v = sm r fun k => z k * dt n x (B k)) {i : Nat} (hi : i < n) : v i = sm r fun k => z k * B k i := by
  have h1 := h (un i)
  rw [dt_un v hi] at h1
  rw [h1]
  exact sm_congr fun k _ => by rw [dt_un _ hi]
theorem num_of {x : Rat} {c N : Int} (h : x * (c : Rat) = (N : Rat)) : ((x * (c : Rat)).num : Rat) = x * (c : Rat) ∧ (x * (c : Rat)).num = N := by
  rw [h, Rat.num_intCast]
  exact ⟨rfl, rfl⟩
theorem Good.pbound (G : Good n m r A W M P ix) (H : Whole n m A W) (hn : n ≤ 5) (hm : m < 8) : ∃ D : Int, D ≠ 0 ∧ D.natAbs < 2 ^ dl r 30 ∧ ∀ i, i < n → ∀ j, j < n → Dn D (tl r 30 + 7) (P i j) := by
  have hr := G.rank_le
  -- the system Q z = 6 B e_j
  have qd : ∀ k l, k < r → l < r → Dn 6 30 (dt n (A (ix k)) (ap n M (A (ix l)))) := fun k l hk hl => by
    rw [G.mform]
    have dd : ∀ q, q < m → ∀ l, l < r → Dn 1 11 (dt n (A q) (A (ix l))) := fun q hq l hl => Dn.dot (by omega) (H.row q hq) (H.row (ix l) (G.ixm l hl))
    exact Dn.sum8 hm fun q hq => (H.wei q hq).mul ((dd q hq k hk).mul (dd q hq l hl))
  have qi : ∀ k l, k < r → l < r → ((dt n (A (ix k)) (ap n M (A (ix l))) * ((6 : Int) : Rat)).num : Rat) = dt n (A (ix k)) (ap n M (A (ix l))) * ((6 : Int) : Rat) := fun k l hk hl => by
    obtain ⟨N, a, _⟩ := qd k l hk hl
    exact (num_of a).1
  have six : ((6 : Int) : Rat) ≠ 0 := by decide
  -- the system's sum at z
  have qs : ∀ (z : Nat → Rat) (k : Nat), k < r → sm r (fun l => ((dt n (A (ix k)) (ap n M (A (ix l))) * ((6 : Int) : Rat)).num : Rat) * z l) = ((6 : Int) : Rat) * dt n (A (ix k)) (ap n M (fun i => sm r fun l => z l * A (ix l) i)) := fun z k hk => by
    rw [ap_comb, dt_comb, ← sm_mul]
    exact sm_congr fun l hl => by rw [qi k l hk hl]; grind
  obtain ⟨D, hD, hDb, hz⟩ := lin_bound r 30 (fun k l => (dt n (A (ix k)) (ap n M (A (ix l))) * ((6 : Int) : Rat)).num) (by omega) (fun z h l hl => by
    have hM : ∀ k, k < r → dt n (A (ix k)) (ap n M (fun i => sm r fun l => z l * A (ix l) i)) = 0 := fun k hk => by
      have h1 := h k hk
      rw [qs z k hk] at h1
      rcases Rat.mul_eq_zero.mp h1 with e | e
      · exact absurd e six
      · exact e
    have hvv : dt n (fun i => sm r fun l => z l * A (ix l) i) (ap n M (fun i => sm r fun l => z l * A (ix l) i)) = 0 := by
      rw [dt_comm, dt_comb]
      exact sm_zero fun k hk => by rw [dt_comm, hM k hk]; grind
    rw [G.mform] at hvv
    have hA : ∀ q, q < m → dt n (A q) (fun i => sm r fun l => z l * A (ix l) i) = 0 := fun q hq => by
      have h1 := sm_nonneg_zero (fun q hq => Rat.mul_nonneg (Rat.le_of_lt (G.wpos q hq)) (sq_nonneg _)) hvv q hq
      have hw := G.wpos q hq
      rcases Rat.mul_eq_zero.mp h1 with e | e
      · rw [e] at hw; exact absurd hw Rat.lt_irrefl
      · exact sq_zero e
    have hv : dt n (fun i => sm r fun l => z l * A (ix l) i) (fun i => sm r fun l => z l * A (ix l) i) = 0 := by
      rw [dt_comb]
      exact sm_zero fun k hk => by rw [dt_comm, hA _ (G.ixm k hk)]; grind
    exact G.indep z (fun x => by rw [← dt_comb]; exact dt_zero (dt_self_zero hv)) l hl) (fun k hk l hl => by
    obtain ⟨N, a, b⟩ := qd k l hk hl
    show ((dt n (A (ix k)) (ap n M (A (ix l))) * ((6 : Int) : Rat)).num).natAbs < _
    rw [(num_of a).2]; exact b)
  refine ⟨D, hD, hDb, fun i hi j hj => ?_⟩
  obtain ⟨z, hzs⟩ := G.spanP (un j)
  have hPz : ∀ i, i < n → ap n P (un j) i = sm r fun l => z l * A (ix l) i := fun i hi => span_vec (v := ap n P (un j)) (B := fun l => A (ix l)) hzs hi
  have hzb := hz z (fun k => (A (ix k) j * ((6 : Int) : Rat)).num) (fun k hk => by
    rw [qs z k hk, ap_congr fun i hi => (hPz i hi).symm, G.proj, G.fix _ (G.ixm k hk), dt_un _ hj]
    obtain ⟨N, a, b⟩ := H.row (ix k) (G.ixm k hk) j hj
    rw [Rat.intCast_one] at a
    have e : A (ix k) j * ((6 : Int) : Rat) = ((N * 6 : Int) : Rat) := by rw [Rat.intCast_mul, ← a]; grind
    rw [(num_of e).1]; grind) (fun k hk => by
    obtain ⟨N, a, b⟩ := H.row (ix k) (G.ixm k hk) j hj
    rw [Rat.intCast_one] at a
    have e : A (ix k) j * ((6 : Int) : Rat) = ((N * 6 : Int) : Rat) := by rw [Rat.intCast_mul, ← a]; grind
    show ((A (ix k) j * ((6 : Int) : Rat)).num).natAbs < _
    rw [(num_of e).2]
    have : (16 : Nat) * 6 < 2 ^ 30 := by decide
    omega)
  have e1 : P i j = sm r fun l => z l * A (ix l) i := by rw [← hPz i hi]; exact (dt_un_r (P i) hj).symm
  rw [e1]
  have h3 : Dn (D * 1) (tl r 30 + 4 + 3) (sm r fun l => z l * A (ix l) i) := Dn.sum8 (by omega) fun l hl => (hzb l hl).mul (H.row (ix l) (G.ixm l hl) i hi)
  rw [Int.mul_one] at h3
  exact h3
end
end PN

set_option Elab.async false
set_option linter.all false
set_option maxRecDepth 10000
/-! PnJ: what the steps of the program want of their numbers. -/
namespace PN
structure DotOk (n : Nat) (x y : Nat → Rat) : Prop where
  l : ∀ i, i < n → Sm (x i)
  r : ∀ i, i < n → Sm (y i)
  m : ∀ i, i < n → Sm (x i * y i)
  s : ∀ k, k < n → Sm (sm k fun i => x i * y i)
theorem dotOk {D E : Int} {d e k l n : Nat} {x y : Nat → Rat} (hn : n < 8) (hD : D ≠ 0) (hE : E ≠ 0) (hd : D.natAbs < 2 ^ d) (he : E.natAbs < 2 ^ e) (h : ∀ i, i < n → Dn D k (x i)) (h' : ∀ i, i < n → Dn E l (y i))
    (g1 : d + e ≤ LIM) (g2 : k + l + 3 ≤ LIM) : DotOk n x y := by
  have hDE : (D * E).natAbs < 2 ^ (d + e) := by rw [Int.natAbs_mul]; exact pow_add_lt hd he
  have nDE := Int.mul_ne_zero hD hE
  exact ⟨fun i hi => (h i hi).small hD hd (by omega) (by omega), fun i hi => (h' i hi).small hE he (by omega) (by omega), fun i hi => ((h i hi).mul (h' i hi)).small nDE hDE (by omega) (by omega),
    fun q hq => (Dn.sum8 (n := q) (by omega) fun i hi => (h i (by omega)).mul (h' i (by omega))).small nDE hDE (by omega) (by omega)⟩
theorem abs_mul {D E : Int} {a b : Nat} (c : Nat) (h1 : D.natAbs < 2 ^ a) (h2 : E.natAbs < 2 ^ b) (e : a + b = c) : (D * E).natAbs < 2 ^ c := by
  subst e
  rw [Int.natAbs_mul]
  exact pow_add_lt h1 h2
theorem two_pow_lt {a b : Nat} (h : a ≤ b) {x : Nat} (hx : x < 2 ^ a) : x < 2 ^ b := Nat.lt_of_lt_of_le hx (Nat.pow_le_pow_right (by decide) h)
theorem lim_eq : LIM = 4480 := rfl
/-- what a reading's adding wants -/
structure AddOk (n : Nat) (M P : Nat → Nat → Rat) (a : Nat → Rat) (w : Rat) : Prop where
  image : ∀ i, i < n → DotOk n (P i) a
  mg : ∀ i, i < n → DotOk n (M i) (ap n P a)
  sub : ∀ i, i < n → Sm (ap n M (ap n P a) i)
  row : ∀ i, i < n → Sm (a i)
  share : DotOk n a (ap n P a)
  wt : Sm w
  s : Sm (dt n a (ap n P a))
  g : ∀ i, i < n → Sm (ap n P a i)
  p : ∀ i, i < n → ∀ j, j < n → Sm (P i j)
  m : ∀ i, i < n → ∀ j, j < n → Sm (M i j)
  rr : ∀ i, i < n → ∀ j, j < n → Sm (a i * a j)
  wrr : ∀ i, i < n → ∀ j, j < n → Sm (w * (a i * a j))
structure SameOk (n : Nat) (P : Nat → Nat → Rat) (g : Nat → Rat) (w s : Rat) : Prop where
  ws : Sm (w * s)
  one : Sm (1 + w * s)
  nz : 1 + w * s ≠ 0
  f : Sm (w / (1 + w * s))
  gg : ∀ i, i < n → ∀ j, j < n → Sm (g i * g j)
  fgg : ∀ i, i < n → ∀ j, j < n → Sm (-(w / (1 + w * s)) * (g i * g j))
structure MoreOk (n : Nat) (P : Nat → Nat → Rat) (u g : Nat → Rat) (w s : Rat) : Prop where
  uu : DotOk n u u
  nz : dt n u u ≠ 0
  du : Sm (dt n u u)
  inv : Sm (1 / dt n u u)
  c : ∀ i, i < n → Sm (1 / dt n u u * u i)
  cg : ∀ i, i < n → ∀ j, j < n → Sm ((1 / dt n u u * u i) * g j)
  ncg : ∀ i, i < n → ∀ j, j < n → Sm ((-1) * ((1 / dt n u u * u i) * g j))
  f1 : ∀ i, i < n → ∀ j, j < n → Sm (P i j + (-1) * ((1 / dt n u u * u i) * g j))
  gc : ∀ i, i < n → ∀ j, j < n → Sm (g i * (1 / dt n u u * u j))
  ngc : ∀ i, i < n → ∀ j, j < n → Sm ((-1) * (g i * (1 / dt n u u * u j)))
  f2 : ∀ i, i < n → ∀ j, j < n → Sm ((P i j + (-1) * ((1 / dt n u u * u i) * g j)) + (-1) * (g i * (1 / dt n u u * u j)))
  iw : Sm (1 / w)
  wn : w ≠ 0
  k : Sm (1 / w + s)
  cc : ∀ i, i < n → ∀ j, j < n → Sm ((1 / dt n u u * u i) * (1 / dt n u u * u j))
  kcc : ∀ i, i < n → ∀ j, j < n → Sm ((1 / w + s) * ((1 / dt n u u * u i) * (1 / dt n u u * u j)))
section
variable {n m r : Nat} {A : Nat → Nat → Rat} {W : Nat → Rat} {M P : Nat → Nat → Rat} {ix : Nat → Nat} {a : Nat → Rat} {w : Rat}
theorem six_lt : (6 : Int).natAbs < 2 ^ 3 := by decide
theorem one_lt : (1 : Int).natAbs < 2 ^ 1 := by decide
theorem six_ne : (6 : Int) ≠ 0 := by decide
theorem one_ne : (1 : Int) ≠ 0 := by decide
theorem Dn.one_l {D : Int} {k : Nat} {q : Rat} (h : Dn (1 * D) k q) : Dn D k q := by rwa [Int.one_mul] at h
theorem Dn.one_r {D : Int} {k : Nat} {q : Rat} (h : Dn (D * 1) k q) : Dn D k q := by rwa [Int.mul_one] at h
theorem addOk (G : Good n m r A W M P ix) (H : Whole n m A W) (hn : n ≤ 5) (hm : m < 8) (ha : ∀ i, i < n → Dn 1 4 (a i)) (hw : Dn 6 5 w) : AddOk n M P a w := by
  obtain ⟨D, hD, hd, hP⟩ := G.pbound H hn hm
  have hr : r ≤ 5 := Nat.le_trans G.rank_le hn
  obtain ⟨e1, e2⟩ := dl_le5 hr
  have hd2 : D.natAbs < 2 ^ 957 := two_pow_lt e1 hd
  have hP2 : ∀ i, i < n → ∀ j, j < n → Dn D 983 (P i j) := fun i hi j hj => (hP i hi j hj).mono (by omega)
  have hM : ∀ i, i < n → ∀ j, j < n → Dn 6 16 (M i j) := fun i hi j hj => G.mbound H hm hi hj
  have hg : ∀ i, i < n → Dn D 990 (ap n P a i) := fun i hi => (Dn.dot (by omega) (hP2 i hi) ha).one_r
  have h6D : (6 * D).natAbs < 2 ^ 960 := abs_mul _ six_lt hd2 rfl
  have n6D := Int.mul_ne_zero six_ne hD
  refine ⟨fun i hi => dotOk (by omega) hD one_ne hd2 one_lt (hP2 i hi) ha (by decide) (by decide), fun i hi => dotOk (by omega) six_ne hD six_lt hd2 (hM i hi) hg (by decide) (by decide),
    fun i hi => (Dn.dot (by omega) (hM i hi) hg).small n6D h6D (by decide) (by decide), fun i hi => (ha i hi).small one_ne one_lt (by decide) (by decide),
    dotOk (by omega) one_ne hD one_lt hd2 ha hg (by decide) (by decide), hw.small six_ne six_lt (by decide) (by decide),
    (Dn.dot (by omega) ha hg).one_l.small hD hd2 (by decide) (by decide), fun i hi => (hg i hi).small hD hd2 (by decide) (by decide), fun i hi j hj => (hP2 i hi j hj).small hD hd2 (by decide) (by decide),
    fun i hi j hj => (hM i hi j hj).small six_ne six_lt (by decide) (by decide), fun i hi j hj => ((ha i hi).mul (ha j hj)).one_l.small one_ne one_lt (by decide) (by decide),
    fun i hi j hj => (hw.mul ((ha i hi).mul (ha j hj)).one_l).one_r.small six_ne six_lt (by decide) (by decide)⟩
theorem sameOk (G : Good n m r A W M P ix) (H : Whole n m A W) (hn : n ≤ 5) (hm : m < 8) (ha : ∀ i, i < n → Dn 1 4 (a i)) (hw : Dn 6 5 w) (hp : 0 < w) : SameOk n P (ap n P a) w (dt n a (ap n P a)) := by
  obtain ⟨D, hD, hd, hP⟩ := G.pbound H hn hm
  have hr : r ≤ 5 := Nat.le_trans G.rank_le hn
  obtain ⟨e1, e2⟩ := dl_le5 hr
  have hd2 : D.natAbs < 2 ^ 957 := two_pow_lt e1 hd
  have hP2 : ∀ i, i < n → ∀ j, j < n → Dn D 983 (P i j) := fun i hi j hj => (hP i hi j hj).mono (by omega)
  have hg : ∀ i, i < n → Dn D 990 (ap n P a i) := fun i hi => (Dn.dot (by omega) (hP2 i hi) ha).one_r
  have h6D : (6 * D).natAbs < 2 ^ 960 := abs_mul _ six_lt hd2 rfl
  have hDD : (D * D).natAbs < 2 ^ 1914 := abs_mul _ hd2 hd2 rfl
  have n6D := Int.mul_ne_zero six_ne hD
  have nDD := Int.mul_ne_zero hD hD
  have hs : Dn D 997 (dt n a (ap n P a)) := (Dn.dot (by omega) ha hg).one_l
  have hws : Dn (6 * D) 1002 (w * dt n a (ap n P a)) := hw.mul hs
  have hone0 : Dn (6 * D) 960 (1 : Rat) := ⟨6 * D, by grind, h6D⟩
  have hone : Dn (6 * D) 1002 (1 : Rat) := hone0.mono (by decide)
  have h1 : Dn (6 * D) 1003 (1 + w * dt n a (ap n P a)) := hone.add hws
  have hpos := one_add_pos hp (G.psd a)
  have hnz : 1 + w * dt n a (ap n P a) ≠ 0 := by grind
  obtain ⟨N, hN, hNb⟩ := id h1
  obtain ⟨hi, hN0⟩ := Dn.inv hN hnz n6D h6D
  have hf : Dn (6 * N) 965 (w / (1 + w * dt n a (ap n P a))) := by
    have := hw.mul hi
    rw [show w * (1 / (1 + w * dt n a (ap n P a))) = w / (1 + w * dt n a (ap n P a)) by grind] at this
    exact this
  have n6N := Int.mul_ne_zero six_ne hN0
  have h6N : (6 * N).natAbs < 2 ^ 1006 := abs_mul _ six_lt hNb rfl
  have hX : (6 * N * (D * D)).natAbs < 2 ^ 2920 := abs_mul _ h6N hDD rfl
  exact ⟨hws.small n6D h6D (by decide) (by decide), h1.small n6D h6D (by decide) (by decide), hnz, hf.small n6N h6N (by decide) (by decide), fun i hi j hj => ((hg i hi).mul (hg j hj)).small nDD hDD (by decide) (by decide),
    fun i hi j hj => (hf.neg.mul ((hg i hi).mul (hg j hj))).small (Int.mul_ne_zero n6N nDD) hX (by decide) (by decide)⟩
theorem moreOk (G : Good n m r A W M P ix) (H : Whole n m A W) (hn : n ≤ 5) (hm : m < 8) (ha : ∀ i, i < n → Dn 1 4 (a i)) (hw : Dn 6 5 w) (hiw : Dn 12 6 (1 / w)) (hp : 0 < w) (hu : dt n (rest n M P a) (rest n M P a) ≠ 0) :
    MoreOk n P (rest n M P a) (ap n P a) w (dt n a (ap n P a)) := by
  have hr : r ≤ 4 := by
    have := (G.more hp hu).rank_le
    omega
  obtain ⟨D, hD, hd, hP⟩ := G.pbound H hn hm
  obtain ⟨e1, e2⟩ := dl_le4 hr
  have hd2 : D.natAbs < 2 ^ 462 := two_pow_lt e1 hd
  have hP2 : ∀ i, i < n → ∀ j, j < n → Dn D 484 (P i j) := fun i hi j hj => (hP i hi j hj).mono (by omega)
  have hM : ∀ i, i < n → ∀ j, j < n → Dn 6 16 (M i j) := fun i hi j hj => G.mbound H hm hi hj
  have hg : ∀ i, i < n → Dn D 491 (ap n P a i) := fun i hi => (Dn.dot (by omega) (hP2 i hi) ha).one_r
  have hs : Dn D 498 (dt n a (ap n P a)) := (Dn.dot (by omega) ha hg).one_l
  have n6D := Int.mul_ne_zero six_ne hD
  have h6D : (6 * D).natAbs < 2 ^ 465 := abs_mul _ six_lt hd2 rfl
  have hU : ∀ i, i < n → Dn (6 * D) 511 (rest n M P a i) := fun i hi => by
    have h1 : Dn (6 * D) 510 (a i) := ((ha i hi).over h6D).one_l.mono (by decide)
    exact h1.sub (Dn.dot (by omega) (hM i hi) hg)
  have h36 : (6 * D * (6 * D)).natAbs < 2 ^ 930 := abs_mul _ h6D h6D rfl
  have n36 := Int.mul_ne_zero n6D n6D
  have huu : Dn (6 * D * (6 * D)) 1025 (dt n (rest n M P a) (rest n M P a)) := Dn.dot (by omega) hU hU
  obtain ⟨N, hN, hNb⟩ := id huu
  obtain ⟨hi, hN0⟩ := Dn.inv hN hu n36 h36
  have hNbD : (N * (6 * D)).natAbs < 2 ^ 1490 := abs_mul _ hNb h6D rfl
  have nND := Int.mul_ne_zero hN0 n6D
  -- c over N: 1 / uu * u, smart: 36 D D / N * U / (6 D) = 6 D U / N
  have hc : ∀ i, i < n → Dn N 976 (1 / dt n (rest n M P a) (rest n M P a) * rest n M P a i) := fun i hi' => by
    obtain ⟨U, hU1, hU2⟩ := hU i hi'
    have hDn : ((6 * D : Int) : Rat) ≠ 0 := fun e => n6D (Rat.intCast_eq_zero_iff.mp e)
    refine ⟨6 * D * U, ?_, abs_mul _ h6D hU2 rfl⟩
    rw [← hN, Rat.intCast_mul (6 * D) U, ← hU1, Rat.intCast_mul (6 * D) (6 * D)]
    grind
  have hND : (N * D).natAbs < 2 ^ 1487 := abs_mul _ hNb hd2 rfl
  have nNDD := Int.mul_ne_zero hN0 hD
  have hcg : ∀ i, i < n → ∀ j, j < n → Dn (N * D) 1467 ((1 / dt n (rest n M P a) (rest n M P a) * rest n M P a i) * ap n P a j) := fun i hi j hj => (hc i hi).mul (hg j hj)
  have hgc : ∀ i, i < n → ∀ j, j < n → Dn (N * D) 1467 (ap n P a i * (1 / dt n (rest n M P a) (rest n M P a) * rest n M P a j)) := fun i hi j hj => by
    rw [show ap n P a i * (1 / dt n (rest n M P a) (rest n M P a) * rest n M P a j) = (1 / dt n (rest n M P a) (rest n M P a) * rest n M P a j) * ap n P a i by grind]
    exact hcg j hj i hi
  have neg1 : ∀ {D : Int} {k : Nat} {q : Rat}, Dn D k q → Dn D k ((-1) * q) := fun {D k q} h => by
    rw [show (-1) * q = -q by grind]; exact h.neg
  have hPN : ∀ i, i < n → ∀ j, j < n → Dn (N * D) 1509 (P i j) := fun i hi j hj => by
    have := (hP2 i hi j hj).over hNb
    rw [Int.mul_comm D N] at this
    exact this
  have hf1 : ∀ i, i < n → ∀ j, j < n → Dn (N * D) 1510 (P i j + (-1) * ((1 / dt n (rest n M P a) (rest n M P a) * rest n M P a i) * ap n P a j)) := fun i hi j hj => (hPN i hi j hj).add ((neg1 (hcg i hi j hj)).mono (by decide))
  have hf2 : ∀ i, i < n → ∀ j, j < n → Dn (N * D) 1511 ((P i j + (-1) * ((1 / dt n (rest n M P a) (rest n M P a) * rest n M P a i) * ap n P a j)) + (-1) * (ap n P a i * (1 / dt n (rest n M P a) (rest n M P a) * rest n M P a j))) := fun i hi j hj =>
    (hf1 i hi j hj).add ((neg1 (hgc i hi j hj)).mono (by decide))
  have h12 : (12 : Int).natAbs < 2 ^ 4 := by decide
  have n12 : (12 : Int) ≠ 0 := by decide
  have h12D : (12 * D).natAbs < 2 ^ 466 := abs_mul _ h12 hd2 rfl
  have n12D := Int.mul_ne_zero n12 hD
  have hk : Dn (12 * D) 503 (1 / w + dt n a (ap n P a)) := by
    have h1 : Dn (12 * D) 502 (1 / w) := (hiw.over hd2).mono (by decide)
    have h2 := hs.over h12
    rw [Int.mul_comm D 12] at h2
    exact h1.add h2
  have hNN : (N * N).natAbs < 2 ^ 2050 := abs_mul _ hNb hNb rfl
  have nNN := Int.mul_ne_zero hN0 hN0
  have hcc : ∀ i, i < n → ∀ j, j < n → Dn (N * N) 1952 ((1 / dt n (rest n M P a) (rest n M P a) * rest n M P a i) * (1 / dt n (rest n M P a) (rest n M P a) * rest n M P a j)) := fun i hi j hj => (hc i hi).mul (hc j hj)
  have hX : (12 * D * (N * N)).natAbs < 2 ^ 2516 := abs_mul _ h12D hNN rfl
  have hwn : w ≠ 0 := by grind
  exact ⟨dotOk (by omega) n6D n6D h6D h6D hU hU (by decide) (by decide), hu, huu.small n36 h36 (by decide) (by decide), hi.small hN0 hNb (by decide) (by decide), fun i hi => (hc i hi).small hN0 hNb (by decide) (by decide),
    fun i hi j hj => (hcg i hi j hj).small nNDD hND (by decide) (by decide), fun i hi j hj => (neg1 (hcg i hi j hj)).small nNDD hND (by decide) (by decide), fun i hi j hj => (hf1 i hi j hj).small nNDD hND (by decide) (by decide),
    fun i hi j hj => (hgc i hi j hj).small nNDD hND (by decide) (by decide), fun i hi j hj => (neg1 (hgc i hi j hj)).small nNDD hND (by decide) (by decide), fun i hi j hj => (hf2 i hi j hj).small nNDD hND (by decide) (by decide),
    hiw.small n12 h12 (by decide) (by decide), hwn, hk.small n12D h12D (by decide) (by decide), fun i hi j hj => (hcc i hi j hj).small nNN hNN (by decide) (by decide), fun i hi j hj => (hk.mul (hcc i hi j hj)).small (Int.mul_ne_zero n12D nNN) hX (by decide) (by decide)⟩
end
end PN

set_option Elab.async false
set_option linter.all false
set_option maxRecDepth 10000
/-! PnK: a net's numbers, reading by reading. -/
namespace PN
structure NS where
  n : Nat
  m : Nat
  x : Nat → Rat
  A : Nat → Nat → Rat
  W : Nat → Rat
  val : Nat → Rat
  M : Nat → Nat → Rat
  P : Nat → Nat → Rat
  rt : Nat → Rat
  t : Rat
def NS.zero (n : Nat) (x : Nat → Rat) : NS := ⟨n, 0, x, fun _ _ => 0, fun _ => 0, fun _ => 0, fun _ _ => 0, fun _ _ => 0, fun _ => 0, 0⟩
def shf (n : Nat) (x a : Nat → Rat) (v : Rat) : Rat := v - dt n a x
open Classical in
noncomputable def NS.put (S : NS) (a : Nat → Rat) (w : Rat) : Nat → Nat → Rat :=
  if ∀ i, i < S.n → rest S.n S.M S.P a i = 0 then addSame w (dt S.n a (ap S.n S.P a)) (ap S.n S.P a) S.P else addMore w (dt S.n a (ap S.n S.P a)) (way S.n S.M S.P a) (ap S.n S.P a) S.P
noncomputable def NS.add (S : NS) (a : Nat → Rat) (w v : Rat) : NS where
  n := S.n
  m := S.m + 1
  x := S.x
  A := snoc S.m S.A a
  W := snoc S.m S.W w
  val := snoc S.m S.val v
  M := addT w a S.M
  P := S.put a w
  rt := fun i => S.rt i + (w * shf S.n S.x a v) * a i
  t := S.t + (w * shf S.n S.x a v) * shf S.n S.x a v
structure NOk (S : NS) : Prop where
  n5 : S.n ≤ 5
  m7 : S.m ≤ 7
  good : ∃ r ix, Good S.n S.m r S.A S.W S.M S.P ix
  whole : Whole S.n S.m S.A S.W
  xb : ∀ i, i < S.n → Dn 2520 18 (S.x i)
  vb : ∀ k, k < S.m → Dn 2520 18 (S.val k)
  rtE : ∀ i, S.rt i = sm S.m fun k => (S.W k * shf S.n S.x (S.A k) (S.val k)) * S.A k i
  tE : S.t = sm S.m fun k => (S.W k * shf S.n S.x (S.A k) (S.val k)) * shf S.n S.x (S.A k) (S.val k)
theorem ap_zero (n : Nat) (y : Nat → Rat) : ap n (fun _ _ => 0) y = fun _ => 0 := by
  funext i
  exact dt_zero_l fun _ _ => rfl
theorem good0 (n : Nat) (A : Nat → Nat → Rat) (W : Nat → Rat) : Good n 0 0 A W (fun _ _ => 0) (fun _ _ => 0) id where
  wpos := fun k hk => by omega
  mform := fun x y => by rw [ap_zero]; exact dt_zero fun _ _ => rfl
  sym := fun x y => by rw [ap_zero, ap_zero, dt_zero fun _ _ => rfl, dt_zero fun _ _ => rfl]
  psd := fun x => by rw [ap_zero, dt_zero fun _ _ => rfl]; exact Rat.le_refl
  proj := fun x y => by rw [ap_zero, ap_zero, dt_zero fun _ _ => rfl, dt_zero fun _ _ => rfl]
  fix := fun k hk => by omega
  ixm := fun k hk => by omega
  indep := fun z h k hk => by omega
  spanA := fun k hk => by omega
  spanP := fun y => ⟨fun _ => 0, fun x => by rw [ap_zero]; exact dt_zero fun _ _ => rfl⟩
  tr := by
    rw [sm_zero fun j _ => by rw [ap_zero]; exact dt_zero fun _ _ => rfl]
    rfl
theorem NOk.zero {n : Nat} {x : Nat → Rat} (hn : n ≤ 5) (hx : ∀ i, i < n → Dn 2520 18 (x i)) : NOk (NS.zero n x) where
  n5 := hn
  m7 := Nat.zero_le _
  good := ⟨0, id, good0 n _ _⟩
  whole := ⟨fun k hk => absurd hk (Nat.not_lt_zero k), fun k hk => absurd hk (Nat.not_lt_zero k)⟩
  xb := hx
  vb := fun k hk => absurd hk (Nat.not_lt_zero k)
  rtE := fun i => rfl
  tE := rfl
/-- a new reading's numbers -/
structure NewOk (n : Nat) (a : Nat → Rat) (w v : Rat) : Prop where
  ha : ∀ i, i < n → Dn 1 4 (a i)
  hw : Dn 6 5 w
  wp : 0 < w
  iw : Dn 12 6 (1 / w)
  hv : Dn 2520 18 v
theorem rest_nz {n : Nat} {M P : Nat → Nat → Rat} {a : Nat → Rat} (h : ¬ ∀ i, i < n → rest n M P a i = 0) : dt n (rest n M P a) (rest n M P a) ≠ 0 := fun e => h (dt_self_zero e)
theorem put_same {S : NS} {a : Nat → Rat} {w : Rat} (h : ∀ i, i < S.n → rest S.n S.M S.P a i = 0) : S.put a w = addSame w (dt S.n a (ap S.n S.P a)) (ap S.n S.P a) S.P := by
  unfold NS.put
  exact if_pos h
theorem put_more {S : NS} {a : Nat → Rat} {w : Rat} (h : ¬ ∀ i, i < S.n → rest S.n S.M S.P a i = 0) : S.put a w = addMore w (dt S.n a (ap S.n S.P a)) (way S.n S.M S.P a) (ap S.n S.P a) S.P := by
  unfold NS.put
  exact if_neg h
theorem snoc_cases {Q : Nat → Prop} {m : Nat} (h1 : ∀ k, k < m → Q k) (h2 : Q m) : ∀ k, k < m + 1 → Q k := fun k hk => by
  by_cases e : k = m
  · rw [e]; exact h2
  · exact h1 k (by omega)
theorem NOk.add {S : NS} (K : NOk S) (hm : S.m < 7) {a : Nat → Rat} {w v : Rat} (N : NewOk S.n a w v) : NOk (S.add a w v) where
  n5 := K.n5
  m7 := hm
  good := by
    obtain ⟨r, ix, G⟩ := K.good
    by_cases h : ∀ i, i < S.n → rest S.n S.M S.P a i = 0
    · refine ⟨r, ix, ?_⟩
      show Good S.n (S.m + 1) r (snoc S.m S.A a) (snoc S.m S.W w) (addT w a S.M) (S.put a w) ix
      rw [put_same h]
      exact G.same N.wp h
    · refine ⟨r + 1, snoc r ix S.m, ?_⟩
      show Good S.n (S.m + 1) (r + 1) (snoc S.m S.A a) (snoc S.m S.W w) (addT w a S.M) (S.put a w) (snoc r ix S.m)
      rw [put_more h]
      exact G.more N.wp (rest_nz h)
  whole := by
    refine ⟨snoc_cases (m := S.m) (fun k hk i hi => ?_) (fun i hi => ?_), snoc_cases (m := S.m) (fun k hk => ?_) ?_⟩
    · show Dn 1 4 (snoc S.m S.A a k i)
      rw [snoc_lt _ _ hk]
      exact K.whole.row k hk i hi
    · show Dn 1 4 (snoc S.m S.A a S.m i)
      rw [snoc_at]
      exact N.ha i hi
    · show Dn 6 5 (snoc S.m S.W w k)
      rw [snoc_lt _ _ hk]
      exact K.whole.wei k hk
    · show Dn 6 5 (snoc S.m S.W w S.m)
      rw [snoc_at]
      exact N.hw
  xb := K.xb
  vb := snoc_cases (m := S.m) (fun k hk => by show Dn 2520 18 (snoc S.m S.val v k); rw [snoc_lt _ _ hk]; exact K.vb k hk) (by show Dn 2520 18 (snoc S.m S.val v S.m); rw [snoc_at]; exact N.hv)
  rtE := fun i => by
    show S.rt i + (w * shf S.n S.x a v) * a i = sm (S.m + 1) fun k => (snoc S.m S.W w k * shf S.n S.x (snoc S.m S.A a k) (snoc S.m S.val v k)) * snoc S.m S.A a k i
    rw [sm_snoc S.m _ (fun k => (S.W k * shf S.n S.x (S.A k) (S.val k)) * S.A k i) fun k hk => by rw [snoc_lt _ _ hk, snoc_lt _ _ hk, snoc_lt _ _ hk]]
    rw [snoc_at, snoc_at, snoc_at, K.rtE]
  tE := by
    show S.t + (w * shf S.n S.x a v) * shf S.n S.x a v = sm (S.m + 1) fun k => (snoc S.m S.W w k * shf S.n S.x (snoc S.m S.A a k) (snoc S.m S.val v k)) * shf S.n S.x (snoc S.m S.A a k) (snoc S.m S.val v k)
    rw [sm_snoc S.m _ (fun k => (S.W k * shf S.n S.x (S.A k) (S.val k)) * shf S.n S.x (S.A k) (S.val k)) fun k hk => by rw [snoc_lt _ _ hk, snoc_lt _ _ hk, snoc_lt _ _ hk]]
    rw [snoc_at, snoc_at, snoc_at, K.tE]
/-! ### sizes -/
theorem d2520 : (2520 : Int).natAbs < 2 ^ 12 := by decide
theorem d2520n : (2520 : Int) ≠ 0 := by decide
theorem d15120 : (15120 : Int).natAbs < 2 ^ 14 := by decide
theorem d15120n : (15120 : Int) ≠ 0 := by decide
theorem d38 : (38102400 : Int).natAbs < 2 ^ 26 := by decide
theorem d38n : (38102400 : Int) ≠ 0 := by decide
section
variable {n : Nat} {x a : Nat → Rat} {w v : Rat}
theorem dn_dot (hn : n ≤ 5) (hx : ∀ i, i < n → Dn 2520 18 (x i)) (ha : ∀ i, i < n → Dn 1 4 (a i)) : Dn 2520 25 (dt n a x) := (Dn.dot (n := n) (by omega) ha hx).one_l
theorem dn_shf (hn : n ≤ 5) (hx : ∀ i, i < n → Dn 2520 18 (x i)) (ha : ∀ i, i < n → Dn 1 4 (a i)) (hv : Dn 2520 18 v) : Dn 2520 26 (shf n x a v) := (hv.mono (by decide)).sub (dn_dot hn hx ha)
theorem dn_ws (hn : n ≤ 5) (hx : ∀ i, i < n → Dn 2520 18 (x i)) (ha : ∀ i, i < n → Dn 1 4 (a i)) (hv : Dn 2520 18 v) (hw : Dn 6 5 w) : Dn 15120 31 (w * shf n x a v) := hw.mul (dn_shf hn hx ha hv)
theorem dn_wsa (hn : n ≤ 5) (hx : ∀ i, i < n → Dn 2520 18 (x i)) (ha : ∀ i, i < n → Dn 1 4 (a i)) (hv : Dn 2520 18 v) (hw : Dn 6 5 w) {i : Nat} (hi : i < n) : Dn 15120 35 ((w * shf n x a v) * a i) := ((dn_ws hn hx ha hv hw).mul (ha i hi)).one_r
theorem dn_wss (hn : n ≤ 5) (hx : ∀ i, i < n → Dn 2520 18 (x i)) (ha : ∀ i, i < n → Dn 1 4 (a i)) (hv : Dn 2520 18 v) (hw : Dn 6 5 w) : Dn 38102400 57 ((w * shf n x a v) * shf n x a v) := (dn_ws hn hx ha hv hw).mul (dn_shf hn hx ha hv)
end
theorem NOk.rtB {S : NS} (K : NOk S) {i : Nat} (hi : i < S.n) : Dn 15120 38 (S.rt i) := by
  rw [K.rtE]
  exact Dn.sum8 (by have := K.m7; omega) fun k hk => dn_wsa K.n5 K.xb (K.whole.row k hk) (K.vb k hk) (K.whole.wei k hk) hi
theorem NOk.tB {S : NS} (K : NOk S) : Dn 38102400 60 S.t := by
  rw [K.tE]
  exact Dn.sum8 (by have := K.m7; omega) fun k hk => dn_wss K.n5 K.xb (K.whole.row k hk) (K.vb k hk) (K.whole.wei k hk)
structure TallyOk (S : NS) (a : Nat → Rat) (w v : Rat) : Prop where
  d : DotOk S.n a S.x
  hv : Sm v
  ax : Sm (dt S.n a S.x)
  s : Sm (shf S.n S.x a v)
  hw : Sm w
  ws : Sm (w * shf S.n S.x a v)
  ha : ∀ i, i < S.n → Sm (a i)
  wsa : ∀ i, i < S.n → Sm ((w * shf S.n S.x a v) * a i)
  r : ∀ i, i < S.n → Sm (S.rt i)
  wss : Sm ((w * shf S.n S.x a v) * shf S.n S.x a v)
  t : Sm S.t
theorem NOk.tally {S : NS} (K : NOk S) {a : Nat → Rat} {w v : Rat} (N : NewOk S.n a w v) : TallyOk S a w v := by
  have l := lim_eq
  have k1 := K.n5
  exact ⟨dotOk (by omega) one_ne d2520n one_lt d2520 N.ha K.xb (by omega) (by omega), N.hv.small d2520n d2520 (by omega) (by omega), (dn_dot K.n5 K.xb N.ha).small d2520n d2520 (by omega) (by omega), (dn_shf K.n5 K.xb N.ha N.hv).small d2520n d2520 (by omega) (by omega),
    N.hw.small six_ne six_lt (by omega) (by omega), (dn_ws K.n5 K.xb N.ha N.hv N.hw).small d15120n d15120 (by omega) (by omega), fun i hi => (N.ha i hi).small one_ne one_lt (by omega) (by omega), fun i hi => (dn_wsa K.n5 K.xb N.ha N.hv N.hw hi).small d15120n d15120 (by omega) (by omega),
    fun i hi => (K.rtB hi).small d15120n d15120 (by omega) (by omega), (dn_wss K.n5 K.xb N.ha N.hv N.hw).small d38n d38 (by omega) (by omega), K.tB.small d38n d38 (by omega) (by omega)⟩
theorem NOk.addok {S : NS} (K : NOk S) (hm : S.m < 7) {a : Nat → Rat} {w v : Rat} (N : NewOk S.n a w v) : AddOk S.n S.M S.P a w := by
  obtain ⟨r, ix, G⟩ := K.good
  exact addOk G K.whole K.n5 (by omega) N.ha N.hw
theorem NOk.sameok {S : NS} (K : NOk S) (hm : S.m < 7) {a : Nat → Rat} {w v : Rat} (N : NewOk S.n a w v) : SameOk S.n S.P (ap S.n S.P a) w (dt S.n a (ap S.n S.P a)) := by
  obtain ⟨r, ix, G⟩ := K.good
  exact sameOk G K.whole K.n5 (by omega) N.ha N.hw N.wp
theorem NOk.moreok {S : NS} (K : NOk S) (hm : S.m < 7) {a : Nat → Rat} {w v : Rat} (N : NewOk S.n a w v) (h : ¬ ∀ i, i < S.n → rest S.n S.M S.P a i = 0) : MoreOk S.n S.P (rest S.n S.M S.P a) (ap S.n S.P a) w (dt S.n a (ap S.n S.P a)) := by
  obtain ⟨r, ix, G⟩ := K.good
  exact moreOk G K.whole K.n5 (by omega) N.ha N.hw N.iw N.wp (rest_nz h)
/-! ### the heights -/
def hts (S : NS) : Nat → Rat := fun i => S.x i + ap S.n S.P S.rt i
structure HtsOk (S : NS) : Prop where
  d : ∀ i, i < S.n → DotOk S.n (S.P i) S.rt
  x : ∀ i, i < S.n → Sm (S.x i)
  p : ∀ i, i < S.n → Sm (ap S.n S.P S.rt i)
theorem NOk.pb {S : NS} (K : NOk S) : ∃ D : Int, D ≠ 0 ∧ D.natAbs < 2 ^ 957 ∧ ∀ i, i < S.n → ∀ j, j < S.n → Dn D 983 (S.P i j) := by
  obtain ⟨r, ix, G⟩ := K.good
  obtain ⟨D, hD, hd, hP⟩ := G.pbound K.whole K.n5 (by have := K.m7; omega)
  obtain ⟨e1, e2⟩ := dl_le5 (Nat.le_trans G.rank_le K.n5)
  exact ⟨D, hD, two_pow_lt e1 hd, fun i hi j hj => (hP i hi j hj).mono (by omega)⟩
theorem NOk.hb {S : NS} (K : NOk S) : HtsOk S ∧ ∃ D : Int, D ≠ 0 ∧ D.natAbs < 2 ^ 983 ∧ ∀ i, i < S.n → Dn D 1040 (hts S i) ∧ Dn D 1040 (S.x i - hts S i) := by
  obtain ⟨D, hD, hd, hP⟩ := K.pb
  have l := lim_eq
  have k1 := K.n5
  have hr : ∀ i, i < S.n → Dn 15120 38 (S.rt i) := fun i hi => K.rtB hi
  have hp : ∀ i, i < S.n → Dn (D * 15120) 1024 (ap S.n S.P S.rt i) := fun i hi => (Dn.dot (n := S.n) (by omega) (hP i hi) hr).mono (by omega)
  have hD2 : (D * 15120).natAbs < 2 ^ 971 := abs_mul 971 hd d15120 (by omega)
  have hD2n : D * 15120 ≠ 0 := Int.mul_ne_zero hD d15120n
  refine ⟨⟨fun i hi => dotOk (by omega) hD d15120n hd d15120 (hP i hi) hr (by omega) (by omega), fun i hi => (K.xb i hi).small d2520n d2520 (by omega) (by omega), fun i hi => (hp i hi).small hD2n hD2 (by omega) (by omega)⟩,
    D * 15120, hD2n, two_pow_lt (by decide) hD2, fun i hi => ?_⟩
  have hx : Dn (D * 15120) 1024 (S.x i) := by
    have h1 := (K.xb i hi).over (E := D * 6) (e := 960) (abs_mul 960 hd six_lt (by omega))
    have e : (2520 : Int) * (D * 6) = D * 15120 := by omega
    rw [e] at h1
    exact h1.mono (by omega)
  refine ⟨(hx.add (hp i hi)).mono (by omega), ?_⟩
  have e : S.x i - hts S i = -ap S.n S.P S.rt i := by unfold hts; grind
  rw [e]
  exact (hp i hi).neg.mono (by omega)
end PN

set_option Elab.async false
set_option linter.all false
set_option maxRecDepth 10000
set_option maxHeartbeats 1000000
/-! PnL: heights in a datum: sizes and laws. -/
namespace PN
theorem piv_le_w {h w : Nat} {R0 : Nat → Nat → Rat} : (frees w (red h R0 w).piv).length + (red h R0 w).piv.length = w :=
  frees_len (nd_of_asc (rinv w).asc) (rinv w).lt
theorem pow5 {p : Nat} (h : p ≤ 5) : 2 ^ p * 5 ≤ 160 := by
  have : 2 ^ p ≤ 2 ^ 5 := Nat.pow_le_pow_right (by decide) h
  omega
/-- whole rows of small numbers, reduced -/
theorem whole_red {h w : Nat} {R0 : Nat → Nat → Rat} (hw : w ≤ 5) (h0 : ∀ i, i < h → ∀ j, j < w → Dn 1 4 (R0 i j)) :
    RedOk h w R0 ∧ ∃ D : Int, D ≠ 0 ∧ D.natAbs < 2 ^ (2 ^ (red h R0 w).piv.length * 5 - 4) ∧ ∀ i, i < h → ∀ j, j < w → Dn D (2 ^ (red h R0 w).piv.length * 5 - 1) ((red h R0 w).R i j) := by
  have l := lim_eq
  have pw := piv_le_w (h := h) (w := w) (R0 := R0)
  have I : IRep h w w R0 1 1 1 4 0 := ⟨by decide, by decide, by decide, h0, fun i hi j h1 h2 => absurd h2 (by omega)⟩
  have hp : (red h R0 w).piv.length ≤ 5 := by omega
  have p5 := pow5 hp
  refine ⟨red_ok I (by decide) (u := 1) (by decide) (Nat.le_refl _) (by omega) (by omega) (by omega), ?_⟩
  obtain ⟨D, J⟩ := irep_all I w (Nat.le_refl _)
  have h1 : 1 ≤ 2 ^ (red h R0 w).piv.length := Nat.two_pow_pos _
  generalize 2 ^ (red h R0 w).piv.length = t at J p5 h1 ⊢
  exact ⟨D, J.nz, two_pow_lt (by omega) J.dl, fun i hi j hj => (J.lo i hi j hj).mono (by omega)⟩
theorem whole_sm {h w : Nat} {R0 : Nat → Nat → Rat} (hw : w ≤ 5) (h0 : ∀ i, i < h → ∀ j, j < w → Dn 1 4 (R0 i j)) : ∀ i, i < h → ∀ j, j < w → Sm ((red h R0 w).R i j) := fun i hi j hj => by
  have l := lim_eq
  have pw := piv_le_w (h := h) (w := w) (R0 := R0)
  obtain ⟨_, D, hD, hd, hR⟩ := whole_red hw h0
  have p5 := pow5 (p := (red h R0 w).piv.length) (by omega)
  generalize 2 ^ (red h R0 w).piv.length * 5 = t at p5 hd hR
  exact (hR i hi j hj).small hD hd (by omega) (by omega)
/-! ### movements -/
def mvs (S : NS) : List (Nat → Rat) := kern S.m S.n S.A
def mv (S : NS) (j : Nat) : Nat → Rat := (mvs S).getD j fun _ => 0
theorem kv_mem {R : Nat → Nat → Rat} {piv : List Nat} {f j : Nat} : kv R piv f j = 0 ∨ kv R piv f j = 1 ∨ ∃ k, piv[k]? = some j ∧ kv R piv f j = -R k f := by
  unfold kv
  cases e : piv.idxOf? j with
  | some k => exact .inr (.inr ⟨k, idx_some e, rfl⟩)
  | none =>
    show (if j = f then (1 : Rat) else 0) = 0 ∨ (if j = f then (1 : Rat) else 0) = 1 ∨ _
    by_cases h : j = f
    · rw [if_pos h]; exact .inr (.inl rfl)
    · rw [if_neg h]; exact .inl rfl
theorem dn_one {D : Int} {d : Nat} (h : D.natAbs < 2 ^ d) : Dn D d 1 := ⟨D, by grind, h⟩
theorem mv_mem {S : NS} {j : Nat} (hj : j < (mvs S).length) : mv S j ∈ mvs S := by
  unfold mv
  rw [List.getD_eq_getElem?_getD, List.getElem?_eq_getElem hj]
  exact List.getElem_mem hj
theorem mv_orth {S : NS} {j : Nat} (hj : j < (mvs S).length) : ∀ k, k < S.m → dt S.n (S.A k) (mv S j) = 0 := kern_orth (mv_mem hj)
/-- r pivots, as many movements as are free -/
theorem NOk.mvb {S : NS} (K : NOk S) : ∃ r, (mvs S).length + r = S.n ∧ ∃ D : Int, D ≠ 0 ∧ D.natAbs < 2 ^ (2 ^ r * 5 - 4) ∧ ∀ j, j < (mvs S).length → ∀ i, i < S.n → Dn D (2 ^ r * 5 - 1) (mv S j i) := by
  obtain ⟨_, D, hD, hd, hR⟩ := whole_red (h := S.m) K.n5 K.whole.row
  have I := rinv (h := S.m) (R0 := S.A) S.n
  have e : (mvs S).length = (frees S.n (red S.m S.A S.n).piv).length := by
    show (kern S.m S.n S.A).length = _
    unfold kern
    rw [List.length_map]
  refine ⟨(red S.m S.A S.n).piv.length, by rw [e]; exact piv_le_w, D, hD, hd, fun j hj i hi => ?_⟩
  obtain ⟨f, hf, hv⟩ := List.mem_map.mp (mv_mem hj)
  obtain ⟨hf1, hf2⟩ := mem_frees.mp hf
  rw [← hv]
  have h1 : 1 ≤ 2 ^ (red S.m S.A S.n).piv.length := Nat.two_pow_pos _
  rcases kv_mem (R := (red S.m S.A S.n).R) (piv := (red S.m S.A S.n).piv) (f := f) (j := i) with h | h | ⟨k, hk, h⟩
  · rw [h]; exact Dn.zero
  · rw [h]
    exact (dn_one hd).mono (by omega)
  · rw [h]
    exact (hR k (Nat.lt_of_lt_of_le (List.getElem?_eq_some_iff.mp hk).1 I.len) f hf1).neg
/-! ### the datum -/
def prt (S : NS) (pl : Nat → Nat) (i : Nat) : Nat → Rat := fun j => mv S i (pl j)
def aim (S : NS) (pl : Nat → Nat) : Nat → Rat := fun j => S.x (pl j) - hts S (pl j)
def grm (S : NS) (pl : Nat → Nat) (q : Nat) : Nat → Nat → Rat := fun i j => dt q (prt S pl i) (prt S pl j)
def rhs (S : NS) (pl : Nat → Nat) (q : Nat) : Nat → Rat := fun i => dt q (prt S pl i) (aim S pl)
def jnd (S : NS) (pl : Nat → Nat) (q : Nat) : Nat → Nat → Rat := jn (mvs S).length (grm S pl q) (rhs S pl q)
def stp (S : NS) (pl : Nat → Nat) (q : Nat) : Nat → Rat := sol (red (mvs S).length (jnd S pl q) ((mvs S).length + 1)).R (red (mvs S).length (jnd S pl q) ((mvs S).length + 1)).piv (mvs S).length
def hinU (S : NS) (pl : Nat → Nat) (q l : Nat) : Nat → Rat := fun i => hts S i + sm l fun j => stp S pl q j * mv S j i
def hin (S : NS) (pl : Nat → Nat) (q : Nat) : Nat → Rat := hinU S pl q (mvs S).length
/-- the rows and the units -/
def wk (S : NS) (pl : Nat → Nat) : Nat → Nat → Rat := fun k => if k < S.m then S.A k else un (pl (k - S.m))
structure HinOk (S : NS) (pl : Nat → Nat) (q : Nat) : Prop where
  wr : RedOk (S.m + q) S.n (wk S pl)
  ws : ∀ i, i < S.m + q → ∀ j, j < S.n → Sm ((red (S.m + q) (wk S pl) S.n).R i j)
  h : HtsOk S
  x : ∀ i, i < S.n → Sm (S.x i)
  hs : ∀ i, i < S.n → Sm (hts S i)
  g : ∀ i, i < (mvs S).length → ∀ j, j < (mvs S).length → DotOk q (prt S pl i) (prt S pl j)
  r : ∀ i, i < (mvs S).length → DotOk q (prt S pl i) (aim S pl)
  so : RedOk (mvs S).length ((mvs S).length + 1) (jnd S pl q)
  np : (mvs S).length ∉ (red (mvs S).length (jnd S pl q) ((mvs S).length + 1)).piv
  st : ∀ j, j < (mvs S).length → Sm (stp S pl q j)
  mv : ∀ j, j < (mvs S).length → ∀ i, i < S.n → Sm (mv S j i)
  sm : ∀ j, j < (mvs S).length → ∀ i, i < S.n → Sm (stp S pl q j * PN.mv S j i)
  u : ∀ l, l ≤ (mvs S).length → ∀ i, i < S.n → Sm (hinU S pl q l i)
structure MovOk (S : NS) : Prop where
  r : RedOk S.m S.n S.A
  s : ∀ i, i < S.m → ∀ j, j < S.n → Sm ((red S.m S.A S.n).R i j)
theorem NOk.mov {S : NS} (K : NOk S) : MovOk S := ⟨(whole_red K.n5 K.whole.row).1, whole_sm K.n5 K.whole.row⟩
theorem jnd_none {S : NS} {pl : Nat → Nat} {q : Nat} : pvt (red (mvs S).length (jnd S pl q) (mvs S).length).R (mvs S).length ((mvs S).length - (red (mvs S).length (jnd S pl q) (mvs S).length).piv.length) (red (mvs S).length (jnd S pl q) (mvs S).length).piv.length = none :=
  gram_none (part := prt S pl) (aims := aim S pl) (q := q) (jnd S pl q) (fun i hi j hj => if_neg (by omega)) (fun i hi => if_pos rfl)
theorem jnd_red {S : NS} {pl : Nat → Nat} {q : Nat} : red (mvs S).length (jnd S pl q) ((mvs S).length + 1) = red (mvs S).length (jnd S pl q) (mvs S).length := redS_none jnd_none
theorem NOk.hin {S : NS} (K : NOk S) {pl : Nat → Nat} {q : Nat} (hq : q ≤ 5) (hp : ∀ j, j < q → pl j < S.n) : HinOk S pl q := by
  have l := lim_eq
  have n5 := K.n5
  obtain ⟨hh, Dh, hDh, hdh, hhb⟩ := K.hb
  obtain ⟨r, hr, Dk, hDk, hdk, hk⟩ := K.mvb
  have wrow : ∀ i, i < S.m + q → ∀ j, j < S.n → Dn 1 4 (wk S pl i j) := fun i hi j hj => by
    unfold wk
    by_cases e : i < S.m
    · rw [if_pos e]; exact K.whole.row i e j hj
    · rw [if_neg e]
      unfold un
      by_cases e' : j = pl (i - S.m)
      · rw [if_pos e']; exact Dn.int 1 (by decide)
      · rw [if_neg e']; exact Dn.zero
  generalize hlen : (mvs S).length = k at hr hk
  -- the exponents
  obtain ⟨e, he⟩ : ∃ e, e = 2 ^ r * 5 := ⟨_, rfl⟩
  rw [← he] at hdk hk
  have e5 : 5 ≤ e := by have : 1 ≤ 2 ^ r := Nat.two_pow_pos _; omega
  have ek : 2 ^ k * (2 * e + 2) ≤ 384 := by
    have hk5 : k ≤ 5 - r := by omega
    have hr5 : r ≤ 5 := by omega
    have : 2 ^ k ≤ 2 ^ (5 - r) := Nat.pow_le_pow_right (by decide) hk5
    refine Nat.le_trans (Nat.mul_le_mul_right _ this) ?_
    subst he
    have hc : r = 0 ∨ r = 1 ∨ r = 2 ∨ r = 3 ∨ r = 4 ∨ r = 5 := by omega
    rcases hc with h | h | h | h | h | h <;> subst h <;> decide
  have e160 : e ≤ 160 := by
    rw [he]; exact pow5 (by omega)
  -- the parts
  have hpart : ∀ i, i < k → ∀ j, j < q → Dn Dk (e - 1) (prt S pl i j) := fun i hi j hj => hk i hi _ (hp j hj)
  have haim : ∀ j, j < q → Dn Dh 1040 (aim S pl j) := fun j hj => (hhb _ (hp j hj)).2
  have hdk' : Dk.natAbs < 2 ^ (e - 4) := hdk
  have hDk2 : Dk * Dk ≠ 0 := Int.mul_ne_zero hDk hDk
  have hdk2 : (Dk * Dk).natAbs < 2 ^ (2 * e - 8) := abs_mul _ hdk' hdk' (by omega)
  have hg : ∀ i, i < k → ∀ j, j < k → Dn (Dk * Dk) (2 * e + 1) (grm S pl q i j) := fun i hi j hj => (Dn.dot (n := q) (by omega) (hpart i hi) (hpart j hj)).mono (by omega)
  have hr' : ∀ i, i < k → Dn (Dk * Dk * Dh) (2 * e + 1040) (rhs S pl q i) := fun i hi => by
    have h1 := (Dn.dot (n := q) (by omega) (hpart i hi) haim).over (E := Dk) hdk'
    have e1 : Dk * Dh * Dk = Dk * Dk * Dh := by rw [Int.mul_assoc, Int.mul_comm Dh Dk, ← Int.mul_assoc]
    rw [e1] at h1
    exact h1.mono (by omega)
  have I : IRep k k (k + 1) (jnd S pl q) (Dk * Dk) Dh (2 * e - 8) (2 * e + 1) (2 * e + 1040) := by
    refine ⟨hDk2, hdk2, by omega, fun i hi j hj => ?_, fun i hi j h1 h2 => ?_⟩
    · unfold jnd jn
      rw [hlen, if_neg (by omega)]
      exact hg i hi j hj
    · have : j = k := by omega
      subst this
      unfold jnd jn
      rw [hlen, if_pos rfl]
      exact hr' i hi
  have hnone := jnd_none (S := S) (pl := pl) (q := q)
  have hred := jnd_red (S := S) (pl := pl) (q := q)
  have hpl : (red k (jnd S pl q) k).piv.length ≤ k := (rinv k).len
  have t1 : 2 ^ (red k (jnd S pl q) k).piv.length * (2 * e + 1 + 1) ≤ 384 := Nat.le_trans (Nat.mul_le_mul_right _ (Nat.pow_le_pow_right (by decide) hpl)) ek
  have hso : RedOk k (k + 1) (jnd S pl q) := fun c hc f hf => by
    by_cases ec : c = k
    · subst ec
      rw [hlen] at hnone
      rw [hnone] at hf
      cases hf
    · exact red_ok I hDh hdh (Nat.le_refl _) (by omega) (by omega) (by omega) c (by omega) f hf
  have hend : ∃ D : Int, D ≠ 0 ∧ D.natAbs < 2 ^ 704 ∧ ∀ i, i < k → Dn (D * Dh) 1744 ((red k (jnd S pl q) (k + 1)).R i k) := by
    obtain ⟨D, J⟩ := irep_all I k (Nat.le_refl _)
    rw [hlen] at hred
    rw [hred]
    exact ⟨D, J.nz, two_pow_lt (by omega) J.dl, fun i hi => (J.hi i hi k (Nat.le_refl _) (by omega)).mono (by omega)⟩
  obtain ⟨D, hD, hd, hlast⟩ := hend
  have hlenp : (red k (jnd S pl q) (k + 1)).piv.length ≤ k := (rinv (k + 1)).len
  have hst : ∀ j, Dn (D * Dh) 1744 (stp S pl q j) := fun j => by
    unfold stp sol
    rw [hlen]
    cases ei : (red k (jnd S pl q) (k + 1)).piv.idxOf? j with
    | none => exact Dn.zero
    | some a =>
      have := (List.getElem?_eq_some_iff.mp (idx_some ei)).1
      exact hlast a (by omega)
  have nDD : D * Dh ≠ 0 := Int.mul_ne_zero hD hDh
  have hDD : (D * Dh).natAbs < 2 ^ 1687 := abs_mul _ hd hdh (by omega)
  have nDDk : D * Dh * Dk ≠ 0 := Int.mul_ne_zero nDD hDk
  have hDDk : (D * Dh * Dk).natAbs < 2 ^ 1843 := two_pow_lt (by omega) (abs_mul (1687 + (e - 4)) hDD hdk' rfl)
  have hsm : ∀ j, j < k → ∀ i, i < S.n → Dn (D * Dh * Dk) 1903 (stp S pl q j * mv S j i) := fun j hj i hi => ((hst j).mul (hk j hj i hi)).mono (by omega)
  have hhh : ∀ i, i < S.n → Dn (D * Dh * Dk) 1906 (hts S i) := fun i hi => by
    have h1 := (hhb i hi).1.over (E := D * Dk) (e := 704 + (e - 4)) (abs_mul _ hd hdk' rfl)
    have e1 : Dh * (D * Dk) = D * Dh * Dk := by rw [← Int.mul_assoc, Int.mul_comm Dh D]
    rw [e1] at h1
    exact h1.mono (by omega)
  have hu : ∀ l, l ≤ k → ∀ i, i < S.n → Dn (D * Dh * Dk) 1907 (hinU S pl q l i) := fun l hl i hi => (hhh i hi).add (Dn.sum8 (n := l) (by omega) fun j hj => hsm j (by omega) i hi)
  exact {
    wr := (whole_red n5 wrow).1
    ws := whole_sm n5 wrow
    h := hh
    x := hh.x
    hs := fun i hi => (hhb i hi).1.small hDh hdh (by omega) (by omega)
    g := fun i hi j hj => by
      rw [hlen] at hi hj
      exact dotOk (by omega) hDk hDk hdk' hdk' (hpart i hi) (hpart j hj) (by omega) (by omega)
    r := fun i hi => by
      rw [hlen] at hi
      exact dotOk (by omega) hDk hDh hdk' hdh (hpart i hi) haim (by omega) (by omega)
    so := by rw [hlen]; exact hso
    np := by
      rw [hred]
      intro hm
      exact absurd ((rinv (mvs S).length).lt _ hm) (Nat.lt_irrefl _)
    st := fun j _ => (hst j).small nDD hDD (by omega) (by omega)
    mv := fun j hj i hi => by
      rw [hlen] at hj
      exact (hk j hj i hi).small hDk hdk' (by omega) (by omega)
    sm := fun j hj i hi => by
      rw [hlen] at hj
      exact (hsm j hj i hi).small nDDk hDDk (by omega) (by omega)
    u := fun l hl i hi => by
      rw [hlen] at hl
      exact (hu l hl i hi).small nDDk hDDk (by omega) (by omega) }
/-! ### what the law asks -/
theorem hin_row {S : NS} {pl : Nat → Nat} {q : Nat} {a : Nat → Rat} (h : ∀ j, j < (mvs S).length → dt S.n a (mv S j) = 0) : dt S.n a (hin S pl q) = dt S.n a (hts S) := by
  unfold hin hinU
  rw [dt_add, dt_comb, sm_zero (n := (mvs S).length) fun j hj => by rw [h j hj]; grind]
  grind
/-- a reading's row tells the same in every datum -/
theorem hin_read {S : NS} {pl : Nat → Nat} {q k : Nat} (hk : k < S.m) : dt S.n (S.A k) (hin S pl q) = dt S.n (S.A k) (hts S) := hin_row fun j hj => mv_orth hj k hk
/-- all points: nothing moves -/
theorem hin_all {S : NS} (K : NOk S) {pl : Nat → Nat} (hp : ∀ j, j < S.n → pl j = j) : ∀ i, i < S.n → hin S pl S.n i = hts S i := fun i hi => by
  obtain ⟨r, ix, G⟩ := K.good
  have hr : ∀ l, l < (mvs S).length → rhs S pl S.n l = 0 := fun l hl => by
    have h1 : rhs S pl S.n l = dt S.n (mv S l) (fun j => S.x j - hts S j) := by
      unfold rhs prt aim
      exact dt_congr (fun j hj => by rw [hp j hj]) fun j hj => by rw [hp j hj]
    have h2 : dt S.n (mv S l) (ap S.n S.P S.rt) = 0 := G.orth (fun k hk => by rw [dt_comm]; exact mv_orth hl k hk) S.rt
    rw [h1, dt_sub]
    unfold hts
    rw [dt_add, h2]
    grind
  unfold hin hinU
  rw [sm_zero (n := (mvs S).length) fun j hj => ?_]
  · grind
  · have : stp S pl S.n j = 0 := sol_zero (fun l hl => by
      show jn (mvs S).length (grm S pl S.n) (rhs S pl S.n) l (mvs S).length = 0
      unfold jn
      rw [if_pos rfl]
      exact hr l hl) j
    rw [this]
    grind
/-- all points: no movement is left -/
theorem wk_full {S : NS} {pl : Nat → Nat} {q : Nat} (h : ∀ j, j < S.n → ∃ i, i < q ∧ pl i = j) : kern (S.m + q) S.n (wk S pl) = [] := kern_full fun j hj => by
  obtain ⟨i, hi, hp⟩ := h j hj
  refine ⟨S.m + i, by omega, fun x => ?_⟩
  unfold wk
  rw [if_neg (by omega), show S.m + i - S.m = i by omega, hp]
  exact dt_un x hj
end PN

set_option Elab.async false
set_option linter.all false
set_option maxRecDepth 100000
set_option maxHeartbeats 4000000
/-! PwA: the walk's ground: what stands for a fraction, a vector, a matrix; what an expression comes to. -/
namespace PW
open PySem PySem.Spec PyProof.Rows L2
abbrev prog : Program := PySem.Challenge.pw_plumbnet_k43_whole_datums_and_functions
def topS (i : Nat) : Stmt := prog.main.body.getD i (.Pass ⟨0, 0, 0, 0⟩)
abbrev FnP (K : PySem.W.Frag) (x q : Str) (st : Stmt) (f : Addr) (fd : FuncData) : Prop := FunD K x q (defArgs st) (defBody st) (defScope st) [] [] f fd

/-! ### heaps that grow -/
def Ex (H H' : Hp) : Prop := ∀ a o, H a = some o → H' a = some o
theorem Ex.refl (H : Hp) : Ex H H := fun _ _ h => h
theorem Ex.trans {H H1 H2 : Hp} (a : Ex H H1) (b : Ex H1 H2) : Ex H H2 := fun x o h => b x o (a x o h)
theorem Ex.new {H : Hp} {p : Addr} {o : HO} (h : H p = none) : Ex H (upd H p o) := fun a u e => by
  rw [upd_ne (ne_of_none e h)]; exact e
/-- an object that H does not know may change -/
theorem Ex.mut {H H' : Hp} {p : Addr} {o : HO} (e : Ex H H') (h : H p = none) : Ex H (upd H' p o) := fun a u ha => by
  rw [upd_ne (ne_of_none ha h)]; exact e a u ha
theorem Ex.free {H H' : Hp} (e : Ex H H') {p : Addr} (h : H' p = none) : H p = none := by
  cases q : H p with
  | none => rfl
  | some o => rw [e p o q] at h; cases h
/-- the things that never change: tuples, instances of the classes that Fz names -/
def Imm (Fz : Addr → Prop) : HO → Prop
  | .tup _ => True
  | .frz _ (.tup _) => True
  | .ins C _ _ => Fz C
  | _ => False
def ExI (Fz : Addr → Prop) (H H' : Hp) : Prop := ∀ a o, H a = some o → Imm Fz o → H' a = some o
theorem Ex.imm {Fz : Addr → Prop} {H H' : Hp} (e : Ex H H') : ExI Fz H H' := fun a o h _ => e a o h
theorem ExI.refl {Fz : Addr → Prop} (H : Hp) : ExI Fz H H := fun _ _ h _ => h
theorem ExI.trans {Fz : Addr → Prop} {H H1 H2 : Hp} (a : ExI Fz H H1) (b : ExI Fz H1 H2) : ExI Fz H H2 := fun x o h i => b x o (a x o h i) i
theorem ExI.mut {Fz : Addr → Prop} {H H' : Hp} {p : Addr} {u o : HO} (e : ExI Fz H H') (h : H' p = some u) (n : ¬ Imm Fz u) : ExI Fz H (upd H' p o) := fun a v ha i => by
  have h1 := e a v ha i
  rw [upd_ne (fun q => by subst q; rw [h] at h1; cases h1; exact n i)]
  exact h1

/-! ### fractions, vectors, matrices -/
def qf (q : Rat) : List (Str × V) := [("top", .int q.num), ("bottom", .int (q.den : Int))]
/-- the class at C: a fraction -/
def IsQ (C : Addr) (H : Hp) (v : V) (q : Rat) : Prop := ∃ a dx, v = .ref a ∧ H a = some (.ins C dx (qf q))
def IsV (C : Addr) (H : Hp) (v : V) (n : Nat) (x : Nat → Rat) : Prop := ∃ a vs, v = .ref a ∧ H a = some (.tup vs) ∧ vs.length = n ∧ ∀ i, i < n → ∃ u, vs[i]? = some u ∧ IsQ C H u (x i)
def IsM (C : Addr) (H : Hp) (v : V) (h w : Nat) (M : Nat → Nat → Rat) : Prop := ∃ a vs, v = .ref a ∧ H a = some (.tup vs) ∧ vs.length = h ∧ ∀ i, i < h → ∃ u, vs[i]? = some u ∧ IsV C H u w (M i)
section
variable {Fz : Addr → Prop} {C : Addr} {H H' : Hp} {v : V}
theorem IsQ.mono {q : Rat} (hC : Fz C) (h : IsQ C H v q) (e : ExI Fz H H') : IsQ C H' v q := let ⟨a, dx, h1, h2⟩ := h; ⟨a, dx, h1, e _ _ h2 hC⟩
theorem IsV.mono {n : Nat} {x : Nat → Rat} (hC : Fz C) (h : IsV C H v n x) (e : ExI Fz H H') : IsV C H' v n x := by
  obtain ⟨a, vs, h1, h2, h3, h4⟩ := h
  refine ⟨a, vs, h1, e _ _ h2 trivial, h3, fun i hi => ?_⟩
  obtain ⟨u, k1, k2⟩ := h4 i hi
  exact ⟨u, k1, k2.mono hC e⟩
theorem IsM.mono {n w : Nat} {M : Nat → Nat → Rat} (hC : Fz C) (h : IsM C H v n w M) (e : ExI Fz H H') : IsM C H' v n w M := by
  obtain ⟨a, vs, h1, h2, h3, h4⟩ := h
  refine ⟨a, vs, h1, e _ _ h2 trivial, h3, fun i hi => ?_⟩
  obtain ⟨u, k1, k2⟩ := h4 i hi
  exact ⟨u, k1, k2.mono hC e⟩
theorem IsQ.ex {q : Rat} (h : IsQ C H v q) (e : Ex H H') : IsQ C H' v q := h.mono (Fz := fun _ => True) trivial e.imm
theorem IsV.ex {n : Nat} {x : Nat → Rat} (h : IsV C H v n x) (e : Ex H H') : IsV C H' v n x := h.mono (Fz := fun _ => True) trivial e.imm
theorem IsM.ex {n w : Nat} {M : Nat → Nat → Rat} (h : IsM C H v n w M) (e : Ex H H') : IsM C H' v n w M := h.mono (Fz := fun _ => True) trivial e.imm
theorem IsV.congr {n : Nat} {x y : Nat → Rat} (h : IsV C H v n x) (e : ∀ i, i < n → x i = y i) : IsV C H v n y := by
  obtain ⟨a, vs, h1, h2, h3, h4⟩ := h
  refine ⟨a, vs, h1, h2, h3, fun i hi => ?_⟩
  rw [← e i hi]; exact h4 i hi
theorem IsM.congr {n w : Nat} {M M' : Nat → Nat → Rat} (h : IsM C H v n w M) (e : ∀ i, i < n → ∀ j, j < w → M i j = M' i j) : IsM C H v n w M' := by
  obtain ⟨a, vs, h1, h2, h3, h4⟩ := h
  refine ⟨a, vs, h1, h2, h3, fun i hi => ?_⟩
  obtain ⟨u, k1, k2⟩ := h4 i hi
  exact ⟨u, k1, k2.congr (e i hi)⟩
end

/-! ### what an expression comes to -/
/-- what is known of a value, as long as the heap only grows -/
structure MP where
  p : V → Hp → Prop
  mono : ∀ v H H', Ex H H' → p v H → p v H'
def isQ (C : Addr) (q : Rat) : MP := ⟨fun v H => IsQ C H v q, fun _ _ _ e h => h.ex e⟩
def isV (C : Addr) (n : Nat) (x : Nat → Rat) : MP := ⟨fun v H => IsV C H v n x, fun _ _ _ e h => h.ex e⟩
def isM (C : Addr) (h w : Nat) (M : Nat → Nat → Rat) : MP := ⟨fun v H => IsM C H v h w M, fun _ _ _ e h => h.ex e⟩
/-- just this value -/
def isX (x : V) : MP := ⟨fun v _ => v = x, fun _ _ _ _ h => h⟩
/-- a tuple, a list at a value -/
def isT (vs : List V) : MP := ⟨fun v H => ∃ a, v = .ref a ∧ H a = some (.tup vs), fun _ _ _ e ⟨a, h1, h2⟩ => ⟨a, h1, e _ _ h2⟩⟩
def isL (vs : List V) : MP := ⟨fun v H => ∃ a, v = .ref a ∧ H a = some (.lst vs), fun _ _ _ e ⟨a, h1, h2⟩ => ⟨a, h1, e _ _ h2⟩⟩
/-- from every heap that has grown out of H, te gives a value of which P is known, and only makes things -/
def Ev (te : TE) (σ : L2.St) (H : Hp) (P : MP) : Prop := ∀ H1, Ex H H1 → ∀ Q : VK, (∀ v H2, Ex H1 H2 → P.p v H2 → Q v H2) → te σ H1 Q
def EvT (tt : TT) (σ : L2.St) (H : Hp) (b : Bool) : Prop := ∀ H1, Ex H H1 → ∀ Q : Bool → Hp → Prop, (∀ H2, Ex H1 H2 → Q b H2) → tt σ H1 Q
/-- what a def of one, two .. arguments promises, in this form -/
def Gives (sp : Sp) (E : XK) (vs : List V) (H : Hp) (P : MP) : Prop := ∀ H1, Ex H H1 → ∀ Q : VK, (∀ v H2, Ex H1 H2 → P.p v H2 → Q v H2) → sp vs H1 Q E
section
variable {σ : L2.St} {H H' : Hp} {ta tb tc te : TE} {P P1 P2 P3 : MP} {v : V} {sp : Sp} {E : XK}
theorem Ev.use (h : Ev te σ H P) {Q : VK} (q : ∀ v H2, Ex H H2 → P.p v H2 → Q v H2) : te σ H Q := h H (Ex.refl H) Q q
theorem Ev.mono (e : Ex H H') (h : Ev te σ H P) : Ev te σ H' P := fun H1 a Q q => h H1 (e.trans a) Q q
theorem Ev.imp (h : Ev te σ H P) (i : ∀ v H', Ex H H' → P.p v H' → P1.p v H') : Ev te σ H P1 := fun H1 e Q q => h H1 e Q fun v H2 e2 p => q v H2 e2 (i v H2 (e.trans e2) p)
theorem ev_var {i : Nat} (h : σ[i]? = some (some v)) (hp : P.p v H) : Ev (tVar i) σ H P := fun H1 e Q q => ⟨v, h, q v H1 (Ex.refl H1) (P.mono _ _ _ e hp)⟩
theorem ev_c {x : V} : Ev (tC x) σ H (isX x) := fun H1 _ Q q => q x H1 (Ex.refl H1) rfl
theorem ev_op {r : R2} (ha : Ev ta σ H P1) (hb : Ev tb σ H P2) (hr : ∀ x y H1, Ex H H1 → P1.p x H1 → P2.p y H1 → ∀ Q : VK, (∀ v H2, Ex H1 H2 → P.p v H2 → Q v H2) → r x y H1 Q) : Ev (tOp r ta tb) σ H P := fun H1 e Q q =>
  ha H1 e _ fun x H2 e2 p => hb H2 (e.trans e2) _ fun y H3 e3 p3 => hr x y H3 ((e.trans e2).trans e3) (P1.mono _ _ _ e3 p) p3 Q fun v H4 e4 p4 => q v H4 ((e2.trans e3).trans e4) p4
theorem ev_un {r : V → Hp → VK → Prop} (ha : Ev ta σ H P1) (hr : ∀ x H1, Ex H H1 → P1.p x H1 → ∀ Q : VK, (∀ v H2, Ex H1 H2 → P.p v H2 → Q v H2) → r x H1 Q) : Ev (tUn r ta) σ H P := fun H1 e Q q =>
  ha H1 e _ fun x H2 e2 p => hr x H2 (e.trans e2) p Q fun v H4 e4 p4 => q v H4 (e2.trans e4) p4
theorem ev_call1 {dvs : List V} (ha : Ev ta σ H P1) (hs : ∀ x H1, Ex H H1 → P1.p x H1 → Gives sp E ([x] ++ dvs) H1 P) : Ev (tCall sp dvs E (tCons ta tNil)) σ H P := fun H1 e Q q =>
  ha H1 e _ fun x H2 e2 p => hs x H2 (e.trans e2) p H2 (Ex.refl H2) Q fun v H4 e4 p4 => q v H4 (e2.trans e4) p4
theorem ev_call2 {dvs : List V} (ha : Ev ta σ H P1) (hb : Ev tb σ H P2) (hs : ∀ x y H1, Ex H H1 → P1.p x H1 → P2.p y H1 → Gives sp E ([x, y] ++ dvs) H1 P) : Ev (tCall sp dvs E (tCons ta (tCons tb tNil))) σ H P := fun H1 e Q q =>
  ha H1 e _ fun x H2 e2 p => hb H2 (e.trans e2) _ fun y H3 e3 p3 => hs x y H3 ((e.trans e2).trans e3) (P1.mono _ _ _ e3 p) p3 H3 (Ex.refl H3) Q fun v H4 e4 p4 => q v H4 ((e2.trans e3).trans e4) p4
theorem ev_call3 {dvs : List V} (ha : Ev ta σ H P1) (hb : Ev tb σ H P2) (hc : Ev tc σ H P3) (hs : ∀ x y z H1, Ex H H1 → P1.p x H1 → P2.p y H1 → P3.p z H1 → Gives sp E ([x, y, z] ++ dvs) H1 P) : Ev (tCall sp dvs E (tCons ta (tCons tb (tCons tc tNil)))) σ H P := fun H1 e Q q =>
  ha H1 e _ fun x H2 e2 p => hb H2 (e.trans e2) _ fun y H3 e3 p3 => hc H3 ((e.trans e2).trans e3) _ fun z H4 e4 p4 => hs x y z H4 (((e.trans e2).trans e3).trans e4) (P1.mono _ _ _ (e3.trans e4) p) (P2.mono _ _ _ e4 p3) p4 H4 (Ex.refl H4) Q
    fun v H5 e5 p5 => q v H5 (((e2.trans e3).trans e4).trans e5) p5
/-- an attribute of an instance -/
theorem ev_fld {K : PySem.W.Frag} {f : Str} {x : V} (ha : Ev ta σ H P1) (hs : ∀ v H1, Ex H H1 → P1.p v H1 → ∃ a C dx fs, v = .ref a ∧ H1 a = some (.ins C dx fs) ∧ Cls K C ∧ NoAttr K C f ∧ fs.lookup f = some x ∧ P.p x H1) : Ev (tFld K ta f) σ H P := fun H1 e Q q =>
  ha H1 e _ fun v H2 e2 p => let ⟨a, C, dx, fs, h1, h2, h3, h4, h5, h6⟩ := hs v H2 (e.trans e2) p; ⟨a, C, dx, fs, x, h1, h2, h3, h4, h5, q x H2 e2 h6⟩
theorem ev_ints {C : Int → Int → Prop} {g : Int → Int → V} {i j : Int} (ha : Ev ta σ H (isX (.int i))) (hb : Ev tb σ H (isX (.int j))) (hc : C i j) : Ev (tOp (rI C g) ta tb) σ H (isX (g i j)) :=
  ev_op ha hb fun x y H1 _ h1 h2 Q q => ⟨i, j, h1, h2, hc, q _ H1 (Ex.refl H1) rfl⟩
theorem ev_ints0 {g : Int → Int → V} {i j : Int} (ha : Ev ta σ H (isX (.int i))) (hb : Ev tb σ H (isX (.int j))) : Ev (tOp (rI0 g) ta tb) σ H (isX (g i j)) :=
  ev_op ha hb fun x y H1 _ h1 h2 Q q => ⟨i, j, h1, h2, q _ H1 (Ex.refl H1) rfl⟩
theorem ev_neg {i : Int} (ha : Ev ta σ H (isX (.int i))) : Ev (tUn (rU fun i => .int (-i)) ta) σ H (isX (.int (-i))) :=
  ev_un ha fun x H1 _ h1 Q q => ⟨i, h1, q _ H1 (Ex.refl H1) rfl⟩
end
end PW

set_option Elab.async false
set_option linter.all false
set_option maxRecDepth 100000
set_option maxHeartbeats 4000000
/-! PwB: operators of one's own class; // by any number. -/
namespace PW
open PySem PySem.Spec PyProof.Rows L2
/-! ### whole numbers -/
def CDivA (_ j : Int) : Prop := j ≠ 0 ∧ j.natAbs.log2 < 9000
section
variable {X : Cx}
theorem op_fdivA : OpR X (binaryOp .FloorDiv) (rI CDivA fun i j => .int (i.fdiv j)) := opI fun _ _ _ _ _ _ _ hc q => floordiv_int hc.1 q (.inl (PyProof.noPylong_of_log2 hc.2))
end
/-- the fraction of two whole numbers in lowest terms, as the text makes it -/
theorem low_terms {t b : Int} (hb : b ≠ 0) : let g : Int := ((Nat.gcd t.natAbs b.natAbs : Nat) : Int); let c : Int := if b < 0 then -g else g;
    c ≠ 0 ∧ t.fdiv c = ((t : Rat) / (b : Rat)).num ∧ b.fdiv c = ((((t : Rat) / (b : Rat)).den : Nat) : Int) ∧ c.natAbs ≤ b.natAbs := by
  intro g c
  have hg : 0 < Nat.gcd t.natAbs b.natAbs := Nat.gcd_pos_of_pos_right _ (Int.natAbs_pos.mpr hb)
  have hgl : Nat.gcd t.natAbs b.natAbs ≤ b.natAbs := Nat.gcd_le_right _ (Int.natAbs_pos.mpr hb)
  have e1 : ((t : Rat) / (b : Rat)).num = b.sign * t / ((Int.gcd b t : Nat) : Int) := by
    rw [← Rat.divInt_eq_div, Rat.num_divInt]
  have e2 : ((t : Rat) / (b : Rat)).den = b.natAbs / Int.gcd b t := by
    rw [← Rat.divInt_eq_div, Rat.den_divInt, if_neg hb]
  have eg : Int.gcd b t = Nat.gcd t.natAbs b.natAbs := by
    unfold Int.gcd
    exact Nat.gcd_comm _ _
  rw [eg] at e1 e2
  have g0 : (0 : Int) ≤ g := Int.natCast_nonneg _
  by_cases h : b < 0
  · have ec : c = -g := if_pos h
    have es : b.sign = -1 := Int.sign_eq_neg_one_of_neg h
    refine ⟨by rw [ec]; omega, ?_, ?_, by rw [ec, Int.natAbs_neg]; exact hgl⟩
    · rw [ec, e1, es]
      have : t.fdiv (-g) = (-t).fdiv g := by
        rw [← Int.neg_fdiv_neg t (-g), Int.neg_neg]
      rw [this, Int.fdiv_eq_ediv_of_nonneg _ g0]
      congr 1
      omega
    · rw [ec, e2]
      have : b.fdiv (-g) = (-b).fdiv g := by
        rw [← Int.neg_fdiv_neg b (-g), Int.neg_neg]
      rw [this, Int.fdiv_eq_ediv_of_nonneg _ g0]
      have eb : -b = ((b.natAbs : Nat) : Int) := by omega
      rw [eb, Int.natCast_ediv]
  · have ec : c = g := if_neg h
    have es : b.sign = 1 := Int.sign_eq_one_of_pos (by omega)
    refine ⟨by rw [ec]; omega, ?_, ?_, by rw [ec]; exact hgl⟩
    · rw [ec, e1, es, Int.fdiv_eq_ediv_of_nonneg _ g0, Int.one_mul]
    · rw [ec, e2, Int.fdiv_eq_ediv_of_nonneg _ g0]
      have eb : b = ((b.natAbs : Nat) : Int) := by omega
      rw [eb, Int.natCast_ediv]
      congr 2
/-! ### an own class's operators -/
section
variable {X : Cx} {CX : CXT} {C g : Addr} {fd : FuncData} {ps : List Str} {n : Nat} {sp : Sp} {E : XK}
/-- x op y, both instances of the class at C, whose def for op is at g -/
def rOwnB (C : Addr) (sp : Sp) (E : XK) : R2 := fun x y H Q => ∃ a dx fs b dy gs, x = .ref a ∧ y = .ref b ∧ H a = some (.ins C dx fs) ∧ H b = some (.ins C dy gs) ∧ sp [x, y] H Q E
theorem op_ownB {op : Operator} (hc : PySem.W.selfFirst X.K C = true) (hs : PySem.W.findIn X.K (.ref C) (PySem.dunder op.info.2) = some (some (.ref g))) (hf : PySem.W.isFn X.K (.ref g) = true)
    (F : FnOk X.prog X.w X.K X.mg X.base CX n g fd ps sp) (hr : Room n X.A) (hb : Binds X.K fd ps []) (hx : Passes CX X E) : OpR X (binaryOp op) (rOwnB C sp E) := by
  intro pins s σ H x y v u Q I rx ry h
  obtain ⟨a, dx, fs, b, dy, gs, rfl, rfl, ha, hb', q⟩ := h
  cases (show v = Value.ref a from rx)
  cases (show u = Value.ref b from ry)
  obtain ⟨mA, J, _⟩ := ins_get I.hok ha
  obtain ⟨mB, J', _⟩ := ins_get I.hok hb'
  obtain ⟨od, J, _⟩ := J.look
  obtain ⟨od', J', _⟩ := J'.look
  obtain ⟨m, hF⟩ := I.fr
  refine PySem.W.binop_K hF I.ok.mod.kin J J'.type hc hs hf ?_
  refine wpAny_mono (run_fn (us := [.ref a, .ref b]) (vs := [.ref a, .ref b]) (dvs := []) F hr hb .nil hx I (.cons rfl (.cons rfl .nil)) q) (fun w s' z => ?_) fun _ _ x => x
  obtain ⟨z', H', I', rz, qz⟩ := z
  exact SlX.cmpback rz ⟨z', H', I', rz, qz⟩
def rOwnU (C : Addr) (sp : Sp) (E : XK) : V → Hp → VK → Prop := fun x H Q => ∃ a dx fs, x = .ref a ∧ H a = some (.ins C dx fs) ∧ sp [x] H Q E
theorem un_own (hs : PySem.W.findIn X.K (.ref C) "__neg__" = some (some (.ref g))) (hf : PySem.W.isFn X.K (.ref g) = true)
    (F : FnOk X.prog X.w X.K X.mg X.base CX n g fd ps sp) (hr : Room n X.A) (hb : Binds X.K fd ps []) (hx : Passes CX X E) : UnR X (unaryOp .USub) (rOwnU C sp E) := by
  intro pins s σ H x v Q I rx h
  obtain ⟨a, dx, fs, rfl, ha, q⟩ := h
  cases (show v = Value.ref a from rx)
  obtain ⟨mA, J, _⟩ := ins_get I.hok ha
  obtain ⟨od, J, _⟩ := J.look
  obtain ⟨m, hF⟩ := I.fr
  exact PySem.W.ksp_neg hF I.ok.mod.kin J hs hf (run_fn (us := [.ref a]) (vs := [.ref a]) (dvs := []) F hr hb .nil hx I (.cons rfl .nil) q)
/-- the slot of object's own != -/
theorem slot_ne : Slot "object" "__ne__" "object.__ne__" :=
  .of (T := "object") (owner := "object") (n := "__ne__") (by rw [typeLookup_type, builtinLookup_eq_fast]; kernel_rfl) (by decide +kernel) (by decide +kernel) (by decide +kernel) (.inl (by decide +kernel)) (by rw [isSubtype_type]; kernel_rfl)
section
variable {prog : Program} {w : World} {A : Around} {Ee : Value → Shared → Prop} {s : Shared} {K : PySem.W.Frag} {x : Addr} {ox : Obj} {od : Option Obj} {b : Value}
theorem ifBound_B {M : Model} {args : List Value} {Q : Option Value → Shared → Prop} (X : K.In s.heap) (I : PySem.W.InstAt s.heap x ox C od) (hs : PySem.W.findIn K (.ref C) "__ne__" = some (some (.builtin "object.__ne__")))
    (h : wpAny M A (call (.builtin "object.__ne__") (.ref x :: args)) (fun v => Q (some v)) Ee s) : wpAny M A (callSpecialIfBound? (.ref x) "__ne__" args) Q Ee s := by
  simp only [callSpecialIfBound?, bindSpecialIfBound?]
  refine wpAny_holding (wpAny_bind (wpAny_bind (wpAny_bind (I.type.here ((PySem.W.looks_findIn X hs).here ?_)))))
  refine wpAny_bind (wpAny_askSetting (wpAny_ite ?_))
  have fin : wpAny M A (call (.builtin "object.__ne__") ([.ref x] ++ args) >>= fun v => pure (some v)) Q Ee s := wpAny_bind (wpAny_mono h (fun v s' h' => wpAny_pure h') fun _ _ h' => h')
  have bd : PySem.W.Looks M s.heap (bindSpecial (.builtin "object.__ne__") (.ref x)) (.builtin "object.__ne__", [.ref x]) := PySem.W.Looks.of_pure (slot_ne.bind _)
  split
  · exact wpAny_bind (bd.here (wpAny_pure (by exact fin)))
  · exact wpAny_tryCatch (wpAny_bind (bd.here (wpAny_pure (by exact fin))))
theorem objNe {f : Addr} {Q : PySem.Fin → Shared → Prop} (X : K.In s.heap) (I : PySem.W.InstAt s.heap x ox C od) (hu : A.units < cLine) (hs : PySem.W.findIn K (.ref C) "__eq__" = some (some (.ref f))) (hf : PySem.W.isFn K (.ref f) = true)
    (h : wpAny (model prog w) A (call (.ref f) [.ref x, b]) (fun v s' => ∃ r, v = .bool r ∧ Q (.done (.ret (.bool (!r)))) s') Ee s) : wpAny (model prog w) A (Builtin.«object.__ne__» ⟨[.ref x, b], []⟩) Q Ee s := by
  unfold Builtin.«object.__ne__»
  repeat (first
    | with_reducible refine wpAny_cRoomFor hu ?_
    | (refine wpAny_bind (m := callSpecialIfBound? (.ref x) (Str.ofString "__eq__") [b]) (PySem.W.ifBound_K X I hs hf (wpAny_mono h (fun v s' hv => by
          obtain ⟨r, rfl, hq⟩ := hv
          repeat (first | exact hq | exact wpAny_pure hq | exact wpAny_truthy_bool hq | (refine wpAny_bind (m := truthy (.bool _)) (wpAny_truthy_bool ?_)) | wp_step)) fun _ _ e => e)))
    | wp_step)
theorem ne_K {f : Addr} {Q : Value → Shared → Prop} {y : Addr} {oy : Obj} {ody : Option Obj} (X : K.In s.heap) (I : PySem.W.InstAt s.heap x ox C od) (I' : PySem.W.InstAt s.heap y oy C ody) (hu : A.units + 1 < cLine)
    (hn : PySem.W.findIn K (.ref C) "__ne__" = some (some (.builtin "object.__ne__"))) (hm : PySem.W.mroIn K C (.type "object") = some true) (hs : PySem.W.findIn K (.ref C) "__eq__" = some (some (.ref f))) (hf : PySem.W.isFn K (.ref f) = true)
    (h : wpAny (model prog w) A.in1 (call (.ref f) [.ref x, .ref y]) (fun v s' => ∃ r, v = .bool r ∧ Q (.bool (!r)) s') Ee s) : wpAny (model prog w) A (compareOp .NotEq (.ref x) (.ref y)) Q Ee s := by
  have one : wpAny (model prog w) A (tryCompare (.ref x) "__ne__" (.ref y)) (fun r s' => ∃ v, r = some v ∧ Q v s') Ee s := by
    unfold tryCompare
    refine wpAny_bind (ifBound_B X I hn (wpAny_call (codeAny_call_builtin slot_ne.plain F.cmpEntry_ne (PySem.W.check_slot (owner := "object") (n := "__ne__") (by decide +kernel) (by decide +kernel) (I.type.andThen (PySem.W.looks_mroIn X hm)) (F.cmpArgs_ne _ _)
      (objNe (A := A.in1) X I hu hs hf (wpAny_mono h (fun v s' hv => ?_) fun _ _ e => e))))))
    obtain ⟨r, rfl, hq⟩ := hv
    first | exact ⟨r, rfl, wpAny_pure ⟨_, rfl, hq⟩⟩ | exact ⟨r, rfl, wpAny_pure (wpAny_pure ⟨_, rfl, hq⟩)⟩ | exact ⟨r, rfl, ⟨_, rfl, hq⟩⟩
  unfold compareOp
  unfold richCompare
  simp only [oneThing_ref]
  refine wpAny_holding (wpAny_bind (wpAny_cRoomFor (Nat.lt_of_succ_lt hu) ?_))
  rw [cmpInfo_NotEq]
  dsimp only
  refine wpAny_bind (I.type.here (wpAny_bind (I'.type.here ?_)))
  rw [show (Value.ref C != Value.ref C) = false from by simp]
  simp only [Bool.false_eq_true, if_false]
  refine wpAny_bind (wpAny_pure ?_)
  simp only [Bool.false_eq_true, if_false]
  refine wpAny_bind (wpAny_mono one (fun r s' z => ?_) fun _ _ e => e)
  obtain ⟨v, rfl, hq⟩ := z
  first | exact wpAny_pure hq | exact wpAny_pure (wpAny_pure hq)
end
/-- x != y by the own ==, which tells a truth value -/
def rOwnNe (C : Addr) (sp : Sp) (E : XK) : R2 := fun x y H Q => ∃ a dx fs b dy gs, x = .ref a ∧ y = .ref b ∧ H a = some (.ins C dx fs) ∧ H b = some (.ins C dy gs) ∧ sp [x, y] H (fun z H' => ∃ r, z = .bl r ∧ Q (.bl (!r)) H') E
theorem op_ownNe (hn : PySem.W.findIn X.K (.ref C) "__ne__" = some (some (.builtin "object.__ne__"))) (hm : PySem.W.mroIn X.K C (.type "object") = some true) (hs : PySem.W.findIn X.K (.ref C) "__eq__" = some (some (.ref g))) (hf : PySem.W.isFn X.K (.ref g) = true)
    (F : FnOk X.prog X.w X.K X.mg X.base CX n g fd ps sp) (hr : Room (n + 1) X.A) (hb : Binds X.K fd ps []) (hx : Passes CX X E) : OpR X (compareOp .NotEq) (rOwnNe C sp E) := by
  intro pins s σ H x y v u Q I rx ry h
  obtain ⟨a, dx, fs, b, dy, gs, rfl, rfl, ha, hb', q⟩ := h
  cases (show v = Value.ref a from rx)
  cases (show u = Value.ref b from ry)
  obtain ⟨mA, J, _⟩ := ins_get I.hok ha
  obtain ⟨mB, J', _⟩ := ins_get I.hok hb'
  obtain ⟨od, J, _⟩ := J.look
  obtain ⟨od', J', _⟩ := J'.look
  have hl := F.len _ _ _ _ q
  have r2 : Vals [V.ref a, V.ref b] [Value.ref a, Value.ref b] := .cons rfl (.cons rfl .nil)
  refine ne_K I.kIn J J' (by have := hr.un; omega) hn hm hs hf ?_
  refine wpAny_call (codeAny_mono (F.run X.A.in1 X.stack s H ⟨[.ref a, .ref b], []⟩ [.ref a, .ref b] [.ref a, .ref b] _ E hr.in1 I.env0.in1 (by
    have := hb s [.ref a, .ref b] I.kIn (by simpa using hl)
    simpa using this) r2 q) fun r s' hq => ?_)
  cases r with
  | error e => exact hx pins σ H s e s' I hq
  | ok fl =>
    cases fl with
    | ret w =>
      obtain ⟨z, H', I', rz, r, ez, qz⟩ := I.after hq
      subst ez
      cases rz
      exact ⟨r, rfl, .bl (!r), H', I', rfl, qz⟩
    | next => exact False.elim hq
    | brk => exact False.elim hq
    | cont => exact False.elim hq
end
end PW

set_option Elab.async false
set_option linter.all false
set_option maxRecDepth 100000
set_option maxHeartbeats 4000000
/-! PwC: the class of the fractions. -/
namespace PW
open PySem PySem.Spec PyProof.Rows L2 PN
abbrev sRInit : Stmt := inClass (topS 15) 0
abbrev sRAdd : Stmt := inClass (topS 15) 1
abbrev sRSub : Stmt := inClass (topS 15) 2
abbrev sRMul : Stmt := inClass (topS 15) 3
abbrev sRNeg : Stmt := inClass (topS 15) 4
abbrev sREq : Stmt := inClass (topS 15) 6
abbrev sROver : Stmt := inClass (topS 15) 12
/-- what the text's top has written of the class -/
structure RCls (K : PySem.W.Frag) (mg : Str → Option Value) (C : Addr) : Prop where
  cl : Cls K C
  nT : NoAttr K C "top"
  nB : NoAttr K C "bottom"
  sf : PySem.W.selfFirst K C = true
  mgC : mg "Ratio" = some (.ref C)
  gcd : mg "gcd" = some (.builtin "math.gcd")
  ne : PySem.W.findIn K (.ref C) "__ne__" = some (some (.builtin "object.__ne__"))
  isi : mg "isinstance" = none
  ca : PySem.W.findIn K (.ref C) "__class__" = some (some (.builtin "object.__class__"))
  cn : PySem.W.specialIn K (.builtin "object.__class__") "__get__" = some (some (.builtin "getset_descriptor.__get__"))
  ct : PySem.W.takesIn K (.builtin "object.__class__") = some true
  cm : PySem.W.mroIn K C (.type "object") = some true
theorem tb_ : ¬ (("top" : Str) = "bottom") := by decide +kernel
theorem bt_ : ¬ (("bottom" : Str) = "top") := by decide +kernel
theorem qf_top (q : Rat) : (qf q).lookup ("top" : Str) = some (.int q.num) := by
  show List.lookup ("top" : Str) [(("top" : Str), V.int q.num), ("bottom", _)] = _
  simp [List.lookup]
theorem qf_bot (q : Rat) : (qf q).lookup ("bottom" : Str) = some (.int (q.den : Int)) := by
  show List.lookup ("bottom" : Str) [(("top" : Str), V.int q.num), ("bottom", V.int (q.den : Int))] = _
  have e : (("bottom" : Str) == "top") = false := by decide +kernel
  simp [List.lookup, e]
theorem qf_no (q : Rat) {m : Str} (h1 : (m == ("top" : Str)) = false) (h2 : (m == ("bottom" : Str)) = false) : (qf q).lookup m = none := by
  show List.lookup m [(("top" : Str), V.int q.num), ("bottom", V.int (q.den : Int))] = none
  simp [List.lookup, h1, h2]
theorem qf_put (q : Rat) : putF "bottom" (.int (q.den : Int)) (putF "top" (.int q.num) []) = qf q := by
  show (if ("top" : Str) = "bottom" then _ else (("top" : Str), V.int q.num) :: putF "bottom" (V.int (q.den : Int)) []) = qf q
  rw [if_neg tb_]
  rfl
/-- the fraction of two whole numbers -/
def qd (t b : Int) : Rat := (t : Rat) / (b : Rat)
def spRInit (C : Addr) : Sp := fun vs H Q _ => ∃ (p dx : Addr) (t b : Int), vs = [.ref p, .int t, .int b] ∧ H p = some (.ins C dx []) ∧ b ≠ 0 ∧ b.natAbs.log2 < 9000 ∧ Q .non (upd H p (.ins C dx (qf (qd t b))))
section
variable {P : Program} {w : World} {K : PySem.W.Frag} {mg : Str → Option Value} {base : Heap} {f C : Addr} {fd : FuncData}
theorem scRI : FnScope ["self", "top", "bottom", "common"] ["self", "top", "bottom"] (defScope sRInit) := ⟨rfl, rfl, rfl, by decide +kernel, rfl, by decide +kernel, by decide +kernel⟩
theorem ok_rinit (F : FunD K "__init__" "Ratio.__init__" (defArgs sRInit) (defBody sRInit) (defScope sRInit) [.int 1] [] f fd) (T : RCls K mg C) : FnOk P w K mg base CX0 1 f fd ["self", "top", "bottom"] (spRInit C) := by
  refine F.ok scRI (fun vs H Q E h => ?_) (fun cdv A outer s H vs Q E hr h => ?_)
  · obtain ⟨p, dx, t, b, rfl, _⟩ := h
    rfl
  · obtain ⟨p, dx, t, b, rfl, hp, hb, hl, k⟩ := h
    obtain ⟨c0, c1, c2, c3⟩ := low_terms (t := t) hb
    refine ⟨_, PSs.nox (pss_cons (ps_if (pt_cmpR op_eq (pv 2) pe_int (nomark _)) (pss_one ps_never) pss_nil)
      (pss_cons (ps_set (i := 3) scRI.nd rfl (Or.inl rfl) (pe_callBfun cr_gcd (by rfl) T.gcd (pa_cons (pv 1) (pa_cons (pv 2) pa_nil))))
      (pss_cons (ps_if (pt_cmpR op_lt (pv 2) pe_int (nomark _)) (pss_one (ps_set (i := 3) scRI.nd rfl (Or.inl rfl) (pe_un un_neg (pv 3)))) pss_nil)
      (pss_cons (ps_fld (pv 0) (pe_op op_fdivA (pv 1) (pv 3)) rfl) (pss_one (ps_fld (pv 0) (pe_op op_fdivA (pv 2) (pv 3)) rfl)))))), ?_⟩
    have hcd : CDivA t (if b < 0 then -((Nat.gcd t.natAbs b.natAbs : Nat) : Int) else ((Nat.gcd t.natAbs b.natAbs : Nat) : Int)) := ⟨c0, Nat.lt_of_le_of_lt (by
      rw [Nat.le_log2 (by omega)]
      exact Nat.le_trans (Nat.log2_self_le (by omega)) c3) hl⟩
    -- the last two stores, common standing
    have fin : ∀ σ : L2.St, σ[0]? = some (some (.ref p)) → σ[1]? = some (some (.int t)) → σ[2]? = some (some (.int b)) → σ[3]? = some (some (.int (if b < 0 then -((Nat.gcd t.natAbs b.natAbs : Nat) : Int) else ((Nat.gcd t.natAbs b.natAbs : Nat) : Int)))) →
        tSeq (sFld K (tVar 0) (tOp (rI CDivA fun i j => V.int (i.fdiv j)) (tVar 1) (tVar 3)) (Str.ofString "top")) (sFld K (tVar 0) (tOp (rI CDivA fun i j => V.int (i.fdiv j)) (tVar 2) (tVar 3)) (Str.ofString "bottom")) { nx := fun _ H' => Q V.non H', rt := Q } σ H := fun σ s0 s1 s2 s3 => by
      refine ⟨_, s1, _, s3, t, _, rfl, rfl, hcd, _, s0, p, C, dx, _, rfl, hp, T.cl, T.nT, (by show 0 < 1000; decide), ?_⟩
      refine ⟨_, s2, _, s3, b, _, rfl, rfl, ⟨hcd.1, hcd.2⟩, _, s0, p, C, dx, _, rfl, upd_same, T.cl, T.nB, ?_, ?_⟩
      · have := length_putF ("top" : Str) (V.int (t.fdiv (if b < 0 then -((Nat.gcd t.natAbs b.natAbs : Nat) : Int) else ((Nat.gcd t.natAbs b.natAbs : Nat) : Int)))) []
        exact Nat.lt_of_le_of_lt this (by decide)
      · dsimp only
        rw [c1, c2, upd_upd]
        show Q V.non (upd H p (HO.ins C dx (putF "bottom" (.int ((qd t b).den : Int)) (putF "top" (.int (qd t b).num) []))))
        rw [qf_put]
        exact k
    refine ⟨_, rfl, rfl, _, rfl, ?_⟩
    refine ite2 (fun h => absurd (of_decide_eq_true h) (fun z => hb (V.int.inj z))) (fun _ => ?_)
    refine ⟨_, rfl, _, rfl, t, b, rfl, ?_⟩
    refine ⟨_, rfl, b, 0, rfl, rfl, _, rfl, ?_⟩
    refine ite2 (fun h => ?_) (fun h => ?_)
    · have h' : b < 0 := of_decide_eq_true h
      refine ⟨_, rfl, _, rfl, ?_⟩
      refine fin _ rfl rfl rfl ?_
      rw [if_pos h']
      rfl
    · have h' : ¬ b < 0 := fun z => h (decide_eq_true z)
      refine fin _ rfl rfl rfl ?_
      rw [if_neg h']
      rfl

/-! ### made, read, reckoned -/
theorem ev_mulI {σ : L2.St} {H : Hp} {ta tb : TE} {i j : Int} (ha : Ev ta σ H (isX (.int i))) (hb : Ev tb σ H (isX (.int j))) (h : CMulW i j) : Ev (tOp (rI CMulW fun i j => .int (i * j)) ta tb) σ H (isX (.int (i * j))) := ev_ints ha hb h
theorem ev_addI {σ : L2.St} {H : Hp} {ta tb : TE} {i j : Int} (ha : Ev ta σ H (isX (.int i))) (hb : Ev tb σ H (isX (.int j))) : Ev (tOp (rI0 fun i j => .int (i + j)) ta tb) σ H (isX (.int (i + j))) := ev_ints0 ha hb
theorem ev_subI {σ : L2.St} {H : Hp} {ta tb : TE} {i j : Int} (ha : Ev ta σ H (isX (.int i))) (hb : Ev tb σ H (isX (.int j))) : Ev (tOp (rI0 fun i j => .int (i - j)) ta tb) σ H (isX (.int (i - j))) := ev_ints0 ha hb
variable {σ : L2.St} {H : Hp} {ta tb : TE} {E : XK} {a b : Rat}
theorem made_ex {H : Hp} {x dx : Addr} {o o' : HO} (hx : H x = none) (hd : H dx = none) (ne : dx ≠ x) : Ex H (upd (upd (upd H dx o') x o) x (.ins C dx (qf a))) := by
  rw [upd_upd]
  exact ((Ex.new hd).mut hx)
theorem ev_mk {t b : Int} (ha : Ev ta σ H (isX (.int t))) (hb : Ev tb σ H (isX (.int b))) (h0 : b ≠ 0) (hl : b.natAbs.log2 < 9000) : Ev (tMake C (spRInit C) [] E (tCons ta (tCons tb tNil))) σ H (isQ C (qd t b)) := fun H1 e Q q =>
  ha H1 e _ fun x H2 e2 p => hb H2 (e.trans e2) _ fun y H3 e3 p3 => by
    intro z dz nz nd ne
    obtain rfl : x = .int t := p
    obtain rfl : y = .int b := p3
    exact ⟨z, dz, t, b, rfl, upd_same, h0, hl, rfl, q _ _ ((e2.trans e3).trans (made_ex nz nd ne)) ⟨z, dz, rfl, upd_same⟩⟩
theorem qd_one (t : Int) : qd t 1 = (t : Rat) := by
  unfold qd
  rw [Rat.intCast_one]
  grind
theorem ev_mk1 {t : Int} (ha : Ev ta σ H (isX (.int t))) : Ev (tMake C (spRInit C) [.int 1] E (tCons ta tNil)) σ H (isQ C (t : Rat)) := fun H1 e Q q =>
  ha H1 e _ fun x H2 e2 p => by
    intro z dz nz nd ne
    obtain rfl : x = .int t := p
    refine ⟨z, dz, t, 1, rfl, upd_same, by decide, by decide, rfl, q _ _ (e2.trans (made_ex (a := qd t 1) nz nd ne)) ⟨z, dz, rfl, ?_⟩⟩
    rw [← qd_one t]
    exact upd_same
theorem ev_top (T : RCls K mg C) (ha : Ev ta σ H (isQ C a)) : Ev (tFld K ta "top") σ H (isX (.int a.num)) :=
  ev_fld ha fun v H1 _ p => let ⟨x, dx, h1, h2⟩ := p; ⟨x, C, dx, _, h1, h2, T.cl, T.nT, qf_top a, rfl⟩
theorem ev_bot (T : RCls K mg C) (ha : Ev ta σ H (isQ C a)) : Ev (tFld K ta "bottom") σ H (isX (.int (a.den : Int))) :=
  ev_fld ha fun v H1 _ p => let ⟨x, dx, h1, h2⟩ := p; ⟨x, C, dx, _, h1, h2, T.cl, T.nB, qf_bot a, rfl⟩
/-- an operation on two fractions -/
def spQ2 (C : Addr) (f : Rat → Rat → Rat) (c : Rat → Rat → Prop) : Sp := fun vs H Q _ => ∃ (x y : V) (a b : Rat), vs = [x, y] ∧ IsQ C H x a ∧ IsQ C H y b ∧ Sm a ∧ Sm b ∧ c a b ∧ ∀ z H', Ex H H' → IsQ C H' z (f a b) → Q z H'
abbrev nocond : Rat → Rat → Prop := fun _ _ => True
theorem ev_opQ {f : Rat → Rat → Rat} (ha : Ev ta σ H (isQ C a)) (hb : Ev tb σ H (isQ C b)) (sa : Sm a) (sb : Sm b) : Ev (tOp (rOwnB C (spQ2 C f nocond) E) ta tb) σ H (isQ C (f a b)) :=
  ev_op ha hb fun x y H1 _ p1 p2 Q q => let ⟨u, du, e1, h1⟩ := id p1; let ⟨v, dv, e2, h2⟩ := id p2; ⟨u, du, _, v, dv, _, e1, e2, h1, h2, x, y, a, b, rfl, p1, p2, sa, sb, trivial, q⟩
theorem sm_mulW {i j : Int} (hi : i.natAbs < 2 ^ LIM) (hj : j.natAbs < 2 ^ LIM) : CMulW i j := wide_mul hi hj (by decide) (by decide) (by decide)
theorem log_den {m n : Nat} (hm : m < 2 ^ LIM) (hn : n < 2 ^ LIM) (h0 : m ≠ 0) (h1 : n ≠ 0) : ((m : Int) * (n : Int)).natAbs.log2 < 9000 := by
  rw [Int.natAbs_mul, Int.natAbs_natCast, Int.natAbs_natCast]
  have h := pow_add_lt hm hn
  rw [Nat.log2_lt (Nat.mul_ne_zero h0 h1)]
  exact Nat.lt_of_lt_of_le h (Nat.pow_le_pow_right (by decide) (by decide))
theorem den0 (a : Rat) : (a.den : Int) ≠ 0 := by have := a.den_nz; omega
theorem qd_add (a b : Rat) : qd (a.num * (b.den : Int) + b.num * (a.den : Int)) ((a.den : Int) * (b.den : Int)) = a + b := by
  rw [Rat.add_def', Rat.mkRat_eq_div]; unfold qd
  rfl
theorem qd_sub (a b : Rat) : qd (a.num * (b.den : Int) - b.num * (a.den : Int)) ((a.den : Int) * (b.den : Int)) = a - b := by
  rw [Rat.sub_def', Rat.mkRat_eq_div]; unfold qd
  rfl
theorem qd_mul (a b : Rat) : qd (a.num * b.num) ((a.den : Int) * (b.den : Int)) = a * b := by
  rw [Rat.mul_def', Rat.mkRat_eq_div]; unfold qd
  rfl
theorem scRA : FnScope ["self", "other"] ["self", "other"] (defScope sRAdd) := ⟨rfl, rfl, rfl, by decide +kernel, rfl, by decide +kernel, by decide +kernel⟩
theorem scRS : FnScope ["self", "other"] ["self", "other"] (defScope sRSub) := ⟨rfl, rfl, rfl, by decide +kernel, rfl, by decide +kernel, by decide +kernel⟩
theorem scRM : FnScope ["self", "other"] ["self", "other"] (defScope sRMul) := ⟨rfl, rfl, rfl, by decide +kernel, rfl, by decide +kernel, by decide +kernel⟩
variable {fI : Addr} {fdI : FuncData}
theorem ok_radd (F : FnP K "__add__" "Ratio.__add__" sRAdd f fd) (T : RCls K mg C) (M : Mk K C fI) (FI : FnOk P w K mg base CX0 1 fI fdI ["self", "top", "bottom"] (spRInit C)) (bI : Binds K fdI ["self", "top", "bottom"] []) :
    FnOk P w K mg base CX0 3 f fd ["self", "other"] (spQ2 C (· + ·) nocond) := by
  refine F.ok scRA (fun vs H Q E h => ?_) (fun cdv A outer s H vs Q E hr h => ?_)
  · obtain ⟨x, y, a, b, rfl, _⟩ := h
    rfl
  · obtain ⟨x, y, a, b, rfl, hx, hy, sa, sb, _, k⟩ := h
    refine ⟨_, PSs.nox (pss_one (ps_ret (pe_make M FI hr rfl T.mgC bI .nil pass0 (pa_cons (pe_op op_add (pe_op op_mulW (pe_fld (pv 0) rfl) (pe_fld (pv 1) rfl)) (pe_op op_mulW (pe_fld (pv 1) rfl) (pe_fld (pv 0) rfl)))
      (pa_cons (pe_op op_mulW (pe_fld (pv 0) rfl) (pe_fld (pv 1) rfl)) pa_nil))))), ?_⟩
    have vx : ∀ {σ}, σ = L2.start ["self", "other"] [x, y] → Ev (tVar 0) σ H (isQ C a) := fun {σ} e => ev_var (by rw [e]; rfl) hx
    have vy : ∀ {σ}, σ = L2.start ["self", "other"] [x, y] → Ev (tVar 1) σ H (isQ C b) := fun {σ} e => ev_var (by rw [e]; rfl) hy
    have e := ev_mk (C := C) (E := E0) (ev_addI (ev_mulI (ev_top T (vx rfl)) (ev_bot T (vy rfl)) (sm_mulW sa.1 sb.2)) (ev_mulI (ev_top T (vy rfl)) (ev_bot T (vx rfl)) (sm_mulW sb.1 sa.2)))
      (ev_mulI (ev_bot T (vx rfl)) (ev_bot T (vy rfl)) (sm_mulW sa.2 sb.2)) (Int.mul_ne_zero (den0 a) (den0 b)) (log_den sa.2 sb.2 a.den_nz b.den_nz)
    exact e.use fun z H' ex p => k z H' ex (by rw [qd_add] at p; exact p)
theorem ok_rsub (F : FnP K "__sub__" "Ratio.__sub__" sRSub f fd) (T : RCls K mg C) (M : Mk K C fI) (FI : FnOk P w K mg base CX0 1 fI fdI ["self", "top", "bottom"] (spRInit C)) (bI : Binds K fdI ["self", "top", "bottom"] []) :
    FnOk P w K mg base CX0 3 f fd ["self", "other"] (spQ2 C (· - ·) nocond) := by
  refine F.ok scRS (fun vs H Q E h => ?_) (fun cdv A outer s H vs Q E hr h => ?_)
  · obtain ⟨x, y, a, b, rfl, _⟩ := h
    rfl
  · obtain ⟨x, y, a, b, rfl, hx, hy, sa, sb, _, k⟩ := h
    refine ⟨_, PSs.nox (pss_one (ps_ret (pe_make M FI hr rfl T.mgC bI .nil pass0 (pa_cons (pe_op op_sub (pe_op op_mulW (pe_fld (pv 0) rfl) (pe_fld (pv 1) rfl)) (pe_op op_mulW (pe_fld (pv 1) rfl) (pe_fld (pv 0) rfl)))
      (pa_cons (pe_op op_mulW (pe_fld (pv 0) rfl) (pe_fld (pv 1) rfl)) pa_nil))))), ?_⟩
    have vx : ∀ {σ}, σ = L2.start ["self", "other"] [x, y] → Ev (tVar 0) σ H (isQ C a) := fun {σ} e => ev_var (by rw [e]; rfl) hx
    have vy : ∀ {σ}, σ = L2.start ["self", "other"] [x, y] → Ev (tVar 1) σ H (isQ C b) := fun {σ} e => ev_var (by rw [e]; rfl) hy
    have e := ev_mk (C := C) (E := E0) (ev_subI (ev_mulI (ev_top T (vx rfl)) (ev_bot T (vy rfl)) (sm_mulW sa.1 sb.2)) (ev_mulI (ev_top T (vy rfl)) (ev_bot T (vx rfl)) (sm_mulW sb.1 sa.2)))
      (ev_mulI (ev_bot T (vx rfl)) (ev_bot T (vy rfl)) (sm_mulW sa.2 sb.2)) (Int.mul_ne_zero (den0 a) (den0 b)) (log_den sa.2 sb.2 a.den_nz b.den_nz)
    exact e.use fun z H' ex p => k z H' ex (by rw [qd_sub] at p; exact p)
theorem ok_rmul (F : FnP K "__mul__" "Ratio.__mul__" sRMul f fd) (T : RCls K mg C) (M : Mk K C fI) (FI : FnOk P w K mg base CX0 1 fI fdI ["self", "top", "bottom"] (spRInit C)) (bI : Binds K fdI ["self", "top", "bottom"] []) :
    FnOk P w K mg base CX0 3 f fd ["self", "other"] (spQ2 C (· * ·) nocond) := by
  refine F.ok scRM (fun vs H Q E h => ?_) (fun cdv A outer s H vs Q E hr h => ?_)
  · obtain ⟨x, y, a, b, rfl, _⟩ := h
    rfl
  · obtain ⟨x, y, a, b, rfl, hx, hy, sa, sb, _, k⟩ := h
    refine ⟨_, PSs.nox (pss_one (ps_ret (pe_make M FI hr rfl T.mgC bI .nil pass0 (pa_cons (pe_op op_mulW (pe_fld (pv 0) rfl) (pe_fld (pv 1) rfl))
      (pa_cons (pe_op op_mulW (pe_fld (pv 0) rfl) (pe_fld (pv 1) rfl)) pa_nil))))), ?_⟩
    have vx : ∀ {σ}, σ = L2.start ["self", "other"] [x, y] → Ev (tVar 0) σ H (isQ C a) := fun {σ} e => ev_var (by rw [e]; rfl) hx
    have vy : ∀ {σ}, σ = L2.start ["self", "other"] [x, y] → Ev (tVar 1) σ H (isQ C b) := fun {σ} e => ev_var (by rw [e]; rfl) hy
    have e := ev_mk (C := C) (E := E0) (ev_mulI (ev_top T (vx rfl)) (ev_top T (vy rfl)) (sm_mulW sa.1 sb.1))
      (ev_mulI (ev_bot T (vx rfl)) (ev_bot T (vy rfl)) (sm_mulW sa.2 sb.2)) (Int.mul_ne_zero (den0 a) (den0 b)) (log_den sa.2 sb.2 a.den_nz b.den_nz)
    exact e.use fun z H' ex p => k z H' ex (by rw [qd_mul] at p; exact p)
/-- the negative -/
def spRNeg (C : Addr) : Sp := fun vs H Q _ => ∃ (x : V) (a : Rat), vs = [x] ∧ IsQ C H x a ∧ Sm a ∧ ∀ z H', Ex H H' → IsQ C H' z (-a) → Q z H'
theorem qd_neg (a : Rat) : qd (-a.num) (a.den : Int) = -a := by
  unfold qd
  have h := den_num a
  have hn : ((a.den : Int) : Rat) ≠ 0 := fun e => den0 a (Rat.intCast_eq_zero_iff.mp e)
  rw [Rat.intCast_neg, ← h]
  grind
theorem log_den1 {m : Nat} (hm : m < 2 ^ LIM) (h0 : m ≠ 0) : ((m : Int)).natAbs.log2 < 9000 := by
  rw [Int.natAbs_natCast, Nat.log2_lt h0]
  exact Nat.lt_of_lt_of_le hm (Nat.pow_le_pow_right (by decide) (by decide))
theorem scRN : FnScope ["self"] ["self"] (defScope sRNeg) := ⟨rfl, rfl, rfl, by decide +kernel, rfl, by decide +kernel, by decide +kernel⟩
theorem ok_rneg (F : FnP K "__neg__" "Ratio.__neg__" sRNeg f fd) (T : RCls K mg C) (M : Mk K C fI) (FI : FnOk P w K mg base CX0 1 fI fdI ["self", "top", "bottom"] (spRInit C)) (bI : Binds K fdI ["self", "top", "bottom"] []) :
    FnOk P w K mg base CX0 3 f fd ["self"] (spRNeg C) := by
  refine F.ok scRN (fun vs H Q E h => ?_) (fun cdv A outer s H vs Q E hr h => ?_)
  · obtain ⟨x, a, rfl, _⟩ := h
    rfl
  · obtain ⟨x, a, rfl, hx, sa, k⟩ := h
    refine ⟨_, PSs.nox (pss_one (ps_ret (pe_make M FI hr rfl T.mgC bI .nil pass0 (pa_cons (pe_un un_neg (pe_fld (pv 0) rfl)) (pa_cons (pe_fld (pv 0) rfl) pa_nil))))), ?_⟩
    have vx : ∀ {σ}, σ = L2.start ["self"] [x] → Ev (tVar 0) σ H (isQ C a) := fun {σ} e => ev_var (by rw [e]; rfl) hx
    have e := ev_mk (C := C) (E := E0) (ev_neg (ev_top T (vx rfl))) (ev_bot T (vx rfl)) (den0 a) (log_den1 sa.2 a.den_nz)
    exact e.use fun z H' ex p => k z H' ex (by rw [qd_neg] at p; exact p)
theorem ev_negQ (ha : Ev ta σ H (isQ C a)) (sa : Sm a) : Ev (tUn (rOwnU C (spRNeg C) E) ta) σ H (isQ C (-a)) :=
  ev_un ha fun x H1 _ p1 Q q => let ⟨u, du, e1, h1⟩ := id p1; ⟨u, du, _, e1, h1, x, a, rfl, p1, sa, q⟩
/-- one divided by another -/
abbrev nz2 : Rat → Rat → Prop := fun _ b => b ≠ 0
theorem qd_div (a b : Rat) (hb : b ≠ 0) : qd (a.num * (b.den : Int)) ((a.den : Int) * b.num) = a / b := by
  unfold qd
  have h1 := den_num a
  have h2 := den_num b
  have n1 : ((a.den : Int) : Rat) ≠ 0 := fun e => den0 a (Rat.intCast_eq_zero_iff.mp e)
  have n2 : ((b.den : Int) : Rat) ≠ 0 := fun e => den0 b (Rat.intCast_eq_zero_iff.mp e)
  rw [Rat.intCast_mul, Rat.intCast_mul, ← h1, ← h2]
  grind
theorem scRO : FnScope ["self", "other"] ["self", "other"] (defScope sROver) := ⟨rfl, rfl, rfl, by decide +kernel, rfl, by decide +kernel, by decide +kernel⟩
theorem num0 {b : Rat} (hb : b ≠ 0) : b.num ≠ 0 := fun e => hb (Rat.num_eq_zero.mp e)
theorem log_num {m : Nat} {j : Int} (hm : m < 2 ^ LIM) (hn : j.natAbs < 2 ^ LIM) (h0 : m ≠ 0) (h1 : j ≠ 0) : ((m : Int) * j).natAbs.log2 < 9000 := by
  rw [Int.natAbs_mul, Int.natAbs_natCast]
  have h := pow_add_lt hm hn
  rw [Nat.log2_lt (Nat.mul_ne_zero h0 (by omega))]
  exact Nat.lt_of_lt_of_le h (Nat.pow_le_pow_right (by decide) (by decide))
theorem ok_rover (F : FnP K "over" "Ratio.over" sROver f fd) (T : RCls K mg C) (M : Mk K C fI) (FI : FnOk P w K mg base CX0 1 fI fdI ["self", "top", "bottom"] (spRInit C)) (bI : Binds K fdI ["self", "top", "bottom"] []) :
    FnOk P w K mg base CX0 3 f fd ["self", "other"] (spQ2 C (· / ·) nz2) := by
  refine F.ok scRO (fun vs H Q E h => ?_) (fun cdv A outer s H vs Q E hr h => ?_)
  · obtain ⟨x, y, a, b, rfl, _⟩ := h
    rfl
  · obtain ⟨x, y, a, b, rfl, hx, hy, sa, sb, hb, k⟩ := h
    refine ⟨_, PSs.nox (pss_one (ps_ret (pe_make M FI hr rfl T.mgC bI .nil pass0 (pa_cons (pe_op op_mulW (pe_fld (pv 0) rfl) (pe_fld (pv 1) rfl)) (pa_cons (pe_op op_mulW (pe_fld (pv 0) rfl) (pe_fld (pv 1) rfl)) pa_nil))))), ?_⟩
    have vx : ∀ {σ}, σ = L2.start ["self", "other"] [x, y] → Ev (tVar 0) σ H (isQ C a) := fun {σ} e => ev_var (by rw [e]; rfl) hx
    have vy : ∀ {σ}, σ = L2.start ["self", "other"] [x, y] → Ev (tVar 1) σ H (isQ C b) := fun {σ} e => ev_var (by rw [e]; rfl) hy
    have e := ev_mk (C := C) (E := E0) (ev_mulI (ev_top T (vx rfl)) (ev_bot T (vy rfl)) (sm_mulW sa.1 sb.2)) (ev_mulI (ev_bot T (vx rfl)) (ev_top T (vy rfl)) (sm_mulW sa.2 sb.1)) (Int.mul_ne_zero (den0 a) (num0 hb)) (log_num sa.2 sb.1 a.den_nz (num0 hb))
    exact e.use fun z H' ex p => k z H' ex (by rw [qd_div _ _ hb] at p; exact p)
/-- a.over(b) -/
theorem ev_over (ha : Ev ta σ H (isQ C a)) (hb : Ev tb σ H (isQ C b)) (sa : Sm a) (sb : Sm b) (nb : b ≠ 0) : Ev (tMeth C "over" (spQ2 C (· / ·) nz2) [] E ta (tCons tb tNil)) σ H (isQ C (a / b)) := fun H1 e Q q =>
  ha H1 e _ fun x H2 e2 p => by
    obtain ⟨u, du, e1, h1⟩ := id p
    refine ⟨u, du, _, e1, h1, qf_no a (by decide +kernel) (by decide +kernel), ?_⟩
    exact hb H2 (e.trans e2) _ fun y H3 e3 p3 => ⟨x, y, a, b, rfl, IsQ.ex p e3, p3, sa, sb, nb, fun v H4 e4 p4 => q v H4 ((e2.trans e3).trans e4) p4⟩
/-! ### equal -/
def spREq (C : Addr) : Sp := fun vs H Q _ => ∃ (x y : V) (a b : Rat), vs = [x, y] ∧ IsQ C H x a ∧ IsQ C H y b ∧ Q (.bl (decide (a = b))) H
theorem scRE : FnScope ["self", "other"] ["self", "other"] (defScope sREq) := ⟨rfl, rfl, rfl, by decide +kernel, rfl, by decide +kernel, by decide +kernel⟩
theorem kit_self (C : Addr) : PySem.W.kitOne K (.ref C) (.ref C) = some true := by
  unfold PySem.W.kitOne
  simp
theorem ok_req (F : FnP K "__eq__" "Ratio.__eq__" sREq f fd) (T : RCls K mg C) : FnOk P w K mg base CX0 1 f fd ["self", "other"] (spREq C) := by
  refine F.ok scRE (fun vs H Q E h => ?_) (fun cdv A outer s H vs Q E hr h => ?_)
  · obtain ⟨x, y, a, b, rfl, _⟩ := h
    rfl
  · obtain ⟨x, y, a, b, rfl, hx, hy, k⟩ := h
    refine ⟨_, PSs.nox (pss_one (ps_ret (pe_and (pe_callB call_isi (by rfl) T.isi (by decide +kernel) (pa_cons (pv 1) (pa_cons (pe_glob rfl T.mgC (v := .ref C) rfl) pa_nil))) (pe_and (pe_cmpR op_eq (pe_fld (pv 0) rfl) (pe_fld (pv 1) rfl) (nomark _)) (pe_one (pe_cmpR op_eq (pe_fld (pv 0) rfl) (pe_fld (pv 1) rfl) (nomark _))))))), ?_⟩
    obtain ⟨p, dp, rfl, hp⟩ := hx
    obtain ⟨q, dq, rfl, hq⟩ := hy
    refine ⟨_, rfl, _, _, _, _, true, rfl, .own C, .base (.ins hq T.cl T.ca T.cn T.ct T.cm), kit_self C, true, rfl, ?_⟩
    refine iteT ?_
    refine ⟨_, rfl, _, _, _, _, _, rfl, hp, T.cl, T.nT, qf_top a, _, rfl, _, _, _, _, _, rfl, hq, T.cl, T.nT, qf_top b, rfl, _, rfl, ?_⟩
    have fin : a.num = b.num → a.den = b.den → a = b := fun h1 h2 => Rat.ext h1 h2
    refine ite2 (fun h => ?_) (fun h => ?_)
    · have h1 : a.num = b.num := V.int.inj (of_decide_eq_true h)
      refine ⟨_, rfl, _, _, _, _, _, rfl, hp, T.cl, T.nB, qf_bot a, _, rfl, _, _, _, _, _, rfl, hq, T.cl, T.nB, qf_bot b, rfl, ?_⟩
      have e : decide (V.int (a.den : Int) = V.int (b.den : Int)) = decide (a = b) := by
        by_cases hd : a.den = b.den
        · rw [decide_eq_true (congrArg (fun n : Nat => V.int (n : Int)) hd), decide_eq_true (fin h1 hd)]
        · rw [decide_eq_false (fun z => hd (by have := V.int.inj z; omega)), decide_eq_false (fun z => hd (by rw [z]))]
      show Q (V.bl (decide (V.int (a.den : Int) = V.int (b.den : Int)))) H
      rw [e]; exact k
    · have h1 : ¬ a = b := fun z => h (decide_eq_true (by rw [z]))
      rw [decide_eq_false h1] at k
      exact k
end
end PW

set_option Elab.async false
set_option linter.all false
set_option maxRecDepth 100000
set_option maxHeartbeats 4000000
/-! PwD: comprehensions and loops by what they feed on. -/
namespace PW
open PySem PySem.Spec PyProof.Rows L2 PN
/-- all but lists is kept -/
def ExL (H H' : Hp) : Prop := ∀ a o, H a = some o → (∀ xs, o ≠ .lst xs) → H' a = some o
theorem Ex.exl {H H' : Hp} (e : Ex H H') : ExL H H' := fun a o h _ => e a o h
theorem ExL.refl (H : Hp) : ExL H H := fun _ _ h _ => h
theorem ExL.trans {H H1 H2 : Hp} (a : ExL H H1) (b : ExL H1 H2) : ExL H H2 := fun x o h n => b x o (a x o h n) n
theorem ExL.mut {H H' : Hp} {p : Addr} {xs : List V} {o : HO} (e : ExL H H') (h : H' p = some (.lst xs)) : ExL H (upd H' p o) := fun a u ha n => by
  have h1 := e a u ha n
  rw [upd_ne (fun q => by subst q; rw [h] at h1; exact n xs (Option.some.inj h1).symm)]
  exact h1
theorem IsQ.exl {C : Addr} {H H' : Hp} {v : V} {q : Rat} (h : IsQ C H v q) (e : ExL H H') : IsQ C H' v q := let ⟨a, dx, h1, h2⟩ := h; ⟨a, dx, h1, e _ _ h2 fun xs z => by cases z⟩
theorem IsV.exl {C : Addr} {H H' : Hp} {v : V} {n : Nat} {x : Nat → Rat} (h : IsV C H v n x) (e : ExL H H') : IsV C H' v n x := by
  obtain ⟨a, vs, h1, h2, h3, h4⟩ := h
  refine ⟨a, vs, h1, e _ _ h2 (fun xs z => by cases z), h3, fun i hi => ?_⟩
  obtain ⟨u, k1, k2⟩ := h4 i hi
  exact ⟨u, k1, k2.exl e⟩
theorem IsM.exl {C : Addr} {H H' : Hp} {v : V} {n w : Nat} {M : Nat → Nat → Rat} (h : IsM C H v n w M) (e : ExL H H') : IsM C H' v n w M := by
  obtain ⟨a, vs, h1, h2, h3, h4⟩ := h
  refine ⟨a, vs, h1, e _ _ h2 (fun xs z => by cases z), h3, fun i hi => ?_⟩
  obtain ⟨u, k1, k2⟩ := h4 i hi
  exact ⟨u, k1, k2.exl e⟩
/-- what no list's change can take away -/
def Im (P : MP) : Prop := ∀ v H H', ExL H H' → P.p v H → P.p v H'
theorem im_Q {C : Addr} {q : Rat} : Im (isQ C q) := fun _ _ _ e h => h.exl e
theorem im_V {C : Addr} {n : Nat} {x : Nat → Rat} : Im (isV C n x) := fun _ _ _ e h => h.exl e
theorem im_M {C : Addr} {n w : Nat} {M : Nat → Nat → Rat} : Im (isM C n w M) := fun _ _ _ e h => h.exl e
theorem im_X {x : V} : Im (isX x) := fun _ _ _ _ h => h
/-- a list of n things -/
def isLs (n : Nat) (Pi : Nat → MP) : MP := ⟨fun v H => ∃ a us, v = .ref a ∧ H a = some (.lst us) ∧ us.length = n ∧ ∀ i, i < n → ∃ u, us[i]? = some u ∧ (Pi i).p u H,
  fun _ _ _ e ⟨a, us, h1, h2, h3, h4⟩ => ⟨a, us, h1, e _ _ h2, h3, fun i hi => let ⟨u, k1, k2⟩ := h4 i hi; ⟨u, k1, (Pi i).mono _ _ _ e k2⟩⟩⟩
def isTs (n : Nat) (Pi : Nat → MP) : MP := ⟨fun v H => ∃ a us, v = .ref a ∧ H a = some (.tup us) ∧ us.length = n ∧ ∀ i, i < n → ∃ u, us[i]? = some u ∧ (Pi i).p u H,
  fun _ _ _ e ⟨a, us, h1, h2, h3, h4⟩ => ⟨a, us, h1, e _ _ h2, h3, fun i hi => let ⟨u, k1, k2⟩ := h4 i hi; ⟨u, k1, (Pi i).mono _ _ _ e k2⟩⟩⟩
theorem sz1000 {n : Nat} (h : n ≤ 1000) : n < sizeLine := small1000 h
/-- the same, of a list that H0 does not know -/
def isLsN (H0 : Hp) (n : Nat) (Pi : Nat → MP) : MP := ⟨fun v H => ∃ a us, v = .ref a ∧ H0 a = none ∧ H a = some (.lst us) ∧ us.length = n ∧ ∀ i, i < n → ∃ u, us[i]? = some u ∧ (Pi i).p u H,
  fun _ _ _ e ⟨a, us, h1, h0, h2, h3, h4⟩ => ⟨a, us, h1, h0, e _ _ h2, h3, fun i hi => let ⟨u, k1, k2⟩ := h4 i hi; ⟨u, k1, (Pi i).mono _ _ _ e k2⟩⟩⟩
/-! ### what is walked -/
/-- from every heap that has grown out of H: n turns, told by Y -/
def Feeds (wi : TI) (σ : L2.St) (H : Hp) (n : Nat) (Y : Nat → Hp → V → Hp → Prop) : Prop := ∀ H1, Ex H H1 → ∀ R : It → Hp → Prop, (∀ J G H2, Ex H1 H2 → Walk J n G Y → (∀ H3, Ex H2 H3 → G H3) → R J H2) → wi σ H1 R
section
variable {K : PySem.W.Frag} {σ : L2.St} {H : Hp} {te tl ta tb : TE} {wi : TI} {g : TG} {n : Nat} {vs : List Nat} {Pi : Nat → MP} {P : MP}
theorem ev_lcN {Y : Nat → Hp → V → Hp → Prop} (hn : n ≤ 1000) (hw : Feeds wi σ H n Y) (im : ∀ i, i < n → Im (Pi i))
    (hY : ∀ i H1 x H', i < n → Ex H H1 → Y i H1 x H' → ∀ Qt : L2.St → Hp → Prop, (∀ σ2 H4, Ex H1 H4 → wipe σ2 vs = wipe σ vs → Ev te σ2 H4 (Pi i) → Qt σ2 H4) → g x (wipe σ vs) H' Qt) :
    Ev (tLc wi g tYes te vs) σ H (isLsN H n Pi) := fun H1 e Q q => hw H1 e _ fun J G H2 e2 w hG D hD => by
  refine lc_it w (Pv := fun i H' => Ex H2 H' ∧ ∃ us, H' D = some (.lst us) ∧ us.length = i ∧ ∀ j, j < i → ∃ u, us[j]? = some u ∧ (Pi j).p u H') ⟨Ex.new hD, [], upd_same, rfl, fun j hj => by omega⟩ (fun i H' _ h => hG H' h.1) ?_ ?_
  · rintro i x H3 H' hi ⟨e3, us, hd, hl, hu⟩ y
    refine hY i H3 x H' hi ((e.trans e2).trans e3) y _ fun σ2 H4 e4 wp ev => ⟨wp, ?_⟩
    unfold tYes
    dsimp only
    rw [if_pos rfl]
    refine ev.use fun v H5 e5 p => ⟨us, e5 _ _ (e4 _ _ hd), by rw [hl]; exact sz1000 (by omega), ?_⟩
    have eL : ExL H5 (upd H5 D (.lst (us ++ [v]))) := (ExL.refl H5).mut (e5 _ _ (e4 _ _ hd))
    refine ⟨((e3.trans e4).trans e5).mut hD, us ++ [v], upd_same, by rw [List.length_append, List.length_singleton, hl], fun j hj => ?_⟩
    by_cases ej : j < i
    · obtain ⟨u, k1, k2⟩ := hu j ej
      refine ⟨u, by rw [List.getElem?_append_left (by omega)]; exact k1, ?_⟩
      exact im j (by omega) _ _ _ eL ((Pi j).mono _ _ _ (e4.trans e5) k2)
    · have e6 : j = i := by omega
      subst e6
      refine ⟨v, by rw [List.getElem?_append_right (by omega), hl]; simp, im j hi _ _ _ eL p⟩
  · rintro H3 ⟨e3, us, hd, hl, hu⟩
    exact q _ _ (e2.trans e3) ⟨D, us, rfl, (e.trans e2).free hD, hd, hl, hu⟩
theorem ev_lc {Y : Nat → Hp → V → Hp → Prop} (hn : n ≤ 1000) (hw : Feeds wi σ H n Y) (im : ∀ i, i < n → Im (Pi i))
    (hY : ∀ i H1 x H', i < n → Ex H H1 → Y i H1 x H' → ∀ Qt : L2.St → Hp → Prop, (∀ σ2 H4, Ex H1 H4 → wipe σ2 vs = wipe σ vs → Ev te σ2 H4 (Pi i) → Qt σ2 H4) → g x (wipe σ vs) H' Qt) :
    Ev (tLc wi g tYes te vs) σ H (isLs n Pi) := (ev_lcN hn hw im hY).imp fun _ _ _ ⟨a, us, h1, _, h2⟩ => ⟨a, us, h1, h2⟩
abbrev rTup (K : PySem.W.Frag) : List V → Hp → VK → Prop := fun xs H Q => ∃ p ys, xs = [.ref p] ∧ ((SqL K H p ys ∧ ∀ l, H l = none → Q (.ref l) (upd H l (.tup ys))) ∨ (SqT K H p ys ∧ Q (.ref p) H))
theorem ev_tupL (h : Ev te σ H (isLs n Pi)) : Ev (tCB (rTup K) (tCons te tNil)) σ H (isTs n Pi) := fun H1 e Q q =>
  h H1 e _ fun v H2 e2 p => by
    obtain ⟨a, us, rfl, ha, hl, hu⟩ := p
    refine ⟨a, us, rfl, .inl ⟨SqL.of ha, fun l hn => q _ _ (e2.trans (Ex.new hn)) ⟨l, us, rfl, upd_same, hl, fun i hi => ?_⟩⟩⟩
    obtain ⟨u, k1, k2⟩ := hu i hi
    exact ⟨u, k1, (Pi i).mono _ _ _ (Ex.new hn) k2⟩
theorem ev_V {C : Addr} {x : Nat → Rat} (h : Ev te σ H (isTs n fun i => isQ C (x i))) : Ev te σ H (isV C n x) := h
theorem ev_M {C : Addr} {w : Nat} {M : Nat → Nat → Rat} (h : Ev te σ H (isTs n fun i => isV C w (M i))) : Ev te σ H (isM C n w M) := h
/-- a tuple at a name or elsewhere -/
theorem fd_tup (h : Ev tl σ H (isTs n Pi)) : Feeds (iTup K tl) σ H n (fun i H1 x H' => H' = H1 ∧ ∃ H0, Ex H0 H1 ∧ (Pi i).p x H0) := fun H1 e R r =>
  h H1 e _ fun v H2 e2 p => by
    obtain ⟨a, us, rfl, ha, hl, hu⟩ := p
    subst hl
    refine ⟨a, rfl, ⟨us, SqT.of ha⟩, r _ (fun H3 => SqT K H3 a us ∧ Ex H2 H3) H2 e2 ((walk_tup (K := K) (a := a) (xs := us)).mono (fun _ h => h.1) fun i H3 x H' hi g y => ?_) fun H3 e3 => ⟨SqT.of (e3 _ _ ha), e3⟩⟩
    obtain ⟨y1, y2⟩ := y
    obtain ⟨u, k1, k2⟩ := hu i hi
    rw [k1] at y2
    cases y2
    exact ⟨y1, H2, g.2, k2⟩
theorem fd_list (h : Ev tl σ H (isLs n Pi)) : Feeds (iList K tl) σ H n (fun i H1 x H' => H' = H1 ∧ ∃ H0, Ex H0 H1 ∧ (Pi i).p x H0) := fun H1 e R r =>
  h H1 e _ fun v H2 e2 p => by
    obtain ⟨a, us, rfl, ha, hl, hu⟩ := p
    subst hl
    refine ⟨a, rfl, ⟨us, SqL.of ha⟩, r _ (fun H3 => SqL K H3 a us ∧ Ex H2 H3) H2 e2 ((walk_list (K := K) (a := a) (xs := us)).mono (fun _ h => h.1) fun i H3 x H' hi g y => ?_) fun H3 e3 => ⟨SqL.of (e3 _ _ ha), e3⟩⟩
    obtain ⟨y1, y2⟩ := y
    obtain ⟨u, k1, k2⟩ := hu i hi
    rw [k1] at y2
    cases y2
    exact ⟨y1, H2, g.2, k2⟩
theorem fd_range (h : Ev ta σ H (isX (.int (n : Int)))) (hn : n ≤ 1000) : Feeds (iRng1 (tCons ta tNil)) σ H n (fun i H1 x H' => H' = H1 ∧ x = .int (i : Int)) := fun H1 e R r =>
  h H1 e _ fun v H2 e2 p => by
    obtain rfl : v = .int (n : Int) := p
    have e0 : ((n : Int)).toNat = n := Int.toNat_natCast n
    refine ⟨(n : Int), rfl, by omega, by omega, r _ (fun _ => True) H2 e2 ?_ fun _ _ => trivial⟩
    rw [e0]
    exact (walk_range (lo := 0) (n := n)).mono (fun _ h => h) fun i H3 x H' _ _ y => ⟨y.1, by rw [y.2]; show V.int (0 + (i : Int)) = _; rw [Int.zero_add]⟩
/-- two tuples side by side -/
theorem walk_zipT {a b : Addr} {xs ys : List V} (h1 : xs.length = n) (h2 : ys.length = n) : Walk (RZ.ItzT K a b) n (fun H => SqT K H a xs ∧ SqT K H b ys) (YPair (fun i => xs[i]?) (fun i => ys[i]?)) := by
  refine ⟨fun i _ hi q => ⟨xs, ys, xs[i]'(by omega), ys[i]'(by omega), q.1, q.2, by simp, by simp⟩, fun _ q => ⟨xs, ys, q.1, q.2, by omega⟩, fun i H v H' _ q y => ?_⟩
  obtain ⟨T, x, z, k1, k2, k3, k4, k5⟩ := y
  exact ⟨T, x, z, k1, k2, k3, k4 xs q.1, k5 ys q.2⟩
def YTwo (Pi Pj : Nat → MP) : Nat → Hp → V → Hp → Prop := fun i H v H' => ∃ T x y H0, v = .ref T ∧ H T = none ∧ H' = upd H T (.tup [x, y]) ∧ Ex H0 H ∧ (Pi i).p x H0 ∧ (Pj i).p y H0
theorem fd_zipT {Pj : Nat → MP} (h1 : Ev ta σ H (isTs n Pi)) (h2 : Ev tb σ H (isTs n Pj)) : Feeds (RZ.iZipA K (tCons ta (tCons tb tNil))) σ H n (YTwo Pi Pj) := fun H1 e R r =>
  h1 H1 e _ fun v H2 e2 p => h2 H2 (e.trans e2) _ fun u H3 e3 p3 => by
    obtain ⟨a, us, rfl, ha, hl, hu⟩ := p
    obtain ⟨b, ws, rfl, hb, hl2, hu2⟩ := p3
    have ha3 := e3 _ _ ha
    refine ⟨a, b, us, ws, rfl, .inr ⟨SqT.of ha3, SqT.of hb, r _ (fun H4 => (SqT K H4 a us ∧ SqT K H4 b ws) ∧ Ex H3 H4) H3 (e2.trans e3) ((walk_zipT hl hl2).mono (fun _ h => h.1) fun i H4 x H' hi g y => ?_) fun H4 e4 => ⟨⟨SqT.of (e4 _ _ ha3), SqT.of (e4 _ _ hb)⟩, e4⟩⟩⟩
    obtain ⟨T, x', y', k1, k2, k3, k4, k5⟩ := y
    obtain ⟨u1, m1, m2⟩ := hu i hi
    obtain ⟨u2, m3, m4⟩ := hu2 i hi
    have k4 : us[i]? = some x' := k4
    have k5 : ws[i]? = some y' := k5
    rw [m1] at k4
    rw [m3] at k5
    cases k4
    cases k5
    exact ⟨T, _, _, H3, k1, k2, k3, g.2, (Pi i).mono _ _ _ e3 m2, m4⟩
/-- the target of a pair -/
theorem pair_tgt {i j : Nat} {T : Addr} {x y : V} {H0 : Hp} {σ : L2.St} {Qt : L2.St → Hp → Prop} (hT : H0 T = some (.tup [x, y])) (q : Qt ((σ.set i (some x)).set j (some y)) H0) : gTup K 2 (gCons (gName i) (gCons (gName j) gNil)) (.ref T) σ H0 Qt :=
  ⟨T, [x, y], rfl, SqT.of hT, rfl, x, [y], rfl, y, [], rfl, rfl, q⟩
end
end PW

set_option Elab.async false
set_option linter.all false
set_option maxRecDepth 100000
set_option maxHeartbeats 4000000
/-! PwE: the fractions' class as a whole; vectors. -/
namespace PW
open PySem PySem.Spec PyProof.Rows L2 PN
/-- a def of the top, with its promise -/
structure DefOk (P : Program) (w : World) (K : PySem.W.Frag) (mg : Str → Option Value) (base : Heap) (CX : CXT) (x : Str) (k : Nat) (ps : List Str) (sp : Sp) (f : Addr) (fd : FuncData) : Prop where
  ok : FnOk P w K mg base CX k f fd ps sp
  gl : mg x = some (.ref f)
  kp : PySem.W.keepIn K (.ref f) = true
  bd : Binds K fd ps []
/-- a method -/
structure MetOk (P : Program) (w : World) (K : PySem.W.Frag) (mg : Str → Option Value) (base : Heap) (CX : CXT) (C : Addr) (m : Str) (k : Nat) (ps : List Str) (sp : Sp) (f : Addr) (fd : FuncData) : Prop where
  ok : FnOk P w K mg base CX k f fd ps sp
  me : Meth K C m f
  bd : Binds K fd ps []
section
variable {X : Cx} {CX : CXT} {x m : Str} {k : Nat} {ps : List Str} {sp : Sp} {f C : Addr} {fd : FuncData} {E : XK} {e o : Expr} {es : List Expr} {ta : TE} {t : TA} {p pos apos : Pos}
theorem pe_cd (D : DefOk X.prog X.w X.K X.mg X.base CX x k ps sp f fd) (hr : Room k X.A) (hg : Gl X x) (hx : Passes CX X E) (ha : PA X (e :: es) t) (hdb : (x == ("__debug__" : Str)) = false := by decide)
    (he : starEach (e :: es) X.env = (false, eval e X.env) :: starEach es X.env := by rfl) (hpl : (backTo pos (starEach es X.env)).any (·.1) = false := by rfl) : PE X (.Call (.Name x p) (e :: es) [] pos) (tCall sp [] E t) :=
  pe_call D.ok hr hg D.gl D.kp D.bd .nil hx ha hdb he hpl
end
/-- the class of the fractions, all of it -/
structure RK (P : Program) (w : World) (K : PySem.W.Frag) (mg : Str → Option Value) (base : Heap) (C : Addr) where
  T : RCls K mg C
  fI : Addr
  fdI : FuncData
  M : Mk K C fI
  I : FnOk P w K mg base CX0 1 fI fdI ["self", "top", "bottom"] (spRInit C)
  b2 : Binds K fdI ["self", "top", "bottom"] []
  ds : List Value
  vd : Vals [.int 1] ds
  b1 : Binds K fdI ["self", "top", "bottom"] ds
  fA : Addr
  fdA : FuncData
  A : MetOk P w K mg base CX0 C "__add__" 3 ["self", "other"] (spQ2 C (· + ·) nocond) fA fdA
  fS : Addr
  fdS : FuncData
  S : MetOk P w K mg base CX0 C "__sub__" 3 ["self", "other"] (spQ2 C (· - ·) nocond) fS fdS
  fU : Addr
  fdU : FuncData
  U : MetOk P w K mg base CX0 C "__mul__" 3 ["self", "other"] (spQ2 C (· * ·) nocond) fU fdU
  fN : Addr
  fdN : FuncData
  N : MetOk P w K mg base CX0 C "__neg__" 3 ["self"] (spRNeg C) fN fdN
  fO : Addr
  fdO : FuncData
  O : MetOk P w K mg base CX0 C "over" 3 ["self", "other"] (spQ2 C (· / ·) nz2) fO fdO
  fE : Addr
  fdE : FuncData
  E : MetOk P w K mg base CX0 C "__eq__" 1 ["self", "other"] (spREq C) fE fdE
section
variable {X : Cx} {C : Addr} {a b e : Expr} {es : List Expr} {ta tb : TE} {t : TA} {p pos apos : Pos}
theorem pe_addQ (R : RK X.prog X.w X.K X.mg X.base C) (hr : Room 3 X.A) (ha : PE X a ta) (hb : PE X b tb) : PE X (.BinOp a .Add b pos) (tOp (rOwnB C (spQ2 C (· + ·) nocond) E0) ta tb) :=
  pe_op (op_ownB (op := .Add) R.T.sf R.A.me.at_ R.A.me.fn R.A.ok hr R.A.bd pass0) ha hb
theorem pe_subQ (R : RK X.prog X.w X.K X.mg X.base C) (hr : Room 3 X.A) (ha : PE X a ta) (hb : PE X b tb) : PE X (.BinOp a .Sub b pos) (tOp (rOwnB C (spQ2 C (· - ·) nocond) E0) ta tb) :=
  pe_op (op_ownB (op := .Sub) R.T.sf R.S.me.at_ R.S.me.fn R.S.ok hr R.S.bd pass0) ha hb
theorem pe_mulQ (R : RK X.prog X.w X.K X.mg X.base C) (hr : Room 3 X.A) (ha : PE X a ta) (hb : PE X b tb) : PE X (.BinOp a .Mult b pos) (tOp (rOwnB C (spQ2 C (· * ·) nocond) E0) ta tb) :=
  pe_op (op_ownB (op := .Mult) R.T.sf R.U.me.at_ R.U.me.fn R.U.ok hr R.U.bd pass0) ha hb
theorem pe_negQ (R : RK X.prog X.w X.K X.mg X.base C) (hr : Room 3 X.A) (ha : PE X a ta) : PE X (.UnaryOp .USub a pos) (tUn (rOwnU C (spRNeg C) E0) ta) :=
  pe_un (un_own R.N.me.at_ R.N.me.fn R.N.ok hr R.N.bd pass0) ha
/-- Ratio(t), Ratio(t, b) -/
theorem pe_mk1 (R : RK X.prog X.w X.K X.mg X.base C) (hr : Room 2 X.A) (hg : Gl X "Ratio") (ha : PA X [e] t) (he : starEach [e] X.env = (false, eval e X.env) :: starEach [] X.env := by rfl) (hpl : (backTo pos (starEach [] X.env)).any (·.1) = false := by rfl) :
    PE X (.Call (.Name "Ratio" p) [e] [] pos) (tMake C (spRInit C) [.int 1] E0 t) := pe_make R.M R.I hr hg R.T.mgC R.b1 R.vd pass0 ha (by decide) he hpl
theorem pe_mk2 (R : RK X.prog X.w X.K X.mg X.base C) (hr : Room 2 X.A) (hg : Gl X "Ratio") (ha : PA X [e, a] t) (he : starEach [e, a] X.env = (false, eval e X.env) :: starEach [a] X.env := by rfl) (hpl : (backTo pos (starEach [a] X.env)).any (·.1) = false := by rfl) :
    PE X (.Call (.Name "Ratio" p) [e, a] [] pos) (tMake C (spRInit C) [] E0 t) := pe_make R.M R.I hr hg R.T.mgC R.b2 .nil pass0 ha (by decide) he hpl
end
/-! ### statements -/
section
variable {σ : L2.St} {H : Hp} {te : TE} {D : Ends} {rest : TS} {P : MP} {i n : Nat}
theorem st_set (h : Ev te σ H P) (q : ∀ v H2, Ex H H2 → P.p v H2 → rest D (σ.set i (some v)) H2) : tSeq (tAsg te (gName i)) rest D σ H := h.use q
theorem st_set1 (h : Ev te σ H P) (q : ∀ v H2, Ex H H2 → P.p v H2 → D.nx (σ.set i (some v)) H2) : tAsg te (gName i) D σ H := h.use q
theorem st_ret (h : Ev te σ H P) (q : ∀ v H2, Ex H H2 → P.p v H2 → D.rt v H2) : tRet te D σ H := h.use q
theorem st_for {wi : TI} {g : TG} {tb : TS} {Y : Nat → Hp → V → Hp → Prop} (h : Feeds wi σ H n Y) (Pv : Nat → L2.St → Hp → Prop) (h0 : ∀ H2, Ex H H2 → Pv 0 σ H2)
    (hs : ∀ i x σ' H2 H3 H4, i < n → Ex H H2 → Ex H2 H3 → Pv i σ' H3 → Y i H3 x H4 → g x σ' H4 fun σ2 H5 => tb { D with nx := fun s h => Ex H2 h ∧ Pv (i + 1) s h, ct := fun s h => Ex H2 h ∧ Pv (i + 1) s h, bk := rest D } σ2 H5)
    (hd : ∀ σ' H2 H', Ex H H2 → Ex H2 H' → Pv n σ' H' → rest D σ' H') : tSeq (tFor wi g tb) rest D σ H :=
  h H (Ex.refl H) _ fun J G H2 e2 W hG => for_it (D := { D with nx := rest D }) W (fun i σ' H' => Ex H2 H' ∧ Pv i σ' H') ⟨Ex.refl H2, h0 H2 e2⟩ (fun i σ' H' _ p => hG H' p.1) (fun i x σ' H3 H4 hi p y => hs i x σ' H2 H3 H4 hi e2 p.1 p.2 y) fun σ' H' p => hd σ' H2 H' e2 p.1 p.2
end
theorem Ev.isTs_V {σ : L2.St} {H : Hp} {te : TE} {C : Addr} {n : Nat} {x : Nat → Rat} (h : Ev te σ H (isV C n x)) : Ev te σ H (isTs n fun i => isQ C (x i)) := h
theorem Ev.isTs_M {σ : L2.St} {H : Hp} {te : TE} {C : Addr} {n w : Nat} {M : Nat → Nat → Rat} (h : Ev te σ H (isM C n w M)) : Ev te σ H (isTs n fun i => isV C w (M i)) := h
/-! ### vectors -/
abbrev sDot : Stmt := topS 17
abbrev sScale : Stmt := topS 18
abbrev sPlus : Stmt := topS 19
abbrev sMinus : Stmt := topS 20
abbrev sUnit : Stmt := topS 21
abbrev sIsZero : Stmt := topS 22
def spDot (C : Addr) : Sp := fun vs H Q _ => ∃ (u v : V) (n : Nat) (x y : Nat → Rat), vs = [u, v] ∧ IsV C H u n x ∧ IsV C H v n y ∧ DotOk n x y ∧ ∀ z H', Ex H H' → IsQ C H' z (dt n x y) → Q z H'
def spScale (C : Addr) : Sp := fun vs H Q _ => ∃ (u v : V) (n : Nat) (c : Rat) (x : Nat → Rat), vs = [u, v] ∧ IsQ C H u c ∧ IsV C H v n x ∧ n ≤ 1000 ∧ (0 < n → Sm c) ∧ (∀ i, i < n → Sm (x i)) ∧ ∀ z H', Ex H H' → IsV C H' z n (fun i => c * x i) → Q z H'
def spPlus (C : Addr) (f : Rat → Rat → Rat) : Sp := fun vs H Q _ => ∃ (u v : V) (n : Nat) (x y : Nat → Rat), vs = [u, v] ∧ IsV C H u n x ∧ IsV C H v n y ∧ n ≤ 1000 ∧ (∀ i, i < n → Sm (x i)) ∧ (∀ i, i < n → Sm (y i)) ∧ ∀ z H', Ex H H' → IsV C H' z n (fun i => f (x i) (y i)) → Q z H'
def spUnit (C : Addr) : Sp := fun vs H Q _ => ∃ (n j : Nat), vs = [.int (n : Int), .int (j : Int)] ∧ n ≤ 1000 ∧ ∀ z H', Ex H H' → IsV C H' z n (un j) → Q z H'
def spIsZero (C : Addr) : Sp := fun vs H Q _ => ∃ (u : V) (n : Nat) (x : Nat → Rat), vs = [u] ∧ IsV C H u n x ∧ ∀ H', Ex H H' → Q (.bl (decide (∀ i, i < n → x i = 0))) H'
section
variable {P : Program} {w : World} {K : PySem.W.Frag} {mg : Str → Option Value} {base : Heap} {f C : Addr} {fd : FuncData}
theorem scDot : FnScope ["a", "b", "total", "x", "y"] ["a", "b"] (defScope sDot) := ⟨rfl, rfl, rfl, by decide +kernel, rfl, by decide +kernel, by decide +kernel⟩
theorem ok_dot (F : FnP K "dot" "dot" sDot f fd) (R : RK P w K mg base C) (mz : mg "zip" = none) : FnOk P w K mg base CX0 4 f fd ["a", "b"] (spDot C) := by
  refine F.ok scDot (fun vs H Q E h => ?_) (fun cdv A outer s H vs Q E hr h => ?_)
  · obtain ⟨u, v, n, x, y, rfl, _⟩ := h
    rfl
  · obtain ⟨u, v, n, x, y, rfl, hu, hv, ok, k⟩ := h
    have hr3 : Room 3 _ := hr
    refine ⟨_, PSs.nox (pss_cons (ps_set (i := 2) scDot.nd rfl (Or.inl rfl) (pe_mk1 R (hr.mono (by decide)) rfl (pa_cons pe_int pa_nil)))
      (pss_cons (ps_for PassesOwn.never rfl (RZ.pi_zipA (by rfl) mz (pa_cons (pv 0) (pa_cons (pv 1) pa_nil)))
        (pg_tup rfl (pgs_cons (pg_name (i := 3) scDot.nd rfl (Or.inl rfl)) (pgs_cons (pg_name (i := 4) scDot.nd rfl (Or.inl rfl)) pgs_nil)))
        (pss_one (ps_set (i := 2) scDot.nd rfl (Or.inl rfl) (pe_addQ R hr3 (pv 2) (pe_mulQ R hr3 (pv 3) (pv 4))))))
      (pss_one (ps_ret (pv 2))))), ?_⟩
    refine st_set (ev_mk1 (C := C) (E := E0) ev_c) fun t H1 e1 p1 => ?_
    refine st_for (fd_zipT (K := K) (Ev.isTs_V (ev_var rfl (hu.ex e1))) (Ev.isTs_V (ev_var rfl (hv.ex e1)))) (fun i σ H' => ∃ t' x' y', σ = [some u, some v, some t', x', y'] ∧ IsQ C H' t' (sm i fun k => x k * y k)) (fun H2 e2 => ⟨t, none, none, rfl, IsQ.ex p1 e2⟩) ?_ ?_
    · rintro i z σ H2 H3 H4 hi e2 e3 ⟨t', x', y', rfl, pt⟩ ⟨T, xi, yi, H0, rfl, hT, rfl, e0, px, py⟩
      refine pair_tgt upd_same ?_
      have e4 : Ex H3 (upd H3 T (.tup [xi, yi])) := Ex.new hT
      refine st_set1 (ev_opQ (ev_var (P := isQ C _) rfl (IsQ.ex pt e4)) (ev_opQ (ev_var (P := isQ C (x i)) rfl (IsQ.ex px (e0.trans e4))) (ev_var (P := isQ C (y i)) rfl (IsQ.ex py (e0.trans e4))) (ok.l i hi) (ok.r i hi)) (ok.s i hi) (ok.m i hi)) fun v' H5 e5 p5 => ?_
      exact ⟨(e3.trans e4).trans e5, v', some xi, some yi, rfl, p5⟩
    · rintro σ H2 H3 e2 e3 ⟨t', x', y', rfl, pt⟩
      exact ⟨t', rfl, k t' H3 ((e1.trans e2).trans e3) pt⟩
end
end PW

set_option Elab.async false
set_option linter.all false
set_option maxRecDepth 100000
set_option maxHeartbeats 4000000
/-! PwF: vectors, further; matrices. -/
namespace PW
open PySem PySem.Spec PyProof.Rows L2 PN
section
variable {K : PySem.W.Frag} {σ : L2.St} {H : Hp} {te tl ta tb : TE} {n k l : Nat} {Pi Pj Pk : Nat → MP}
/-- tuple([e for x in t]) -/
theorem ev_map (hn : n ≤ 1000) (hl : Ev tl σ H (isTs n Pi)) (im : ∀ i, i < n → Im (Pk i)) (hw : ∀ x, wipe ((wipe σ [k]).set k (some x)) [k] = wipe σ [k])
    (he : ∀ i x H1, i < n → Ex H H1 → (Pi i).p x H1 → Ev te ((wipe σ [k]).set k (some x)) H1 (Pk i)) : Ev (tCB (rTup K) (tCons (tLc (iTup K tl) (gName k) tYes te [k]) tNil)) σ H (isTs n Pk) :=
  ev_tupL (ev_lc hn (fd_tup hl) im fun i H1 x H' hi e y Qt q => by
    obtain ⟨rfl, H0, e0, p⟩ := y
    exact q _ _ (Ex.refl _) (hw x) (he i x _ hi e ((Pi i).mono _ _ _ e0 p)))
/-- tuple([e for x in range(n)]) -/
theorem ev_mapRN (hn : n ≤ 1000) (hl : Ev ta σ H (isX (.int (n : Int)))) (im : ∀ i, i < n → Im (Pk i)) (hw : ∀ x, wipe ((wipe σ [k]).set k (some x)) [k] = wipe σ [k])
    (he : ∀ i H1, i < n → Ex H H1 → Ev te ((wipe σ [k]).set k (some (.int (i : Int)))) H1 (Pk i)) : Ev (tLc (iRng1 (tCons ta tNil)) (gName k) tYes te [k]) σ H (isLsN H n Pk) :=
  ev_lcN hn (fd_range hl hn) im fun i H1 x H' hi e y Qt q => by
    obtain ⟨rfl, rfl⟩ := y
    exact q _ _ (Ex.refl _) (hw _) (he i _ hi e)
theorem ev_mapR (hn : n ≤ 1000) (hl : Ev ta σ H (isX (.int (n : Int)))) (im : ∀ i, i < n → Im (Pk i)) (hw : ∀ x, wipe ((wipe σ [k]).set k (some x)) [k] = wipe σ [k])
    (he : ∀ i H1, i < n → Ex H H1 → Ev te ((wipe σ [k]).set k (some (.int (i : Int)))) H1 (Pk i)) : Ev (tLc (iRng1 (tCons ta tNil)) (gName k) tYes te [k]) σ H (isLs n Pk) :=
  (ev_mapRN hn hl im hw he).imp fun _ _ _ ⟨a, us, h1, _, h2⟩ => ⟨a, us, h1, h2⟩
/-- tuple([e for x, y in zip(s, t)]) -/
theorem ev_mapZ (hn : n ≤ 1000) (h1 : Ev ta σ H (isTs n Pi)) (h2 : Ev tb σ H (isTs n Pj)) (im : ∀ i, i < n → Im (Pk i)) (hw : ∀ x y, wipe (((wipe σ [k, l]).set k (some x)).set l (some y)) [k, l] = wipe σ [k, l])
    (he : ∀ i x y H1, i < n → Ex H H1 → (Pi i).p x H1 → (Pj i).p y H1 → Ev te (((wipe σ [k, l]).set k (some x)).set l (some y)) H1 (Pk i)) :
    Ev (tLc (RZ.iZipA K (tCons ta (tCons tb tNil))) (gTup K 2 (gCons (gName k) (gCons (gName l) gNil))) tYes te [k, l]) σ H (isLs n Pk) :=
  ev_lc hn (fd_zipT h1 h2) im fun i H1 x H' hi e y Qt q => by
    obtain ⟨T, xi, yi, H0, rfl, hT, rfl, e0, px, py⟩ := y
    refine pair_tgt upd_same (q _ _ (Ex.new hT) (hw xi yi) (he i xi yi _ hi (e.trans (Ex.new hT)) ((Pi i).mono _ _ _ (e0.trans (Ex.new hT)) px) ((Pj i).mono _ _ _ (e0.trans (Ex.new hT)) py)))
end
section
variable {P : Program} {w : World} {K : PySem.W.Frag} {mg : Str → Option Value} {base : Heap} {f C : Addr} {fd : FuncData}
theorem scScale : FnScope ["factor", "a", "x"] ["factor", "a"] (defScope sScale) := ⟨rfl, rfl, rfl, by decide +kernel, rfl, by decide +kernel, by decide +kernel⟩
theorem ok_scale (F : FnP K "scale" "scale" sScale f fd) (R : RK P w K mg base C) (mt : mg "tuple" = none) : FnOk P w K mg base CX0 4 f fd ["factor", "a"] (spScale C) := by
  refine F.ok scScale (fun vs H Q E h => ?_) (fun cdv A outer s H vs Q E hr h => ?_)
  · obtain ⟨u, v, n, c, x, rfl, _⟩ := h
    rfl
  · obtain ⟨u, v, n, c, x, rfl, hu, hv, hn, sc, sx, k⟩ := h
    have hr3 : Room 3 _ := hr
    refine ⟨_, PSs.nox (pss_one (ps_ret (pe_callTy (r := rTup K) call_tuple_of (by rfl) mt (by decide +kernel) (pa_cons (pe_lc (own := [("x", 2)]) (g := gName 2) (tt := tYes) rfl scScale.nd (pi_tup (pv 1))
      (blkOk_by (N := ["factor", "a", "x"]) (sc := defScope sScale) (by decide +kernel)) (fun _ _ _ _ _ => pg_name (i := 2) scScale.nd rfl (Or.inl rfl)) (fun _ _ _ _ _ => pts_nil) (fun _ _ _ _ _ => pe_mulQ R hr3 (pv 0) (pv 2))) pa_nil)))), ?_⟩
    refine st_ret (ev_map (Pk := fun i => isQ C (c * x i)) hn (Ev.isTs_V (ev_var rfl hv)) (fun _ _ => im_Q) (fun _ => rfl) fun i y H1 hi e p => ?_) fun z H' ex p => k z H' ex p
    exact ev_opQ (ev_var (P := isQ C c) rfl (hu.ex e)) (ev_var (P := isQ C (x i)) rfl p) (sc (by omega)) (sx i hi)
theorem scPlus : FnScope ["a", "b", "x", "y"] ["a", "b"] (defScope sPlus) := ⟨rfl, rfl, rfl, by decide +kernel, rfl, by decide +kernel, by decide +kernel⟩
theorem ok_plus (F : FnP K "plus" "plus" sPlus f fd) (R : RK P w K mg base C) (mt : mg "tuple" = none) (mz : mg "zip" = none) : FnOk P w K mg base CX0 4 f fd ["a", "b"] (spPlus C (· + ·)) := by
  refine F.ok scPlus (fun vs H Q E h => ?_) (fun cdv A outer s H vs Q E hr h => ?_)
  · obtain ⟨u, v, n, x, y, rfl, _⟩ := h
    rfl
  · obtain ⟨u, v, n, x, y, rfl, hu, hv, hn, sx, sy, k⟩ := h
    have hr3 : Room 3 _ := hr
    refine ⟨_, PSs.nox (pss_one (ps_ret (pe_callTy (r := rTup K) call_tuple_of (by rfl) mt (by decide +kernel) (pa_cons (pe_lc (own := [("x", 2), ("y", 3)]) (g := gTup K 2 (gCons (gName 2) (gCons (gName 3) gNil))) (tt := tYes) rfl scPlus.nd
      (RZ.pi_zipA (by rfl) mz (pa_cons (pv 0) (pa_cons (pv 1) pa_nil)))
      (blkOk_by (N := ["a", "b", "x", "y"]) (sc := defScope sPlus) (by decide +kernel)) (fun _ _ _ _ _ => pg_tup rfl (pgs_cons (pg_name (i := 2) scPlus.nd rfl (Or.inl rfl)) (pgs_cons (pg_name (i := 3) scPlus.nd rfl (Or.inl rfl)) pgs_nil))) (fun _ _ _ _ _ => pts_nil)
      (fun _ _ _ _ _ => pe_addQ R hr3 (pv 2) (pv 3))) pa_nil)))), ?_⟩
    refine st_ret (ev_tupL (ev_mapZ (Pk := fun i => isQ C (x i + y i)) hn (Ev.isTs_V (ev_var rfl hu)) (Ev.isTs_V (ev_var rfl hv)) (fun _ _ => im_Q) (fun _ _ => rfl) fun i a b H1 hi e p p' => ?_)) fun z H' ex p => k z H' ex p
    exact ev_opQ (ev_var (P := isQ C (x i)) rfl p) (ev_var (P := isQ C (y i)) rfl p') (sx i hi) (sy i hi)
theorem scMinus : FnScope ["a", "b", "x", "y"] ["a", "b"] (defScope sMinus) := ⟨rfl, rfl, rfl, by decide +kernel, rfl, by decide +kernel, by decide +kernel⟩
theorem ok_minus (F : FnP K "minus" "minus" sMinus f fd) (R : RK P w K mg base C) (mt : mg "tuple" = none) (mz : mg "zip" = none) : FnOk P w K mg base CX0 4 f fd ["a", "b"] (spPlus C (· - ·)) := by
  refine F.ok scMinus (fun vs H Q E h => ?_) (fun cdv A outer s H vs Q E hr h => ?_)
  · obtain ⟨u, v, n, x, y, rfl, _⟩ := h
    rfl
  · obtain ⟨u, v, n, x, y, rfl, hu, hv, hn, sx, sy, k⟩ := h
    have hr3 : Room 3 _ := hr
    refine ⟨_, PSs.nox (pss_one (ps_ret (pe_callTy (r := rTup K) call_tuple_of (by rfl) mt (by decide +kernel) (pa_cons (pe_lc (own := [("x", 2), ("y", 3)]) (g := gTup K 2 (gCons (gName 2) (gCons (gName 3) gNil))) (tt := tYes) rfl scMinus.nd
      (RZ.pi_zipA (by rfl) mz (pa_cons (pv 0) (pa_cons (pv 1) pa_nil)))
      (blkOk_by (N := ["a", "b", "x", "y"]) (sc := defScope sMinus) (by decide +kernel)) (fun _ _ _ _ _ => pg_tup rfl (pgs_cons (pg_name (i := 2) scMinus.nd rfl (Or.inl rfl)) (pgs_cons (pg_name (i := 3) scMinus.nd rfl (Or.inl rfl)) pgs_nil))) (fun _ _ _ _ _ => pts_nil)
      (fun _ _ _ _ _ => pe_subQ R hr3 (pv 2) (pv 3))) pa_nil)))), ?_⟩
    refine st_ret (ev_tupL (ev_mapZ (Pk := fun i => isQ C (x i - y i)) hn (Ev.isTs_V (ev_var rfl hu)) (Ev.isTs_V (ev_var rfl hv)) (fun _ _ => im_Q) (fun _ _ => rfl) fun i a b H1 hi e p p' => ?_)) fun z H' ex p => k z H' ex p
    exact ev_opQ (ev_var (P := isQ C (x i)) rfl p) (ev_var (P := isQ C (y i)) rfl p') (sx i hi) (sy i hi)
end
end PW

set_option Elab.async false
set_option linter.all false
set_option maxRecDepth 100000
set_option maxHeartbeats 4000000
/-! PwG: unit, is_zero; matrices. -/
namespace PW
open PySem PySem.Spec PyProof.Rows L2 PN
section
variable {K : PySem.W.Frag} {σ : L2.St} {H : Hp} {te tl ta tb tc : TE} {tt : TT} {b : Bool} {P : MP} {E : XK} {C : Addr}
theorem ev_if (ht : EvT tt σ H b) (h1 : b = true → Ev ta σ H P) (h2 : b = false → Ev tb σ H P) : Ev (tIf tt ta tb) σ H P := fun H1 e Q q =>
  ht H1 e _ fun H2 e2 => by
    cases b with
    | true => rw [if_pos rfl]; exact h1 rfl H2 (e.trans e2) Q fun v H3 e3 p => q v H3 (e2.trans e3) p
    | false => rw [if_neg Bool.false_ne_true]; exact h2 rfl H2 (e.trans e2) Q fun v H3 e3 p => q v H3 (e2.trans e3) p
theorem evT_eqI {i j : Int} (ha : Ev ta σ H (isX (.int i))) (hb : Ev tb σ H (isX (.int j))) : EvT (tTest (tOp rEq ta tb)) σ H (decide (i = j)) := fun H1 e Q q =>
  ha H1 e _ fun x H2 e2 p => hb H2 (e.trans e2) _ fun y H3 e3 p3 => by
    obtain rfl : x = .int i := p
    obtain rfl : y = .int j := p3
    refine ⟨rfl, _, rfl, ?_⟩
    have e0 : decide (V.int i = V.int j) = decide (i = j) := by
      by_cases h : i = j
      · rw [h]; simp
      · rw [decide_eq_false h, decide_eq_false fun z => h (V.int.inj z)]
    rw [e0]
    exact q H3 (e2.trans e3)
theorem evT_neI {i j : Int} (ha : Ev ta σ H (isX (.int i))) (hb : Ev tb σ H (isX (.int j))) : EvT (tTest (tOp rNe ta tb)) σ H (!decide (i = j)) := fun H1 e Q q =>
  ha H1 e _ fun x H2 e2 p => hb H2 (e.trans e2) _ fun y H3 e3 p3 => by
    obtain rfl : x = .int i := p
    obtain rfl : y = .int j := p3
    refine ⟨rfl, _, rfl, ?_⟩
    have e0 : decide (V.int i = V.int j) = decide (i = j) := by
      by_cases h : i = j
      · rw [h]; simp
      · rw [decide_eq_false h, decide_eq_false fun z => h (V.int.inj z)]
    rw [e0]
    exact q H3 (e2.trans e3)
theorem st_if {D : Ends} {t u : TS} (ht : EvT tt σ H b) (h1 : b = true → ∀ H2, Ex H H2 → t D σ H2) (h2 : b = false → ∀ H2, Ex H H2 → u D σ H2) : tIfS tt t u D σ H :=
  ht H (Ex.refl H) _ fun H2 e => by
    cases b with
    | true => rw [if_pos rfl]; exact h1 rfl H2 e
    | false => rw [if_neg Bool.false_ne_true]; exact h2 rfl H2 e
theorem ev_dot {n : Nat} {x y : Nat → Rat} (ha : Ev ta σ H (isV C n x)) (hb : Ev tb σ H (isV C n y)) (ok : DotOk n x y) : Ev (tCall (spDot C) [] E (tCons ta (tCons tb tNil))) σ H (isQ C (dt n x y)) :=
  ev_call2 ha hb fun u v H1 _ p1 p2 H2 e2 Q q => ⟨u, v, n, x, y, rfl, IsV.ex p1 e2, IsV.ex p2 e2, ok, q⟩
theorem ev_scale {n : Nat} {c : Rat} {x : Nat → Rat} (ha : Ev ta σ H (isQ C c)) (hb : Ev tb σ H (isV C n x)) (hn : n ≤ 1000) (sc : 0 < n → Sm c) (sx : ∀ i, i < n → Sm (x i)) : Ev (tCall (spScale C) [] E (tCons ta (tCons tb tNil))) σ H (isV C n fun i => c * x i) :=
  ev_call2 ha hb fun u v H1 _ p1 p2 H2 e2 Q q => ⟨u, v, n, c, x, rfl, IsQ.ex p1 e2, IsV.ex p2 e2, hn, sc, sx, q⟩
theorem ev_vec {n : Nat} {g : Rat → Rat → Rat} {x y : Nat → Rat} (ha : Ev ta σ H (isV C n x)) (hb : Ev tb σ H (isV C n y)) (hn : n ≤ 1000) (sx : ∀ i, i < n → Sm (x i)) (sy : ∀ i, i < n → Sm (y i)) : Ev (tCall (spPlus C g) [] E (tCons ta (tCons tb tNil))) σ H (isV C n fun i => g (x i) (y i)) :=
  ev_call2 ha hb fun u v H1 _ p1 p2 H2 e2 Q q => ⟨u, v, n, x, y, rfl, IsV.ex p1 e2, IsV.ex p2 e2, hn, sx, sy, q⟩
end
abbrev sApply : Stmt := topS 24
abbrev sOuter : Stmt := topS 25
abbrev sSumOf : Stmt := topS 26
abbrev sScaled : Stmt := topS 27
abbrev sAddTerm : Stmt := topS 40
def spApply (C : Addr) : Sp := fun vs H Q _ => ∃ (u v : V) (h n : Nat) (M : Nat → Nat → Rat) (x : Nat → Rat), vs = [u, v] ∧ IsM C H u h n M ∧ IsV C H v n x ∧ h ≤ 1000 ∧ (∀ i, i < h → DotOk n (M i) x) ∧ ∀ z H', Ex H H' → IsV C H' z h (ap n M x) → Q z H'
def spOuter (C : Addr) : Sp := fun vs H Q _ => ∃ (u v : V) (h n : Nat) (x y : Nat → Rat), vs = [u, v] ∧ IsV C H u h x ∧ IsV C H v n y ∧ h ≤ 1000 ∧ n ≤ 1000 ∧ (∀ i, i < h → Sm (x i)) ∧ (∀ i, i < n → Sm (y i)) ∧ ∀ z H', Ex H H' → IsM C H' z h n (fun i j => x i * y j) → Q z H'
def spSumOf (C : Addr) : Sp := fun vs H Q _ => ∃ (u v : V) (h n : Nat) (M N : Nat → Nat → Rat), vs = [u, v] ∧ IsM C H u h n M ∧ IsM C H v h n N ∧ h ≤ 1000 ∧ n ≤ 1000 ∧ (∀ i, i < h → ∀ j, j < n → Sm (M i j)) ∧ (∀ i, i < h → ∀ j, j < n → Sm (N i j)) ∧ ∀ z H', Ex H H' → IsM C H' z h n (fun i j => M i j + N i j) → Q z H'
def spScaled (C : Addr) : Sp := fun vs H Q _ => ∃ (u v : V) (h n : Nat) (c : Rat) (M : Nat → Nat → Rat), vs = [u, v] ∧ IsQ C H u c ∧ IsM C H v h n M ∧ h ≤ 1000 ∧ n ≤ 1000 ∧ Sm c ∧ (∀ i, i < h → ∀ j, j < n → Sm (M i j)) ∧ ∀ z H', Ex H H' → IsM C H' z h n (fun i j => c * M i j) → Q z H'
def spAddTerm (C : Addr) : Sp := fun vs H Q _ => ∃ (u v x : V) (n : Nat) (M : Nat → Nat → Rat) (a : Nat → Rat) (c : Rat), vs = [u, v, x] ∧ IsM C H u n n M ∧ IsV C H v n a ∧ IsQ C H x c ∧ n ≤ 1000 ∧ Sm c ∧ (∀ i, i < n → Sm (a i)) ∧ (∀ i, i < n → ∀ j, j < n → Sm (M i j)) ∧ (∀ i, i < n → ∀ j, j < n → Sm (a i * a j)) ∧ (∀ i, i < n → ∀ j, j < n → Sm (c * (a i * a j))) ∧
  ∀ z H', Ex H H' → IsM C H' z n n (addT c a M) → Q z H'
section
variable {K : PySem.W.Frag} {σ : L2.St} {H : Hp} {ta tb tc : TE} {E : XK} {C : Addr} {h n : Nat}
theorem ev_apply {M : Nat → Nat → Rat} {x : Nat → Rat} (ha : Ev ta σ H (isM C h n M)) (hb : Ev tb σ H (isV C n x)) (hh : h ≤ 1000) (ok : ∀ i, i < h → DotOk n (M i) x) : Ev (tCall (spApply C) [] E (tCons ta (tCons tb tNil))) σ H (isV C h (ap n M x)) :=
  ev_call2 ha hb fun u v H1 _ p1 p2 H2 e2 Q q => ⟨u, v, h, n, M, x, rfl, IsM.ex p1 e2, IsV.ex p2 e2, hh, ok, q⟩
theorem ev_outer {x y : Nat → Rat} (ha : Ev ta σ H (isV C h x)) (hb : Ev tb σ H (isV C n y)) (hh : h ≤ 1000) (hn : n ≤ 1000) (sx : ∀ i, i < h → Sm (x i)) (sy : ∀ i, i < n → Sm (y i)) : Ev (tCall (spOuter C) [] E (tCons ta (tCons tb tNil))) σ H (isM C h n fun i j => x i * y j) :=
  ev_call2 ha hb fun u v H1 _ p1 p2 H2 e2 Q q => ⟨u, v, h, n, x, y, rfl, IsV.ex p1 e2, IsV.ex p2 e2, hh, hn, sx, sy, q⟩
theorem ev_sumof {M N : Nat → Nat → Rat} (ha : Ev ta σ H (isM C h n M)) (hb : Ev tb σ H (isM C h n N)) (hh : h ≤ 1000) (hn : n ≤ 1000) (sx : ∀ i, i < h → ∀ j, j < n → Sm (M i j)) (sy : ∀ i, i < h → ∀ j, j < n → Sm (N i j)) : Ev (tCall (spSumOf C) [] E (tCons ta (tCons tb tNil))) σ H (isM C h n fun i j => M i j + N i j) :=
  ev_call2 ha hb fun u v H1 _ p1 p2 H2 e2 Q q => ⟨u, v, h, n, M, N, rfl, IsM.ex p1 e2, IsM.ex p2 e2, hh, hn, sx, sy, q⟩
theorem ev_scaled {c : Rat} {M : Nat → Nat → Rat} (ha : Ev ta σ H (isQ C c)) (hb : Ev tb σ H (isM C h n M)) (hh : h ≤ 1000) (hn : n ≤ 1000) (sc : Sm c) (sx : ∀ i, i < h → ∀ j, j < n → Sm (M i j)) : Ev (tCall (spScaled C) [] E (tCons ta (tCons tb tNil))) σ H (isM C h n fun i j => c * M i j) :=
  ev_call2 ha hb fun u v H1 _ p1 p2 H2 e2 Q q => ⟨u, v, h, n, c, M, rfl, IsQ.ex p1 e2, IsM.ex p2 e2, hh, hn, sc, sx, q⟩
end
section
variable {P : Program} {w : World} {K : PySem.W.Frag} {mg : Str → Option Value} {base : Heap} {f C fD fS fP : Addr} {fd fdD fdS fdP : FuncData}
theorem scUnit : FnScope ["width", "index", "k"] ["width", "index"] (defScope sUnit) := ⟨rfl, rfl, rfl, by decide +kernel, rfl, by decide +kernel, by decide +kernel⟩
theorem ok_unit (F : FnP K "unit" "unit" sUnit f fd) (R : RK P w K mg base C) (mt : mg "tuple" = none) (mr : mg "range" = none) : FnOk P w K mg base CX0 3 f fd ["width", "index"] (spUnit C) := by
  refine F.ok scUnit (fun vs H Q E h => ?_) (fun cdv A outer s H vs Q E hr h => ?_)
  · obtain ⟨n, j, rfl, _⟩ := h
    rfl
  · obtain ⟨n, j, rfl, hn, k⟩ := h
    have hr2 : Room 2 _ := hr
    refine ⟨_, PSs.nox (pss_one (ps_ret (pe_callTy (r := rTup K) call_tuple_of (by rfl) mt (by decide +kernel) (pa_cons (pe_lc (own := [("k", 2)]) (g := gName 2) (tt := tYes) rfl scUnit.nd (pi_range1 rfl mr (pa_cons (pv 0) pa_nil))
      (blkOk_by (N := ["width", "index", "k"]) (sc := defScope sUnit) (by decide +kernel)) (fun _ _ _ _ _ => pg_name (i := 2) scUnit.nd rfl (Or.inl rfl)) (fun _ _ _ _ _ => pts_nil)
      (fun _ _ _ _ _ => pe_ifExp (pt_cmpR op_eq (pv 2) (pv 1) (nomark _)) (pe_mk1 R hr2 rfl (pa_cons pe_int pa_nil)) (pe_mk1 R hr2 rfl (pa_cons pe_int pa_nil)))) pa_nil)))), ?_⟩
    refine st_ret (ev_tupL (ev_mapR (Pk := fun i => isQ C (un j i)) hn (ev_var rfl rfl) (fun _ _ => im_Q) (fun _ => rfl) fun i H1 hi e => ?_)) fun z H' ex p => k z H' ex p
    refine ev_if (evT_eqI (i := (i : Int)) (j := (j : Int)) (ev_var rfl rfl) (ev_var rfl rfl)) (fun hb => ?_) (fun hb => ?_)
    · have e1 : i = j := by have := of_decide_eq_true hb; omega
      have e2 : un j i = ((1 : Int) : Rat) := by unfold un; rw [if_pos e1]; rfl
      rw [e2]
      exact ev_mk1 ev_c
    · have e1 : ¬ i = j := by have := of_decide_eq_false hb; omega
      have e2 : un j i = ((0 : Int) : Rat) := by unfold un; rw [if_neg e1]; rfl
      rw [e2]
      exact ev_mk1 ev_c
theorem scIsZero : FnScope ["a", "x"] ["a"] (defScope sIsZero) := ⟨rfl, rfl, rfl, by decide +kernel, rfl, by decide +kernel, by decide +kernel⟩
theorem ok_iszero (F : FnP K "is_zero" "is_zero" sIsZero f fd) (R : RK P w K mg base C) : FnOk P w K mg base CX0 1 f fd ["a"] (spIsZero C) := by
  refine F.ok scIsZero (fun vs H Q E h => ?_) (fun cdv A outer s H vs Q E hr h => ?_)
  · obtain ⟨u, n, x, rfl, _⟩ := h
    rfl
  · obtain ⟨u, n, x, rfl, hu, k⟩ := h
    refine ⟨_, PSs.nox (pss_cons (ps_for PassesOwn.never rfl (pi_tup (pv 0)) (pg_name (i := 1) scIsZero.nd rfl (Or.inl rfl)) (pss_one (ps_if (pt_cmpR op_ne (pe_fld (pv 1) rfl) pe_int (nomark _)) (pss_one (ps_ret pe_bl)) pss_nil))) (pss_one (ps_ret pe_bl))), ?_⟩
    refine st_for (n := n) (fd_tup (K := K) (Ev.isTs_V (ev_var rfl hu))) (fun i σ H' => ∃ x', σ = [some u, x'] ∧ ∀ j, j < i → x j = 0) (fun H2 e2 => ⟨none, rfl, fun j hj => by omega⟩) ?_ ?_
    · rintro i y σ H2 H3 H4 hi e2 e3 ⟨x', rfl, hz⟩ ⟨rfl, H0, e0, p⟩
      refine st_if (b := !decide ((x i).num = 0)) (evT_neI (j := 0) (ev_top R.T (ev_var (P := isQ C (x i)) rfl (IsQ.ex p e0))) ev_c) (fun hb H5 e5 => ?_) (fun hb H5 e5 => ?_)
      · have h1 : ¬ (x i).num = 0 := fun z => by rw [decide_eq_true z] at hb; cases hb
        refine st_ret ev_c fun v H6 e6 p6 => ?_
        obtain rfl : v = .bl false := p6
        have h2 : ¬ ∀ i, i < n → x i = 0 := fun z => h1 (by rw [z i hi]; rfl)
        have := k H6 ((e2.trans e3).trans (e5.trans e6))
        rw [decide_eq_false h2] at this
        exact this
      · have h1 : (x i).num = 0 := by
          by_cases z : (x i).num = 0
          · exact z
          · rw [decide_eq_false z] at hb; cases hb
        refine ⟨e3.trans e5, some y, rfl, fun j hj => ?_⟩
        by_cases e : j = i
        · rw [e]; exact Rat.num_eq_zero.mp h1
        · exact hz j (by omega)
    · rintro σ H2 H3 e2 e3 ⟨x', rfl, hz⟩
      refine st_ret ev_c fun v H6 e6 p6 => ?_
      obtain rfl : v = .bl true := p6
      have := k H6 ((e2.trans e3).trans e6)
      rw [decide_eq_true hz] at this
      exact this
theorem scApply : FnScope ["matrix", "vector", "row"] ["matrix", "vector"] (defScope sApply) := ⟨rfl, rfl, rfl, by decide +kernel, rfl, by decide +kernel, by decide +kernel⟩
theorem ok_apply (F : FnP K "apply" "apply" sApply f fd) (mt : mg "tuple" = none) (D : DefOk P w K mg base CX0 "dot" 4 ["a", "b"] (spDot C) fD fdD) : FnOk P w K mg base CX0 5 f fd ["matrix", "vector"] (spApply C) := by
  refine F.ok scApply (fun vs H Q E h => ?_) (fun cdv A outer s H vs Q E hr h => ?_)
  · obtain ⟨u, v, h, n, M, x, rfl, _⟩ := h
    rfl
  · obtain ⟨u, v, h, n, M, x, rfl, hu, hv, hh, ok, k⟩ := h
    have hr4 : Room 4 _ := hr
    refine ⟨_, PSs.nox (pss_one (ps_ret (pe_callTy (r := rTup K) call_tuple_of (by rfl) mt (by decide +kernel) (pa_cons (pe_lc (own := [("row", 2)]) (g := gName 2) (tt := tYes) rfl scApply.nd (pi_tup (pv 0))
      (blkOk_by (N := ["matrix", "vector", "row"]) (sc := defScope sApply) (by decide +kernel)) (fun _ _ _ _ _ => pg_name (i := 2) scApply.nd rfl (Or.inl rfl)) (fun _ _ _ _ _ => pts_nil) (fun _ _ _ _ _ => pe_cd D hr4 rfl pass0 (pa_cons (pv 2) (pa_cons (pv 1) pa_nil)))) pa_nil)))), ?_⟩
    refine st_ret (ev_map (Pk := fun i => isQ C (dt n (M i) x)) hh (Ev.isTs_M (ev_var rfl hu)) (fun _ _ => im_Q) (fun _ => rfl) fun i y H1 hi e p => ?_) fun z H' ex p => k z H' ex p
    exact ev_dot (ev_var (P := isV C n (M i)) rfl p) (ev_var (P := isV C n x) rfl (hv.ex e)) (ok i hi)
theorem scOuter : FnScope ["a", "b", "x"] ["a", "b"] (defScope sOuter) := ⟨rfl, rfl, rfl, by decide +kernel, rfl, by decide +kernel, by decide +kernel⟩
theorem ok_outer (F : FnP K "outer" "outer" sOuter f fd) (mt : mg "tuple" = none) (D : DefOk P w K mg base CX0 "scale" 4 ["factor", "a"] (spScale C) fS fdS) : FnOk P w K mg base CX0 5 f fd ["a", "b"] (spOuter C) := by
  refine F.ok scOuter (fun vs H Q E h => ?_) (fun cdv A outer s H vs Q E hr h => ?_)
  · obtain ⟨u, v, h, n, x, y, rfl, _⟩ := h
    rfl
  · obtain ⟨u, v, h, n, x, y, rfl, hu, hv, hh, hn, sx, sy, k⟩ := h
    have hr4 : Room 4 _ := hr
    refine ⟨_, PSs.nox (pss_one (ps_ret (pe_callTy (r := rTup K) call_tuple_of (by rfl) mt (by decide +kernel) (pa_cons (pe_lc (own := [("x", 2)]) (g := gName 2) (tt := tYes) rfl scOuter.nd (pi_tup (pv 0))
      (blkOk_by (N := ["a", "b", "x"]) (sc := defScope sOuter) (by decide +kernel)) (fun _ _ _ _ _ => pg_name (i := 2) scOuter.nd rfl (Or.inl rfl)) (fun _ _ _ _ _ => pts_nil) (fun _ _ _ _ _ => pe_cd D hr4 rfl pass0 (pa_cons (pv 2) (pa_cons (pv 1) pa_nil)))) pa_nil)))), ?_⟩
    refine st_ret (ev_map (Pk := fun i => isV C n (fun j => x i * y j)) hh (Ev.isTs_V (ev_var rfl hu)) (fun _ _ => im_V) (fun _ => rfl) fun i a H1 hi e p => ?_) fun z H' ex p => k z H' ex p
    exact ev_scale (ev_var (P := isQ C (x i)) rfl p) (ev_var (P := isV C n y) rfl (hv.ex e)) hn (fun _ => sx i hi) sy
theorem scSumOf : FnScope ["first", "second", "one", "other"] ["first", "second"] (defScope sSumOf) := ⟨rfl, rfl, rfl, by decide +kernel, rfl, by decide +kernel, by decide +kernel⟩
theorem ok_sumof (F : FnP K "sum_of" "sum_of" sSumOf f fd) (mt : mg "tuple" = none) (mz : mg "zip" = none) (D : DefOk P w K mg base CX0 "plus" 4 ["a", "b"] (spPlus C (· + ·)) fP fdP) : FnOk P w K mg base CX0 5 f fd ["first", "second"] (spSumOf C) := by
  refine F.ok scSumOf (fun vs H Q E h => ?_) (fun cdv A outer s H vs Q E hr h => ?_)
  · obtain ⟨u, v, h, n, M, N, rfl, _⟩ := h
    rfl
  · obtain ⟨u, v, h, n, M, N, rfl, hu, hv, hh, hn, sx, sy, k⟩ := h
    have hr4 : Room 4 _ := hr
    refine ⟨_, PSs.nox (pss_one (ps_ret (pe_callTy (r := rTup K) call_tuple_of (by rfl) mt (by decide +kernel) (pa_cons (pe_lc (own := [("one", 2), ("other", 3)]) (g := gTup K 2 (gCons (gName 2) (gCons (gName 3) gNil))) (tt := tYes) rfl scSumOf.nd
      (RZ.pi_zipA (by rfl) mz (pa_cons (pv 0) (pa_cons (pv 1) pa_nil)))
      (blkOk_by (N := ["first", "second", "one", "other"]) (sc := defScope sSumOf) (by decide +kernel)) (fun _ _ _ _ _ => pg_tup rfl (pgs_cons (pg_name (i := 2) scSumOf.nd rfl (Or.inl rfl)) (pgs_cons (pg_name (i := 3) scSumOf.nd rfl (Or.inl rfl)) pgs_nil))) (fun _ _ _ _ _ => pts_nil)
      (fun _ _ _ _ _ => pe_cd D hr4 rfl pass0 (pa_cons (pv 2) (pa_cons (pv 3) pa_nil)))) pa_nil)))), ?_⟩
    refine st_ret (ev_tupL (ev_mapZ (Pk := fun i => isV C n (fun j => M i j + N i j)) hh (Ev.isTs_M (ev_var rfl hu)) (Ev.isTs_M (ev_var rfl hv)) (fun _ _ => im_V) (fun _ _ => rfl) fun i a b H1 hi e p p' => ?_)) fun z H' ex p => k z H' ex p
    exact ev_vec (ev_var (P := isV C n (M i)) rfl p) (ev_var (P := isV C n (N i)) rfl p') hn (sx i hi) (sy i hi)
theorem scScaled : FnScope ["factor", "matrix", "row"] ["factor", "matrix"] (defScope sScaled) := ⟨rfl, rfl, rfl, by decide +kernel, rfl, by decide +kernel, by decide +kernel⟩
theorem ok_scaled (F : FnP K "scaled" "scaled" sScaled f fd) (mt : mg "tuple" = none) (D : DefOk P w K mg base CX0 "scale" 4 ["factor", "a"] (spScale C) fS fdS) : FnOk P w K mg base CX0 5 f fd ["factor", "matrix"] (spScaled C) := by
  refine F.ok scScaled (fun vs H Q E h => ?_) (fun cdv A outer s H vs Q E hr h => ?_)
  · obtain ⟨u, v, h, n, c, M, rfl, _⟩ := h
    rfl
  · obtain ⟨u, v, h, n, c, M, rfl, hu, hv, hh, hn, sc, sx, k⟩ := h
    have hr4 : Room 4 _ := hr
    refine ⟨_, PSs.nox (pss_one (ps_ret (pe_callTy (r := rTup K) call_tuple_of (by rfl) mt (by decide +kernel) (pa_cons (pe_lc (own := [("row", 2)]) (g := gName 2) (tt := tYes) rfl scScaled.nd (pi_tup (pv 1))
      (blkOk_by (N := ["factor", "matrix", "row"]) (sc := defScope sScaled) (by decide +kernel)) (fun _ _ _ _ _ => pg_name (i := 2) scScaled.nd rfl (Or.inl rfl)) (fun _ _ _ _ _ => pts_nil) (fun _ _ _ _ _ => pe_cd D hr4 rfl pass0 (pa_cons (pv 0) (pa_cons (pv 2) pa_nil)))) pa_nil)))), ?_⟩
    refine st_ret (ev_map (Pk := fun i => isV C n (fun j => c * M i j)) hh (Ev.isTs_M (ev_var rfl hv)) (fun _ _ => im_V) (fun _ => rfl) fun i a H1 hi e p => ?_) fun z H' ex p => k z H' ex p
    exact ev_scale (ev_var (P := isQ C c) rfl (hu.ex e)) (ev_var (P := isV C n (M i)) rfl p) hn (fun _ => sc) (sx i hi)
theorem scAddTerm : FnScope ["matrix", "row", "weight"] ["matrix", "row", "weight"] (defScope sAddTerm) := ⟨rfl, rfl, rfl, by decide +kernel, rfl, by decide +kernel, by decide +kernel⟩
variable {fO fM : Addr} {fdO fdM : FuncData}
theorem ok_addterm (F : FnP K "add_term" "add_term" sAddTerm f fd) (DS : DefOk P w K mg base CX0 "sum_of" 5 ["first", "second"] (spSumOf C) fP fdP) (DC : DefOk P w K mg base CX0 "scaled" 5 ["factor", "matrix"] (spScaled C) fS fdS)
    (DO : DefOk P w K mg base CX0 "outer" 5 ["a", "b"] (spOuter C) fO fdO) : FnOk P w K mg base CX0 6 f fd ["matrix", "row", "weight"] (spAddTerm C) := by
  refine F.ok scAddTerm (fun vs H Q E h => ?_) (fun cdv A outer s H vs Q E hr h => ?_)
  · obtain ⟨u, v, x, n, M, a, c, rfl, _⟩ := h
    rfl
  · obtain ⟨u, v, x, n, M, a, c, rfl, hu, hv, hx, hn, sc, sa, sM, saa, scaa, k⟩ := h
    have hr5 : Room 5 _ := hr
    refine ⟨_, PSs.nox (pss_one (ps_ret (pe_cd DS hr5 rfl pass0 (pa_cons (pv 0) (pa_cons (pe_cd DC hr5 rfl pass0 (pa_cons (pv 2) (pa_cons (pe_cd DO hr5 rfl pass0 (pa_cons (pv 1) (pa_cons (pv 1) pa_nil))) pa_nil))) pa_nil))))), ?_⟩
    have rv : ∀ {σ : L2.St}, σ[1]? = some (some v) → Ev (tVar 1) σ H (isV C n a) := fun h => ev_var h hv
    refine st_ret (ev_sumof (ev_var (P := isM C n n M) rfl hu) (ev_scaled (ev_var (P := isQ C c) rfl hx) (ev_outer (rv rfl) (rv rfl) hn hn sa sa) hn hn sc saa) hn hn sM scaa) fun z H' ex p => k z H' ex p
end
end PW

set_option Elab.async false
set_option linter.all false
set_option maxRecDepth 100000
set_option maxHeartbeats 4000000
/-! PwZ: enumerate over a tuple; zip of a tuple and a list. -/
namespace PW
open PySem PySem.Spec PyProof.Rows L2
/-- side by side: the tuple at a, the list at b -/
def ItMix (K : PySem.W.Frag) (a b : Addr) : It where
  go := fun i H => ∃ (xs ys : List V) (x y : V), SqT K H a xs ∧ SqL K H b ys ∧ xs[i]? = some x ∧ ys[i]? = some y
  yld := fun i H v H' => ∃ T x y, v = .ref T ∧ H T = none ∧ H' = upd H T (.tup [x, y]) ∧ (∀ xs, SqT K H a xs → xs[i]? = some x) ∧ ∀ ys, SqL K H b ys → ys[i]? = some y
  stop := fun i H => ∃ xs ys : List V, SqT K H a xs ∧ SqL K H b ys ∧ xs.length = i ∧ ys.length = i
theorem sep_of {a b z TI TO i1 i2 : Addr} (D : ZipApart z TI TO i1 i2 a b) : ZipSep2 z TI TO i1 i2 [i1, a] [i2, b] where
  TIz := D.TIz
  TOz := D.TOz
  TITO := D.TITO
  TIi1 := D.TIi1
  mem1 := by simp
  zf1 := by simp [D.i1z.symm, D.l1z.symm]
  Tf1 := by simp [D.TOi1, D.l1TO.symm]
  TIi2 := D.TIi2
  mem2 := by simp
  zf2 := by simp [D.i2z.symm, D.l2z.symm]
  Tf2 := by simp [D.TOi2, D.l2TO.symm]
  sep1_2 := by simp [D.i12, D.l2i1.symm]
  sep2_1 := by simp [D.i12.symm, D.l1i2.symm]
theorem five {P : Addr → Prop} {z TI TO i1 i2 c : Addr} (hc : c ∈ [z, TI, TO, i1, i2]) (h1 : P z) (h2 : P TI) (h3 : P TO) (h4 : P i1) (h5 : P i2) : P c := by
  simp only [List.mem_cons, List.not_mem_nil, or_false] at hc
  rcases hc with q | q | q | q | q <;> subst q <;> assumption
theorem turn_mix {P : Program} {w : World} {K : PySem.W.Frag} {elts : List Expr} {kk : Nat} {tpos : Pos} {a b z TI TO i1 i2 : Addr} (D : ZipApart z TI TO i1 i2 a b) :
    Turn P w K (.Tuple elts kk tpos) (ItMix K a b) [z, TI, TO, i1, i2] z (fun i h => IsZip h z TI TO .none ∧ IsTupOf2 h TI (.ref i1) (.ref i2) ∧ (∃ x y, IsTupOf2 h TO x y) ∧ h.IsTupleIter i1 a i ∧ h.IsListIter i2 b i) where
  mem := by simp
  obj := fun i h st c hc => by
    obtain ⟨hz, hTI, ⟨x, y, hTO⟩, ⟨o1, e1, _, d1⟩, ⟨o2, e2, _, d2⟩⟩ := st
    exact five (P := fun c => ∃ o, h.get? c = some o ∧ ∀ v, o.data ≠ .cell v) hc ⟨_, hz, fun v q => nomatch q⟩ ⟨_, hTI, fun v q => nomatch q⟩ ⟨_, hTO, fun v q => nomatch q⟩ ⟨o1, e1, fun v q => by rw [d1] at q; cases q⟩ ⟨o2, e2, fun v q => by rw [d2] at q; cases q⟩
  keep := fun i h h' st k => by
    obtain ⟨hz, hTI, ⟨x, y, hTO⟩, h1, h2⟩ := st
    exact ⟨k z (by simp) _ hz, k TI (by simp) _ hTI, ⟨x, y, k TO (by simp) _ hTO⟩, h1.at fun o q => k i1 (by simp) o q, h2.at fun o q => k i2 (by simp) o q⟩
  item := by
    intro X hP hw hK hc i pins s σ H E I hf st hg
    subst hP hw hK
    obtain ⟨hz, hTI, ⟨x0, y0, hTO⟩, h1, h2⟩ := st
    obtain ⟨xs, ys, x, y, hqx, hqy, hx, hy⟩ := hg
    obtain ⟨its, rv, p, _⟩ := I.tuple hqx
    obtain ⟨its2, rv2, p2, _⟩ := I.list hqy
    obtain ⟨u, hu, ru⟩ := rv.get hx
    obtain ⟨u2, hu2, ru2⟩ := rv2.get hy
    have b1 : i < its.toArray.size := by have := (List.getElem?_eq_some_iff.mp hu).1; simpa using this
    have b2 : i < its2.toArray.size := by have := (List.getElem?_eq_some_iff.mp hu2).1; simpa using this
    have hh : X.A.in1.handled = none := I.ok.hd hc
    refine wpAny_pyNext_zipD2_item (sep_of D) (Draws.tuple hh i1 a D.l1i1 its.toArray) (Draws.list hh i2 b D.l2i2 its2.toArray) hz hTI hTO ⟨h1, p⟩ ⟨h2, p2.isList⟩ b1 b2 fun x1 x2 h' tk e1 e2 z' TO' s1' s2' hT hsz hk => ?_
    obtain rfl : u = x1 := by
      have e1 : its.toArray[i]? = some x1 := e1
      rw [show its.toArray[i]? = its[i]? from by simp, hu] at e1
      exact Option.some.inj e1
    obtain rfl : u2 = x2 := by
      have e2 : its2.toArray[i]? = some x2 := e2
      rw [show its2.toArray[i]? = its2[i]? from by simp, hu2] at e2
      exact Option.some.inj e2
    have bound : ∀ c, c ∈ [z, TI, TO, i1, i2] → c < s.heap.objs.size := fun c hc => five (P := fun c => c < s.heap.objs.size) hc (Heap.lt_size hz) (Heap.lt_size hTI) (Heap.lt_size hTO) (by obtain ⟨_, q, _⟩ := h1; exact Heap.lt_size q) (by obtain ⟨_, q, _⟩ := h2; exact Heap.lt_size q)
    refine ⟨_, rfl, wpAny_letOwnedTupleGo_zip (s := { s with heap := h', toks := tk }) z' fun h'' z'' sb => ?_⟩
    have hT2 : h''.get? s.heap.objs.size = some { cls := .type "tuple", data := .seq #[u, u2] } := (sb.2 _ (Nat.ne_of_gt (Heap.lt_size hz))).trans hT
    have new : ObjOk X.prog X.w (upd H s.heap.objs.size (.tup [x, y])) h'' s.heap.objs.size (.tup [x, y]) := ⟨by show 2 ≤ sizeLine; decide, [u, u2], .cons ru (.cons ru2 .nil), ⟨_, hT2, rfl, _, rfl⟩⟩
    have I1 : Inv X pins σ (upd H s.heap.objs.size (.tup [x, y])) { s with heap := h'', toks := tk } := I.turnedNew (ch := [z, TI, TO, i1, i2]) (fun c o hb q => (sb.2 c fun e => hb (by simp [e])).trans
      (hk c o (fun e => hb (by simp [e])) (fun e => hb (by simp [e])) (fun e => hb (by simp [e])) (fun e => hb (by simp [e])) q)) hf (Nat.le_refl _) new
    refine ⟨.ref s.heap.objs.size, _, I1, rfl, ⟨_, x, y, rfl, I.hok.fresh (Nat.le_refl _), rfl, fun l hl => by rw [I.tuple_inj hl hqx]; exact hx, fun l hl => by rw [I.list_inj hl hqy]; exact hy⟩, ⟨z'', (sb.2 _ D.TIz).trans (hk _ _ D.TIz D.TITO D.TIi1 D.TIi2 hTI), ⟨u, u2, (sb.2 _ D.TOz).trans TO'⟩, s1'.1.at fun o q => (sb.2 _ D.i1z).trans q, s2'.1.at fun o q => (sb.2 _ D.i2z).trans q⟩, fun c hcm => ?_⟩
    rw [upd_ne (Nat.ne_of_lt (bound c hcm))]
    exact (hf c hcm).1
  done := by
    intro X hP hw hK hc i pins s σ H E I hf st hg
    subst hP hw hK
    obtain ⟨hz, hTI, ⟨x0, y0, hTO⟩, h1, h2⟩ := st
    obtain ⟨xs, ys, hqx, hqy, hl1, hl2⟩ := hg
    obtain ⟨its, rv, p, _⟩ := I.tuple hqx
    obtain ⟨its2, rv2, p2, _⟩ := I.list hqy
    have l1 := rv.length
    have l2 := rv2.length
    have hh : X.A.in1.handled = none := I.ok.hd hc
    refine wpAny_pyNext_zipD2_end (sep_of D) (Draws.tuple hh i1 a D.l1i1 its.toArray) (Draws.list hh i2 b D.l2i2 its2.toArray) hz hTI hTO ⟨h1, p⟩ ⟨h2, p2.isList⟩ (by simp; omega) (by simp; omega) (.inl (by simp; omega)) fun h' tk hk => ⟨rfl, I.turnedL (t' := tk) (ch := [z, TI, TO, i1, i2]) (fun c o hb q =>
      hk c o (fun e => hb (by simp [e])) (fun e => hb (by simp [e])) (fun e => hb (by simp [e])) (fun e => hb (by simp [e])) q) hf⟩
  self := fun A i s Q E st h => wpAny_pyIter_zip st.1 h
def iMix (K : PySem.W.Frag) (ta : TA) : TI := fun σ H R => ta σ H fun vs H1 => ∃ a b xs ys, vs = [.ref a, .ref b] ∧ SqT K H1 a xs ∧ SqL K H1 b ys ∧ R (ItMix K a b) H1
theorem pi_mix {X : Cx} {e e2 : Expr} {ta : TA} {p pos tpos : Pos} {elts : List Expr} {kk : Nat} (hg : Gl X "zip") (hm : X.mg "zip" = none) (ha : PA X [e, e2] ta)
    (hs : starEach [e, e2] X.env = (false, eval e X.env) :: starEach [e2] X.env := by rfl) (hpl : (backTo pos (starEach [e2] X.env)).any (·.1) = false := by rfl) :
    PI X (.Tuple elts kk tpos) (.Call (.Name "zip" p) [e, e2] [] pos) (iMix X.K ta) := by
  refine ⟨fun pins s σ H R I h => Call_ (ld_blt I hg hm PyProof.Rows.boot_zip (PyProof.Rows.callWith_type1 (thn (ha.run pos pins s σ H _ I h) fun us s1 ⟨vs, H1, I1, r1, q1⟩ => ?_) hs hpl))⟩
  obtain ⟨a, b, xs, ys, rfl, hqx, hqy, q⟩ := q1
  obtain ⟨u1, u2, rfl, ra, rb⟩ : ∃ u1 u2, us = [u1, u2] ∧ RelV (.ref a) u1 ∧ RelV (.ref b) u2 := by
    cases r1 with
    | cons r rr =>
      cases rr with
      | cons r' rr =>
        cases rr
        exact ⟨_, _, rfl, r, r'⟩
  cases ra
  cases rb
  obtain ⟨its, rv, p1, _⟩ := I1.tuple hqx
  obtain ⟨its2, rv2, p2, _⟩ := I1.list hqy
  have la : a < s1.heap.objs.size := by obtain ⟨_, q, _⟩ := id p1; exact Heap.lt_size q
  have lb : b < s1.heap.objs.size := p2.lt
  refine zip_begins2 (begins_tuple a its.toArray) (begins_list b its2.toArray) p1 p2.isList fun h' hz hTI hTO h1 h2 hsz hk => wpAny_pyIter_zip hz ?_
  have I2 : Inv X pins σ H1 { s1 with heap := h' } := I1.kept (t' := s1.toks) hk
  refine ⟨s1.heap.objs.size + 4, [s1.heap.objs.size + 4, s1.heap.objs.size + 2, s1.heap.objs.size + 3, s1.heap.objs.size, s1.heap.objs.size + 1], _, _, H1, rfl, I2, turn_mix (PySem.W.ktu_apart s1.heap.objs.size a b la lb), ⟨hz, hTI, ⟨_, _, hTO⟩, ⟨_, h1, rfl, rfl⟩, ⟨_, h2, rfl, rfl⟩⟩, fun c hcm => ?_, q⟩
  have hle : s1.heap.objs.size ≤ c := five (P := fun c => s1.heap.objs.size ≤ c) hcm (Nat.le_add_right _ _) (Nat.le_add_right _ _) (Nat.le_add_right _ _) (Nat.le_refl _) (Nat.le_add_right _ _)
  exact I1.fpOk hle (I1.hok.fresh hle)
/-! ### enumerate over a tuple -/
def ItEnT (K : PySem.W.Frag) (a : Addr) : It where
  go := fun i H => ∃ (xs : List V) (x : V), SqT K H a xs ∧ xs[i]? = some x
  yld := fun i H v H' => ∃ T x, v = .ref T ∧ H T = none ∧ H' = upd H T (.tup [.int (i : Nat), x]) ∧ ∀ xs, SqT K H a xs → xs[i]? = some x
  stop := fun i H => ∃ xs : List V, SqT K H a xs ∧ xs.length = i
theorem two {P : Addr → Prop} {e it c : Addr} (hc : c ∈ [e, it]) (h1 : P e) (h2 : P it) : P c := by
  simp only [List.mem_cons, List.not_mem_nil, or_false] at hc
  rcases hc with q | q <;> subst q <;> assumption
theorem turn_enT {P : Program} {w : World} {K : PySem.W.Frag} {elts : List Expr} {kk : Nat} {tpos : Pos} (a e it : Addr) (hae : e ≠ a) (hai : a ≠ it) :
    Turn P w K (.Tuple elts kk tpos) (ItEnT K a) [e, it] e (fun i h => (∃ old, IsEnum h e it ((i : Nat) : Int) old) ∧ h.IsTupleIter it a i ∧ e ≠ it) where
  mem := by simp
  obj := fun i h st c hc => by
    obtain ⟨⟨old, he⟩, ⟨o1, e1, _, d1⟩, _⟩ := st
    exact two (P := fun c => ∃ o, h.get? c = some o ∧ ∀ v, o.data ≠ .cell v) hc ⟨_, he, fun v q => nomatch q⟩ ⟨o1, e1, fun v q => by rw [d1] at q; cases q⟩
  keep := fun i h h' st k => ⟨⟨st.1.choose, k e (by simp) _ st.1.choose_spec⟩, st.2.1.at fun o q => k it (by simp) o q, st.2.2⟩
  item := by
    intro X hP hw hK hc i pins s σ H E I hf st hg
    subst hP hw hK
    obtain ⟨⟨old, he⟩, hit, hne⟩ := st
    obtain ⟨xs, x, hq, hx⟩ := hg
    obtain ⟨its, rv, p, _⟩ := I.tuple hq
    obtain ⟨u, hu, ru⟩ := rv.get hx
    have b1 : i < its.toArray.size := by have := (List.getElem?_eq_some_iff.mp hu).1; simpa using this
    have hh : X.A.in1.handled = none := I.ok.hd hc
    refine wpAny_pyNext_enum_itemD (Draws.tuple hh it a hai its.toArray) he ⟨hit, p⟩ b1 hne (by simp [hne, hae]) fun x1 h' tk e1 ho st' hT hsz hk => ?_
    obtain rfl : u = x1 := by
      have e1 : its.toArray[i]? = some x1 := e1
      rw [show its.toArray[i]? = its[i]? from by simp, hu] at e1
      exact Option.some.inj e1
    have hel : e < s.heap.objs.size := Heap.lt_size he
    have hil : it < s.heap.objs.size := by obtain ⟨_, q, _⟩ := hit; exact Heap.lt_size q
    refine ⟨_, rfl, wpAny_letOwnedTupleGo_enum (s := { s with heap := h', toks := tk + 1 }) ho fun h'' he' sb => ?_⟩
    have hT2 : h''.get? s.heap.objs.size = some { cls := .type "tuple", data := .seq #[.int i tk, u] } := (sb.2 _ (Nat.ne_of_gt hel)).trans hT
    have new : ObjOk X.prog X.w (upd H s.heap.objs.size (.tup [.int (i : Nat), x])) h'' s.heap.objs.size (.tup [.int (i : Nat), x]) := ⟨by show 2 ≤ sizeLine; decide, [.int i tk, u], .cons ⟨_, rfl⟩ (.cons ru .nil), ⟨_, hT2, rfl, _, rfl⟩⟩
    have I1 : Inv X pins σ (upd H s.heap.objs.size (.tup [.int (i : Nat), x])) { s with heap := h'', toks := tk + 1 } :=
      I.turnedNew (ch := [e, it]) (fun c o hb q => (sb.2 c fun e => hb (by simp [e])).trans (hk c o (fun e => hb (by simp [e])) (fun e => hb (by simp [e])) q)) hf (Nat.le_refl _) new
    refine ⟨.ref s.heap.objs.size, _, I1, rfl, ⟨_, x, rfl, I.hok.fresh (Nat.le_refl _), rfl, fun l hl => by rw [I.tuple_inj hl hq]; exact hx⟩, ⟨⟨u, ?_⟩, st'.1.at fun o q => (sb.2 it (Ne.symm hne)).trans q, hne⟩, fun c hcm => ?_⟩
    · have e1 : ((i + 1 : Nat) : Int) = (i : Int) + 1 := by omega
      rw [e1]; exact he'
    · rw [upd_ne (Nat.ne_of_lt (two (P := fun c => c < s.heap.objs.size) hcm hel hil))]
      exact (hf c hcm).1
  done := by
    intro X hP hw hK hc i pins s σ H E I hf st hg
    subst hP hw hK
    obtain ⟨⟨old, he⟩, hit, hne⟩ := st
    obtain ⟨xs, hq, hx⟩ := hg
    obtain ⟨its, rv, p, _⟩ := I.tuple hq
    have hl := rv.length
    have hh : X.A.in1.handled = none := I.ok.hd hc
    obtain rfl : i = its.toArray.size := by simp; omega
    obtain ⟨f0, f1, f2, f3, f4, f5⟩ := hf it (by simp)
    exact wpAny_pyNext_enum_endD (Draws.tuple hh it a hai its.toArray) he ⟨hit, p⟩ fun h' eb => ⟨rfl, I.turned (t' := s.toks) (fun b o hb q => eb b o hb q) f0 f1 f3 f4 f5⟩
  self := fun A i s Q E st h => let ⟨⟨_, he⟩, _⟩ := st; wpAny_pyIter_enum he h
theorem meets_enT (t : Addr) (items : Array Value) : Meets (Builtin.«enumerate.__new__» ⟨[.type "enumerate", .ref t], []⟩) (fun _ R s => (∃ o : Obj, s.heap.get? t = some o ∧ s.heap.IsTuple t items) ∧
      R (.ok (.ret (.ref (s.heap.push { cls := .type "tuple_iterator", data := .fields #[.ref t, .int 0 0] }).objs.size)))
        { s with heap := (s.heap.push { cls := .type "tuple_iterator", data := .fields #[.ref t, .int 0 0] }).push { cls := .type "enumerate", data := .fields #[.none, .bool false, .ref s.heap.objs.size, rawInt 0, .none, .none] } }) :=
  .of_wp fun prog w A R s h => by
    obtain ⟨hp, g, d, tk, os⟩ := s
    obtain ⟨⟨o, ho, hl⟩, h⟩ := h
    have hsub := sub_enumerate
    have hL : Heap.IsTuple (Shared.heap ⟨hp, g, d, tk, os⟩) t items := hl
    wp_walk using AutoSeq1.wpAny_loadPart' ho
    refine wpAny_stack_any fun st => wpAny_pure ?_
    split
    · rename_i c _ _ _ _ _
      cases (c == Value.type "enumerate") <;> (wp_walk using AutoSeq1.wpAny_loadPart' ho, wpAny_pyIter_tuple hL; exact ⟨_, rfl, h⟩)
    · wp_walk using AutoSeq1.wpAny_loadPart' ho, wpAny_pyIter_tuple hL
      exact ⟨_, rfl, h⟩
theorem call_enT {prog : Program} {w : World} {A : Around} {E : Value → Shared → Prop} {s : Shared} {t : Addr} {items : Array Value} {Q : Value → Shared → Prop} (hL : s.heap.IsTuple t items)
    (h : ∀ h', IsEnum h' (s.heap.objs.size + 1) s.heap.objs.size 0 .none → h'.IsTupleIter s.heap.objs.size t 0 → (∀ b o, s.heap.get? b = some o → h'.get? b = some o) → Q (.ref (s.heap.objs.size + 1)) { s with heap := h' }) :
    wpAny (model prog w) A (call (.type "enumerate") [.ref t]) Q E s := by
  obtain ⟨o, ho, _⟩ := id hL
  refine callType_new F.called_enumerate (by decide) (F.typeCall_enumerate_1 _) (F.newCall_enumerate_1 _) (fun obj => F.args_object_init_2 obj _) F.entry_enumerate_new (meets_enT t items) ⟨⟨o, ho, hL⟩, ?_⟩
  have hz : (s.heap.push { cls := .type "tuple_iterator", data := .fields #[.ref t, .int 0 0] }).objs.size = s.heap.objs.size + 1 := Heap.size_push ..
  have he := Heap.get?_push_size (s.heap.push { cls := .type "tuple_iterator", data := .fields #[.ref t, .int 0 0] }) (o := { cls := .type "enumerate", data := .fields #[.none, .bool false, .ref s.heap.objs.size, rawInt 0, .none, .none] }) rfl
  rw [hz] at he
  show _ ∧ _
  rw [hz]
  exact ⟨⟨_, he, rfl⟩, h _ he ⟨_, Heap.get?_push_of_some _ (Heap.get?_push_size _ rfl), rfl, rfl⟩ fun b o x => Heap.get?_push_of_some _ (Heap.get?_push_of_some _ x)⟩
def iEnT (K : PySem.W.Frag) (ta : TA) : TI := fun σ H R => ta σ H fun vs H1 => ∃ a xs, vs = [.ref a] ∧ SqT K H1 a xs ∧ R (ItEnT K a) H1
theorem pi_enT {X : Cx} {e : Expr} {ta : TA} {p pos tpos : Pos} {elts : List Expr} {kk : Nat} (hg : Gl X "enumerate") (hm : X.mg "enumerate" = none) (ha : PA X [e] ta) (hs : starEach [e] X.env = [(false, eval e X.env)] := by rfl) :
    PI X (.Tuple elts kk tpos) (.Call (.Name "enumerate" p) [e] [] pos) (iEnT X.K ta) := by
  refine ⟨fun pins s σ H R I h => Call_ (ld_blt I hg hm boot_enumerate (PyProof.Rows.callWith_type1 (thn (ha.run pos pins s σ H _ I h) fun us s1 ⟨vs, H1, I1, r1, q1⟩ => ?_) hs rfl))⟩
  obtain ⟨a, xs, rfl, hq, q⟩ := q1
  obtain ⟨u, rfl, ra⟩ := vals1 r1
  cases ra
  obtain ⟨its, rv, p', hz⟩ := I1.tuple hq
  have la : a < s1.heap.objs.size := by obtain ⟨_, q, _⟩ := id p'; exact Heap.lt_size q
  refine call_enT p' fun h' he hit hk => wpAny_pyIter_enum he ?_
  have I2 : Inv X pins σ H1 { s1 with heap := h' } := I1.kept (t' := s1.toks) hk
  refine ⟨s1.heap.objs.size + 1, [s1.heap.objs.size + 1, s1.heap.objs.size], _, _, H1, rfl, I2, turn_enT a (s1.heap.objs.size + 1) s1.heap.objs.size (Nat.ne_of_gt (Nat.lt_succ_of_lt la)) (Nat.ne_of_lt la), ⟨⟨.none, he⟩, hit, Nat.succ_ne_self _⟩, fun c hcm => ?_, q⟩
  have hle : s1.heap.objs.size ≤ c := two (P := fun c => s1.heap.objs.size ≤ c) hcm (Nat.le_add_right _ _) (Nat.le_refl _)
  exact I1.fpOk hle (I1.hok.fresh hle)
/-! ### what is walked, told by Feeds -/
section
variable {K : PySem.W.Frag} {σ : L2.St} {H : Hp} {ta tb tl : TE} {n : Nat} {Pi Pj : Nat → MP}
theorem fd_mix (h1 : Ev ta σ H (isTs n Pi)) (h2 : Ev tb σ H (isLs n Pj)) : Feeds (iMix K (tCons ta (tCons tb tNil))) σ H n (YTwo Pi Pj) := fun H1 e R r =>
  h1 H1 e _ fun v H2 e2 p => h2 H2 (e.trans e2) _ fun u H3 e3 p3 => by
    obtain ⟨a, us, rfl, ha, hl, hu⟩ := p
    obtain ⟨b, ws, rfl, hb, hl2, hu2⟩ := p3
    have ha3 := e3 _ _ ha
    refine ⟨a, b, us, ws, rfl, SqT.of ha3, SqL.of hb, r _ (fun H4 => (SqT K H4 a us ∧ SqL K H4 b ws) ∧ Ex H3 H4) H3 (e2.trans e3) ⟨fun i H4 hi g => ⟨us, ws, us[i]'(by omega), ws[i]'(by omega), g.1.1, g.1.2, by simp, by simp⟩, fun H4 g => ⟨us, ws, g.1.1, g.1.2, hl, hl2⟩, fun i H4 v H' hi g y => ?_⟩ fun H4 e4 => ⟨⟨SqT.of (e4 _ _ ha3), SqL.of (e4 _ _ hb)⟩, e4⟩⟩
    obtain ⟨T, x', y', k1, k2, k3, k4, k5⟩ := y
    obtain ⟨u1, m1, m2⟩ := hu i hi
    obtain ⟨u2, m3, m4⟩ := hu2 i hi
    have k4 : us[i]? = some x' := k4 us g.1.1
    have k5 : ws[i]? = some y' := k5 ws g.1.2
    rw [m1] at k4
    rw [m3] at k5
    cases k4
    cases k5
    exact ⟨T, _, _, H3, k1, k2, k3, g.2, (Pi i).mono _ _ _ e3 m2, m4⟩
def YEn (Pi : Nat → MP) : Nat → Hp → V → Hp → Prop := fun i H v H' => ∃ T x H0, v = .ref T ∧ H T = none ∧ H' = upd H T (.tup [.int (i : Int), x]) ∧ Ex H0 H ∧ (Pi i).p x H0
theorem fd_enT (h : Ev tl σ H (isTs n Pi)) : Feeds (iEnT K (tCons tl tNil)) σ H n (YEn Pi) := fun H1 e R r =>
  h H1 e _ fun v H2 e2 p => by
    obtain ⟨a, us, rfl, ha, hl, hu⟩ := p
    refine ⟨a, us, rfl, SqT.of ha, r _ (fun H3 => SqT K H3 a us ∧ Ex H2 H3) H2 e2 ⟨fun i H4 hi g => ⟨us, us[i]'(by omega), g.1, by simp⟩, fun H4 g => ⟨us, g.1, hl⟩, fun i H4 v H' hi g y => ?_⟩ fun H3 e3 => ⟨SqT.of (e3 _ _ ha), e3⟩⟩
    obtain ⟨T, x', k1, k2, k3, k4⟩ := y
    obtain ⟨u1, m1, m2⟩ := hu i hi
    have k4 : us[i]? = some x' := k4 us g.1
    rw [m1] at k4
    cases k4
    exact ⟨T, _, H2, k1, k2, k3, g.2, m2⟩
theorem fd_enL (h : Ev tl σ H (isLs n Pi)) : Feeds (iEnum K (tCons tl tNil)) σ H n (YEn Pi) := fun H1 e R r =>
  h H1 e _ fun v H2 e2 p => by
    obtain ⟨a, us, rfl, ha, hl, hu⟩ := p
    subst hl
    refine ⟨a, us, rfl, SqL.of ha, r _ (fun H3 => SqL K H3 a us ∧ Ex H2 H3) H2 e2 ((walk_enum (K := K) (a := a) (xs := us)).mono (fun _ h => h.1) fun i H4 v H' hi g y => ?_) fun H3 e3 => ⟨SqL.of (e3 _ _ ha), e3⟩⟩
    obtain ⟨T, i', x', k1, k2, k3, k4, k5⟩ := y
    obtain ⟨u1, m1, m2⟩ := hu i hi
    have k5 : us[i]? = some x' := k5
    rw [m1] at k5
    cases k5
    cases k4
    exact ⟨T, _, H2, k1, k2, k3, g.2, m2⟩
end
end PW

set_option Elab.async false
set_option linter.all false
set_option maxRecDepth 100000
set_option maxHeartbeats 4000000
/-! PwH: a reading's adding to the inverse; a matrix made wider. -/
namespace PW
open PySem PySem.Spec PyProof.Rows L2 PN
section
variable {X : Cx} {C : Addr} {a b : Expr} {ta tb : TE} {pos apos : Pos}
theorem pe_overQ {t : TA} (R : RK X.prog X.w X.K X.mg X.base C) (hr : Room 3 X.A) (ha : PE X a ta) (hb : PA X [b] t)
    (hst : starEach [b] X.env = (false, eval b X.env) :: starEach [] X.env := by rfl) (hpl : (backTo pos (starEach [] X.env)).any (·.1) = false := by rfl)
    {pl : Sem Bool} (ht : eval (.Call (.Attribute a "over" apos) [b] [] pos) X.env = (do
      let ov ← eval a X.env
      standAt apos.atName
      let (f, first) ← holding [ov] (getMethod ov "over" pl)
      callWith pos f first (backTo pos (starEach [b] X.env)) (backToKw pos (keywordEach [] X.env))) := by rfl) :
    PE X (.Call (.Attribute a "over" apos) [b] [] pos) (tMeth C "over" (spQ2 C (· / ·) nz2) [] E0 ta t) :=
  pe_meth (pl := pl) ha R.T.cl R.O.me R.O.ok hr R.O.bd .nil pass0 hb hst hpl ht
end
section
variable {K : PySem.W.Frag} {σ : L2.St} {H : Hp} {ta tb tc : TE} {E : XK} {C : Addr} {h n : Nat}
theorem ev_one : Ev (tMake C (spRInit C) [.int 1] E (tCons (tC (.int 1)) tNil)) σ H (isQ C 1) := by
  have := ev_mk1 (C := C) (σ := σ) (H := H) (E := E) (ta := tC (.int 1)) (t := 1) ev_c
  rwa [Rat.intCast_one] at this
theorem ev_zero : Ev (tMake C (spRInit C) [.int 1] E (tCons (tC (.int 0)) tNil)) σ H (isQ C 0) := by
  have := ev_mk1 (C := C) (σ := σ) (H := H) (E := E) (ta := tC (.int 0)) (t := 0) ev_c
  rwa [Rat.intCast_zero] at this
theorem ev_mone : Ev (tMake C (spRInit C) [.int 1] E (tCons (tUn (rU fun i => .int (-i)) (tC (.int 1))) tNil)) σ H (isQ C (-1)) := by
  have := ev_mk1 (C := C) (σ := σ) (H := H) (E := E) (ta := tUn (rU fun i => .int (-i)) (tC (.int 1))) (t := -1) (ev_neg ev_c)
  rwa [Rat.intCast_neg, Rat.intCast_one] at this
theorem evT_zero {te : TE} {n : Nat} {x : Nat → Rat} (ha : Ev te σ H (isV C n x)) : EvT (tTest (tCall (spIsZero C) [] E (tCons te tNil))) σ H (decide (∀ i, i < n → x i = 0)) := fun H1 e Q q =>
  ha H1 e _ fun v H2 e2 p => ⟨v, n, x, rfl, p, fun H' e3 => ⟨_, rfl, q H' (e2.trans e3)⟩⟩
end
theorem small_two : Sm (-1) := ⟨by decide, by decide⟩
theorem _root_.PN.Sm.neg {q : Rat} (h : Sm q) : Sm (-q) := ⟨by rw [Rat.neg_num, Int.natAbs_neg]; exact h.1, by rw [Rat.neg_den]; exact h.2⟩
theorem small_q1 : Sm 1 := ⟨by decide, by decide⟩
abbrev sWithAdded : Stmt := topS 41
abbrev sWidened : Stmt := topS 45
def spWithAdded (C : Addr) : Sp := fun vs H Q _ => ∃ (u v x y : V) (n : Nat) (M P : Nat → Nat → Rat) (a : Nat → Rat) (w : Rat), vs = [u, v, x, y] ∧ IsM C H u n n M ∧ IsM C H v n n P ∧ IsV C H x n a ∧ IsQ C H y w ∧ n ≤ 1000 ∧ AddOk n M P a w ∧
  ((∀ i, i < n → rest n M P a i = 0) → SameOk n P (ap n P a) w (dt n a (ap n P a)) ∧ ∀ z H', Ex H H' → IsM C H' z n n (addSame w (dt n a (ap n P a)) (ap n P a) P) → Q z H') ∧
  ((¬ ∀ i, i < n → rest n M P a i = 0) → MoreOk n P (rest n M P a) (ap n P a) w (dt n a (ap n P a)) ∧ ∀ z H', Ex H H' → IsM C H' z n n (addMore w (dt n a (ap n P a)) (way n M P a) (ap n P a) P) → Q z H')
section
variable {P : Program} {w : World} {K : PySem.W.Frag} {mg : Str → Option Value} {base : Heap} {f C fA fD fS fP fO fM fN fZ : Addr} {fd fdA fdD fdS fdP fdO fdM fdN fdZ : FuncData}
abbrev nWA : List Str := ["matrix", "inverse", "row", "weight", "image", "rest", "share", "factor", "way", "found"]
theorem scWithAdded : FnScope nWA ["matrix", "inverse", "row", "weight"] (defScope sWithAdded) := ⟨rfl, rfl, rfl, by decide +kernel, rfl, by decide +kernel, by decide +kernel⟩
theorem ok_withadded (F : FnP K "with_added" "with_added" sWithAdded f fd) (R : RK P w K mg base C) (DA : DefOk P w K mg base CX0 "apply" 5 ["matrix", "vector"] (spApply C) fA fdA) (DN : DefOk P w K mg base CX0 "minus" 4 ["a", "b"] (spPlus C (· - ·)) fN fdN)
    (DD : DefOk P w K mg base CX0 "dot" 4 ["a", "b"] (spDot C) fD fdD) (DZ : DefOk P w K mg base CX0 "is_zero" 1 ["a"] (spIsZero C) fZ fdZ) (DS : DefOk P w K mg base CX0 "scale" 4 ["factor", "a"] (spScale C) fS fdS)
    (DP : DefOk P w K mg base CX0 "sum_of" 5 ["first", "second"] (spSumOf C) fP fdP) (DM : DefOk P w K mg base CX0 "scaled" 5 ["factor", "matrix"] (spScaled C) fM fdM)
    (DO : DefOk P w K mg base CX0 "outer" 5 ["a", "b"] (spOuter C) fO fdO) : FnOk P w K mg base CX0 6 f fd ["matrix", "inverse", "row", "weight"] (spWithAdded C) := by
  refine F.ok scWithAdded (fun vs H Q E h => ?_) (fun cdv A outer s H vs Q E hr h => ?_)
  · obtain ⟨u, v, x, y, n, M, P, a, w, rfl, _⟩ := h
    rfl
  · obtain ⟨u, v, x, y, n, M, P', a, w', rfl, hu, hv, hx, hy, hn, ok, same, more⟩ := h
    have hr5 : Room 5 _ := hr
    have hr4 : Room 4 _ := hr.mono (by decide)
    have hr3 : Room 3 _ := hr.mono (by decide)
    have hr2 : Room 2 _ := hr.mono (by decide)
    have hr1 : Room 1 _ := hr.mono (by decide)
    refine ⟨_, PSs.nox (pss_cons (ps_set (i := 4) scWithAdded.nd rfl (Or.inl rfl) (pe_cd DA hr5 rfl pass0 (pa_cons (pv 1) (pa_cons (pv 2) pa_nil)))) (pss_cons (ps_set (i := 5) scWithAdded.nd rfl (Or.inl rfl) (pe_cd DN hr4 rfl pass0 (pa_cons (pv 2) (pa_cons (pe_cd DA hr5 rfl pass0 (pa_cons (pv 0) (pa_cons (pv 4) pa_nil))) pa_nil)))) (pss_cons (ps_set (i := 6) scWithAdded.nd rfl (Or.inl rfl) (pe_cd DD hr4 rfl pass0 (pa_cons (pv 2) (pa_cons (pv 4) pa_nil)))) (pss_cons (ps_if (pt_val (pe_cd DZ hr1 rfl pass0 (pa_cons (pv 5) pa_nil))) (pss_cons (ps_set (i := 7) scWithAdded.nd rfl (Or.inl rfl) (pe_overQ R hr3 (pv 3) (pa_cons (pe_addQ R hr3 (pe_mk1 R hr2 rfl (pa_cons pe_int pa_nil)) (pe_mulQ R hr3 (pv 3) (pv 6))) pa_nil))) (pss_one (ps_ret (pe_cd DP hr5 rfl pass0 (pa_cons (pv 1) (pa_cons (pe_cd DM hr5 rfl pass0 (pa_cons (pe_negQ R hr3 (pv 7)) (pa_cons (pe_cd DO hr5 rfl pass0 (pa_cons (pv 4) (pa_cons (pv 4) pa_nil))) pa_nil))) pa_nil)))))) pss_nil) (pss_cons (ps_set (i := 8) scWithAdded.nd rfl (Or.inl rfl) (pe_cd DS hr4 rfl pass0 (pa_cons (pe_overQ R hr3 (pe_mk1 R hr2 rfl (pa_cons pe_int pa_nil)) (pa_cons (pe_cd DD hr4 rfl pass0 (pa_cons (pv 5) (pa_cons (pv 5) pa_nil))) pa_nil)) (pa_cons (pv 5) pa_nil)))) (pss_cons (ps_set (i := 9) scWithAdded.nd rfl (Or.inl rfl) (pe_cd DP hr5 rfl pass0 (pa_cons (pv 1) (pa_cons (pe_cd DM hr5 rfl pass0 (pa_cons (pe_mk1 R hr2 rfl (pa_cons (pe_un un_neg pe_int) pa_nil)) (pa_cons (pe_cd DO hr5 rfl pass0 (pa_cons (pv 8) (pa_cons (pv 4) pa_nil))) pa_nil))) pa_nil)))) (pss_cons (ps_set (i := 9) scWithAdded.nd rfl (Or.inl rfl) (pe_cd DP hr5 rfl pass0 (pa_cons (pv 9) (pa_cons (pe_cd DM hr5 rfl pass0 (pa_cons (pe_mk1 R hr2 rfl (pa_cons (pe_un un_neg pe_int) pa_nil)) (pa_cons (pe_cd DO hr5 rfl pass0 (pa_cons (pv 4) (pa_cons (pv 8) pa_nil))) pa_nil))) pa_nil)))) (pss_one (ps_ret (pe_cd DP hr5 rfl pass0 (pa_cons (pv 9) (pa_cons (pe_cd DM hr5 rfl pass0 (pa_cons (pe_addQ R hr3 (pe_overQ R hr3 (pe_mk1 R hr2 rfl (pa_cons pe_int pa_nil)) (pa_cons (pv 3) pa_nil)) (pv 6)) (pa_cons (pe_cd DO hr5 rfl pass0 (pa_cons (pv 8) (pa_cons (pv 8) pa_nil))) pa_nil))) pa_nil)))))))))))), ?_⟩
    refine st_set (ev_apply (ev_var (P := isM C n n P') rfl hv) (ev_var (P := isV C n a) rfl hx) hn ok.image) fun g H1 e1 pg => ?_
    refine st_set (P := isV C n (rest n M P' a)) (ev_vec (g := (· - ·)) (ev_var (P := isV C n a) rfl (hx.ex e1)) (ev_apply (ev_var (P := isM C n n M) rfl (hu.ex e1)) (ev_var (P := isV C n (ap n P' a)) rfl pg) hn ok.mg) hn ok.row ok.sub) fun t H2 e2 pt => ?_
    refine st_set (ev_dot (ev_var (P := isV C n a) rfl (hx.ex (e1.trans e2))) (ev_var (P := isV C n (ap n P' a)) rfl (IsV.ex pg e2)) ok.share) fun s H3 e3 ps => ?_
    have e13 : Ex H H3 := (e1.trans e2).trans e3
    have Hg : IsV C H3 g n (ap n P' a) := IsV.ex pg (e2.trans e3)
    have Ht : IsV C H3 t n (rest n M P' a) := IsV.ex pt e3
    have Hs : IsQ C H3 s (dt n a (ap n P' a)) := ps
    have Hv := hv.ex e13
    have Hy := hy.ex e13
    clear hu hv hx hy pg pt ps
    refine st_if (evT_zero (ev_var (P := isV C n (rest n M P' a)) rfl Ht)) (fun hb H4 e4 => ?_) (fun hb H4 e4 => ?_)
    · obtain ⟨ok2, q⟩ := same (of_decide_eq_true hb)
      refine st_set (ev_over (ev_var (P := isQ C w') rfl (Hy.ex e4)) (ev_opQ (f := (· + ·)) ev_one (ev_opQ (f := (· * ·)) (ev_var (P := isQ C w') rfl (Hy.ex e4)) (ev_var (P := isQ C (dt n a (ap n P' a))) rfl (Hs.ex e4)) ok.wt ok.s) small_q1 ok2.ws) ok.wt ok2.one ok2.nz) fun k H5 e5 pk => ?_
      have rg : ∀ {σ : L2.St}, σ[4]? = some (some g) → Ev (tVar 4) σ H5 (isV C n (ap n P' a)) := fun h => ev_var h (Hg.ex (e4.trans e5))
      refine st_ret (ev_sumof (ev_var (P := isM C n n P') rfl (Hv.ex (e4.trans e5))) (ev_scaled (ev_negQ (ev_var (P := isQ C (w' / (1 + w' * dt n a (ap n P' a)))) rfl pk) ok2.f) (ev_outer (rg rfl) (rg rfl) hn hn ok.g ok.g) hn hn ok2.f.neg ok2.gg) hn hn ok.p ok2.fgg) fun z H' ex p => q z H' (e13.trans ((e4.trans e5).trans ex)) p
    · obtain ⟨ok2, q⟩ := more (of_decide_eq_false hb)
      refine st_set (ev_scale (ev_over ev_one (ev_dot (ev_var (P := isV C n (rest n M P' a)) rfl (Ht.ex e4)) (ev_var (P := isV C n (rest n M P' a)) rfl (Ht.ex e4)) ok2.uu) small_q1 ok2.du ok2.nz) (ev_var (P := isV C n (rest n M P' a)) rfl (Ht.ex e4)) hn (fun _ => ok2.inv) ok2.uu.l) fun k H5 e5 pk => ?_
      have e45 := e4.trans e5
      refine st_set (ev_sumof (ev_var (P := isM C n n P') rfl (Hv.ex e45)) (ev_scaled ev_mone (ev_outer (ev_var (P := isV C n (way n M P' a)) rfl pk) (ev_var (P := isV C n (ap n P' a)) rfl (Hg.ex e45)) hn hn ok2.c ok.g) hn hn small_two ok2.cg) hn hn ok.p ok2.ncg) fun f1 H6 e6 p6 => ?_
      have pk6 : IsV C H6 k n (way n M P' a) := IsV.ex pk e6
      have e46 := e45.trans e6
      refine st_set (ev_sumof (ev_var (P := isM C n n (fun i j => P' i j + (-1) * (way n M P' a i * ap n P' a j))) rfl p6) (ev_scaled ev_mone (ev_outer (ev_var (P := isV C n (ap n P' a)) rfl (Hg.ex e46)) (ev_var (P := isV C n (way n M P' a)) rfl pk6) hn hn ok.g ok2.c) hn hn small_two ok2.gc) hn hn ok2.f1 ok2.ngc) fun f2 H7 e7 p7 => ?_
      have pk7 : IsV C H7 k n (way n M P' a) := pk6.ex e7
      have e47 := e46.trans e7
      have rk : ∀ {σ : L2.St}, σ[8]? = some (some k) → Ev (tVar 8) σ H7 (isV C n (way n M P' a)) := fun h => ev_var h pk7
      refine st_ret (ev_sumof (ev_var (P := isM C n n (fun i j => (P' i j + (-1) * (way n M P' a i * ap n P' a j)) + (-1) * (ap n P' a i * way n M P' a j))) rfl p7)
        (ev_scaled (ev_opQ (f := (· + ·)) (ev_over ev_one (ev_var (P := isQ C w') rfl (Hy.ex e47)) small_q1 ok.wt ok2.wn) (ev_var (P := isQ C (dt n a (ap n P' a))) rfl (Hs.ex e47)) ok2.iw ok.s) (ev_outer (rk rfl) (rk rfl) hn hn ok2.c ok2.c) hn hn ok2.k ok2.cc) hn hn ok2.f2 ok2.kcc) fun z H' ex p => q z H' (e13.trans (e47.trans ex)) p
end
end PW

set_option Elab.async false
set_option linter.all false
set_option maxRecDepth 100000
set_option maxHeartbeats 4000000
/-! PwI: rows reduced. -/
namespace PW
open PySem PySem.Spec PyProof.Rows L2 PN
abbrev rLen (K : PySem.W.Frag) : List V → Hp → VK → Prop := fun xs H Q => ∃ p ys, xs = [.ref p] ∧ (SqL K H p ys ∨ SqT K H p ys) ∧ Q (.int ys.length) H
abbrev rLst (K : PySem.W.Frag) : List V → Hp → VK → Prop := fun xs H Q => ∃ p ys, xs = [.ref p] ∧ (SqL K H p ys ∨ SqT K H p ys) ∧ ∀ l, H l = none → Q (.ref l) (upd H l (.lst ys))
section
variable {K : PySem.W.Frag} {σ : L2.St} {H : Hp} {ta tb te tl : TE} {n i j k : Nat} {Pi : Nat → MP} {P : MP} {D : Ends} {rest : TS} {a : Addr} {us : List V}
theorem ev_ixL (ha : Ev ta σ H (isLs n Pi)) (hb : Ev tb σ H (isX (.int (i : Int)))) (hi : i < n) : Ev (tOp (rIxL K) ta tb) σ H (Pi i) :=
  ev_op ha hb fun x y H1 _ p1 p2 Q q => by
    obtain ⟨a, us, rfl, h1, h2, h3⟩ := p1
    obtain rfl : y = .int (i : Int) := p2
    obtain ⟨u, k1, k2⟩ := h3 i hi
    exact ⟨a, us, (i : Int), u, rfl, rfl, SqL.of h1, atI_nat k1, q u H1 (Ex.refl H1) k2⟩
theorem ev_ixT (ha : Ev ta σ H (isTs n Pi)) (hb : Ev tb σ H (isX (.int (i : Int)))) (hi : i < n) : Ev (tOp (rIxT K) ta tb) σ H (Pi i) :=
  ev_op ha hb fun x y H1 _ p1 p2 Q q => by
    obtain ⟨a, us, rfl, h1, h2, h3⟩ := p1
    obtain rfl : y = .int (i : Int) := p2
    obtain ⟨u, k1, k2⟩ := h3 i hi
    exact ⟨a, us, (i : Int), u, rfl, rfl, SqT.of h1, atI_nat k1, q u H1 (Ex.refl H1) k2⟩
theorem ev_ixV {C : Addr} {x : Nat → Rat} (ha : Ev ta σ H (isV C n x)) (hb : Ev tb σ H (isX (.int (i : Int)))) (hi : i < n) : Ev (tOp (rIxT K) ta tb) σ H (isQ C (x i)) := ev_ixT (Pi := fun i => isQ C (x i)) ha hb hi
theorem ev_ixM {C : Addr} {w : Nat} {M : Nat → Nat → Rat} (ha : Ev ta σ H (isM C n w M)) (hb : Ev tb σ H (isX (.int (i : Int)))) (hi : i < n) : Ev (tOp (rIxT K) ta tb) σ H (isV C w (M i)) := ev_ixT (Pi := fun i => isV C w (M i)) ha hb hi
theorem ev_lenL (ha : Ev te σ H (isLs n Pi)) : Ev (tCB (rLen K) (tCons te tNil)) σ H (isX (.int (n : Int))) := fun H1 e Q q =>
  ha H1 e _ fun v H2 e2 p => by
    obtain ⟨a, us, rfl, h1, h2, h3⟩ := p
    exact ⟨a, us, rfl, .inl (SqL.of h1), q _ H2 e2 (by rw [h2]; rfl)⟩
theorem ev_lenT (ha : Ev te σ H (isTs n Pi)) : Ev (tCB (rLen K) (tCons te tNil)) σ H (isX (.int (n : Int))) := fun H1 e Q q =>
  ha H1 e _ fun v H2 e2 p => by
    obtain ⟨a, us, rfl, h1, h2, h3⟩ := p
    exact ⟨a, us, rfl, .inr (SqT.of h1), q _ H2 e2 (by rw [h2]; rfl)⟩
theorem ev_lenAt (h : σ[i]? = some (some (.ref a))) (ha : H a = some (.lst us)) : Ev (tCB (rLen K) (tCons (tVar i) tNil)) σ H (isX (.int (us.length : Int))) := fun H1 e Q q =>
  ⟨_, h, a, us, rfl, .inl (SqL.of (e _ _ ha)), q _ H1 (Ex.refl H1) rfl⟩
/-- list(t) -/
theorem ev_listT (ha : Ev te σ H (isTs n Pi)) : Ev (tCB (rLst K) (tCons te tNil)) σ H (isLs n Pi) := fun H1 e Q q =>
  ha H1 e _ fun v H2 e2 p => by
    obtain ⟨a, us, rfl, h1, h2, h3⟩ := p
    exact ⟨a, us, rfl, .inr (SqT.of h1), fun l hl => q _ _ (e2.trans (Ex.new hl)) ⟨l, us, rfl, upd_same, h2, fun i hi => let ⟨u, k1, k2⟩ := h3 i hi; ⟨u, k1, (Pi i).mono _ _ _ (Ex.new hl) k2⟩⟩⟩
theorem fd_range2 {lo hi : Nat} (ha : Ev ta σ H (isX (.int (lo : Int)))) (hb : Ev tb σ H (isX (.int (hi : Int)))) (h1 : lo ≤ hi) (h2 : hi ≤ 1000) : Feeds (iRng2 (tCons ta (tCons tb tNil))) σ H (hi - lo) (fun i H1 x H' => H' = H1 ∧ x = .int ((lo + i : Nat) : Int)) := fun H1 e R r =>
  ha H1 e _ fun v H2 e2 p => hb H2 (e.trans e2) _ fun u H3 e3 p3 => by
    obtain rfl : v = .int (lo : Int) := p
    obtain rfl : u = .int (hi : Int) := p3
    have e0 : ((hi : Int) - (lo : Int)).toNat = hi - lo := by omega
    refine ⟨(lo : Int), (hi : Int), rfl, ⟨by omega, by omega, by omega, by omega⟩, r _ (fun _ => True) H3 (e2.trans e3) ?_ fun _ _ => trivial⟩
    rw [e0]
    exact (walk_range (lo := (lo : Int)) (n := hi - lo)).mono (fun _ h => h) fun i H3 x H' _ _ y => ⟨y.1, by rw [y.2]; show V.int ((lo : Int) + (i : Int)) = _; rw [Int.natCast_add]⟩
/-! ### loops by a state of their own -/
theorem st_forR {g : TG} {tb : TS} (h : Ev ta σ H (isX (.int (n : Int)))) (hn : n ≤ 1000) (Pv : Nat → L2.St → Hp → Prop) (h0 : ∀ H2, Ex H H2 → Pv 0 σ H2)
    (hs : ∀ i σ' H', i < n → Pv i σ' H' → g (.int (i : Int)) σ' H' fun σ2 H5 => tb { D with nx := Pv (i + 1), ct := Pv (i + 1), bk := rest D } σ2 H5) (hd : ∀ σ' H', Pv n σ' H' → rest D σ' H') : tSeq (tFor (iRng1 (tCons ta tNil)) g tb) rest D σ H :=
  h H (Ex.refl H) _ fun v H2 e2 p => by
    obtain rfl : v = .int (n : Int) := p
    have e0 : ((n : Int)).toNat = n := Int.toNat_natCast n
    refine ⟨(n : Int), rfl, by omega, by omega, ?_⟩
    rw [e0]
    refine for_it (D := { D with nx := rest D }) (walk_range (lo := 0) (n := n)) Pv (h0 H2 e2) (fun _ _ _ _ _ => trivial) (fun i x σ' H3 H4 hi p y => ?_) hd
    obtain ⟨rfl, rfl⟩ := y
    have := hs i σ' H4 hi p
    rwa [← Int.zero_add (i : Int)] at this
theorem st_forEL {g : TG} {tb : TS} (hv : σ[k]? = some (some (.ref a))) (ha : H a = some (.lst us)) (Pv : Nat → L2.St → Hp → Prop) (h0 : Pv 0 σ H) (hG : ∀ i σ' H', Pv i σ' H' → H' a = some (.lst us))
    (hs : ∀ i x T σ' H', us[i]? = some x → Pv i σ' H' → H' T = none → g (.ref T) σ' (upd H' T (.tup [.int (i : Int), x])) fun σ2 H5 => tb { D with nx := Pv (i + 1), ct := Pv (i + 1), bk := rest D } σ2 H5) (hd : ∀ σ' H', Pv us.length σ' H' → rest D σ' H') :
    tSeq (tFor (iEnum K (tCons (tVar k) tNil)) g tb) rest D σ H := by
  refine ⟨_, hv, a, us, rfl, SqL.of ha, for_it (D := { D with nx := rest D }) (walk_enum (K := K) (a := a) (xs := us)) Pv h0 (fun i σ' H' _ p => SqL.of (hG i σ' H' p)) (fun i x σ' H3 H4 hi p y => ?_) hd⟩
  obtain ⟨T, i', x', rfl, k2, rfl, k4, k5⟩ := y
  cases k4
  exact hs i x' T σ' H3 k5 p k2
theorem st_forET {g : TG} {tb : TS} (hv : σ[k]? = some (some (.ref a))) (ha : H a = some (.tup us)) (Pv : Nat → L2.St → Hp → Prop) (h0 : Pv 0 σ H) (hG : ∀ i σ' H', Pv i σ' H' → H' a = some (.tup us))
    (hs : ∀ i x T σ' H', us[i]? = some x → Pv i σ' H' → H' T = none → g (.ref T) σ' (upd H' T (.tup [.int (i : Int), x])) fun σ2 H5 => tb { D with nx := Pv (i + 1), ct := Pv (i + 1), bk := rest D } σ2 H5) (hd : ∀ σ' H', Pv us.length σ' H' → rest D σ' H') :
    tSeq (tFor (iEnT K (tCons (tVar k) tNil)) g tb) rest D σ H := by
  have W : Walk (ItEnT K a) us.length (fun H => SqT K H a us) (fun i H v H' => ∃ T x, v = .ref T ∧ H T = none ∧ H' = upd H T (.tup [.int (i : Int), x]) ∧ us[i]? = some x) :=
    ⟨fun i H4 hi g => ⟨us, us[i], g, by simp [hi]⟩, fun H4 g => ⟨us, g, rfl⟩, fun i H4 v H' hi g y => let ⟨T, x, k1, k2, k3, k4⟩ := y; ⟨T, x, k1, k2, k3, k4 us g⟩⟩
  refine ⟨_, hv, a, us, rfl, SqT.of ha, for_it (D := { D with nx := rest D }) W Pv h0 (fun i σ' H' _ p => SqT.of (hG i σ' H' p)) (fun i x σ' H3 H4 hi p y => ?_) hd⟩
  obtain ⟨T, x', rfl, k2, rfl, k5⟩ := y
  exact hs i x' T σ' H3 k5 p k2
/-! ### lists written -/
theorem st_new (q : ∀ a, H a = none → rest D (σ.set i (some (.ref a))) (upd H a (.lst []))) : tSeq (tAsg (tLst tNil) (gName i)) rest D σ H := ⟨Nat.zero_le _, fun a ha => q a ha⟩
theorem st_append (hl : σ[i]? = some (some (.ref a))) (hD : H a = some (.lst us)) (hu : us.length ≤ 1000) (h : Ev te σ H P) (q : ∀ v H2, Ex H H2 → P.p v H2 → D.nx σ (upd H2 a (.lst (us ++ [v])))) :
    tDrop (tBM K "list" rAppend (tVar i) (tCons te tNil)) D σ H :=
  ⟨_, hl, .inl ⟨rfl, _, SqL.of hD⟩, h.use fun v H2 e p => ⟨a, us, v, rfl, rfl, e _ _ hD, sz1000 hu, q v H2 e p⟩⟩
theorem ixN_nat {n k : Nat} (h : k < n) : ixN n (k : Int) = some k := by
  unfold ixN
  rw [if_pos (by omega), if_pos (by omega)]
  simp
theorem st_put (hl : σ[i]? = some (some (.ref a))) (hj : σ[j]? = some (some (.int (k : Int)))) (hD : H a = some (.lst us)) (hk : k < us.length) (h : Ev te σ H P) (q : ∀ v H2, Ex H H2 → P.p v H2 → D.nx σ (upd H2 a (.lst (us.set k v)))) :
    tAsg te (gSub (tVar i) (tVar j) rSetL) D σ H :=
  h.use fun v H2 e p => ⟨_, hl, _, hj, a, us, (k : Int), k, rfl, rfl, e _ _ hD, ixN_nat hk, q v H2 e p⟩
/-- xs[p], xs[f] = xs[f], xs[p] -/
theorem st_swap {p f : Nat} {x y : V} (hl : σ[i]? = some (some (.ref a))) (hp : σ[j]? = some (some (.int (p : Int)))) (hf : σ[k]? = some (some (.int (f : Int)))) (hD : H a = some (.lst us)) (hx : us[f]? = some x) (hy : us[p]? = some y)
    (q : ∀ T, H T = none → D.nx σ (upd (upd (upd H T (.tup [x, y])) a (.lst (us.set p x))) a (.lst ((us.set p x).set f y)))) :
    tAsg (tTup (tCons (tOp (rIxL K) (tVar i) (tVar k)) (tCons (tOp (rIxL K) (tVar i) (tVar j)) tNil))) (gTup K 2 (gCons (gSub (tVar i) (tVar j) rSetL) (gCons (gSub (tVar i) (tVar k) rSetL) gNil))) D σ H := by
  have lp := (List.getElem?_eq_some_iff.mp hy).1
  have lf := (List.getElem?_eq_some_iff.mp hx).1
  refine ⟨_, hl, _, hf, a, us, (f : Int), x, rfl, rfl, SqL.of hD, atI_nat hx, _, hl, _, hp, a, us, (p : Int), y, rfl, rfl, SqL.of hD, atI_nat hy, by show 2 ≤ sizeLine; decide, fun T hT => ?_⟩
  have hTa : a ≠ T := fun e => by rw [e, hT] at hD; cases hD
  have h1 : upd H T (.tup [x, y]) a = some (.lst us) := by rw [upd_ne hTa]; exact hD
  refine ⟨T, [x, y], rfl, SqT.of upd_same, rfl, x, [y], rfl, ⟨_, hl, _, hp, a, us, (p : Int), p, rfl, rfl, h1, ixN_nat lp, ?_⟩⟩
  exact ⟨y, [], rfl, ⟨_, hl, _, hf, a, us.set p x, (f : Int), f, rfl, rfl, upd_same, ixN_nat (by rw [List.length_set]; exact lf), ⟨rfl, q T hT⟩⟩⟩
end
/-- the vectors of a list -/
def LsV (C : Addr) (w : Nat) (us : List V) (n : Nat) (R : Nat → Nat → Rat) (H : Hp) : Prop := us.length = n ∧ ∀ i, i < n → ∃ u, us[i]? = some u ∧ IsV C H u w (R i)
def LsQ (C : Addr) (us : List V) (n : Nat) (x : Nat → Rat) (H : Hp) : Prop := us.length = n ∧ ∀ i, i < n → ∃ u, us[i]? = some u ∧ IsQ C H u (x i)
section
variable {C : Addr} {w n k : Nat} {us : List V} {R : Nat → Nat → Rat} {x : Nat → Rat} {H H' : Hp} {v : V}
theorem LsV.exl (h : LsV C w us n R H) (e : ExL H H') : LsV C w us n R H' := ⟨h.1, fun i hi => let ⟨u, k1, k2⟩ := h.2 i hi; ⟨u, k1, k2.exl e⟩⟩
theorem LsQ.exl (h : LsQ C us n x H) (e : ExL H H') : LsQ C us n x H' := ⟨h.1, fun i hi => let ⟨u, k1, k2⟩ := h.2 i hi; ⟨u, k1, k2.exl e⟩⟩
theorem LsV.snoc (h : LsV C w us n R H) {y : Nat → Rat} (hv : IsV C H v w y) (hR : ∀ j, j < w → R n j = y j) : LsV C w (us ++ [v]) (n + 1) R H := by
  refine ⟨by rw [List.length_append, List.length_singleton, h.1], fun i hi => ?_⟩
  by_cases e : i < n
  · obtain ⟨u, k1, k2⟩ := h.2 i e
    exact ⟨u, by rw [List.getElem?_append_left (by rw [h.1]; exact e)]; exact k1, k2⟩
  · have e2 : i = n := by omega
    subst e2
    exact ⟨v, by rw [List.getElem?_append_right (by rw [h.1]; exact Nat.le_refl _), h.1]; simp, hv.congr fun j hj => (hR j hj).symm⟩
theorem LsQ.set (h : LsQ C us n x H) {q : Rat} (hv : IsQ C H v q) : LsQ C (us.set k v) n (fun j => if j = k then q else x j) H := by
  refine ⟨by rw [List.length_set]; exact h.1, fun i hi => ?_⟩
  by_cases e : i = k
  · subst e
    exact ⟨v, by rw [List.getElem?_set_self (by rw [h.1]; exact hi)], by show IsQ C H v (if i = i then q else x i); rw [if_pos rfl]; exact hv⟩
  · obtain ⟨u, k1, k2⟩ := h.2 i hi
    exact ⟨u, by rw [List.getElem?_set_ne (Ne.symm e)]; exact k1, by show IsQ C H u (if i = k then q else x i); rw [if_neg e]; exact k2⟩
theorem LsV.swap {p f : Nat} {a b : V} (h : LsV C w us n R H) (ha : us[f]? = some a) (hb : us[p]? = some b) : LsV C w ((us.set p a).set f b) n (sw R p f) H := by
  have lp := (List.getElem?_eq_some_iff.mp hb).1
  have lf := (List.getElem?_eq_some_iff.mp ha).1
  refine ⟨by rw [List.length_set, List.length_set]; exact h.1, fun i hi => ?_⟩
  unfold sw
  by_cases e : i = f
  · subst e
    obtain ⟨u, k1, k2⟩ := h.2 p (by rw [← h.1]; exact lp)
    rw [hb] at k1; cases k1
    exact ⟨b, by rw [List.getElem?_set_self (by rw [List.length_set]; exact lf)], by rw [if_pos rfl]; exact k2⟩
  · by_cases e' : i = p
    · subst e'
      obtain ⟨u, k1, k2⟩ := h.2 f (by rw [← h.1]; exact lf)
      rw [ha] at k1; cases k1
      exact ⟨a, by rw [List.getElem?_set_ne (Ne.symm e), List.getElem?_set_self lp], by rw [if_neg e, if_pos rfl]; exact k2⟩
    · obtain ⟨u, k1, k2⟩ := h.2 i hi
      exact ⟨u, by rw [List.getElem?_set_ne (Ne.symm e), List.getElem?_set_ne (Ne.symm e')]; exact k1, by rw [if_neg e, if_neg e']; exact k2⟩
theorem LsV.p {l : Addr} (h : LsV C w us n R H) (hl : H l = some (.lst us)) : (isLs n fun i => isV C w (R i)).p (.ref l) H := ⟨l, us, rfl, hl, h.1, h.2⟩
theorem isLs.lsv (h : (isLs n fun i => isV C w (R i)).p v H) : ∃ l us, v = .ref l ∧ H l = some (.lst us) ∧ LsV C w us n R H := let ⟨l, us, h1, h2, h3, h4⟩ := h; ⟨l, us, h1, h2, h3, h4⟩
end
theorem pvt_at {R : Nat → Nat → Rat} {c : Nat} : ∀ {k i s : Nat}, i < k → (∀ j, j < i → R (s + j) c = 0) → R (s + i) c ≠ 0 → pvt R c k s = some (s + i)
  | 0, i, s, h, _, _ => by omega
  | k + 1, 0, s, h, _, h2 => by
    unfold pvt
    rw [Nat.add_zero] at h2
    rw [if_neg h2]
    rfl
  | k + 1, i + 1, s, h, h1, h2 => by
    unfold pvt
    have h0 := h1 0 (by omega)
    rw [Nat.add_zero] at h0
    rw [if_pos h0, pvt_at (i := i) (by omega) (fun j hj => by have := h1 (j + 1) (by omega); rwa [show s + (j + 1) = s + 1 + j by omega] at this) (by rwa [show s + 1 + i = s + (i + 1) by omega])]
    rw [show s + 1 + i = s + (i + 1) by omega]
theorem pvt_no {R : Nat → Nat → Rat} {c : Nat} : ∀ {k s : Nat}, (∀ j, j < k → R (s + j) c = 0) → pvt R c k s = none
  | 0, s, _ => rfl
  | k + 1, s, h1 => by
    unfold pvt
    have h0 := h1 0 (by omega)
    rw [Nat.add_zero] at h0
    rw [if_pos h0]
    exact pvt_no fun j hj => by have := h1 (j + 1) (by omega); rwa [show s + (j + 1) = s + 1 + j by omega] at this
abbrev sPivot : Stmt := topS 29
abbrev sCleared : Stmt := topS 30
abbrev sReduced : Stmt := topS 31
abbrev sKernel : Stmt := topS 32
abbrev sSolve : Stmt := topS 33
def oV : Option Nat → V
  | none => .non
  | some f => .int (f : Int)
def spPivot (C : Addr) : Sp := fun vs H Q _ => ∃ (u : V) (s c n w : Nat) (R : Nat → Nat → Rat), vs = [u, .int (s : Int), .int (c : Int)] ∧ (isLs n fun i => isV C w (R i)).p u H ∧ s ≤ n ∧ n ≤ 1000 ∧ c < w ∧ ∀ H', Ex H H' → Q (oV (pvt R c (n - s) s)) H'
def spCleared (C : Addr) : Sp := fun vs H Q _ => ∃ (u : V) (p c n w : Nat) (R : Nat → Nat → Rat), vs = [u, .int (p : Int), .int (c : Int)] ∧ (isLs n fun i => isV C w (R i)).p u H ∧ p < n ∧ n ≤ 1000 ∧ c < w ∧ w ≤ 1000 ∧ R p c ≠ 0 ∧ StepOk n w c p R ∧
  ∀ l us H', Ex H H' → H l = none → H' l = some (.lst us) → LsV C w us n (clr R p c) H' → Q (.ref l) H'
/-- two things -/
def isPr (P1 P2 : MP) : MP := ⟨fun v H => ∃ T a b, v = .ref T ∧ H T = some (.tup [a, b]) ∧ P1.p a H ∧ P2.p b H, fun _ _ _ e ⟨T, a, b, h1, h2, h3, h4⟩ => ⟨T, a, b, h1, e _ _ h2, P1.mono _ _ _ e h3, P2.mono _ _ _ e h4⟩⟩
def pvs (l : List Nat) : List V := l.map fun c : Nat => V.int (c : Int)
/-- rows and pivots -/
def isRed (C : Addr) (w : Nat) (s : RS) : MP := isPr (isM C s.piv.length w s.R) (isT (pvs s.piv))
def spReduced (C : Addr) : Sp := fun vs H Q _ => ∃ (u : V) (h w : Nat) (R : Nat → Nat → Rat), vs = [u, .int (w : Int)] ∧ IsM C H u h w R ∧ h ≤ 1000 ∧ w ≤ 1000 ∧ RedOk h w R ∧ ∀ z H', Ex H H' → (isRed C w (red h R w)).p z H' → Q z H'
section
variable {P : Program} {w : World} {K : PySem.W.Frag} {mg : Str → Option Value} {base : Heap} {f C fS fN fV fC : Addr} {fd fdS fdN fdV fdC : FuncData}
theorem scPivot : FnScope ["rows", "start", "column", "index"] ["rows", "start", "column"] (defScope sPivot) := ⟨rfl, rfl, rfl, by decide +kernel, rfl, by decide +kernel, by decide +kernel⟩
theorem ok_pivot (F : FnP K "pivot_row" "pivot_row" sPivot f fd) (R : RK P w K mg base C) (mr : mg "range" = none) (mn : mg "len" = none) : FnOk P w K mg base CX0 1 f fd ["rows", "start", "column"] (spPivot C) := by
  refine F.ok scPivot (fun vs H Q E h => ?_) (fun cdv A outer s H vs Q E hr h => ?_)
  · obtain ⟨u, s, c, n, w, R, rfl, _⟩ := h
    rfl
  · obtain ⟨u, s, c, n, w', M, rfl, hu, hs, hn, hc, k⟩ := h
    refine ⟨_, PSs.nox (pss_cons (ps_for PassesOwn.never rfl (pi_range2 rfl mr (pa_cons (pv 1) (pa_cons (pe_callB call_len_seq (by rfl) mn PySem.boot_len (pa_cons (pv 0) pa_nil)) pa_nil))) (pg_name (i := 3) scPivot.nd rfl (Or.inl rfl)) (pss_one (ps_if (pt_cmpR op_ne (pe_fld (pe_ix ix_tup (pe_ix ix_list (pv 0) (pv 3) (fun _ _ => rfl)) (pv 2) (fun _ _ => rfl)) rfl) pe_int (nomark _)) (pss_one (ps_ret (pv 3))) pss_nil))) (pss_one (ps_ret pe_non))), ?_⟩
    refine st_for (fd_range2 (ev_var (P := isX (.int (s : Int))) rfl rfl) (ev_lenL (K := K) (ev_var (P := isLs n fun i => isV C w' (M i)) rfl hu)) hs hn) (fun i σ H' => ∃ x', σ = [some u, some (.int (s : Int)), some (.int (c : Int)), x'] ∧ ∀ j, j < i → M (s + j) c = 0) (fun H2 e2 => ⟨none, rfl, fun j hj => by omega⟩) ?_ ?_
    · rintro i y σ H2 H3 H4 hi e2 e3 ⟨x', rfl, hz⟩ ⟨rfl, rfl⟩
      have hu3 := (isLs n fun i => isV C w' (M i)).mono _ _ _ (e2.trans e3) hu
      refine st_if (b := !decide ((M (s + i) c).num = 0)) (evT_neI (j := 0) (ev_top R.T (ev_ixV (K := K) (ev_ixL (K := K) (Pi := fun i => isV C w' (M i)) (ev_var rfl hu3) (ev_var (P := isX (.int ((s + i : Nat) : Int))) rfl rfl) (by omega)) (ev_var (P := isX (.int (c : Int))) rfl rfl) hc)) ev_c) (fun hb H5 e5 => ?_) (fun hb H5 e5 => ?_)
      · have h1 : ¬ (M (s + i) c).num = 0 := fun z => by rw [decide_eq_true z] at hb; cases hb
        have h2 : M (s + i) c ≠ 0 := fun z => h1 (by rw [z]; rfl)
        refine st_ret (ev_var (P := isX (.int ((s + i : Nat) : Int))) rfl rfl) fun v H6 e6 p6 => ?_
        obtain rfl : v = .int ((s + i : Nat) : Int) := p6
        have := k H6 ((e2.trans e3).trans (e5.trans e6))
        rw [pvt_at (by omega) hz h2] at this
        exact this
      · have h1 : (M (s + i) c).num = 0 := by
          by_cases z : (M (s + i) c).num = 0
          · exact z
          · rw [decide_eq_false z] at hb; cases hb
        refine ⟨e3.trans e5, _, rfl, fun j hj => ?_⟩
        by_cases e : j = i
        · rw [e]; exact Rat.num_eq_zero.mp h1
        · exact hz j (by omega)
    · rintro σ H2 H3 e2 e3 ⟨x', rfl, hz⟩
      refine st_ret ev_c fun v H6 e6 p6 => ?_
      obtain rfl : v = .non := p6
      have := k H6 ((e2.trans e3).trans e6)
      rw [pvt_no hz] at this
      exact this
theorem scCleared : FnScope ["rows", "place", "column", "lead", "unit", "out", "index", "row"] ["rows", "place", "column"] (defScope sCleared) := ⟨rfl, rfl, rfl, by decide +kernel, rfl, by decide +kernel, by decide +kernel⟩
theorem ok_cleared (F : FnP K "cleared" "cleared" sCleared f fd) (R : RK P w K mg base C) (me : mg "enumerate" = none) (DS : DefOk P w K mg base CX0 "scale" 4 ["factor", "a"] (spScale C) fS fdS)
    (DN : DefOk P w K mg base CX0 "minus" 4 ["a", "b"] (spPlus C (· - ·)) fN fdN) : FnOk P w K mg base CX0 5 f fd ["rows", "place", "column"] (spCleared C) := by
  refine F.ok scCleared (fun vs H Q E h => ?_) (fun cdv A outer s H vs Q E hr h => ?_)
  · obtain ⟨u, s, c, n, w, R, rfl, _⟩ := h
    rfl
  · obtain ⟨u, p, c, n, w', M, rfl, hu, hp, hn, hc, hw, hz, ok, k⟩ := h
    have hr4 : Room 4 _ := hr
    have hr3 : Room 3 _ := hr.mono (by decide)
    have hr2 : Room 2 _ := hr.mono (by decide)
    refine ⟨_, PSs.nox (pss_cons (ps_set (i := 3) scCleared.nd rfl (Or.inl rfl) (pe_ix ix_list (pv 0) (pv 1) (fun _ _ => rfl))) (pss_cons (ps_set (i := 4) scCleared.nd rfl (Or.inl rfl) (pe_cd DS hr4 rfl pass0 (pa_cons (pe_overQ R hr3 (pe_mk1 R hr2 rfl (pa_cons pe_int pa_nil)) (pa_cons (pe_ix ix_tup (pv 3) (pv 2) (fun _ _ => rfl)) pa_nil)) (pa_cons (pv 3) pa_nil)))) (pss_cons (ps_set (i := 5) scCleared.nd rfl (Or.inl rfl) (pe_lst pa_nil)) (pss_cons (ps_for PassesOwn.never rfl (pi_enum (by rfl) me (pa_cons (pv 0) pa_nil)) (pg_tup rfl (pgs_cons (pg_name (i := 6) scCleared.nd rfl (Or.inl rfl)) (pgs_cons (pg_name (i := 7) scCleared.nd rfl (Or.inl rfl)) pgs_nil))) (pss_one (ps_if (pt_cmpR op_eq (pv 6) (pv 1) (nomark _)) (pss_one (ps_expr (pe_bm PySem.F.plainAttrs_list PySem.F.slot_list_append PySem.F.type_list_append mt_append (pv 5) (pa_cons (pv 4) pa_nil)))) (pss_one (ps_if (pt_cmpR op_eq (pe_fld (pe_ix ix_tup (pv 7) (pv 2) (fun _ _ => rfl)) rfl) pe_int (nomark _)) (pss_one (ps_expr (pe_bm PySem.F.plainAttrs_list PySem.F.slot_list_append PySem.F.type_list_append mt_append (pv 5) (pa_cons (pv 7) pa_nil)))) (pss_one (ps_expr (pe_bm PySem.F.plainAttrs_list PySem.F.slot_list_append PySem.F.type_list_append mt_append (pv 5) (pa_cons (pe_cd DN hr4 rfl pass0 (pa_cons (pv 7) (pa_cons (pe_cd DS hr4 rfl pass0 (pa_cons (pe_ix ix_tup (pv 7) (pv 2) (fun _ _ => rfl)) (pa_cons (pv 4) pa_nil))) pa_nil))) pa_nil))))))))) (pss_one (ps_ret (pv 5))))))), ?_⟩
    obtain ⟨l, us, rfl, hl, hus⟩ := isLs.lsv hu
    refine st_set (ev_ixL (K := K) (Pi := fun i => isV C w' (M i)) (ev_var rfl hu) (ev_var (P := isX (.int (p : Int))) rfl rfl) hp) fun le H1 e1 p1 => ?_
    refine st_set (ev_scale (ev_over ev_one (ev_ixV (K := K) (ev_var (P := isV C w' (M p)) rfl p1) (ev_var (P := isX (.int (c : Int))) rfl rfl) hc) small_q1 (ok.rows p hp c hc) hz) (ev_var (P := isV C w' (M p)) rfl p1) hw (fun _ => ok.inv) (ok.rows p hp)) fun un H2 e2 p2 => ?_
    refine st_new fun o ho => ?_
    have e02 := e1.trans e2
    have hoH : H o = none := e02.free ho
    have hl2 : H2 l = some (.lst us) := e02 _ _ hl
    have hlo : l ≠ o := fun e => by rw [e, ho] at hl2; cases hl2
    refine st_forEL (K := K) (a := l) (us := us) rfl (by rw [upd_ne hlo]; exact hl2) (fun i σ H' => ∃ ws x1 x2, σ = [some (.ref l), some (.int (p : Int)), some (.int (c : Int)), some le, some un, some (.ref o), x1, x2] ∧ Ex H2 H' ∧ H' o = some (.lst ws) ∧ LsV C w' ws i (clr M p c) H')
      ⟨[], none, none, rfl, Ex.new ho, upd_same, rfl, fun j hj => by omega⟩ (fun i σ' H' ⟨ws, x1, x2, _, e, _⟩ => e _ _ hl2) ?_ ?_
    · rintro i x T σ H3 hx ⟨ws, x1, x2, rfl, e3, hws, hls⟩ hT
      have hi : i < n := by rw [← hus.1]; exact (List.getElem?_eq_some_iff.mp hx).1
      refine pair_tgt upd_same ?_
      have eT : Ex H3 (upd H3 T (.tup [.int (i : Int), x])) := Ex.new hT
      have e4 := e3.trans eT
      obtain ⟨x', k1, k2⟩ := hus.2 i hi
      rw [hx] at k1; cases k1
      have px : ∀ {H'}, Ex (upd H3 T (.tup [.int (i : Int), x])) H' → IsV C H' x w' (M i) := fun e => k2.ex (e02.trans (e4.trans e))
      have pun : ∀ {H'}, Ex (upd H3 T (.tup [.int (i : Int), x])) H' → IsV C H' un w' (fun j => 1 / M p c * M p j) := fun e => IsV.ex p2 (e4.trans e)
      have fin : ∀ v H5 y, Ex (upd H3 T (.tup [.int (i : Int), x])) H5 → IsV C H5 v w' y → (∀ j, j < w' → clr M p c i j = y j) → ∃ ws' x1 x2, [some (.ref l), some (.int (p : Int)), some (.int (c : Int)), some le, some un, some (.ref o), some (.int (i : Int)), some x] = [some (.ref l), some (.int (p : Int)), some (.int (c : Int)), some le, some un, some (.ref o), x1, x2] ∧ Ex H2 (upd H5 o (.lst (ws ++ [v]))) ∧ upd H5 o (.lst (ws ++ [v])) o = some (.lst ws') ∧ LsV C w' ws' (i + 1) (clr M p c) (upd H5 o (.lst (ws ++ [v]))) := fun v H5 y e5 pv hy => by
        have hwo : H5 o = some (.lst ws) := e5 _ _ (eT _ _ hws)
        have eL : ExL H5 (upd H5 o (.lst (ws ++ [v]))) := (ExL.refl H5).mut hwo
        exact ⟨ws ++ [v], _, _, rfl, (e4.trans e5).mut ho, upd_same, ((hls.exl ((eT.trans e5).exl.trans eL)).snoc (pv.exl eL) hy)⟩
      have lw : ws.length ≤ 1000 := by rw [hls.1]; omega
      refine st_if (evT_eqI (i := (i : Int)) (j := (p : Int)) (ev_var rfl rfl) (ev_var rfl rfl)) (fun hb H5 e5 => ?_) (fun hb H5 e5 => ?_)
      · have hip : i = p := by have := of_decide_eq_true hb; omega
        refine st_append (K := K) (a := o) rfl (e5 _ _ (eT _ _ hws)) lw (ev_var (P := isV C w' (fun j => 1 / M p c * M p j)) rfl (pun e5)) fun v H6 e6 p6 => fin v H6 _ (e5.trans e6) p6 fun j hj => ?_
        unfold clr; rw [if_pos hip]
      · have hip : ¬ i = p := by have := of_decide_eq_false hb; omega
        refine st_if (b := decide ((M i c).num = 0)) (evT_eqI (j := 0) (ev_top R.T (ev_ixV (K := K) (ev_var (P := isV C w' (M i)) rfl (px e5)) (ev_var (P := isX (.int (c : Int))) rfl rfl) hc)) ev_c) (fun hb H6 e6 => ?_) (fun hb H6 e6 => ?_)
        · have h0 : M i c = 0 := Rat.num_eq_zero.mp (of_decide_eq_true hb)
          have e56 := e5.trans e6
          refine st_append (K := K) (a := o) rfl (e56 _ _ (eT _ _ hws)) lw (ev_var (P := isV C w' (M i)) rfl (px e56)) fun v H7 e7 p7 => fin v H7 _ (e56.trans e7) p7 fun j hj => ?_
          unfold clr; rw [if_neg hip, h0]; grind
        · have e56 := e5.trans e6
          refine st_append (K := K) (a := o) rfl (e56 _ _ (eT _ _ hws)) lw (ev_vec (g := (· - ·)) (ev_var (P := isV C w' (M i)) rfl (px e56)) (ev_scale (ev_ixV (K := K) (ev_var (P := isV C w' (M i)) rfl (px e56)) (ev_var (P := isX (.int (c : Int))) rfl rfl) hc) (ev_var (P := isV C w' (fun j => 1 / M p c * M p j)) rfl (pun e56)) hw (fun _ => ok.rows i hi c hc) ok.unit) hw (ok.rows i hi) (ok.prod i hi)) fun v H7 e7 p7 => fin v H7 _ (e56.trans e7) p7 fun j hj => ?_
          unfold clr; rw [if_neg hip]
    · rintro σ H3 ⟨ws, x1, x2, rfl, e3, hws, hls⟩
      rw [hus.1] at hls
      exact ⟨_, rfl, k o ws H3 (e02.trans e3) hoH hws hls⟩
end
end PW

set_option Elab.async false
set_option linter.all false
set_option maxRecDepth 100000
set_option maxHeartbeats 4000000
/-! PwJ: rows reduced, the kernel, equations solved. -/
namespace PW
open PySem PySem.Spec PyProof.Rows L2 PN
section
variable {K : PySem.W.Frag} {σ : L2.St} {H : Hp} {ta tb te tl tc : TE} {n i j k : Nat} {Pi : Nat → MP} {P P1 P2 : MP} {D : Ends} {rest : TS} {a : Addr} {us : List V} {E : XK} {C : Addr} {w h : Nat} {R : Nat → Nat → Rat}
theorem ev_takeL (ha : Ev te σ H (isLs n Pi)) (hb : Ev tb σ H (isX (.int (k : Int)))) (hk : k ≤ n) : Ev (tSl (rSlL K) te tNoPart (tPart tb)) σ H (isLs k Pi) := fun H1 e Q q =>
  ha H1 e _ fun v H2 e2 p => hb H2 (e.trans e2) _ fun u H3 e3 p3 => by
    obtain ⟨a, us, rfl, h1, h2, h3⟩ := p
    obtain rfl : u = .int (k : Int) := p3
    refine ⟨(k : Int), rfl, a, us, rfl, SqL.of (e3 _ _ h1), fun p hp => q _ _ ((e2.trans e3).trans (Ex.new hp)) ⟨p, _, rfl, upd_same, ?_, fun i hi => ?_⟩⟩
    · unfold cutV
      rw [HT.sIx_none, HT.sIx_nat, List.length_take, List.length_drop]
      omega
    · obtain ⟨u, k1, k2⟩ := h3 i (by omega)
      refine ⟨u, ?_, (Pi i).mono _ _ _ (e3.trans (Ex.new hp)) k2⟩
      unfold cutV
      rw [HT.sIx_none, HT.sIx_nat, List.drop_zero, List.getElem?_take, if_pos (by omega)]
      exact k1
theorem ev_tup2 (ha : Ev ta σ H P1) (hb : Ev tb σ H P2) : Ev (tTup (tCons ta (tCons tb tNil))) σ H (isPr P1 P2) := fun H1 e Q q =>
  ha H1 e _ fun v H2 e2 p => hb H2 (e.trans e2) _ fun u H3 e3 p3 =>
    ⟨by show 2 ≤ sizeLine; decide, fun T hT => q _ _ ((e2.trans e3).trans (Ex.new hT)) ⟨T, v, u, rfl, upd_same, P1.mono _ _ _ (e3.trans (Ex.new hT)) p, P2.mono _ _ _ (Ex.new hT) p3⟩⟩
theorem ev_tupX (h : Ev te σ H (isL us)) : Ev (tCB (rTup K) (tCons te tNil)) σ H (isT us) := fun H1 e Q q =>
  h H1 e _ fun v H2 e2 p => by
    obtain ⟨a, rfl, ha⟩ := p
    exact ⟨a, us, rfl, .inl ⟨SqL.of ha, fun l hn => q _ _ (e2.trans (Ex.new hn)) ⟨l, rfl, upd_same⟩⟩⟩
theorem st_pair (h : Ev te σ H (isPr P1 P2)) (q : ∀ a b H2, Ex H H2 → P1.p a H2 → P2.p b H2 → D.nx ((σ.set i (some a)).set j (some b)) H2) : tAsg te (gTup K 2 (gCons (gName i) (gCons (gName j) gNil))) D σ H :=
  h.use fun v H2 e p => let ⟨T, a, b, h1, h2, h3, h4⟩ := p; by subst h1; exact pair_tgt h2 (q a b H2 e h3 h4)
theorem eqV_nat (a b : Nat) : eqV (.int (a : Int)) (.int (b : Int)) = (a == b) := by
  show ((a : Int) == (b : Int)) = (a == b)
  rw [Bool.eq_iff_iff, beq_iff_eq, beq_iff_eq]
  omega
theorem inV_nat (i : Nat) (l : List Nat) : inV (.int (i : Int)) (pvs l) = decide (i ∈ l) := by
  unfold inV pvs
  rw [List.any_map, Bool.eq_iff_iff, List.any_eq_true, decide_eq_true_iff]
  constructor
  · rintro ⟨x, hx, hy⟩
    have hy : eqV (.int (x : Int)) (.int (i : Int)) = true := hy
    rw [eqV_nat, beq_iff_eq] at hy
    rw [← hy]; exact hx
  · intro hi
    exact ⟨i, hi, by show eqV (.int (i : Int)) (.int (i : Int)) = true; rw [eqV_nat]; simp⟩
theorem flat_pvs (l : List Nat) : (pvs l).all flatV = true := by
  unfold pvs
  rw [List.all_eq_true]
  intro x hx
  obtain ⟨c, _, rfl⟩ := List.mem_map.mp hx
  rfl
theorem evT_in {l : List Nat} (ha : Ev ta σ H (isX (.int (i : Int)))) (hb : Ev tb σ H (isT (pvs l))) : EvT (tTest (tOp (rIn K false) ta tb)) σ H (decide (i ∈ l)) := fun H1 e Q q =>
  ha H1 e _ fun x H2 e2 p => hb H2 (e.trans e2) _ fun y H3 e3 p3 => by
    obtain rfl : x = .int (i : Int) := p
    obtain ⟨a, rfl, ha⟩ := p3
    refine ⟨a, _, rfl, .inr (SqT.of ha), rfl, flat_pvs l, _, rfl, ?_⟩
    rw [if_neg Bool.false_ne_true, inV_nat]
    exact q H3 (e2.trans e3)
theorem evT_notN {v : V} (ha : Ev ta σ H (isX v)) : EvT (tTest (tOp (fun x y H Q => y = V.non ∧ Q (V.bl (!decide (x = V.non))) H) ta (tC .non))) σ H (!decide (v = .non)) := fun H1 e Q q =>
  ha H1 e _ fun x H2 e2 p => by
    obtain rfl : x = v := p
    exact ⟨rfl, _, rfl, q H2 e2⟩
theorem ev_snocV {x : Nat → Rat} {r : Rat} (hn : n ≤ 1000) (ha : Ev ta σ H (isV C n x)) (hb : Ev tb σ H (isQ C r)) : Ev (tOp (rCatA K) ta (tTup (tCons tb tNil))) σ H (isV C (n + 1) (fun j => if j = n then r else x j)) := fun H1 e Q q =>
  ha H1 e _ fun v H2 e2 p => hb H2 (e.trans e2) _ fun u H3 e3 p3 => by
    refine ⟨by show 1 ≤ sizeLine; decide, fun T hT => ?_⟩
    obtain ⟨a, us, rfl, h1, h2, h3⟩ := IsV.ex p (e3.trans (Ex.new hT))
    have p4 : IsQ C (upd H3 T (.tup [u])) u r := IsQ.ex p3 (Ex.new hT)
    have e4 := (e2.trans e3).trans (Ex.new (o := .tup [u]) hT)
    refine ⟨a, T, us, [u], rfl, rfl, SqT.of h1, SqT.of upd_same, ?_, fun hu => ?_, fun _ hu => (by cases hu), fun _ _ p hp => ?_⟩
    · rw [h2, List.length_singleton]
      exact sz1000 (n := n) (by omega)
    · subst hu
      obtain rfl : n = 0 := h2.symm
      refine q _ _ e4 ⟨T, [u], rfl, upd_same, rfl, fun i hi => ?_⟩
      obtain rfl : i = 0 := by omega
      exact ⟨u, rfl, by show IsQ C _ u (if 0 = 0 then r else x 0); rw [if_pos rfl]; exact p4⟩
    · refine q _ _ (e4.trans (Ex.new hp)) ⟨p, us ++ [u], rfl, upd_same, by rw [List.length_append, List.length_singleton, h2], fun i hi => ?_⟩
      by_cases e : i = n
      · subst e
        exact ⟨u, by rw [List.getElem?_append_right (by rw [h2]; exact Nat.le_refl _), h2]; simp, by show IsQ C _ u (if i = i then r else x i); rw [if_pos rfl]; exact p4.ex (Ex.new hp)⟩
      · obtain ⟨u', k1, k2⟩ := h3 i (by omega)
        exact ⟨u', by rw [List.getElem?_append_left (by rw [h2]; omega)]; exact k1, by show IsQ C _ u' (if i = n then r else x i); rw [if_neg e]; exact k2.ex (Ex.new hp)⟩
theorem ev_pivot {s c : Nat} (ha : Ev ta σ H (isLs n fun i => isV C w (R i))) (hb : Ev tb σ H (isX (.int (s : Int)))) (hc : Ev tc σ H (isX (.int (c : Int)))) (hs : s ≤ n) (hn : n ≤ 1000) (hw : c < w) : Ev (tCall (spPivot C) [] E (tCons ta (tCons tb (tCons tc tNil)))) σ H (isX (oV (pvt R c (n - s) s))) :=
  ev_call3 ha hb hc fun x y z H1 _ p1 p2 p3 H2 e2 Q q => by
    obtain rfl : y = .int (s : Int) := p2
    obtain rfl : z = .int (c : Int) := p3
    exact ⟨x, s, c, n, w, R, rfl, (isLs n fun i => isV C w (R i)).mono _ _ _ e2 p1, hs, hn, hw, fun H' e => q _ H' e rfl⟩
theorem ev_reduced (ha : Ev ta σ H (isM C h w R)) (hb : Ev tb σ H (isX (.int (w : Int)))) (hh : h ≤ 1000) (hw : w ≤ 1000) (ok : RedOk h w R) : Ev (tCall (spReduced C) [] E (tCons ta (tCons tb tNil))) σ H (isRed C w (red h R w)) :=
  ev_call2 ha hb fun x y H1 _ p1 p2 H2 e2 Q q => by
    obtain rfl : y = .int (w : Int) := p2
    exact ⟨x, h, w, R, rfl, IsM.ex p1 e2, hh, hw, ok, q⟩
end
/-- a vector written at the pivots, one after the other -/
def cur (g b : Nat → Rat) (piv : List Nat) (k : Nat) : Nat → Rat := fun j => match piv.idxOf? j with
  | some q => if q < k then g q else b j
  | none => b j
theorem cur_zero {g b : Nat → Rat} {piv : List Nat} (j : Nat) : cur g b piv 0 j = b j := by
  unfold cur
  cases piv.idxOf? j <;> rfl
theorem cur_step {g b : Nat → Rat} {piv : List Nat} (nd : piv.Nodup) {k c : Nat} (hc : piv[k]? = some c) (j : Nat) : (if j = c then g k else cur g b piv k j) = cur g b piv (k + 1) j := by
  by_cases e : j = c
  · subst e
    rw [if_pos rfl]
    unfold cur
    rw [idx_at nd hc]
    show g k = if k < k + 1 then g k else b j
    rw [if_pos (Nat.lt_succ_self k)]
  · rw [if_neg e]
    unfold cur
    cases h : piv.idxOf? j with
    | none => rfl
    | some q =>
      have hq := idx_some h
      have : q ≠ k := fun z => by rw [z, hc] at hq; exact e (Option.some.inj hq).symm
      show (if q < k then g q else b j) = if q < k + 1 then g q else b j
      by_cases hl : q < k
      · rw [if_pos hl, if_pos (by omega)]
      · rw [if_neg hl, if_neg (by omega)]
theorem cur_end {g b : Nat → Rat} {piv : List Nat} (j : Nat) : cur g b piv piv.length j = match piv.idxOf? j with
    | some q => g q
    | none => b j := by
  unfold cur
  cases h : piv.idxOf? j with
  | none => rfl
  | some q =>
    have hq := (List.getElem?_eq_some_iff.mp (idx_some h)).1
    show (if q < piv.length then g q else b j) = g q
    rw [if_pos hq]
theorem LsQ.congr {C : Addr} {us : List V} {n : Nat} {x y : Nat → Rat} {H : Hp} (h : LsQ C us n x H) (e : ∀ j, j < n → x j = y j) : LsQ C us n y H := ⟨h.1, fun i hi => let ⟨u, k1, k2⟩ := h.2 i hi; ⟨u, k1, by rw [← e i hi]; exact k2⟩⟩
theorem LsQ.p {C : Addr} {us : List V} {n : Nat} {x : Nat → Rat} {H : Hp} {l : Addr} (h : LsQ C us n x H) (hl : H l = some (.lst us)) : (isLs n fun i => isQ C (x i)).p (.ref l) H := ⟨l, us, rfl, hl, h.1, h.2⟩
theorem pvs_get {l : List Nat} {i : Nat} {x : V} (h : (pvs l)[i]? = some x) : ∃ c, l[i]? = some c ∧ x = .int (c : Int) := by
  unfold pvs at h
  rw [List.getElem?_map] at h
  cases e : l[i]? with
  | none => rw [e] at h; cases h
  | some c =>
    rw [e] at h
    exact ⟨c, rfl, (Option.some.inj h).symm⟩
theorem pvs_len (l : List Nat) : (pvs l).length = l.length := List.length_map _
theorem pvs_snoc (l : List Nat) (c : Nat) : pvs (l ++ [c]) = pvs l ++ [.int (c : Int)] := by unfold pvs; simp
theorem frees_split {w i : Nat} {piv : List Nat} (hi : i < w) (hn : i ∉ piv) : (frees w piv)[(frees i piv).length]? = some i := by
  unfold frees
  obtain ⟨k, rfl⟩ : ∃ k, w = i + (k + 1) := ⟨w - i - 1, by omega⟩
  rw [List.range_add, List.filter_append, List.getElem?_append_right (Nat.le_refl _), Nat.sub_self, List.range_succ_eq_map, List.map_cons, Nat.add_zero, List.filter_cons_of_pos (by simpa using hn)]
  rfl
theorem frees_succ {i : Nat} {piv : List Nat} : (frees (i + 1) piv).length = (frees i piv).length + if i ∈ piv then 0 else 1 := by
  unfold frees
  rw [List.range_succ, List.filter_append, List.length_append]
  by_cases h : i ∈ piv
  · rw [if_pos h, List.filter_cons_of_neg (by simpa using h)]; rfl
  · rw [if_neg h, List.filter_cons_of_pos (by simpa using h)]; rfl
/-- the vectors of a kernel -/
def isK (C : Addr) (w : Nat) (ks : List (Nat → Rat)) : MP := isLs ks.length fun i => isV C w (ks.getD i fun _ => 0)
def spKernel (C : Addr) : Sp := fun vs H Q _ => ∃ (u : V) (h w : Nat) (R : Nat → Nat → Rat), vs = [u, .int (w : Int)] ∧ IsM C H u h w R ∧ h ≤ 1000 ∧ w ≤ 1000 ∧ RedOk h w R ∧ (∀ i, i < h → ∀ j, j < w → Sm ((red h R w).R i j)) ∧ ∀ z H', Ex H H' → (isK C w (kern h w R)).p z H' → Q z H'
def spSolve (C : Addr) : Sp := fun vs H Q _ => ∃ (u v : V) (k : Nat) (G : Nat → Nat → Rat) (y : Nat → Rat), vs = [u, .int (k : Int), v] ∧ IsM C H u k k G ∧ IsV C H v k y ∧ k < 1000 ∧ RedOk k (k + 1) (jn k G y) ∧ k ∉ (red k (jn k G y) (k + 1)).piv ∧
  ∀ z H', Ex H H' → IsV C H' z k (sol (red k (jn k G y) (k + 1)).R (red k (jn k G y) (k + 1)).piv k) → Q z H'
section
variable {P : Program} {w : World} {K : PySem.W.Frag} {mg : Str → Option Value} {base : Heap} {f C fV fC fR : Addr} {fd fdV fdC fdR : FuncData}
theorem scReduced : FnScope ["matrix", "width", "rows", "pivots", "column", "place", "found"] ["matrix", "width"] (defScope sReduced) := ⟨rfl, rfl, rfl, by decide +kernel, rfl, by decide +kernel, by decide +kernel⟩
theorem ok_reduced (F : FnP K "reduced" "reduced" sReduced f fd) (R : RK P w K mg base C) (mr : mg "range" = none) (mn : mg "len" = none) (ml : mg "list" = none) (mt : mg "tuple" = none)
    (DV : DefOk P w K mg base CX0 "pivot_row" 1 ["rows", "start", "column"] (spPivot C) fV fdV) (DC : DefOk P w K mg base CX0 "cleared" 5 ["rows", "place", "column"] (spCleared C) fC fdC) : FnOk P w K mg base CX0 6 f fd ["matrix", "width"] (spReduced C) := by
  refine F.ok scReduced (fun vs H Q E h => ?_) (fun cdv A outer s H vs Q E hr h => ?_)
  · obtain ⟨u, h, w, R, rfl, _⟩ := h
    rfl
  · obtain ⟨u, h, w', M, rfl, hu, hh, hw, ok, k⟩ := h
    have hr5 : Room 5 _ := hr
    have hr1 : Room 1 _ := hr.mono (by decide)
    refine ⟨_, PSs.nox (pss_cons (ps_set (i := 2) scReduced.nd rfl (Or.inl rfl) (pe_callTy (r := rLst K) call_list_of (by rfl) ml (by decide +kernel) (pa_cons (pv 0) pa_nil))) (pss_cons (ps_set (i := 3) scReduced.nd rfl (Or.inl rfl) (pe_lst pa_nil)) (pss_cons (ps_for PassesOwn.never rfl (pi_range1 rfl mr (pa_cons (pv 1) pa_nil)) (pg_name (i := 4) scReduced.nd rfl (Or.inl rfl)) (pss_cons (ps_set (i := 5) scReduced.nd rfl (Or.inl rfl) (pe_callB call_len_seq (by rfl) mn PySem.boot_len (pa_cons (pv 3) pa_nil))) (pss_cons (ps_set (i := 6) scReduced.nd rfl (Or.inl rfl) (pe_cd DV hr1 rfl pass0 (pa_cons (pv 2) (pa_cons (pv 5) (pa_cons (pv 4) pa_nil))))) (pss_one (ps_if (pt_cmpR op_notN (pv 6) pe_non (nomark _)) (pss_cons (ps_asg (pe_tup (pa_cons (pe_ix ix_list (pv 2) (pv 6) (fun _ _ => rfl)) (pa_cons (pe_ix ix_list (pv 2) (pv 5) (fun _ _ => rfl)) pa_nil))) (pg_tup rfl (pgs_cons (pg_sub (pv 2) (pv 5) set_list) (pgs_cons (pg_sub (pv 2) (pv 6) set_list) pgs_nil)))) (pss_cons (ps_set (i := 2) scReduced.nd rfl (Or.inl rfl) (pe_cd DC hr5 rfl pass0 (pa_cons (pv 2) (pa_cons (pv 5) (pa_cons (pv 4) pa_nil))))) (pss_one (ps_expr (pe_bm PySem.F.plainAttrs_list PySem.F.slot_list_append PySem.F.type_list_append mt_append (pv 3) (pa_cons (pv 4) pa_nil)))))) pss_nil))))) (pss_one (ps_ret (pe_tup (pa_cons (pe_callTy (r := rTup K) call_tuple_of (by rfl) mt (by decide +kernel) (pa_cons (pe_slice sl_list (pv 2) po_none (po_some (pe_callB call_len_seq (by rfl) mn PySem.boot_len (pa_cons (pv 3) pa_nil)))) pa_nil)) (pa_cons (pe_callTy (r := rTup K) call_tuple_of (by rfl) mt (by decide +kernel) (pa_cons (pv 3) pa_nil)) pa_nil)))))))), ?_⟩
    obtain ⟨a, us0, rfl, ha, hlen, hrows⟩ := id hu
    refine ⟨_, rfl, a, us0, rfl, .inr (SqT.of ha), fun l0 hl0 => ?_⟩
    have e0 : Ex H (upd H l0 (.lst us0)) := Ex.new hl0
    refine st_new fun pl hpl => ?_
    have e1 : Ex H (upd (upd H l0 (.lst us0)) pl (.lst [])) := e0.trans (Ex.new hpl)
    have hplH : H pl = none := e0.free hpl
    have nlp : l0 ≠ pl := fun e => by rw [← e, upd_same] at hpl; cases hpl
    refine st_forR (n := w') (ev_var (P := isX (.int (w' : Int))) rfl rfl) hw (fun i σ H' => ∃ l us x1 x2 x3, σ = [some (.ref a), some (.int (w' : Int)), some (.ref l), some (.ref pl), x1, x2, x3] ∧ Ex H H' ∧ H l = none ∧ l ≠ pl ∧ H' l = some (.lst us) ∧ H' pl = some (.lst (pvs (red h M i).piv)) ∧ LsV C w' us h (red h M i).R H')
      (fun H2 e2 => ⟨l0, us0, none, none, none, rfl, e1.trans e2, hl0, nlp, e2 _ _ (by rw [upd_ne nlp]; exact upd_same), e2 _ _ upd_same, hlen, fun i hi => let ⟨v, k1, k2⟩ := hrows i hi; ⟨v, k1, k2.ex (e1.trans e2)⟩⟩) ?_ ?_
    · rintro i σ H3 hi ⟨l, us, x1, x2, x3, rfl, e, hl, hlp, hlu, hpu, hls⟩
      have I := rinv (h := h) (R0 := M) i
      have hok := ok i hi
      have hred : red h M (i + 1) = redS h i (red h M i) := rfl
      generalize red h M i = s at I hok hred hpu hls
      refine st_set (ev_lenAt (K := K) (i := 3) (a := pl) rfl hpu) fun v H4 e4 p4 => ?_
      obtain rfl : v = .int ((pvs s.piv).length : Int) := p4
      rw [pvs_len]
      have hlu4 := e4 _ _ hlu
      have hpu4 := e4 _ _ hpu
      have hls4 := hls.exl e4.exl
      refine st_set (ev_pivot (ev_var (P := isLs h fun i => isV C w' (s.R i)) rfl (hls4.p hlu4)) (ev_var (P := isX (.int (s.piv.length : Int))) rfl rfl) (ev_var (P := isX (.int (i : Int))) rfl rfl) I.len hh hi) fun v H5 e5 p5 => ?_
      obtain rfl : v = oV (pvt s.R i (h - s.piv.length) s.piv.length) := p5
      have e35 := e4.trans e5
      have hlu5 := e5 _ _ hlu4
      have hpu5 := e5 _ _ hpu4
      have hls5 := hls4.exl e5.exl
      cases hp : pvt s.R i (h - s.piv.length) s.piv.length with
      | none =>
        refine st_if (evT_notN (ev_var (P := isX V.non) rfl rfl)) (fun hb => by simp at hb) (fun _ H6 e6 => ?_)
        rw [hred, redS_none hp]
        exact ⟨l, us, _, _, _, rfl, (e.trans e35).trans e6, hl, hlp, e6 _ _ hlu5, e6 _ _ hpu5, hls5.exl e6.exl⟩
      | some q =>
        obtain ⟨q1, q2, q3⟩ := pvt_some hp
        refine st_if (evT_notN (ev_var (P := isX (.int (q : Int))) rfl rfl)) (fun _ H6 e6 => ?_) (fun hb => by simp at hb)
        have hlu6 := e6 _ _ hlu5
        have hpu6 := e6 _ _ hpu5
        have hls6 := hls5.exl e6.exl
        have eH6 := (e.trans e35).trans e6
        obtain ⟨x, kx, _⟩ := hls6.2 q (by omega)
        obtain ⟨y, ky, _⟩ := hls6.2 s.piv.length (by omega)
        refine st_swap (K := K) (a := l) (p := s.piv.length) (f := q) rfl rfl rfl hlu6 kx ky fun T hT => ?_
        rw [upd_upd]
        have hTl : l ≠ T := fun z => by rw [z, hT] at hlu6; cases hlu6
        have hTp : pl ≠ T := fun z => by rw [z, hT] at hpu6; cases hpu6
        have eT : Ex H6 (upd H6 T (.tup [x, y])) := Ex.new hT
        have hluT := eT _ _ hlu6
        have eL : ExL H6 (upd (upd H6 T (.tup [x, y])) l (.lst ((us.set s.piv.length x).set q y))) := eT.exl.mut hluT
        have e7 : Ex H (upd (upd H6 T (.tup [x, y])) l (.lst ((us.set s.piv.length x).set q y))) := (eH6.trans eT).mut hl
        have hls7 := (hls6.swap kx ky).exl eL
        have hpu7 : upd (upd H6 T (.tup [x, y])) l (.lst ((us.set s.piv.length x).set q y)) pl = some (.lst (pvs s.piv)) := by rw [upd_ne (Ne.symm hlp), upd_ne hTp]; exact hpu6
        have hl7 : upd (upd H6 T (.tup [x, y])) l (.lst ((us.set s.piv.length x).set q y)) l = some (.lst ((us.set s.piv.length x).set q y)) := upd_same
        generalize upd (upd H6 T (.tup [x, y])) l (.lst ((us.set s.piv.length x).set q y)) = H7 at e7 hls7 hpu7 hl7 ⊢
        refine ⟨_, rfl, _, rfl, _, rfl, .ref l, s.piv.length, i, h, w', sw s.R s.piv.length q, rfl, hls7.p hl7, by omega, hh, hi, hw, by rw [sw_self]; exact q3, hok q hp, fun l2 us2 H8 e8 hn8 hl8 hls8 => ?_⟩
        have hpl8 := e8 _ _ hpu7
        have n2 : l2 ≠ pl := fun z => by rw [z, hpu7] at hn8; cases hn8
        have il := I.len
        refine st_append (K := K) (i := 3) (a := pl) rfl hpl8 (by rw [pvs_len]; omega) (ev_var (P := isX (.int (i : Int))) rfl rfl) fun v H9 e9 p9 => ?_
        obtain rfl : v = .int (i : Int) := p9
        rw [hred, redS_some hp]
        exact ⟨l2, us2, _, _, _, rfl, ((e7.trans e8).trans e9).mut hplH, e7.free hn8, n2, by rw [upd_ne n2]; exact e9 _ _ hl8, by rw [pvs_snoc]; exact upd_same, hls8.exl (e9.exl.trans ((ExL.refl H9).mut (e9 _ _ hpl8)))⟩
    · rintro σ H3 ⟨l, us, x1, x2, x3, rfl, e, hl, hlp, hlu, hpu, hls⟩
      have I := rinv (h := h) (R0 := M) w'
      refine st_ret (ev_tup2 (P1 := isM C (red h M w').piv.length w' (red h M w').R) (P2 := isT (pvs (red h M w').piv)) (ev_tupL (K := K) (ev_takeL (K := K) (ev_var (P := isLs h fun i => isV C w' ((red h M w').R i)) rfl (hls.p hlu)) (by have := ev_lenAt (K := K) (i := 3) (a := pl) (σ := [some (.ref a), some (.int (w' : Int)), some (.ref l), some (.ref pl), x1, x2, x3]) rfl hpu; rw [pvs_len] at this; exact this) I.len)) (ev_tupX (ev_var (P := isL (pvs (red h M w').piv)) rfl ⟨pl, rfl, hpu⟩))) fun z H4 e4 p4 => k z H4 (e.trans e4) p4
theorem scKernel : FnScope ["matrix", "width", "rows", "pivots", "found", "free", "vector", "index", "column", "_"] ["matrix", "width"] (defScope sKernel) := ⟨rfl, rfl, rfl, by decide +kernel, rfl, by decide +kernel, by decide +kernel⟩
theorem ok_kernel (F : FnP K "kernel" "kernel" sKernel f fd) (R : RK P w K mg base C) (mr : mg "range" = none) (me : mg "enumerate" = none) (mt : mg "tuple" = none)
    (DR : DefOk P w K mg base CX0 "reduced" 6 ["matrix", "width"] (spReduced C) fR fdR) : FnOk P w K mg base CX0 7 f fd ["matrix", "width"] (spKernel C) := by
  refine F.ok scKernel (fun vs H Q E h => ?_) (fun cdv A outer s H vs Q E hr h => ?_)
  · obtain ⟨u, h, w, R, rfl, _⟩ := h
    rfl
  · obtain ⟨u, h, w', M, rfl, hu, hh, hw, ok, sm, k⟩ := h
    have hr6 : Room 6 _ := hr
    have hr3 : Room 3 _ := hr.mono (by decide)
    have hr2 : Room 2 _ := hr.mono (by decide)
    refine ⟨_, PSs.nox (pss_cons (ps_asg (pe_cd DR hr6 rfl pass0 (pa_cons (pv 0) (pa_cons (pv 1) pa_nil))) (pg_tup rfl (pgs_cons (pg_name (i := 2) scKernel.nd rfl (Or.inl rfl)) (pgs_cons (pg_name (i := 3) scKernel.nd rfl (Or.inl rfl)) pgs_nil)))) (pss_cons (ps_set (i := 4) scKernel.nd rfl (Or.inl rfl) (pe_lst pa_nil)) (pss_cons (ps_for PassesOwn.never rfl (pi_range1 rfl mr (pa_cons (pv 1) pa_nil)) (pg_name (i := 5) scKernel.nd rfl (Or.inl rfl)) (pss_cons (ps_if (pt_cmpR op_in_seq (pv 5) (pv 3) (by rfl)) (pss_one ps_continue) pss_nil) (pss_cons (ps_setLc (i := 6) (own := [("_", 9)]) (g := (gName 9)) (tt := tYes) rfl scKernel.nd rfl rfl (sw_true rfl rfl rfl (by decide +kernel)) (pi_range1 rfl mr (pa_cons (pv 1) pa_nil)) (blkOk_by (N := ["matrix", "width", "rows", "pivots", "found", "free", "vector", "index", "column", "_"]) (sc := defScope sKernel) (by decide +kernel)) (fun _ _ _ _ _ => (pg_name (i := 9) scKernel.nd rfl (Or.inl rfl))) (fun _ _ _ _ _ => pts_nil) (fun _ _ _ _ _ => (pe_mk1 R hr2 rfl (pa_cons pe_int pa_nil)))) (pss_cons (ps_asg (pe_mk1 R hr2 rfl (pa_cons pe_int pa_nil)) (pg_sub (pv 6) (pv 5) set_list)) (pss_cons (ps_for PassesOwn.never rfl (pi_enT (by rfl) me (pa_cons (pv 3) pa_nil)) (pg_tup rfl (pgs_cons (pg_name (i := 7) scKernel.nd rfl (Or.inl rfl)) (pgs_cons (pg_name (i := 8) scKernel.nd rfl (Or.inl rfl)) pgs_nil))) (pss_one (ps_asg (pe_negQ R hr3 (pe_ix ix_tup (pe_ix ix_tup (pv 2) (pv 7) (fun _ _ => rfl)) (pv 5) (fun _ _ => rfl))) (pg_sub (pv 6) (pv 8) set_list)))) (pss_one (ps_expr (pe_bm PySem.F.plainAttrs_list PySem.F.slot_list_append PySem.F.type_list_append mt_append (pv 4) (pa_cons (pe_callTy (r := rTup K) call_tuple_of (by rfl) mt (by decide +kernel) (pa_cons (pv 6) pa_nil)) pa_nil))))))))) (pss_one (ps_ret (pv 4)))))), ?_⟩
    have I := rinv (h := h) (R0 := M) w'
    have kdef : kern h w' M = (frees w' (red h M w').piv).map (kv (red h M w').R (red h M w').piv) := rfl
    refine st_pair (ev_reduced (ev_var (P := isM C h w' M) rfl hu) (ev_var (P := isX (.int (w' : Int))) rfl rfl) hh hw ok) fun rr pp HB eB hrr hpp => ?_
    generalize red h M w' = rs at I kdef sm hrr hpp
    obtain ⟨pa, rfl, hpa⟩ := hpp
    have hrr : IsM C HB rr rs.piv.length w' rs.R := hrr
    refine st_new fun fl hfl => ?_
    have nd := nd_of_asc I.asc
    have klen : (kern h w' M).length = (frees w' rs.piv).length := by rw [kdef, List.length_map]
    refine st_forR (n := w') (ev_var (P := isX (.int (w' : Int))) rfl rfl) hw (fun i σ H' => ∃ us x1 x2 x3 x4, σ = [some u, some (.int (w' : Int)), some rr, some (.ref pa), some (.ref fl), x1, x2, x3, x4, none] ∧ Ex HB H' ∧ H' fl = some (.lst us) ∧ LsV C w' us (frees i rs.piv).length (fun j => (kern h w' M).getD j fun _ => 0) H')
      (fun H2 e2 => ⟨[], none, none, none, none, rfl, (Ex.new hfl).trans e2, e2 _ _ upd_same, rfl, fun i hi => by simp [frees] at hi⟩) ?_ ?_
    · rintro i σ H3 hi ⟨us, x1, x2, x3, x4, rfl, e, hlu, hls⟩
      refine st_if (evT_in (ev_var (P := isX (.int (i : Int))) rfl rfl) (ev_var (P := isT (pvs rs.piv)) rfl ⟨pa, rfl, e _ _ hpa⟩)) (fun hb H4 e4 => ?_) (fun hb H4 e4 => ?_)
      · have hm : i ∈ rs.piv := of_decide_eq_true hb
        refine ⟨us, _, _, _, _, rfl, e.trans e4, e4 _ _ hlu, ?_⟩
        rw [frees_succ, if_pos hm, Nat.add_zero]
        exact hls.exl e4.exl
      · have hm : i ∉ rs.piv := of_decide_eq_false hb
        refine st_set (ev_mapRN (k := 9) (Pk := fun _ => isQ C 0) hw (ev_var (P := isX (.int (w' : Int))) rfl rfl) (fun _ _ => im_Q) (fun _ => rfl) fun j H5 hj e5 => ev_zero) fun v H5 e5 p5 => ?_
        obtain ⟨va, vs0, rfl, hvn, hva, hvl, hvs⟩ := p5
        have e35 := e4.trans e5
        have hvB : HB va = none := (e.trans e4).free hvn
        have hlu5 := e35 _ _ hlu
        have nvf : fl ≠ va := fun z => by rw [← z, e4 _ _ hlu] at hvn; cases hvn
        refine st_put (i := 6) (j := 5) (a := va) (k := i) rfl rfl hva (by rw [hvl]; exact hi) ev_one fun v H6 e6 p6 => ?_
        have hva6 := e6 _ _ hva
        have eL6 : ExL H6 (upd H6 va (.lst (vs0.set i v))) := (ExL.refl H6).mut hva6
        have q0 : LsQ C (vs0.set i v) w' (cur (fun q => -rs.R q i) (fun j => if j = i then 1 else 0) rs.piv 0) (upd H6 va (.lst (vs0.set i v))) := by
          have h1 : LsQ C vs0 w' (fun _ => 0) H5 := ⟨hvl, hvs⟩
          have h2 : IsQ C H6 v 1 := p6
          exact (((h1.exl e6.exl).set (k := i) h2).exl eL6).congr fun j _ => by rw [cur_zero]
        have e7 : Ex HB (upd H6 va (.lst (vs0.set i v))) := ((e.trans e35).trans e6).mut hvB
        have hlu7 : upd H6 va (.lst (vs0.set i v)) fl = some (.lst us) := by rw [upd_ne nvf]; exact e6 _ _ hlu5
        have hls7 := hls.exl ((e35.trans e6).exl.trans eL6)
        have hva7 : upd H6 va (.lst (vs0.set i v)) va = some (.lst (vs0.set i v)) := upd_same
        generalize upd H6 va (.lst (vs0.set i v)) = H7 at q0 e7 hlu7 hls7 hva7 ⊢
        generalize vs0.set i v = w0 at q0 hva7
        refine st_forET (K := K) (k := 3) (a := pa) (us := pvs rs.piv) rfl (e7 _ _ hpa) (fun j σ H' => ∃ ws y1 y2, σ = [some u, some (.int (w' : Int)), some rr, some (.ref pa), some (.ref fl), some (.int (i : Int)), some (.ref va), y1, y2, none] ∧ Ex HB H' ∧ H' fl = some (.lst us) ∧ LsV C w' us (frees i rs.piv).length (fun j => (kern h w' M).getD j fun _ => 0) H' ∧ H' va = some (.lst ws) ∧ LsQ C ws w' (cur (fun q => -rs.R q i) (fun j => if j = i then 1 else 0) rs.piv j) H')
          ⟨w0, _, _, rfl, e7, hlu7, hls7, hva7, q0⟩ (fun j σ' H' ⟨ws, y1, y2, _, e, _⟩ => e _ _ hpa) ?_ ?_
        · rintro j x T σ H8 hx ⟨ws, y1, y2, rfl, e8, hlu8, hls8, hva8, q8⟩ hT
          obtain ⟨c, hc, rfl⟩ := pvs_get hx
          have hcw : c < w' := I.lt c (List.mem_of_getElem? hc)
          have hj : j < rs.piv.length := (List.getElem?_eq_some_iff.mp hc).1
          refine pair_tgt upd_same ?_
          have eT : Ex H8 (upd H8 T (.tup [.int (j : Int), .int (c : Int)])) := Ex.new hT
          have e8T := e8.trans eT
          have hlT := eT _ _ hlu8
          have hvT := eT _ _ hva8
          have hsT := hls8.exl eT.exl
          have qT := q8.exl eT.exl
          generalize upd H8 T (.tup [.int (j : Int), .int (c : Int)]) = H9 at e8T hlT hvT hsT qT ⊢
          refine st_put (i := 6) (j := 8) (a := va) (k := c) rfl rfl hvT (by rw [qT.1]; exact hcw) (ev_negQ (ev_ixV (K := K) (ev_ixM (K := K) (ev_var (P := isM C rs.piv.length w' rs.R) rfl (hrr.ex e8T)) (ev_var (P := isX (.int (j : Int))) rfl rfl) hj) (ev_var (P := isX (.int (i : Int))) rfl rfl) hi) (sm j (Nat.lt_of_lt_of_le hj I.len) i hi)) fun z HA eA pA => ?_
          have hvA := eA _ _ hvT
          have eLA : ExL HA (upd HA va (.lst (ws.set c z))) := (ExL.refl HA).mut hvA
          have pA : IsQ C HA z (-rs.R j i) := pA
          exact ⟨ws.set c z, _, _, rfl, (e8T.trans eA).mut hvB, by rw [upd_ne nvf]; exact eA _ _ hlT, hsT.exl (eA.exl.trans eLA), upd_same, (((qT.exl eA.exl).set (k := c) pA).exl eLA).congr fun l _ => cur_step (g := fun q => -rs.R q i) nd hc l⟩
        · rintro σ H8 ⟨ws, y1, y2, rfl, e8, hlu8, hls8, hva8, q8⟩
          rw [pvs_len] at q8
          refine st_append (K := K) (i := 4) (a := fl) (P := isV C w' (kv rs.R rs.piv i)) rfl hlu8 (by rw [hls8.1]; exact Nat.le_trans (by have := List.length_filter_le (fun f => !rs.piv.contains f) (List.range i); rw [List.length_range] at this; exact this) (by omega)) (ev_V (ev_tupL (K := K) (ev_var (P := isLs w' fun j => isQ C (kv rs.R rs.piv i j)) rfl ((q8.congr (y := kv rs.R rs.piv i) fun j _ => cur_end j).p hva8)))) fun v H9 e9 p9 => ?_
          have hl9 := e9 _ _ hlu8
          have eL9 : ExL H9 (upd H9 fl (.lst (us ++ [v]))) := (ExL.refl H9).mut hl9
          refine ⟨us ++ [v], _, _, _, _, rfl, (e8.trans e9).mut hfl, upd_same, ?_⟩
          rw [frees_succ, if_neg hm]
          refine (hls8.exl (e9.exl.trans eL9)).snoc (IsV.exl p9 eL9) fun j _ => ?_
          show (kern h w' M).getD (frees i rs.piv).length (fun _ => 0) j = kv rs.R rs.piv i j
          rw [kdef, List.getD_eq_getElem?_getD, List.getElem?_map, frees_split hi hm]
          rfl
    · rintro σ H3 ⟨us, x1, x2, x3, x4, rfl, e, hlu, hls⟩
      rw [← klen] at hls
      exact ⟨_, rfl, k _ _ (eB.trans e) (hls.p hlu)⟩
theorem scSolve : FnScope ["matrix", "width", "vector", "joined", "rows", "pivots", "found", "index", "column", "row", "value", "_"] ["matrix", "width", "vector"] (defScope sSolve) := ⟨rfl, rfl, rfl, by decide +kernel, rfl, by decide +kernel, by decide +kernel⟩
theorem ok_solve (F : FnP K "solve" "solve" sSolve f fd) (R : RK P w K mg base C) (mr : mg "range" = none) (me : mg "enumerate" = none) (mt : mg "tuple" = none) (mz : mg "zip" = none)
    (DR : DefOk P w K mg base CX0 "reduced" 6 ["matrix", "width"] (spReduced C) fR fdR) : FnOk P w K mg base CX0 7 f fd ["matrix", "width", "vector"] (spSolve C) := by
  refine F.ok scSolve (fun vs H Q E h => ?_) (fun cdv A outer s H vs Q E hr h => ?_)
  · obtain ⟨u, v, k, G, y, rfl, _⟩ := h
    rfl
  · obtain ⟨u, v, n, G, y, rfl, hu, hv, hn, ok, hnp, k⟩ := h
    have hr6 : Room 6 _ := hr
    have hr3 : Room 3 _ := hr.mono (by decide)
    have hr2 : Room 2 _ := hr.mono (by decide)
    refine ⟨_, PSs.nox (pss_cons (ps_setLc (i := 3) (own := [("row", 9), ("value", 10)]) (g := (gTup K 2 (gCons (gName 9) (gCons (gName 10) gNil)))) (tt := tYes) rfl scSolve.nd rfl rfl (sw_true rfl rfl rfl (by decide +kernel)) (RZ.pi_zipA (by rfl) mz (pa_cons (pv 0) (pa_cons (pv 2) pa_nil))) (blkOk_by (N := ["matrix", "width", "vector", "joined", "rows", "pivots", "found", "index", "column", "row", "value", "_"]) (sc := defScope sSolve) (by decide +kernel)) (fun _ _ _ _ _ => (pg_tup rfl (pgs_cons (pg_name (i := 9) scSolve.nd rfl (Or.inl rfl)) (pgs_cons (pg_name (i := 10) scSolve.nd rfl (Or.inl rfl)) pgs_nil)))) (fun _ _ _ _ _ => pts_nil) (fun _ _ _ _ _ => (pe_op (r := rCatA K) op_catA (pv 9) (pe_tup (pa_cons (pv 10) pa_nil))))) (pss_cons (ps_asg (pe_cd DR hr6 rfl pass0 (pa_cons (pe_callTy (r := rTup K) call_tuple_of (by rfl) mt (by decide +kernel) (pa_cons (pv 3) pa_nil)) (pa_cons (pe_op op_add (pv 1) pe_int) pa_nil))) (pg_tup rfl (pgs_cons (pg_name (i := 4) scSolve.nd rfl (Or.inl rfl)) (pgs_cons (pg_name (i := 5) scSolve.nd rfl (Or.inl rfl)) pgs_nil)))) (pss_cons (ps_if (pt_cmpR op_in_seq (pv 1) (pv 5) (by rfl)) (pss_one (ps_ret pe_non)) pss_nil) (pss_cons (ps_setLc (i := 6) (own := [("_", 11)]) (g := (gName 11)) (tt := tYes) rfl scSolve.nd rfl rfl (sw_true rfl rfl rfl (by decide +kernel)) (pi_range1 rfl mr (pa_cons (pv 1) pa_nil)) (blkOk_by (N := ["matrix", "width", "vector", "joined", "rows", "pivots", "found", "index", "column", "row", "value", "_"]) (sc := defScope sSolve) (by decide +kernel)) (fun _ _ _ _ _ => (pg_name (i := 11) scSolve.nd rfl (Or.inl rfl))) (fun _ _ _ _ _ => pts_nil) (fun _ _ _ _ _ => (pe_mk1 R hr2 rfl (pa_cons pe_int pa_nil)))) (pss_cons (ps_for PassesOwn.never rfl (pi_enT (by rfl) me (pa_cons (pv 5) pa_nil)) (pg_tup rfl (pgs_cons (pg_name (i := 7) scSolve.nd rfl (Or.inl rfl)) (pgs_cons (pg_name (i := 8) scSolve.nd rfl (Or.inl rfl)) pgs_nil))) (pss_one (ps_asg (pe_ix ix_tup (pe_ix ix_tup (pv 4) (pv 7) (fun _ _ => rfl)) (pv 1) (fun _ _ => rfl)) (pg_sub (pv 6) (pv 8) set_list)))) (pss_one (ps_ret (pe_callTy (r := rTup K) call_tuple_of (by rfl) mt (by decide +kernel) (pa_cons (pv 6) pa_nil))))))))), ?_⟩
    have I := rinv (h := n) (R0 := jn n G y) (n + 1)
    refine st_set (ev_mapZ (K := K) (k := 9) (l := 10) (Pk := fun i => isV C (n + 1) (jn n G y i)) (by omega) (Ev.isTs_M (ev_var rfl hu)) (Ev.isTs_V (ev_var rfl hv)) (fun _ _ => im_V) (fun _ _ => rfl) fun i a b H1 hi e p p' => ev_snocV (x := G i) (r := y i) (by omega) (ev_var rfl p) (ev_var rfl p')) fun jl H1 e1 p1 => ?_
    refine st_pair (ev_reduced (ev_M (ev_tupL (K := K) (ev_var (P := isLs n fun i => isV C (n + 1) (jn n G y i)) rfl p1))) (by have := ev_addI (σ := [some u, some (.int (n : Int)), some v, some jl, none, none, none, none, none, none, none, none]) (H := H1) (ev_var (i := 1) (P := isX (.int (n : Int))) rfl rfl) (ev_c (x := .int 1)); rw [show ((n : Int) + 1) = ((n + 1 : Nat) : Int) by omega] at this; exact this) (by omega) (by omega) ok) fun rr pp HB eB hrr hpp => ?_
    generalize red n (jn n G y) (n + 1) = rs at I hnp hrr hpp k
    obtain ⟨pa, rfl, hpa⟩ := hpp
    have hrr : IsM C HB rr rs.piv.length (n + 1) rs.R := hrr
    have nd := nd_of_asc I.asc
    refine st_if (evT_in (ev_var (P := isX (.int (n : Int))) rfl rfl) (ev_var (P := isT (pvs rs.piv)) rfl ⟨pa, rfl, hpa⟩)) (fun hb H4 e4 => absurd (of_decide_eq_true hb) hnp) (fun hb H4 e4 => ?_)
    refine st_set (ev_mapRN (k := 11) (Pk := fun _ => isQ C 0) (by omega) (ev_var (P := isX (.int (n : Int))) rfl rfl) (fun _ _ => im_Q) (fun _ => rfl) fun j H5 hj e5 => ev_zero) fun v' H5 e5 p5 => ?_
    obtain ⟨va, vs0, rfl, hvn, hva, hvl, hvs⟩ := p5
    have hvB : HB va = none := e4.free hvn
    refine st_forET (K := K) (k := 5) (a := pa) (us := pvs rs.piv) rfl ((e4.trans e5) _ _ hpa) (fun j σ H' => ∃ ws y1 y2, σ = [some u, some (.int (n : Int)), some v, some jl, some rr, some (.ref pa), some (.ref va), y1, y2, none, none, none] ∧ Ex HB H' ∧ H' va = some (.lst ws) ∧ LsQ C ws n (cur (fun q => rs.R q n) (fun _ => 0) rs.piv j) H')
      ⟨vs0, none, none, rfl, e4.trans e5, hva, LsQ.congr (x := fun _ => 0) ⟨hvl, hvs⟩ fun j _ => by rw [cur_zero]⟩ (fun j σ' H' ⟨ws, y1, y2, _, e, _⟩ => e _ _ hpa) ?_ ?_
    · rintro j x T σ H8 hx ⟨ws, y1, y2, rfl, e8, hva8, q8⟩ hT
      obtain ⟨c, hc, rfl⟩ := pvs_get hx
      have hcw : c < n + 1 := I.lt c (List.mem_of_getElem? hc)
      have hcn : c ≠ n := fun z => hnp (by rw [← z]; exact List.mem_of_getElem? hc)
      have hj : j < rs.piv.length := (List.getElem?_eq_some_iff.mp hc).1
      refine pair_tgt upd_same ?_
      have eT : Ex H8 (upd H8 T (.tup [.int (j : Int), .int (c : Int)])) := Ex.new hT
      have e8T := e8.trans eT
      have hvT := eT _ _ hva8
      have qT := q8.exl eT.exl
      generalize upd H8 T (.tup [.int (j : Int), .int (c : Int)]) = H9 at e8T hvT qT ⊢
      refine st_put (i := 6) (j := 8) (a := va) (k := c) rfl rfl hvT (by rw [qT.1]; omega) (ev_ixV (K := K) (ev_ixM (K := K) (ev_var (P := isM C rs.piv.length (n + 1) rs.R) rfl (hrr.ex e8T)) (ev_var (P := isX (.int (j : Int))) rfl rfl) hj) (ev_var (P := isX (.int (n : Int))) rfl rfl) (by omega)) fun z HA eA pA => ?_
      have hvA := eA _ _ hvT
      have eLA : ExL HA (upd HA va (.lst (ws.set c z))) := (ExL.refl HA).mut hvA
      have pA : IsQ C HA z (rs.R j n) := pA
      exact ⟨ws.set c z, _, _, rfl, (e8T.trans eA).mut hvB, upd_same, (((qT.exl eA.exl).set (k := c) pA).exl eLA).congr fun l _ => cur_step (g := fun q => rs.R q n) nd hc l⟩
    · rintro σ H8 ⟨ws, y1, y2, rfl, e8, hva8, q8⟩
      rw [pvs_len] at q8
      refine st_ret (P := isV C n (sol rs.R rs.piv n)) (ev_V (ev_tupL (K := K) (ev_var (P := isLs n fun j => isQ C (sol rs.R rs.piv n j)) rfl ((q8.congr (y := sol rs.R rs.piv n) fun j _ => cur_end j).p hva8)))) fun z H9 e9 p9 => k z H9 ((e1.trans eB).trans (e8.trans e9)) p9
end
end PW

set_option Elab.async false
set_option linter.all false
set_option maxRecDepth 100000
set_option maxHeartbeats 4000000
/-! PwK: a net, its points and rows. -/
namespace PW
open PySem PySem.Spec PyProof.Rows L2 PN
/-! ### all but some objects is kept -/
def ExE (B : Addr → Prop) (H H' : Hp) : Prop := ∀ a o, ¬ B a → H a = some o → H' a = some o
section
variable {B B' : Addr → Prop} {H H' H1 : Hp} {Fz : Addr → Prop}
theorem ExE.refl (H : Hp) : ExE B H H := fun _ _ _ h => h
theorem ExE.trans (a : ExE B H H1) (b : ExE B H1 H') : ExE B H H' := fun x o n h => b x o n (a x o n h)
theorem Ex.exe (e : Ex H H') : ExE B H H' := fun a o _ h => e a o h
theorem ExE.mono (e : ExE B H H') (h : ∀ a, B a → B' a) : ExE B' H H' := fun a o n ha => e a o (fun b => n (h a b)) ha
theorem ExE.mut {p : Addr} {o : HO} (e : ExE B H H') (h : B p) : ExE B H (upd H' p o) := fun a u n ha => by
  rw [upd_ne (fun q => n (by rw [q]; exact h))]
  exact e a u n ha
theorem ExE.exi (e : ExE B H H') (h : ∀ p o, B p → H p = some o → ¬ Imm Fz o) : ExI Fz H H' := fun a o ha i => e a o (fun b => h a o b ha i) ha
end
section
variable {K : PySem.W.Frag} {σ : L2.St} {H : Hp} {ta tb tc te tj tv : TE} {n i j k : Nat} {Pi : Nat → MP} {P P1 P2 : MP} {D : Ends} {rest : TS} {a N : Addr} {dx : Addr} {us : List V} {fs : List (Str × V)} {f m : Str} {E : XK} {sp : Sp} {C : Addr} {x : V}
theorem ev_own (hs : σ[i]? = some (some (.ref a))) (hd : H a = some (.ins N dx fs)) (c : Cls K N) (n : NoAttr K N f) (hl : fs.lookup f = some x) (hp : P.p x H) : Ev (tFld K (tVar i) f) σ H P := fun H1 e Q q =>
  ⟨_, hs, a, N, dx, fs, x, rfl, e _ _ hd, c, n, hl, q x H1 (Ex.refl H1) (P.mono _ _ _ e hp)⟩
theorem st_fld (hs : σ[i]? = some (some (.ref a))) (hd : H a = some (.ins N dx fs)) (c : Cls K N) (n : NoAttr K N f) (hl : fs.length < 1000) (h : Ev tv σ H P) (q : ∀ v H2, Ex H H2 → P.p v H2 → D.nx σ (upd H2 a (.ins N dx (putF f v fs)))) : sFld K (tVar i) tv f D σ H :=
  h.use fun v H2 e p => ⟨_, hs, a, N, dx, fs, rfl, e _ _ hd, c, n, hl, q v H2 e p⟩
theorem ev_meth0 (hs : σ[i]? = some (some (.ref a))) (hd : H a = some (.ins N dx fs)) (hl : fs.lookup m = none) (g : ∀ H1, Ex H H1 → Gives sp E [.ref a] H1 P) : Ev (tMeth N m sp [] E (tVar i) tNil) σ H P := fun H1 e Q q =>
  ⟨_, hs, a, dx, fs, rfl, e _ _ hd, hl, g H1 e H1 (Ex.refl H1) Q q⟩
theorem ev_meth1 (hs : σ[i]? = some (some (.ref a))) (hd : H a = some (.ins N dx fs)) (hl : fs.lookup m = none) (ha : Ev ta σ H P1) (g : ∀ x H1, Ex H H1 → P1.p x H1 → Gives sp E [.ref a, x] H1 P) : Ev (tMeth N m sp [] E (tVar i) (tCons ta tNil)) σ H P := fun H1 e Q q =>
  ⟨_, hs, a, dx, fs, rfl, e _ _ hd, hl, ha H1 e _ fun v H2 e2 p => g v H2 (e.trans e2) p H2 (Ex.refl H2) Q fun u H3 e3 p3 => q u H3 (e2.trans e3) p3⟩
theorem st_putE (hl : σ[i]? = some (some (.ref a))) (hD : H a = some (.lst us)) (hk : k < us.length) (h : Ev te σ H P) (hj : Ev tj σ H (isX (.int (k : Int)))) (q : ∀ v H2, Ex H H2 → P.p v H2 → D.nx σ (upd H2 a (.lst (us.set k v)))) :
    tAsg te (gSub (tVar i) tj rSetL) D σ H :=
  h.use fun v H2 e p => ⟨_, hl, hj H2 e _ fun u H3 e3 p3 => by
    obtain rfl : u = .int (k : Int) := p3
    exact ⟨a, us, (k : Int), k, rfl, rfl, e3 _ _ (e _ _ hD), ixN_nat hk, q v H3 (e.trans e3) (P.mono _ _ _ e3 p)⟩⟩
theorem st_appendE (h0 : Ev ta σ H (isX (.ref a))) (hD : H a = some (.lst us)) (hu : us.length ≤ 1000) (h : Ev te σ H P) (q : ∀ v H2, Ex H H2 → P.p v H2 → D.nx σ (upd H2 a (.lst (us ++ [v])))) :
    tDrop (tBM K "list" rAppend ta (tCons te tNil)) D σ H :=
  h0.use fun v H1 e1 p1 => by
    obtain rfl : v = .ref a := p1
    exact ⟨.inl ⟨rfl, _, SqL.of (e1 _ _ hD)⟩, h H1 e1 _ fun v H2 e p => ⟨a, us, v, rfl, rfl, e _ _ (e1 _ _ hD), sz1000 hu, q v H2 (e1.trans e) p⟩⟩
theorem ev_tup0 : Ev (tTup tNil) σ H (isV C 0 (fun _ => 0)) := fun H1 e Q q => ⟨Nat.zero_le _, fun p hp => q _ _ (Ex.new hp) ⟨p, [], rfl, upd_same, rfl, fun i hi => absurd hi (Nat.not_lt_zero i)⟩⟩
theorem SqT.frz {o : Obj} (h : H a = some (.frz o (.tup us))) : SqT K H a us := .inl (.inr ⟨o, h⟩)
theorem st_forT {g : TG} {tb : TS} (hv : Ev te σ H (isX (.ref a))) (ha : ∀ H2, Ex H H2 → SqT K H2 a us) (Pv : Nat → L2.St → Hp → Prop) (h0 : ∀ H2, Ex H H2 → Pv 0 σ H2) (hG : ∀ i σ' H', Pv i σ' H' → SqT K H' a us)
    (hs : ∀ i x σ' H', us[i]? = some x → Pv i σ' H' → g x σ' H' fun σ2 H5 => tb { D with nx := Pv (i + 1), ct := Pv (i + 1), bk := rest D } σ2 H5) (hd : ∀ σ' H', Pv us.length σ' H' → rest D σ' H') :
    tSeq (tFor (iTup K te) g tb) rest D σ H :=
  hv.use fun v H2 e2 p => by
    obtain rfl : v = .ref a := p
    refine ⟨a, rfl, ⟨us, ha H2 e2⟩, for_it (D := { D with nx := rest D }) (walk_tup (K := K) (a := a) (xs := us)) Pv (h0 H2 e2) (fun i σ' H' _ p => hG i σ' H' p) (fun i x σ' H3 H4 hi p y => ?_) hd⟩
    obtain ⟨rfl, y2⟩ := y
    exact hs i x σ' _ y2 p
theorem st_forL {g : TG} {tb : TS} (hv : Ev te σ H (isX (.ref a))) (ha : H a = some (.lst us)) (Pv : Nat → L2.St → Hp → Prop) (h0 : ∀ H2, Ex H H2 → Pv 0 σ H2) (hG : ∀ i σ' H', Pv i σ' H' → H' a = some (.lst us))
    (hs : ∀ i x σ' H', us[i]? = some x → Pv i σ' H' → g x σ' H' fun σ2 H5 => tb { D with nx := Pv (i + 1), ct := Pv (i + 1), bk := rest D } σ2 H5) (hd : ∀ σ' H', Pv us.length σ' H' → rest D σ' H') :
    tSeq (tFor (iList K te) g tb) rest D σ H :=
  hv.use fun v H2 e2 p => by
    obtain rfl : v = .ref a := p
    refine ⟨a, rfl, ⟨us, SqL.of (e2 _ _ ha)⟩, for_it (D := { D with nx := rest D }) (walk_list (K := K) (a := a) (xs := us)) Pv (h0 H2 e2) (fun i σ' H' _ p => SqL.of (hG i σ' H' p)) (fun i x σ' H3 H4 hi p y => ?_) hd⟩
    obtain ⟨rfl, y2⟩ := y
    exact hs i x σ' _ y2 p
/-! ### names -/
theorem eqV_str (a b : Str) : eqV (.str a) (.str b) = (a == b) := rfl
theorem flat_strs (l : List Str) : (l.map V.str).all flatV = true := by
  rw [List.all_eq_true]
  intro x hx
  obtain ⟨c, _, rfl⟩ := List.mem_map.mp hx
  rfl
theorem inV_str (y : Str) (l : List Str) : inV (.str y) (l.map V.str) = decide (y ∈ l) := by
  unfold inV
  rw [List.any_map, Bool.eq_iff_iff, List.any_eq_true, decide_eq_true_iff]
  constructor
  · rintro ⟨x, hx, hy⟩
    have hy : (x == y) = true := hy
    rw [beq_iff_eq] at hy
    rw [← hy]; exact hx
  · intro hi
    exact ⟨y, hi, by show (y == y) = true; simp⟩
theorem evT_inS {l : List Str} {y : Str} (ha : Ev ta σ H (isX (.str y))) (hb : Ev tb σ H (isL (l.map V.str))) : EvT (tTest (tOp (rIn K false) ta tb)) σ H (decide (y ∈ l)) := fun H1 e Q q =>
  ha H1 e _ fun x H2 e2 p => hb H2 (e.trans e2) _ fun z H3 e3 p3 => by
    obtain rfl : x = .str y := p
    obtain ⟨a, rfl, ha⟩ := p3
    refine ⟨a, _, rfl, .inl (SqL.of ha), rfl, flat_strs l, _, rfl, ?_⟩
    rw [if_neg Bool.false_ne_true, inV_str]
    exact q H3 (e2.trans e3)
theorem evT_notInS {l : List Str} {y : Str} (ha : Ev ta σ H (isX (.str y))) (hb : Ev tb σ H (isL (l.map V.str))) : EvT (tTest (tOp (rIn K true) ta tb)) σ H (!decide (y ∈ l)) := fun H1 e Q q =>
  ha H1 e _ fun x H2 e2 p => hb H2 (e.trans e2) _ fun z H3 e3 p3 => by
    obtain rfl : x = .str y := p
    obtain ⟨a, rfl, ha⟩ := p3
    refine ⟨a, _, rfl, .inl (SqL.of ha), rfl, flat_strs l, _, rfl, ?_⟩
    rw [if_pos rfl, inV_str]
    exact q H3 (e2.trans e3)
theorem ev_index {l : List Str} {y : Str} (nd : l.Nodup) (hj : l[j]? = some y) (ha : Ev ta σ H (isL (l.map V.str))) (hb : Ev tb σ H (isX (.str y))) : Ev (tBM K "list" (rIndex K) ta (tCons tb tNil)) σ H (isX (.int (j : Int))) := fun H1 e Q q =>
  ha H1 e _ fun x H2 e2 p => by
    obtain ⟨a, rfl, ha⟩ := p
    refine ⟨.inl ⟨rfl, _, SqL.of ha⟩, hb H2 (e.trans e2) _ fun z H3 e3 p3 => ?_⟩
    obtain rfl : z = .str y := p3
    refine ⟨a, _, .str y, j, .str y, rfl, rfl, SqL.of (e3 _ _ ha), rfl, flat_strs l, by rw [List.getElem?_map, hj]; rfl, by rw [eqV_str]; simp, fun m z' hm hz => ?_, q _ H3 (e2.trans e3) rfl⟩
    rw [List.getElem?_map] at hz
    cases hq : l[m]? with
    | none => rw [hq] at hz; cases hz
    | some u =>
      rw [hq] at hz
      cases hz
      rw [eqV_str, beq_eq_false_iff_ne]
      rintro rfl
      obtain ⟨h1, k1⟩ := List.getElem?_eq_some_iff.mp hq
      have := (List.getElem?_inj h1 nd).mp (hq.trans hj.symm)
      omega
end
/-! ### terms, rows -/
def coef (ts : List (Str × Int)) (y : Str) : Int := (ts.lookup y).getD 0
def rowOf (names : List Str) (ts : List (Str × Int)) : Nat → Rat := fun i => ((coef ts (names.getD i default) : Int) : Rat)
/-- a tuple of pairs -/
def isTm (ts : List (Str × Int)) : MP := ⟨fun v H => ∃ (p : Addr) (o : Obj) (us : List V), v = V.ref p ∧ o.dict = none ∧ H p = some (.frz o (.tup us)) ∧ us.length = ts.length ∧ ∀ (i : Nat) (y : Str) (c : Int), ts[i]? = some (y, c) → ∃ q : Addr, us[i]? = some (V.ref q) ∧ H q = some (.tup [.str y, .int c]),
  fun _ _ _ e ⟨p, o, us, h1, h0, h2, h3, h4⟩ => ⟨p, o, us, h1, h0, e _ _ h2, h3, fun i y c h => let ⟨q, k1, k2⟩ := h4 i y c h; ⟨q, k1, e _ _ k2⟩⟩⟩
structure TmOk (names : List Str) (ts : List (Str × Int)) : Prop where
  nd : (ts.map Prod.fst).Nodup
  mem : ∀ p, p ∈ ts → p.1 ∈ names
  le : ∀ p, p ∈ ts → p.2.natAbs ≤ 10
theorem coef_take {ts : List (Str × Int)} (nd : (ts.map Prod.fst).Nodup) {i : Nat} {y : Str} {c : Int} (h : ts[i]? = some (y, c)) (z : Str) : coef (ts.take (i + 1)) z = if z = y then c else coef (ts.take i) z := by
  obtain ⟨hi, hg⟩ := List.getElem?_eq_some_iff.mp h
  have e : ts.take (i + 1) = ts.take i ++ [(y, c)] := by
    rw [List.take_add_one, h]; rfl
  unfold coef
  rw [e, List.lookup_append]
  by_cases hz : z = y
  · subst hz
    rw [if_pos rfl]
    have : (ts.take i).lookup z = none := by
      rw [List.lookup_eq_none_iff]
      intro p hp
      rw [bne_iff_ne]
      rintro rfl
      obtain ⟨k, hk, hpk⟩ := List.mem_iff_getElem.mp hp
      rw [List.length_take] at hk
      rw [List.getElem_take] at hpk
      have h1 : (ts.map Prod.fst)[k]? = (ts.map Prod.fst)[i]? := by
        rw [List.getElem?_map, List.getElem?_map, h, List.getElem?_eq_getElem (by omega : k < ts.length), hpk]
        rfl
      have := (List.getElem?_inj (by rw [List.length_map]; omega) nd).mp h1
      omega
    rw [this]
    simp [List.lookup]
  · rw [if_neg hz]
    cases (ts.take i).lookup z with
    | some v => rfl
    | none =>
      have : (z == y) = false := beq_eq_false_iff_ne.mpr hz
      simp [List.lookup, this]
/-! ### the classes -/
def nf (p ap rd nm iv rt tt : V) : List (Str × V) := [("points", p), ("approximations", ap), ("readings", rd), ("normal", nm), ("inverse", iv), ("right", rt), ("total", tt)]
def rdf (nm tm vl wt : V) : List (Str × V) := [("name", nm), ("terms", tm), ("value", vl), ("weight", wt)]
structure NCls (K : PySem.W.Frag) (N C Rd : Addr) : Prop where
  cl : Cls K N
  p1 : NoAttr K N "points"
  p2 : NoAttr K N "approximations"
  p3 : NoAttr K N "readings"
  p4 : NoAttr K N "normal"
  p5 : NoAttr K N "inverse"
  p6 : NoAttr K N "right"
  p7 : NoAttr K N "total"
  rcl : Cls K Rd
  r1 : NoAttr K Rd "name"
  r2 : NoAttr K Rd "terms"
  r3 : NoAttr K Rd "value"
  r4 : NoAttr K Rd "weight"
  nc : N ≠ C
  nr : N ≠ Rd
theorem nf_put1 (p ap rd nm iv rt tt z : V) : putF "points" z (nf p ap rd nm iv rt tt) = nf z ap rd nm iv rt tt := by
  unfold nf
  rw [putF, if_pos rfl]
theorem nf_get1 (p ap rd nm iv rt tt : V) : (nf p ap rd nm iv rt tt).lookup ("points" : Str) = some p := by
  unfold nf
  simp [List.lookup]
theorem nf_put2 (p ap rd nm iv rt tt z : V) : putF "approximations" z (nf p ap rd nm iv rt tt) = nf p z rd nm iv rt tt := by
  unfold nf
  rw [putF, if_neg (show ¬ (("points" : Str) = "approximations") from by decide +kernel)]; rw [putF, if_pos rfl]
theorem nf_get2 (p ap rd nm iv rt tt : V) : (nf p ap rd nm iv rt tt).lookup ("approximations" : Str) = some ap := by
  unfold nf
  simp [List.lookup, show (("approximations" : Str) == "points") = false from by decide +kernel]
theorem nf_put3 (p ap rd nm iv rt tt z : V) : putF "readings" z (nf p ap rd nm iv rt tt) = nf p ap z nm iv rt tt := by
  unfold nf
  rw [putF, if_neg (show ¬ (("points" : Str) = "readings") from by decide +kernel)]; rw [putF, if_neg (show ¬ (("approximations" : Str) = "readings") from by decide +kernel)]; rw [putF, if_pos rfl]
theorem nf_get3 (p ap rd nm iv rt tt : V) : (nf p ap rd nm iv rt tt).lookup ("readings" : Str) = some rd := by
  unfold nf
  simp [List.lookup, show (("readings" : Str) == "points") = false from by decide +kernel, show (("readings" : Str) == "approximations") = false from by decide +kernel]
theorem nf_put4 (p ap rd nm iv rt tt z : V) : putF "normal" z (nf p ap rd nm iv rt tt) = nf p ap rd z iv rt tt := by
  unfold nf
  rw [putF, if_neg (show ¬ (("points" : Str) = "normal") from by decide +kernel)]; rw [putF, if_neg (show ¬ (("approximations" : Str) = "normal") from by decide +kernel)]; rw [putF, if_neg (show ¬ (("readings" : Str) = "normal") from by decide +kernel)]; rw [putF, if_pos rfl]
theorem nf_get4 (p ap rd nm iv rt tt : V) : (nf p ap rd nm iv rt tt).lookup ("normal" : Str) = some nm := by
  unfold nf
  simp [List.lookup, show (("normal" : Str) == "points") = false from by decide +kernel, show (("normal" : Str) == "approximations") = false from by decide +kernel, show (("normal" : Str) == "readings") = false from by decide +kernel]
theorem nf_put5 (p ap rd nm iv rt tt z : V) : putF "inverse" z (nf p ap rd nm iv rt tt) = nf p ap rd nm z rt tt := by
  unfold nf
  rw [putF, if_neg (show ¬ (("points" : Str) = "inverse") from by decide +kernel)]; rw [putF, if_neg (show ¬ (("approximations" : Str) = "inverse") from by decide +kernel)]; rw [putF, if_neg (show ¬ (("readings" : Str) = "inverse") from by decide +kernel)]; rw [putF, if_neg (show ¬ (("normal" : Str) = "inverse") from by decide +kernel)]; rw [putF, if_pos rfl]
theorem nf_get5 (p ap rd nm iv rt tt : V) : (nf p ap rd nm iv rt tt).lookup ("inverse" : Str) = some iv := by
  unfold nf
  simp [List.lookup, show (("inverse" : Str) == "points") = false from by decide +kernel, show (("inverse" : Str) == "approximations") = false from by decide +kernel, show (("inverse" : Str) == "readings") = false from by decide +kernel, show (("inverse" : Str) == "normal") = false from by decide +kernel]
theorem nf_put6 (p ap rd nm iv rt tt z : V) : putF "right" z (nf p ap rd nm iv rt tt) = nf p ap rd nm iv z tt := by
  unfold nf
  rw [putF, if_neg (show ¬ (("points" : Str) = "right") from by decide +kernel)]; rw [putF, if_neg (show ¬ (("approximations" : Str) = "right") from by decide +kernel)]; rw [putF, if_neg (show ¬ (("readings" : Str) = "right") from by decide +kernel)]; rw [putF, if_neg (show ¬ (("normal" : Str) = "right") from by decide +kernel)]; rw [putF, if_neg (show ¬ (("inverse" : Str) = "right") from by decide +kernel)]; rw [putF, if_pos rfl]
theorem nf_get6 (p ap rd nm iv rt tt : V) : (nf p ap rd nm iv rt tt).lookup ("right" : Str) = some rt := by
  unfold nf
  simp [List.lookup, show (("right" : Str) == "points") = false from by decide +kernel, show (("right" : Str) == "approximations") = false from by decide +kernel, show (("right" : Str) == "readings") = false from by decide +kernel, show (("right" : Str) == "normal") = false from by decide +kernel, show (("right" : Str) == "inverse") = false from by decide +kernel]
theorem nf_put7 (p ap rd nm iv rt tt z : V) : putF "total" z (nf p ap rd nm iv rt tt) = nf p ap rd nm iv rt z := by
  unfold nf
  rw [putF, if_neg (show ¬ (("points" : Str) = "total") from by decide +kernel)]; rw [putF, if_neg (show ¬ (("approximations" : Str) = "total") from by decide +kernel)]; rw [putF, if_neg (show ¬ (("readings" : Str) = "total") from by decide +kernel)]; rw [putF, if_neg (show ¬ (("normal" : Str) = "total") from by decide +kernel)]; rw [putF, if_neg (show ¬ (("inverse" : Str) = "total") from by decide +kernel)]; rw [putF, if_neg (show ¬ (("right" : Str) = "total") from by decide +kernel)]; rw [putF, if_pos rfl]
theorem nf_get7 (p ap rd nm iv rt tt : V) : (nf p ap rd nm iv rt tt).lookup ("total" : Str) = some tt := by
  unfold nf
  simp [List.lookup, show (("total" : Str) == "points") = false from by decide +kernel, show (("total" : Str) == "approximations") = false from by decide +kernel, show (("total" : Str) == "readings") = false from by decide +kernel, show (("total" : Str) == "normal") = false from by decide +kernel, show (("total" : Str) == "inverse") = false from by decide +kernel, show (("total" : Str) == "right") = false from by decide +kernel]
theorem nf_no (p ap rd nm iv rt tt : V) {m : Str} (h : m ∉ ([("points" : Str), "approximations", "readings", "normal", "inverse", "right", "total"] : List Str)) : (nf p ap rd nm iv rt tt).lookup m = none := by
  unfold nf
  simp only [List.mem_cons, List.not_mem_nil, or_false, not_or] at h
  obtain ⟨h1, h2, h3, h4, h5, h6, h7⟩ := h
  simp [List.lookup, beq_eq_false_iff_ne.mpr h1, beq_eq_false_iff_ne.mpr h2, beq_eq_false_iff_ne.mpr h3, beq_eq_false_iff_ne.mpr h4, beq_eq_false_iff_ne.mpr h5, beq_eq_false_iff_ne.mpr h6, beq_eq_false_iff_ne.mpr h7]
theorem rdf_get1 (nm tm vl wt : V) : (rdf nm tm vl wt).lookup ("name" : Str) = some nm := by
  unfold rdf
  simp [List.lookup]
theorem rdf_get2 (nm tm vl wt : V) : (rdf nm tm vl wt).lookup ("terms" : Str) = some tm := by
  unfold rdf
  simp [List.lookup, show (("terms" : Str) == "name") = false from by decide +kernel]
theorem rdf_get3 (nm tm vl wt : V) : (rdf nm tm vl wt).lookup ("value" : Str) = some vl := by
  unfold rdf
  simp [List.lookup, show (("value" : Str) == "name") = false from by decide +kernel, show (("value" : Str) == "terms") = false from by decide +kernel]
theorem rdf_get4 (nm tm vl wt : V) : (rdf nm tm vl wt).lookup ("weight" : Str) = some wt := by
  unfold rdf
  simp [List.lookup, show (("weight" : Str) == "name") = false from by decide +kernel, show (("weight" : Str) == "terms") = false from by decide +kernel, show (("weight" : Str) == "value") = false from by decide +kernel]
theorem rdf_put (nm tm vl wt : V) : putF "weight" wt (putF "value" vl (putF "terms" tm (putF "name" nm []))) = rdf nm tm vl wt := by
  have h1 : ¬ (("name" : Str) = "terms") := by decide +kernel
  have h2 : ¬ (("name" : Str) = "value") := by decide +kernel
  have h3 : ¬ (("name" : Str) = "weight") := by decide +kernel
  have h4 : ¬ (("terms" : Str) = "value") := by decide +kernel
  have h5 : ¬ (("terms" : Str) = "weight") := by decide +kernel
  have h6 : ¬ (("value" : Str) = "weight") := by decide +kernel
  simp only [putF, if_neg h1, if_neg h2, if_neg h3, if_neg h4, if_neg h5, if_neg h6]
  rfl
theorem nf_make (p ap rd nm iv rt tt : V) : putF "total" tt (putF "right" rt (putF "inverse" iv (putF "normal" nm (putF "readings" rd (putF "approximations" ap (putF "points" p [])))))) = nf p ap rd nm iv rt tt := by
  have h0_1 : ¬ (("points" : Str) = "approximations") := by decide +kernel
  have h0_2 : ¬ (("points" : Str) = "readings") := by decide +kernel
  have h0_3 : ¬ (("points" : Str) = "normal") := by decide +kernel
  have h0_4 : ¬ (("points" : Str) = "inverse") := by decide +kernel
  have h0_5 : ¬ (("points" : Str) = "right") := by decide +kernel
  have h0_6 : ¬ (("points" : Str) = "total") := by decide +kernel
  have h1_2 : ¬ (("approximations" : Str) = "readings") := by decide +kernel
  have h1_3 : ¬ (("approximations" : Str) = "normal") := by decide +kernel
  have h1_4 : ¬ (("approximations" : Str) = "inverse") := by decide +kernel
  have h1_5 : ¬ (("approximations" : Str) = "right") := by decide +kernel
  have h1_6 : ¬ (("approximations" : Str) = "total") := by decide +kernel
  have h2_3 : ¬ (("readings" : Str) = "normal") := by decide +kernel
  have h2_4 : ¬ (("readings" : Str) = "inverse") := by decide +kernel
  have h2_5 : ¬ (("readings" : Str) = "right") := by decide +kernel
  have h2_6 : ¬ (("readings" : Str) = "total") := by decide +kernel
  have h3_4 : ¬ (("normal" : Str) = "inverse") := by decide +kernel
  have h3_5 : ¬ (("normal" : Str) = "right") := by decide +kernel
  have h3_6 : ¬ (("normal" : Str) = "total") := by decide +kernel
  have h4_5 : ¬ (("inverse" : Str) = "right") := by decide +kernel
  have h4_6 : ¬ (("inverse" : Str) = "total") := by decide +kernel
  have h5_6 : ¬ (("right" : Str) = "total") := by decide +kernel
  simp only [putF, if_neg h0_1, if_neg h0_2, if_neg h0_3, if_neg h0_4, if_neg h0_5, if_neg h0_6, if_neg h1_2, if_neg h1_3, if_neg h1_4, if_neg h1_5, if_neg h1_6, if_neg h2_3, if_neg h2_4, if_neg h2_5, if_neg h2_6, if_neg h3_4, if_neg h3_5, if_neg h3_6, if_neg h4_5, if_neg h4_6, if_neg h5_6]
  rfl
abbrev sRdInit : Stmt := inClass (topS 38) 0
abbrev sNetInit : Stmt := inClass (topS 46) 0
abbrev sAddPoint : Stmt := inClass (topS 46) 1
abbrev sNetRow : Stmt := inClass (topS 46) 2
def spWidened (C : Addr) : Sp := fun vs H Q _ => ∃ (u : V) (n : Nat), vs = [u] ∧ IsM C H u n n (fun _ _ => 0) ∧ n < 1000 ∧ ∀ z H', Ex H H' → IsM C H' z (n + 1) (n + 1) (fun _ _ => 0) → Q z H'
def spRdInit (Rd : Addr) : Sp := fun vs H Q _ => ∃ (p dx : Addr) (nm tm vl wt : V), vs = [.ref p, nm, tm, vl, wt] ∧ H p = some (.ins Rd dx []) ∧ Q .non (upd H p (.ins Rd dx (rdf nm tm vl wt)))
/-- a reading's terms -/
def spNetRow (C N Rd : Addr) : Sp := fun vs H Q _ => ∃ (a r dx dr lp : Addr) (fs : List (Str × V)) (nm tv vl wt : V) (names : List Str) (ts : List (Str × Int)), vs = [.ref a, .ref r] ∧ H a = some (.ins N dx fs) ∧ fs.lookup ("points" : Str) = some (.ref lp) ∧ H lp = some (.lst (names.map V.str)) ∧
  H r = some (.ins Rd dr (rdf nm tv vl wt)) ∧ (isTm ts).p tv H ∧ TmOk names ts ∧ names.Nodup ∧ names.length ≤ 1000 ∧ ∀ z H', Ex H H' → IsV C H' z names.length (rowOf names ts) → Q z H'
section
variable {P : Program} {w : World} {K : PySem.W.Frag} {mg : Str → Option Value} {base : Heap} {f C N Rd fW : Addr} {fd fdW : FuncData}
theorem scWidened : FnScope ["matrix", "rows", "row", "_"] ["matrix"] (defScope sWidened) := ⟨rfl, rfl, rfl, by decide +kernel, rfl, by decide +kernel, by decide +kernel⟩
theorem ok_widened (F : FnP K "widened" "widened" sWidened f fd) (R : RK P w K mg base C) (mr : mg "range" = none) (mn : mg "len" = none) (mt : mg "tuple" = none) : FnOk P w K mg base CX0 3 f fd ["matrix"] (spWidened C) := by
  refine F.ok scWidened (fun vs H Q E h => ?_) (fun cdv A outer s H vs Q E hr h => ?_)
  · obtain ⟨u, n, rfl, _⟩ := h
    rfl
  · obtain ⟨u, n, rfl, hu, hn, k⟩ := h
    have hr2 : Room 2 _ := hr
    refine ⟨_, PSs.nox (pss_cons (ps_setLc (i := 1) (own := [("row", 2)]) (g := (gName 2)) (tt := tYes) rfl scWidened.nd rfl rfl (sw_true rfl rfl rfl (by decide +kernel)) (pi_tup (pv 0)) (blkOk_by (N := ["matrix", "rows", "row", "_"]) (sc := defScope sWidened) (by decide +kernel)) (fun _ _ _ _ _ => (pg_name (i := 2) scWidened.nd rfl (Or.inl rfl))) (fun _ _ _ _ _ => pts_nil) (fun _ _ _ _ _ => (pe_op (r := rCatA K) op_catA (pv 2) (pe_tup (pa_cons (pe_mk1 R hr2 rfl (pa_cons pe_int pa_nil)) pa_nil))))) (pss_cons (ps_expr (pe_bm PySem.F.plainAttrs_list PySem.F.slot_list_append PySem.F.type_list_append mt_append (pv 1) (pa_cons (pe_callTy (r := rTup K) call_tuple_of (by rfl) mt (by decide +kernel) (pa_cons (pe_lc (own := [("_", 3)]) (g := (gName 3)) (tt := tYes) rfl scWidened.nd (pi_range1 rfl mr (pa_cons (pe_op op_add (pe_callB call_len_seq (by rfl) mn PySem.boot_len (pa_cons (pv 0) pa_nil)) pe_int) pa_nil)) (blkOk_by (N := ["matrix", "rows", "row", "_"]) (sc := defScope sWidened) (by decide +kernel)) (fun _ _ _ _ _ => (pg_name (i := 3) scWidened.nd rfl (Or.inl rfl))) (fun _ _ _ _ _ => pts_nil) (fun _ _ _ _ _ => (pe_mk1 R hr2 rfl (pa_cons pe_int pa_nil)))) pa_nil)) pa_nil))) (pss_one (ps_ret (pe_callTy (r := rTup K) call_tuple_of (by rfl) mt (by decide +kernel) (pa_cons (pv 1) pa_nil)))))), ?_⟩
    refine st_set (ev_lcN (n := n) (Pi := fun _ => isV C (n + 1) (fun _ => 0)) (by omega) (fd_tup (K := K) (Ev.isTs_M (ev_var rfl hu))) (fun _ _ => im_V) fun i H1 x H' hi e y Qt q => by
      obtain ⟨rfl, H0, e0, p⟩ := y
      exact q _ _ (Ex.refl _) rfl ((ev_snocV (r := 0) (by omega) (ev_var (P := isV C n (fun _ => 0)) rfl (IsV.ex p e0)) ev_zero).imp fun v H2 _ p => IsV.congr p fun j _ => by split <;> rfl)) fun v H1 e1 p1 => ?_
    obtain ⟨l, us, rfl, hln, hlu, hll, hle⟩ := p1
    refine st_append (K := K) (i := 1) (a := l) (P := isV C (n + 1) (fun _ => 0)) rfl hlu (by rw [hll]; omega) (ev_V (ev_tupL (K := K) (ev_mapR (k := 3) (Pk := fun _ => isQ C 0) (by omega) (by have := ev_addI (σ := [some u, some (.ref l), none, none]) (ev_lenT (K := K) (Ev.isTs_M (ev_var (i := 0) (P := isM C n n (fun _ _ => 0)) rfl (hu.ex e1)))) (ev_c (x := .int 1)); rw [show ((n : Int) + 1) = ((n + 1 : Nat) : Int) by omega] at this; exact this) (fun _ _ => im_Q) (fun _ => rfl) fun j H5 hj e5 => ev_zero))) fun v H2 e2 p2 => ?_
    have eL : ExL H2 (upd H2 l (.lst (us ++ [v]))) := (ExL.refl H2).mut (e2 _ _ hlu)
    have hls : LsV C (n + 1) us n (fun _ _ => 0) H1 := ⟨hll, hle⟩
    have hls2 := (hls.exl (e2.exl.trans eL)).snoc (IsV.exl p2 eL) fun j _ => rfl
    refine st_ret (P := isM C (n + 1) (n + 1) (fun _ _ => 0)) (ev_M (ev_tupL (K := K) (ev_var (P := isLs (n + 1) fun _ => isV C (n + 1) (fun _ => 0)) rfl (hls2.p upd_same)))) fun z H3 e3 p3 => k z H3 (((e1.trans e2).mut hln).trans e3) p3
theorem scRdInit : FnScope ["self", "name", "terms", "value", "weight"] ["self", "name", "terms", "value", "weight"] (defScope sRdInit) := ⟨rfl, rfl, rfl, by decide +kernel, rfl, by decide +kernel, by decide +kernel⟩
theorem ok_rdinit (F : FnP K "__init__" "Reading.__init__" sRdInit f fd) (T : NCls K N C Rd) : FnOk P w K mg base CX0 1 f fd ["self", "name", "terms", "value", "weight"] (spRdInit Rd) := by
  refine F.ok scRdInit (fun vs H Q E h => ?_) (fun cdv A outer s H vs Q E hr h => ?_)
  · obtain ⟨p, dx, nm, tm, vl, wt, rfl, _⟩ := h
    rfl
  · obtain ⟨p, dx, nm, tm, vl, wt, rfl, hp, k⟩ := h
    refine ⟨_, PSs.nox (pss_cons (ps_fld (pv 0) (pv 1) rfl) (pss_cons (ps_fld (pv 0) (pv 2) rfl) (pss_cons (ps_fld (pv 0) (pv 3) rfl) (pss_one (ps_fld (pv 0) (pv 4) rfl))))), ?_⟩
    refine ⟨_, rfl, _, rfl, p, Rd, dx, _, rfl, hp, T.rcl, T.r1, (by show 0 < 1000; decide), ?_⟩
    refine ⟨_, rfl, _, rfl, p, Rd, dx, _, rfl, upd_same, T.rcl, T.r2, Nat.lt_of_le_of_lt (length_putF _ _ _) (by show 1 < 1000; decide), ?_⟩
    refine ⟨_, rfl, _, rfl, p, Rd, dx, _, rfl, upd_same, T.rcl, T.r3, Nat.lt_of_le_of_lt (Nat.le_trans (length_putF _ _ _) (Nat.succ_le_succ (length_putF _ _ _))) (by show 2 < 1000; decide), ?_⟩
    refine ⟨_, rfl, _, rfl, p, Rd, dx, _, rfl, upd_same, T.rcl, T.r4, Nat.lt_of_le_of_lt (Nat.le_trans (length_putF _ _ _) (Nat.succ_le_succ (Nat.le_trans (length_putF _ _ _) (Nat.succ_le_succ (length_putF _ _ _))))) (by show 3 < 1000; decide), ?_⟩
    dsimp only
    rw [upd_upd, upd_upd, upd_upd]
    have := rdf_put nm tm vl wt
    rw [this]
    exact k
theorem scNetRow : FnScope ["self", "reading", "found", "name", "coefficient", "_"] ["self", "reading"] (defScope sNetRow) := ⟨rfl, rfl, rfl, by decide +kernel, rfl, by decide +kernel, by decide +kernel⟩
theorem ok_netrow (F : FnP K "row" "Net.row" sNetRow f fd) (R : RK P w K mg base C) (T : NCls K N C Rd) (mt : mg "tuple" = none) : FnOk P w K mg base CX0 3 f fd ["self", "reading"] (spNetRow C N Rd) := by
  refine F.ok scNetRow (fun vs H Q E h => ?_) (fun cdv A outer s H vs Q E hr h => ?_)
  · obtain ⟨a, r, dx, dr, lp, fs, nm, tv, vl, wt, names, ts, rfl, _⟩ := h
    rfl
  · obtain ⟨a, r, dx, dr, lp, fs, nm, tv, vl, wt, names, ts, rfl, ha, hlk, hlp, hr', htm, tok, nd, hn, k⟩ := h
    have hr2 : Room 2 _ := hr
    refine ⟨_, PSs.nox (pss_cons (ps_setLc (i := 2) (own := [("_", 5)]) (g := (gName 5)) (tt := tYes) rfl scNetRow.nd rfl rfl (sw_true rfl rfl rfl (by decide +kernel)) (pi_list (pe_fld (pv 0) rfl)) (blkOk_by (N := ["self", "reading", "found", "name", "coefficient", "_"]) (sc := defScope sNetRow) (by decide +kernel)) (fun _ _ _ _ _ => (pg_name (i := 5) scNetRow.nd rfl (Or.inl rfl))) (fun _ _ _ _ _ => pts_nil) (fun _ _ _ _ _ => (pe_mk1 R hr2 rfl (pa_cons pe_int pa_nil)))) (pss_cons (ps_for PassesOwn.never rfl (pi_tup (pe_fld (pv 1) rfl)) (pg_tup rfl (pgs_cons (pg_name (i := 3) scNetRow.nd rfl (Or.inl rfl)) (pgs_cons (pg_name (i := 4) scNetRow.nd rfl (Or.inl rfl)) pgs_nil))) (pss_one (ps_asg (pe_mk1 R hr2 rfl (pa_cons (pv 4) pa_nil)) (pg_sub (pv 2) (pe_bm PySem.F.plainAttrs_list PySem.F.slot_list_index PySem.F.type_list_index mt_index (pe_fld (pv 0) rfl) (pa_cons (pv 3) pa_nil)) set_list)))) (pss_one (ps_ret (pe_callTy (r := rTup K) call_tuple_of (by rfl) mt (by decide +kernel) (pa_cons (pv 2) pa_nil)))))), ?_⟩
    refine st_set (ev_lcN (n := names.length) (Pi := fun _ => isQ C 0) hn (fd_list (K := K) (Pi := fun i => ⟨fun _ _ => True, fun _ _ _ _ _ => trivial⟩) (ev_own rfl ha T.cl T.p1 hlk ⟨lp, names.map V.str, rfl, hlp, List.length_map _, fun i hi => ⟨_, List.getElem?_eq_getElem (by rw [List.length_map]; exact hi), trivial⟩⟩)) (fun _ _ => im_Q) fun i H1 x H' hi e y Qt q => by
      obtain ⟨rfl, _⟩ := y
      exact q _ _ (Ex.refl _) rfl ev_zero) fun v H1 e1 p1 => ?_
    obtain ⟨l, us, rfl, hln, hlu, hll, hle⟩ := p1
    obtain ⟨tp, ob, tus, rfl, hob, htp, htl, hte⟩ := id htm
    refine st_forT (K := K) (a := tp) (us := tus) (ev_own rfl (e1 _ _ hr') T.rcl T.r2 (rdf_get2 _ _ _ _) rfl) (fun H2 e2 => SqT.frz (e2 _ _ (e1 _ _ htp))) (fun i σ H' => ∃ ws y1 y2 y3, σ = [some (.ref a), some (.ref r), some (.ref l), y1, y2, y3] ∧ Ex H H' ∧ H' l = some (.lst ws) ∧ LsQ C ws names.length (rowOf names (ts.take i)) H')
      (fun H2 e2 => ⟨us, none, none, none, rfl, e1.trans e2, e2 _ _ hlu, (LsQ.congr (x := fun _ => 0) ⟨hll, hle⟩ fun j _ => rfl).exl e2.exl⟩) (fun i σ' H' ⟨ws, y1, y2, y3, _, e, _⟩ => SqT.frz (e _ _ htp)) ?_ ?_
    · rintro i x σ H3 hx ⟨ws, y1, y2, y3, rfl, e3, hlw, hls⟩
      have hi : i < ts.length := by rw [← htl]; exact (List.getElem?_eq_some_iff.mp hx).1
      obtain ⟨y, c, hyc⟩ : ∃ y c, ts[i]? = some (y, c) := ⟨_, _, List.getElem?_eq_getElem hi⟩
      obtain ⟨q, hq1, hq2⟩ := hte i y c hyc
      rw [hx] at hq1
      cases hq1
      refine pair_tgt (e3 _ _ hq2) ?_
      obtain ⟨j, hj, hjy⟩ := List.mem_iff_getElem.mp (tok.mem _ (List.mem_of_getElem? hyc))
      have hj' : names[j]? = some y := by rw [List.getElem?_eq_getElem hj, hjy]
      refine st_putE (a := l) (k := j) rfl hlw (by rw [hls.1]; exact hj) (ev_mk1 (C := C) (t := c) (ev_var rfl rfl)) (ev_index (K := K) nd hj' (ev_own rfl (e3 _ _ ha) T.cl T.p1 hlk ⟨lp, rfl, e3 _ _ hlp⟩) (ev_var rfl rfl)) fun z H4 e4 p4 => ?_
      have hl4 := e4 _ _ hlw
      have eL : ExL H4 (upd H4 l (.lst (ws.set j z))) := (ExL.refl H4).mut hl4
      have p4 : IsQ C H4 z (c : Rat) := p4
      refine ⟨ws.set j z, _, _, _, rfl, (e3.trans e4).mut hln, upd_same, (((hls.exl e4.exl).set (k := j) p4).exl eL).congr fun o ho => ?_⟩
      unfold rowOf
      rw [coef_take tok.nd hyc]
      have ho' : names[o]? = some (names.getD o default) := by rw [List.getD_eq_getElem?_getD, List.getElem?_eq_getElem ho]; rfl
      by_cases e : o = j
      · subst e
        rw [hj'] at ho'
        rw [if_pos rfl, if_pos (Option.some.inj ho').symm]
      · rw [if_neg e, if_neg]
        intro z
        rw [z] at ho'
        exact e ((List.getElem?_inj ho nd).mp (ho'.trans hj'.symm))
    · rintro σ H3 ⟨ws, y1, y2, y3, rfl, e3, hlw, hls⟩
      rw [htl, List.take_length] at hls
      refine st_ret (P := isV C names.length (rowOf names ts)) (ev_V (ev_tupL (K := K) (ev_var (P := isLs names.length fun j => isQ C (rowOf names ts j)) rfl (hls.p hlw)))) fun z H4 e4 p4 => k z H4 (e3.trans e4) p4
end
end PW

set_option Elab.async false
set_option linter.all false
set_option maxRecDepth 100000
set_option maxHeartbeats 4000000
/-! PwL: a net and its readings. -/
namespace PW
open PySem PySem.Spec PyProof.Rows L2 PN
def rname (k : Nat) : Str := (("r" : Str) ++ ((toString (k : Int) : String) : Str))
theorem rname_inj : ∀ j, j < 7 → ∀ k, k < 7 → rname j = rname k → j = k := by decide +kernel
/-- what stays: fractions, readings -/
def Fz2 (C Rd : Addr) : Addr → Prop := fun c => c = C ∨ c = Rd
def IsRdAt (C Rd : Addr) (H : Hp) (u : V) (nm : Str) (ts : List (Str × Int)) (q w : Rat) : Prop := ∃ (r dr : Addr) (tv qv wv : V), u = .ref r ∧ H r = some (.ins Rd dr (rdf (.str nm) tv qv wv)) ∧ (isTm ts).p tv H ∧ IsQ C H qv q ∧ IsQ C H wv w
section
variable {C N Rd : Addr} {H H' : Hp} {u v : V} {nm : Str} {ts : List (Str × Int)} {q w : Rat} {Fz : Addr → Prop}
theorem isTm_exi (h : (isTm ts).p v H) (e : ExI Fz H H') : (isTm ts).p v H' := let ⟨p, o, us, h1, h0, h2, h3, h4⟩ := h; ⟨p, o, us, h1, h0, e _ _ h2 trivial, h3, fun i y c hh => let ⟨q, k1, k2⟩ := h4 i y c hh; ⟨q, k1, e _ _ k2 trivial⟩⟩
theorem IsRdAt.exi (h : IsRdAt C Rd H u nm ts q w) (e : ExI (Fz2 C Rd) H H') : IsRdAt C Rd H' u nm ts q w :=
  let ⟨r, dr, tv, qv, wv, h1, h2, h3, h4, h5⟩ := h; ⟨r, dr, tv, qv, wv, h1, e _ _ h2 (Or.inr rfl), isTm_exi h3 e, h4.mono (Or.inl rfl) e, h5.mono (Or.inl rfl) e⟩
theorem imm_net {dx : Addr} {fs : List (Str × V)} (h1 : N ≠ C) (h2 : N ≠ Rd) : ¬ Imm (Fz2 C Rd) (.ins N dx fs) := fun h => h.elim h1 h2
theorem imm_lst {us : List V} : ¬ Imm Fz (.lst us) := fun h => h
end
/-- a net at a: its lists at lp, lr -/
structure NetV (C N Rd : Addr) (H : Hp) (a lp lr : Addr) (names : List Str) (S : NS) (dx : Addr) (va vm vi vr vt : V) (us : List V) : Prop where
  obj : H a = some (.ins N dx (nf (.ref lp) va (.ref lr) vm vi vr vt))
  pts : H lp = some (.lst (names.map V.str))
  rds : H lr = some (.lst us)
  len : names.length = S.n
  nd : names.Nodup
  ne : lp ≠ lr
  x : IsV C H va S.n S.x
  M : IsM C H vm S.n S.n S.M
  P : IsM C H vi S.n S.n S.P
  rt : IsV C H vr S.n S.rt
  t : IsQ C H vt S.t
  ulen : us.length = S.m
  rd : ∀ k, k < S.m → ∃ u ts, us[k]? = some u ∧ IsRdAt C Rd H u (rname k) ts (S.val k) (S.W k) ∧ TmOk names ts ∧ S.A k = rowOf names ts
def NetAt (C N Rd : Addr) (H : Hp) (a lp lr : Addr) (names : List Str) (S : NS) : Prop := ∃ (dx : Addr) (va vm vi vr vt : V) (us : List V), NetV C N Rd H a lp lr names S dx va vm vi vr vt us
section
variable {C N Rd : Addr} {H H' : Hp} {a lp lr dx : Addr} {names : List Str} {S : NS} {va vm vi vr vt : V} {us : List V}
theorem NetV.keep (h : NetV C N Rd H a lp lr names S dx va vm vi vr vt us) (e : ExI (Fz2 C Rd) H H') (h1 : H' a = H a) (h2 : H' lp = H lp) (h3 : H' lr = H lr) : NetV C N Rd H' a lp lr names S dx va vm vi vr vt us where
  obj := h1.trans h.obj
  pts := h2.trans h.pts
  rds := h3.trans h.rds
  len := h.len
  nd := h.nd
  ne := h.ne
  x := h.x.mono (Or.inl rfl) e
  M := h.M.mono (Or.inl rfl) e
  P := h.P.mono (Or.inl rfl) e
  rt := h.rt.mono (Or.inl rfl) e
  t := h.t.mono (Or.inl rfl) e
  ulen := h.ulen
  rd := fun k hk => let ⟨u, ts, k1, k2, k3, k4⟩ := h.rd k hk; ⟨u, ts, k1, k2.exi e, k3, k4⟩
theorem NetV.ex (h : NetV C N Rd H a lp lr names S dx va vm vi vr vt us) (e : Ex H H') : NetV C N Rd H' a lp lr names S dx va vm vi vr vt us :=
  h.keep e.imm ((e _ _ h.obj).trans h.obj.symm) ((e _ _ h.pts).trans h.pts.symm) ((e _ _ h.rds).trans h.rds.symm)
theorem NetAt.ex (h : NetAt C N Rd H a lp lr names S) (e : Ex H H') : NetAt C N Rd H' a lp lr names S := let ⟨dx, va, vm, vi, vr, vt, us, h⟩ := h; ⟨dx, va, vm, vi, vr, vt, us, h.ex e⟩
theorem NetAt.keep (h : NetAt C N Rd H a lp lr names S) (e : ExI (Fz2 C Rd) H H') (h1 : H' a = H a) (h2 : H' lp = H lp) (h3 : H' lr = H lr) : NetAt C N Rd H' a lp lr names S := let ⟨dx, va, vm, vi, vr, vt, us, h⟩ := h; ⟨dx, va, vm, vi, vr, vt, us, h.keep e h1 h2 h3⟩
theorem NetV.nal (h : NetV C N Rd H a lp lr names S dx va vm vi vr vt us) : a ≠ lp ∧ a ≠ lr := ⟨fun e => (by have := h.pts; rw [← e, h.obj] at this; cases this), fun e => (by have := h.rds; rw [← e, h.obj] at this; cases this)⟩
end
/-- the state with all but the inverse told anew -/
def halfS (S : NS) (a : Nat → Rat) (w v : Rat) : NS := { S with M := addT w a S.M, rt := fun i => S.rt i + (w * shf S.n S.x a v) * a i, t := S.t + (w * shf S.n S.x a v) * shf S.n S.x a v }
structure TermOk (n : Nat) (M : Nat → Nat → Rat) (a : Nat → Rat) (w : Rat) : Prop where
  m : ∀ i, i < n → ∀ j, j < n → Sm (M i j)
  rr : ∀ i, i < n → ∀ j, j < n → Sm (a i * a j)
  wrr : ∀ i, i < n → ∀ j, j < n → Sm (w * (a i * a j))
abbrev netB (a lp lr : Addr) : Addr → Prop := fun p => p = a ∨ p = lp ∨ p = lr
abbrev sTally : Stmt := inClass (topS 46) 4
abbrev sPut : Stmt := inClass (topS 46) 5
abbrev sAdd : Stmt := inClass (topS 46) 7
abbrev sRows : Stmt := inClass (topS 46) 11
abbrev sHts : Stmt := inClass (topS 46) 12
abbrev sMov : Stmt := inClass (topS 46) 16
def spNetInit (C N Rd : Addr) : Sp := fun vs H Q _ => ∃ (p dx : Addr), vs = [.ref p] ∧ H p = some (.ins N dx []) ∧ ∀ lp lr H', H lp = none → H lr = none → ExE (· = p) H H' → (∀ x, NetAt C N Rd H' p lp lr [] (NS.zero 0 x)) → Q .non H'
def spAddPoint (C N Rd : Addr) : Sp := fun vs H Q _ => ∃ (a lp lr : Addr) (y : Str) (qv : V) (names : List Str) (x : Nat → Rat) (q : Rat), vs = [.ref a, .str y, qv] ∧ NetAt C N Rd H a lp lr names (NS.zero names.length x) ∧ y ∉ names ∧ names.length < 12 ∧ IsQ C H qv q ∧
  ∀ H', ExE (netB a lp lr) H H' → NetAt C N Rd H' a lp lr (names ++ [y]) (NS.zero (names.length + 1) (fun i => if i = names.length then q else x i)) → Q .non H'
def spRows (C N Rd : Addr) : Sp := fun vs H Q _ => ∃ (a lp lr : Addr) (names : List Str) (S : NS), vs = [.ref a] ∧ NetAt C N Rd H a lp lr names S ∧ S.n ≤ 1000 ∧ S.m ≤ 1000 ∧ ∀ z H', Ex H H' → IsM C H' z S.m S.n S.A → Q z H'
def spMov (C N Rd : Addr) : Sp := fun vs H Q _ => ∃ (a lp lr : Addr) (names : List Str) (S : NS), vs = [.ref a] ∧ NetAt C N Rd H a lp lr names S ∧ S.n ≤ 1000 ∧ S.m ≤ 1000 ∧ RedOk S.m S.n S.A ∧ (∀ i, i < S.m → ∀ j, j < S.n → Sm ((red S.m S.A S.n).R i j)) ∧
  ∀ z H', Ex H H' → (isK C S.n (kern S.m S.n S.A)).p z H' → Q z H'
def spHts (C N Rd : Addr) : Sp := fun vs H Q _ => ∃ (a lp lr : Addr) (names : List Str) (S : NS), vs = [.ref a] ∧ NetAt C N Rd H a lp lr names S ∧ S.n ≤ 1000 ∧ HtsOk S ∧ ∀ z H', Ex H H' → IsV C H' z S.n (hts S) → Q z H'
/-- a reading as an instance at r -/
def RdIs (C Rd : Addr) (H : Hp) (r : Addr) (nm : Str) (ts : List (Str × Int)) (q w : Rat) : Prop := IsRdAt C Rd H (.ref r) nm ts q w
def spTally (C N Rd : Addr) : Sp := fun vs H Q _ => ∃ (a lp lr r : Addr) (wv : V) (names : List Str) (S : NS) (nm : Str) (ts : List (Str × Int)) (v w w0 : Rat), vs = [.ref a, .ref r, wv] ∧ NetAt C N Rd H a lp lr names S ∧ RdIs C Rd H r nm ts v w0 ∧ TmOk names ts ∧ IsQ C H wv w ∧
  S.n ≤ 1000 ∧ TallyOk S (rowOf names ts) w v ∧ TermOk S.n S.M (rowOf names ts) w ∧ ∀ H', ExE (netB a lp lr) H H' → H' lr = H lr → NetAt C N Rd H' a lp lr names (halfS S (rowOf names ts) w v) → Q .non H'
def spPut (C N Rd : Addr) : Sp := fun vs H Q _ => ∃ (a lp lr r : Addr) (names : List Str) (S : NS) (nm : Str) (ts : List (Str × Int)) (v w : Rat), vs = [.ref a, .ref r] ∧ NetAt C N Rd H a lp lr names S ∧ RdIs C Rd H r nm ts v w ∧ TmOk names ts ∧ NOk S ∧ S.m < 7 ∧ NewOk S.n (rowOf names ts) w v ∧
  ∀ H', ExE (netB a lp lr) H H' → H' lr = H lr → NetAt C N Rd H' a lp lr names (halfS { S with P := S.put (rowOf names ts) w } (rowOf names ts) w v) → Q .non H'
def spAdd (C N Rd : Addr) : Sp := fun vs H Q _ => ∃ (a lp lr r : Addr) (names : List Str) (S : NS) (ts : List (Str × Int)) (v w : Rat), vs = [.ref a, .ref r] ∧ NetAt C N Rd H a lp lr names S ∧ RdIs C Rd H r (rname S.m) ts v w ∧ TmOk names ts ∧ NOk S ∧ S.m < 7 ∧ NewOk S.n (rowOf names ts) w v ∧
  ∀ H', ExE (netB a lp lr) H H' → NetAt C N Rd H' a lp lr names (S.add (rowOf names ts) w v) → Q .non H'
section
variable {K : PySem.W.Frag} {σ : L2.St} {H H' : Hp} {te ta tb : TE} {a N : Addr} {dx : Addr} {fs : List (Str × V)} {E : XK} {C Rd lp lr : Addr} {names : List Str} {S : NS} {va vm vi vr vt : V} {us : List V} {i j : Nat}
theorem ev_call4 {tc td : TE} {P P1 P2 P3 P4 : MP} {sp : Sp} (ha : Ev ta σ H P1) (hb : Ev tb σ H P2) (hc : Ev tc σ H P3) (hd : Ev td σ H P4) (hs : ∀ x y z u H1, Ex H H1 → P1.p x H1 → P2.p y H1 → P3.p z H1 → P4.p u H1 → Gives sp E [x, y, z, u] H1 P) : Ev (tCall sp [] E (tCons ta (tCons tb (tCons tc (tCons td tNil))))) σ H P := fun H1 e Q q =>
  ha H1 e _ fun x H2 e2 p => hb H2 (e.trans e2) _ fun y H3 e3 p3 => hc H3 ((e.trans e2).trans e3) _ fun z H4 e4 p4 => hd H4 (((e.trans e2).trans e3).trans e4) _ fun u H5 e5 p5 => hs x y z u H5 ((((e.trans e2).trans e3).trans e4).trans e5) (P1.mono _ _ _ ((e3.trans e4).trans e5) p) (P2.mono _ _ _ (e4.trans e5) p3) (P3.mono _ _ _ e5 p4) p5 H5 (Ex.refl H5) Q
    fun v H6 e6 p6 => q v H6 ((((e2.trans e3).trans e4).trans e5).trans e6) p6
def isNew (H0 : Hp) : MP := ⟨fun v H' => ∃ a : Addr, v = V.ref a ∧ H0 a = none ∧ H' a = some (.lst []), fun _ _ _ e ⟨a, h1, h2, h3⟩ => ⟨a, h1, h2, e _ _ h3⟩⟩
theorem ev_lst0 : Ev (tLst tNil) σ H (isNew H) := fun H1 e Q q => ⟨Nat.zero_le _, fun p hp => q _ _ (Ex.new hp) ⟨p, rfl, e.free hp, upd_same⟩⟩
theorem exi_net (e : ExE (· = a) H H') (h : H a = some (.ins N dx fs)) (h1 : N ≠ C) (h2 : N ≠ Rd) : ExI (Fz2 C Rd) H H' := e.exi fun p o hp ho => by
  subst hp
  rw [h] at ho
  cases ho
  exact imm_net h1 h2
theorem evT_eqS {x y : Str} (ha : Ev ta σ H (isX (.str x))) (hb : Ev tb σ H (isX (.str y))) : EvT (tTest (tOp rEq ta tb)) σ H (decide (x = y)) := fun H1 e Q q =>
  ha H1 e _ fun u H2 e2 p => hb H2 (e.trans e2) _ fun v H3 e3 p3 => by
    obtain rfl : u = .str x := p
    obtain rfl : v = .str y := p3
    refine ⟨rfl, _, rfl, ?_⟩
    have e0 : decide (V.str x = V.str y) = decide (x = y) := by
      by_cases h : x = y
      · rw [h]; simp
      · rw [decide_eq_false h, decide_eq_false fun z => h (V.str.inj z)]
    rw [e0]
    exact q H3 (e2.trans e3)
theorem ev_row {nm : Str} {ts : List (Str × Int)} {q w : Rat} (nv : NetV C N Rd H a lp lr names S dx va vm vi vr vt us) (hn : S.n ≤ 1000) (hs : σ[i]? = some (some (.ref a))) (ht : Ev te σ H ⟨fun v H' => ∃ r, v = .ref r ∧ RdIs C Rd H' r nm ts q w, fun _ _ _ e ⟨r, h1, h2⟩ => ⟨r, h1, h2.exi e.imm⟩⟩) (tok : TmOk names ts) :
    Ev (tMeth N "row" (spNetRow C N Rd) [] E (tVar i) (tCons te tNil)) σ H (isV C S.n (rowOf names ts)) :=
  ev_meth1 hs nv.obj (nf_no _ _ _ _ _ _ _ (by decide +kernel)) ht fun x H1 e p H2 e2 Q q => by
    obtain ⟨r, rfl, r', dr, tv, qv, wv, h1, h2, h3, h4, h5⟩ := p
    cases h1
    refine ⟨a, r, dx, dr, lp, _, _, tv, qv, wv, names, ts, rfl, e2 _ _ (e _ _ nv.obj), nf_get1 _ _ _ _ _ _ _, e2 _ _ (e _ _ nv.pts), e2 _ _ h2, (isTm ts).mono _ _ _ e2 h3, tok, nv.nd, by rw [nv.len]; exact hn, fun z H' e p => q z H' e (by rw [nv.len] at p; exact p)⟩
end
section
variable {P : Program} {w : World} {K : PySem.W.Frag} {mg : Str → Option Value} {base : Heap} {f C N Rd fW fRow fRows fK fA fP fAT fD fS fWA fT fPut : Addr} {fd fdW fdRow fdRows fdK fdA fdP fdAT fdD fdS fdWA fdT fdPut : FuncData} {t12 : Tok}
theorem scNetInit : FnScope ["self"] ["self"] (defScope sNetInit) := ⟨rfl, rfl, rfl, by decide +kernel, rfl, by decide +kernel, by decide +kernel⟩
theorem ok_netinit (F : FnP K "__init__" "Net.__init__" sNetInit f fd) (R : RK P w K mg base C) (NT : NCls K N C Rd) : FnOk P w K mg base CX0 3 f fd ["self"] (spNetInit C N Rd) := by
  refine F.ok scNetInit (fun vs H Q E h => ?_) (fun cdv A outer s H vs Q E hr h => ?_)
  · obtain ⟨p, dx, rfl, _⟩ := h
    rfl
  · obtain ⟨p, dx, rfl, hp, k⟩ := h
    have hr2 : Room 2 _ := hr
    refine ⟨_, PSs.nox (pss_cons (ps_fld (pv 0) (pe_lst pa_nil) rfl) (pss_cons (ps_fld (pv 0) (pe_tup pa_nil) rfl) (pss_cons (ps_fld (pv 0) (pe_lst pa_nil) rfl) (pss_cons (ps_fld (pv 0) (pe_tup pa_nil) rfl) (pss_cons (ps_fld (pv 0) (pe_tup pa_nil) rfl) (pss_cons (ps_fld (pv 0) (pe_tup pa_nil) rfl) (pss_one (ps_fld (pv 0) (pe_mk1 R hr2 rfl (pa_cons pe_int pa_nil)) rfl)))))))), ?_⟩
    have L : ∀ (f : Str) (v : V) (fs : List (Str × V)), (putF f v fs).length ≤ fs.length + 1 := fun f v fs => length_putF f v fs
    refine st_fld rfl hp NT.cl NT.p1 (by show 0 < 1000; decide) ev_lst0 fun v1 H1 e1 p1 => ?_
    obtain ⟨lp, rfl, hlp0, hlp1⟩ := p1
    have nlp : lp ≠ p := fun e => by rw [e, hp] at hlp0; cases hlp0
    generalize hK1 : upd H1 p _ = K1
    have x1 : ExE (· = p) H K1 := by rw [← hK1]; exact (Ex.exe e1).mut rfl
    have o1 : K1 p = some (.ins N dx (putF "points" (.ref lp) [])) := by rw [← hK1]; exact upd_same
    have g1 : K1 lp = some (.lst []) := by rw [← hK1, upd_ne nlp]; exact hlp1
    refine st_fld rfl o1 NT.cl NT.p2 (Nat.lt_of_le_of_lt (L _ _ _) (by show 1 < 1000; decide)) (ev_tup0 (C := C)) fun v2 H2 e2 p2 => ?_
    generalize hK2 : upd H2 p _ = K2
    have x2 : ExE (· = p) K1 K2 := by rw [← hK2]; exact (Ex.exe e2).mut rfl
    have o2 : K2 p = some (.ins N dx (putF "approximations" v2 (putF "points" (.ref lp) []))) := by rw [← hK2]; exact upd_same
    have y2 : ExI (Fz2 C Rd) H2 K2 := by rw [← hK2]; exact (ExI.refl H2).mut (e2 _ _ o1) (imm_net NT.nc NT.nr)
    have q2 : IsV C K2 v2 0 (fun _ => 0) := IsV.mono (Or.inl rfl) p2 y2
    refine st_fld rfl o2 NT.cl NT.p3 (Nat.lt_of_le_of_lt (Nat.le_trans (L _ _ _) (Nat.succ_le_succ (L _ _ _))) (by show 2 < 1000; decide)) ev_lst0 fun v3 H3 e3 p3 => ?_
    obtain ⟨lr, rfl, hlr0, hlr1⟩ := p3
    have nlr : lr ≠ p := fun e => by rw [e, o2] at hlr0; cases hlr0
    have x12 := x1.trans x2
    have hlrH : H lr = none := by
      cases h : H lr with
      | none => rfl
      | some o => rw [x12 lr o nlr h] at hlr0; cases hlr0
    have nll : lp ≠ lr := fun e => by have := x2 lp _ nlp g1; rw [e, hlr0] at this; cases this
    generalize hK3 : upd H3 p _ = K3
    have x3 : ExE (· = p) K2 K3 := by rw [← hK3]; exact (Ex.exe e3).mut rfl
    have o3 : K3 p = some (.ins N dx (putF "readings" (.ref lr) (putF "approximations" v2 (putF "points" (.ref lp) [])))) := by rw [← hK3]; exact upd_same
    have g3 : K3 lr = some (.lst []) := by rw [← hK3, upd_ne nlr]; exact hlr1
    have l3 : (putF "readings" (.ref lr) (putF "approximations" v2 (putF "points" (.ref lp) []))).length ≤ 3 := Nat.le_trans (L _ _ _) (Nat.succ_le_succ (Nat.le_trans (L _ _ _) (Nat.succ_le_succ (L _ _ _))))
    refine st_fld rfl o3 NT.cl NT.p4 (Nat.lt_of_le_of_lt l3 (by decide)) (ev_tup0 (C := C)) fun v4 H4 e4 p4 => ?_
    generalize hK4 : upd H4 p _ = K4
    have x4 : ExE (· = p) K3 K4 := by rw [← hK4]; exact (Ex.exe e4).mut rfl
    have o4 : K4 p = some (.ins N dx (putF "normal" v4 (putF "readings" (.ref lr) (putF "approximations" v2 (putF "points" (.ref lp) []))))) := by rw [← hK4]; exact upd_same
    have y4 : ExI (Fz2 C Rd) H4 K4 := by rw [← hK4]; exact (ExI.refl H4).mut (e4 _ _ o3) (imm_net NT.nc NT.nr)
    have q4 : IsV C K4 v4 0 (fun _ => 0) := IsV.mono (Or.inl rfl) p4 y4
    have l4 := Nat.le_trans (L "normal" v4 _) (Nat.succ_le_succ l3)
    refine st_fld rfl o4 NT.cl NT.p5 (Nat.lt_of_le_of_lt l4 (by decide)) (ev_tup0 (C := C)) fun v5 H5 e5 p5 => ?_
    generalize hK5 : upd H5 p _ = K5
    have x5 : ExE (· = p) K4 K5 := by rw [← hK5]; exact (Ex.exe e5).mut rfl
    have o5 : K5 p = some (.ins N dx (putF "inverse" v5 (putF "normal" v4 (putF "readings" (.ref lr) (putF "approximations" v2 (putF "points" (.ref lp) [])))))) := by rw [← hK5]; exact upd_same
    have y5 : ExI (Fz2 C Rd) H5 K5 := by rw [← hK5]; exact (ExI.refl H5).mut (e5 _ _ o4) (imm_net NT.nc NT.nr)
    have q5 : IsV C K5 v5 0 (fun _ => 0) := IsV.mono (Or.inl rfl) p5 y5
    have l5 := Nat.le_trans (L "inverse" v5 _) (Nat.succ_le_succ l4)
    refine st_fld rfl o5 NT.cl NT.p6 (Nat.lt_of_le_of_lt l5 (by decide)) (ev_tup0 (C := C)) fun v6 H6 e6 p6 => ?_
    generalize hK6 : upd H6 p _ = K6
    have x6 : ExE (· = p) K5 K6 := by rw [← hK6]; exact (Ex.exe e6).mut rfl
    have o6 : K6 p = some (.ins N dx (putF "right" v6 (putF "inverse" v5 (putF "normal" v4 (putF "readings" (.ref lr) (putF "approximations" v2 (putF "points" (.ref lp) []))))))) := by rw [← hK6]; exact upd_same
    have y6 : ExI (Fz2 C Rd) H6 K6 := by rw [← hK6]; exact (ExI.refl H6).mut (e6 _ _ o5) (imm_net NT.nc NT.nr)
    have q6 : IsV C K6 v6 0 (fun _ => 0) := IsV.mono (Or.inl rfl) p6 y6
    have l6 := Nat.le_trans (L "right" v6 _) (Nat.succ_le_succ l5)
    refine st_fld rfl o6 NT.cl NT.p7 (Nat.lt_of_le_of_lt l6 (by decide)) (ev_zero (C := C)) fun v7 H7 e7 p7 => ?_
    rw [nf_make]
    generalize hK7 : upd H7 p _ = K7
    have x7 : ExE (· = p) K6 K7 := by rw [← hK7]; exact (Ex.exe e7).mut rfl
    have o7 : K7 p = some (.ins N dx (nf (.ref lp) v2 (.ref lr) v4 v5 v6 v7)) := by rw [← hK7]; exact upd_same
    have y7 : ExI (Fz2 C Rd) H7 K7 := by rw [← hK7]; exact (ExI.refl H7).mut (e7 _ _ o6) (imm_net NT.nc NT.nr)
    have q7 : IsQ C K7 v7 0 := IsQ.mono (Or.inl rfl) p7 y7
    have z6 := exi_net x7 o6 NT.nc NT.nr
    have z5 := (exi_net x6 o5 NT.nc NT.nr).trans z6
    have z4 := (exi_net x5 o4 NT.nc NT.nr).trans z5
    have z2 := ((exi_net x3 o2 NT.nc NT.nr).trans (exi_net x4 o3 NT.nc NT.nr)).trans z4
    have x37 := ((x4.trans x5).trans x6).trans x7
    have x17 := (x2.trans x3).trans x37
    have vm0 : ∀ {H : Hp} {v : V} {x : Nat → Rat}, IsV C H v 0 x → IsM C H v 0 0 (fun _ _ => 0) := fun ⟨b, us, h1, h2, h3, _⟩ => ⟨b, us, h1, h2, h3, fun i hi => absurd hi (Nat.not_lt_zero i)⟩
    exact k lp lr K7 hlp0 hlrH (x1.trans x17) fun x => ⟨dx, v2, v4, v5, v6, v7, [], o7, x17 _ _ nlp g1, x37 _ _ nlr g3, rfl, List.nodup_nil, nll, (q2.mono (Or.inl rfl) z2).congr fun i hi => absurd hi (Nat.not_lt_zero i), vm0 (q4.mono (Or.inl rfl) z4), vm0 (q5.mono (Or.inl rfl) z5), q6.mono (Or.inl rfl) z6, q7, rfl, fun k hk => absurd hk (Nat.not_lt_zero k)⟩
theorem scRows : FnScope ["self", "reading"] ["self"] (defScope sRows) := ⟨rfl, rfl, rfl, by decide +kernel, rfl, by decide +kernel, by decide +kernel⟩
theorem ok_rows (F : FnP K "rows" "Net.rows" sRows f fd) (NT : NCls K N C Rd) (mt : mg "tuple" = none) (DRow : MetOk P w K mg base CX0 N "row" 3 ["self", "reading"] (spNetRow C N Rd) fRow fdRow) : FnOk P w K mg base CX0 4 f fd ["self"] (spRows C N Rd) := by
  refine F.ok scRows (fun vs H Q E h => ?_) (fun cdv A outer s H vs Q E hr h => ?_)
  · obtain ⟨a, lp, lr, names, S, rfl, _⟩ := h
    rfl
  · obtain ⟨a, lp, lr, names, S, rfl, ⟨dx, va, vm, vi, vr, vt, us, nv⟩, hn, hm, k⟩ := h
    have hr3 : Room 3 _ := hr
    refine ⟨_, PSs.nox (pss_one (ps_ret (pe_callTy (r := rTup K) call_tuple_of (by rfl) mt (by decide +kernel) (pa_cons (pe_lc (own := [("reading", 1)]) (g := (gName 1)) (tt := tYes) rfl scRows.nd (pi_list (pe_fld (pv 0) rfl)) (blkOk_by (N := ["self", "reading"]) (sc := defScope sRows) (by decide +kernel)) (fun _ _ _ _ _ => (pg_name (i := 1) scRows.nd rfl (Or.inl rfl))) (fun _ _ _ _ _ => pts_nil) (fun _ _ _ _ _ => (pe_meth (pv 0) NT.cl DRow.me DRow.ok hr3 DRow.bd .nil pass0 (pa_cons (pv 1) pa_nil)))) pa_nil)))), ?_⟩
    refine st_ret (P := isM C S.m S.n S.A) (ev_M (ev_tupL (K := K) (ev_lc (n := S.m) (Pi := fun k => isV C S.n (S.A k)) hm (fd_list (K := K) (Pi := fun k => ⟨fun v H => ∃ r ts, v = V.ref r ∧ RdIs C Rd H r (rname k) ts (S.val k) (S.W k) ∧ TmOk names ts ∧ S.A k = rowOf names ts, fun _ _ _ e ⟨r, ts, h0, h1, h2⟩ => ⟨r, ts, h0, h1.exi e.imm, h2⟩⟩)
      (ev_own rfl nv.obj NT.cl NT.p3 (nf_get3 _ _ _ _ _ _ _) ⟨lr, us, rfl, nv.rds, nv.ulen, fun k hk => by
        obtain ⟨u, ts, h1, h2, h3⟩ := nv.rd k hk
        obtain ⟨r, dr, tv, qv, wv, rfl, h4⟩ := id h2
        exact ⟨_, h1, r, ts, rfl, h2, h3⟩⟩)) (fun _ _ => im_V) fun i H1 x H' hi e y Qt q => by
      obtain ⟨rfl, H0, e0, r, ts, rfl, h1, h2, h3⟩ := y
      refine q _ _ (Ex.refl _) rfl ?_
      rw [h3]
      exact ev_row (nv.ex e) hn rfl (ev_var rfl ⟨r, rfl, h1.exi e0.imm⟩) h2))) fun z H' e p => k z H' e p
theorem scMov : FnScope ["self"] ["self"] (defScope sMov) := ⟨rfl, rfl, rfl, by decide +kernel, rfl, by decide +kernel, by decide +kernel⟩
theorem ok_mov (F : FnP K "movements" "Net.movements" sMov f fd) (NT : NCls K N C Rd) (mn : mg "len" = none) (DRows : MetOk P w K mg base CX0 N "rows" 4 ["self"] (spRows C N Rd) fRows fdRows)
    (DK : DefOk P w K mg base CX0 "kernel" 7 ["matrix", "width"] (spKernel C) fK fdK) : FnOk P w K mg base CX0 8 f fd ["self"] (spMov C N Rd) := by
  refine F.ok scMov (fun vs H Q E h => ?_) (fun cdv A outer s H vs Q E hr h => ?_)
  · obtain ⟨a, lp, lr, names, S, rfl, _⟩ := h
    rfl
  · obtain ⟨a, lp, lr, names, S, rfl, V0, hn, hm, ok, sm, k⟩ := h
    obtain ⟨dx, va, vm, vi, vr, vt, us, nv⟩ := id V0
    have hr7 : Room 7 _ := hr
    have hr4 : Room 4 _ := hr.mono (by decide)
    refine ⟨_, PSs.nox (pss_one (ps_ret (pe_cd DK hr7 rfl pass0 (pa_cons (pe_meth0 (pv 0) NT.cl DRows.me DRows.ok hr4 DRows.bd .nil pass0) (pa_cons (pe_callB call_len_seq (by rfl) mn PySem.boot_len (pa_cons (pe_fld (pv 0) rfl) pa_nil)) pa_nil))))), ?_⟩
    have hlen : Ev (tCB (rLen K) (tCons (tFld K (tVar 0) "points") tNil)) (L2.start ["self"] [V.ref a]) H (isX (.int (S.n : Int))) := by
      have := ev_lenL (K := K) (n := names.length) (Pi := fun i => ⟨fun _ _ => True, fun _ _ _ _ _ => trivial⟩) (ev_own (σ := L2.start ["self"] [V.ref a]) (i := 0) rfl nv.obj NT.cl NT.p1 (nf_get1 _ _ _ _ _ _ _) ⟨lp, _, rfl, nv.pts, List.length_map _, fun i hi => ⟨_, List.getElem?_eq_getElem (by rw [List.length_map]; exact hi), trivial⟩⟩)
      rwa [nv.len] at this
    refine st_ret (ev_call2 (P := isK C S.n (kern S.m S.n S.A)) (P1 := isM C S.m S.n S.A) (ev_meth0 rfl nv.obj (nf_no _ _ _ _ _ _ _ (by decide +kernel)) fun H1 e H2 e2 Q q => ⟨a, lp, lr, names, S, rfl, (V0.ex e).ex e2, hn, hm, q⟩) hlen fun x y H1 _ p1 p2 H2 e2 Q q => ?_) fun z H' e p => k z H' e p
    obtain rfl : y = .int (S.n : Int) := p2
    exact ⟨x, S.m, S.n, S.A, rfl, IsM.ex p1 e2, hm, hn, ok, sm, q⟩
theorem scHts : FnScope ["self"] ["self"] (defScope sHts) := ⟨rfl, rfl, rfl, by decide +kernel, rfl, by decide +kernel, by decide +kernel⟩
theorem ok_hts (F : FnP K "heights" "Net.heights" sHts f fd) (NT : NCls K N C Rd) (DP : DefOk P w K mg base CX0 "plus" 4 ["a", "b"] (spPlus C (· + ·)) fP fdP)
    (DA : DefOk P w K mg base CX0 "apply" 5 ["matrix", "vector"] (spApply C) fA fdA) : FnOk P w K mg base CX0 6 f fd ["self"] (spHts C N Rd) := by
  refine F.ok scHts (fun vs H Q E h => ?_) (fun cdv A outer s H vs Q E hr h => ?_)
  · obtain ⟨a, lp, lr, names, S, rfl, _⟩ := h
    rfl
  · obtain ⟨a, lp, lr, names, S, rfl, ⟨dx, va, vm, vi, vr, vt, us, nv⟩, hn, ok, k⟩ := h
    have hr5 : Room 5 _ := hr
    have hr4 : Room 4 _ := hr.mono (by decide)
    refine ⟨_, PSs.nox (pss_one (ps_ret (pe_cd DP hr4 rfl pass0 (pa_cons (pe_fld (pv 0) rfl) (pa_cons (pe_cd DA hr5 rfl pass0 (pa_cons (pe_fld (pv 0) rfl) (pa_cons (pe_fld (pv 0) rfl) pa_nil))) pa_nil))))), ?_⟩
    refine st_ret (P := isV C S.n (hts S)) (ev_vec (g := (· + ·)) (ev_own rfl nv.obj NT.cl NT.p2 (nf_get2 _ _ _ _ _ _ _) (P := isV C S.n S.x) nv.x) (ev_apply (ev_own rfl nv.obj NT.cl NT.p5 (nf_get5 _ _ _ _ _ _ _) (P := isM C S.n S.n S.P) nv.P) (ev_own rfl nv.obj NT.cl NT.p6 (nf_get6 _ _ _ _ _ _ _) (P := isV C S.n S.rt) nv.rt) hn ok.d) hn ok.x ok.p) fun z H' e p => k z H' e p
theorem scAddPoint : FnScope ["self", "name", "approximation"] ["self", "name", "approximation"] (defScope sAddPoint) := ⟨rfl, rfl, rfl, by decide +kernel, rfl, by decide +kernel, by decide +kernel⟩
theorem ok_addpoint (F : FnP K "add_point" "Net.add_point" sAddPoint f fd) (R : RK P w K mg base C) (NT : NCls K N C Rd) (mn : mg "len" = none) (mM : mg "MOST_POINTS" = some (.int 12 t12)) (DW : DefOk P w K mg base CX0 "widened" 3 ["matrix"] (spWidened C) fW fdW) :
    FnOk P w K mg base CX0 4 f fd ["self", "name", "approximation"] (spAddPoint C N Rd) := by
  refine F.ok scAddPoint (fun vs H Q E h => ?_) (fun cdv A outer s H vs Q E hr h => ?_)
  · obtain ⟨a, lp, lr, y, qv, names, x, q, rfl, _⟩ := h
    rfl
  · obtain ⟨a, lp, lr, y, qv, names, x, q, rfl, ⟨dx, va, vm, vi, vr, vt, us, nv⟩, hy, hn, hq, k⟩ := h
    have hr3 : Room 3 _ := hr
    have hr2 : Room 2 _ := hr.mono (by decide)
    refine ⟨_, PSs.nox (pss_cons (ps_if (pt_cmpR op_in_seq (pv 1) (pe_fld (pv 0) rfl) (by rfl)) (pss_one ps_never) pss_nil) (pss_cons (ps_if (pt_cmpR op_eq (pe_callB call_len_seq (by rfl) mn PySem.boot_len (pa_cons (pe_fld (pv 0) rfl) pa_nil)) (pe_glob (v := .int 12) rfl mM ⟨_, rfl⟩) (nomark _)) (pss_one ps_never) pss_nil) (pss_cons (ps_expr (pe_bm PySem.F.plainAttrs_list PySem.F.slot_list_append PySem.F.type_list_append mt_append (pe_fld (pv 0) rfl) (pa_cons (pv 1) pa_nil))) (pss_cons (ps_fld (pv 0) (pe_op op_catA (pe_fld (pv 0) rfl) (pe_tup (pa_cons (pv 2) pa_nil))) rfl) (pss_cons (ps_fld (pv 0) (pe_cd DW hr3 rfl pass0 (pa_cons (pe_fld (pv 0) rfl) pa_nil)) rfl) (pss_cons (ps_fld (pv 0) (pe_cd DW hr3 rfl pass0 (pa_cons (pe_fld (pv 0) rfl) pa_nil)) rfl) (pss_one (ps_fld (pv 0) (pe_op op_catA (pe_fld (pv 0) rfl) (pe_tup (pa_cons (pe_mk1 R hr2 rfl (pa_cons pe_int pa_nil)) pa_nil))) rfl)))))))), ?_⟩
    obtain ⟨nal, nar⟩ := nv.nal
    refine st_if (evT_inS (K := K) (l := names) (y := y) (ev_var rfl rfl) (ev_own rfl nv.obj NT.cl NT.p1 (nf_get1 _ _ _ _ _ _ _) ⟨lp, rfl, nv.pts⟩)) (fun hb => absurd (of_decide_eq_true hb) hy) fun _ H1 e1 => ?_
    have v1 := nv.ex e1
    have hlen : Ev (tCB (rLen K) (tCons (tFld K (tVar 0) "points") tNil)) (L2.start ["self", "name", "approximation"] [V.ref a, V.str y, qv]) H1 (isX (.int (names.length : Int))) :=
      ev_lenL (K := K) (n := names.length) (Pi := fun i => ⟨fun _ _ => True, fun _ _ _ _ _ => trivial⟩) (ev_own (σ := L2.start ["self", "name", "approximation"] [V.ref a, V.str y, qv]) (i := 0) rfl v1.obj NT.cl NT.p1 (nf_get1 _ _ _ _ _ _ _) ⟨lp, _, rfl, v1.pts, List.length_map _, fun i hi => ⟨_, List.getElem?_eq_getElem (by rw [List.length_map]; exact hi), trivial⟩⟩)
    refine st_if (evT_eqI hlen ev_c) (fun hb => by have := of_decide_eq_true hb; omega) fun _ H2 e2 => ?_
    have v2 := v1.ex e2
    refine st_appendE (K := K) (a := lp) (ev_own rfl v2.obj NT.cl NT.p1 (nf_get1 _ _ _ _ _ _ _) rfl) v2.pts (by rw [List.length_map]; omega) (ev_var (P := isX (.str y)) rfl rfl) fun z H3 e3 p3 => ?_
    obtain rfl : z = .str y := p3
    have v3 := v2.ex e3
    generalize hK3 : upd H3 lp _ = K3
    have x3 : ExE (netB a lp lr) H K3 := by rw [← hK3]; exact (Ex.exe ((e1.trans e2).trans e3)).mut (Or.inr (Or.inl rfl))
    have i3 : ExI (Fz2 C Rd) H3 K3 := by rw [← hK3]; exact (ExI.refl H3).mut v3.pts imm_lst
    have i03 : ExI (Fz2 C Rd) H K3 := ((e1.trans e2).trans e3).imm.trans i3
    have o3 := (congrFun hK3 a).symm.trans ((upd_ne nal).trans v3.obj)
    have l3 : K3 lp = some (.lst ((names ++ [y]).map V.str)) := by rw [← hK3, List.map_append]; exact upd_same
    have r3 : K3 lr = some (.lst us) := by rw [← hK3, upd_ne nv.ne.symm]; exact v3.rds
    have hC : Fz2 C Rd C := Or.inl rfl
    have nl : nv.len = nv.len := rfl
    refine st_fld rfl o3 NT.cl NT.p2 (by show 7 < 1000; decide) (ev_snocV (x := x) (r := q) (n := names.length) (by omega) (ev_own rfl o3 NT.cl NT.p2 (nf_get2 _ _ _ _ _ _ _) (P := isV C names.length x) (nv.x.mono hC i03)) (ev_var (P := isQ C q) rfl (hq.mono hC i03))) fun w1 H4 e4 p4 => ?_
    rw [nf_put2]
    generalize hK4 : upd H4 a _ = K4
    have x4 : ExE (· = a) K3 K4 := by rw [← hK4]; exact (Ex.exe e4).mut rfl
    have o4 := (congrFun hK4 a).symm.trans upd_same
    have i4 : ExI (Fz2 C Rd) H4 K4 := by rw [← hK4]; exact (ExI.refl H4).mut (e4 _ _ o3) (imm_net NT.nc NT.nr)
    have q4 := IsV.mono hC p4 i4
    have i04 := i03.trans (exi_net x4 o3 NT.nc NT.nr)
    refine st_fld rfl o4 NT.cl NT.p4 (by show 7 < 1000; decide) (ev_call1 (P := isM C (names.length + 1) (names.length + 1) fun _ _ => 0) (ev_own rfl o4 NT.cl NT.p4 (nf_get4 _ _ _ _ _ _ _) (P := isM C names.length names.length fun _ _ => 0) (nv.M.mono hC i04)) fun u H1 _ p1 H2 e2 Q q => ⟨u, names.length, rfl, IsM.ex p1 e2, by omega, q⟩) fun w2 H5 e5 p5 => ?_
    rw [nf_put4]
    generalize hK5 : upd H5 a _ = K5
    have x5 : ExE (· = a) K4 K5 := by rw [← hK5]; exact (Ex.exe e5).mut rfl
    have o5 := (congrFun hK5 a).symm.trans upd_same
    have i5 : ExI (Fz2 C Rd) H5 K5 := by rw [← hK5]; exact (ExI.refl H5).mut (e5 _ _ o4) (imm_net NT.nc NT.nr)
    have q5 := IsM.mono hC p5 i5
    have j5 := exi_net x5 o4 NT.nc NT.nr
    have i05 := i04.trans j5
    refine st_fld rfl o5 NT.cl NT.p5 (by show 7 < 1000; decide) (ev_call1 (P := isM C (names.length + 1) (names.length + 1) fun _ _ => 0) (ev_own rfl o5 NT.cl NT.p5 (nf_get5 _ _ _ _ _ _ _) (P := isM C names.length names.length fun _ _ => 0) (nv.P.mono hC i05)) fun u H1 _ p1 H2 e2 Q q => ⟨u, names.length, rfl, IsM.ex p1 e2, by omega, q⟩) fun w3 H6 e6 p6 => ?_
    rw [nf_put5]
    generalize hK6 : upd H6 a _ = K6
    have x6 : ExE (· = a) K5 K6 := by rw [← hK6]; exact (Ex.exe e6).mut rfl
    have o6 := (congrFun hK6 a).symm.trans upd_same
    have i6 : ExI (Fz2 C Rd) H6 K6 := by rw [← hK6]; exact (ExI.refl H6).mut (e6 _ _ o5) (imm_net NT.nc NT.nr)
    have q6 := IsM.mono hC p6 i6
    have j6 := exi_net x6 o5 NT.nc NT.nr
    have i06 := i05.trans j6
    refine st_fld rfl o6 NT.cl NT.p6 (by show 7 < 1000; decide) (ev_snocV (x := fun _ => 0) (r := 0) (n := names.length) (by omega) (ev_own rfl o6 NT.cl NT.p6 (nf_get6 _ _ _ _ _ _ _) (P := isV C names.length fun _ => 0) (nv.rt.mono hC i06)) ev_zero) fun w4 H7 e7 p7 => ?_
    rw [nf_put6]
    generalize hK7 : upd H7 a _ = K7
    have x7 : ExE (· = a) K6 K7 := by rw [← hK7]; exact (Ex.exe e7).mut rfl
    have o7 := (congrFun hK7 a).symm.trans upd_same
    have i7 : ExI (Fz2 C Rd) H7 K7 := by rw [← hK7]; exact (ExI.refl H7).mut (e7 _ _ o6) (imm_net NT.nc NT.nr)
    have q7 := (IsV.mono hC p7 i7).congr (y := fun _ => 0) fun i _ => by split <;> rfl
    have j7 := exi_net x7 o6 NT.nc NT.nr
    have x37 := ((x4.trans x5).trans x6).trans x7
    exact k K7 (x3.trans (x37.mono fun p hp => Or.inl hp)) ⟨dx, w1, w2, w3, w4, vt, us, o7, x37 _ _ (Ne.symm nal) l3, x37 _ _ (Ne.symm nar) r3, by rw [List.length_append]; rfl, by
      rw [List.nodup_append]
      exact ⟨nv.nd, (List.pairwise_singleton _ y), fun a ha b hb e => by rw [List.mem_singleton] at hb; subst hb; subst e; exact hy ha⟩, nv.ne, q4.mono hC ((j5.trans j6).trans j7), q5.mono hC (j6.trans j7), q6.mono hC j7, q7, nv.t.mono hC (i06.trans j7), nv.ulen, fun k hk => absurd hk (Nat.not_lt_zero k)⟩
theorem scTally : FnScope ["self", "reading", "weight", "row", "shift"] ["self", "reading", "weight"] (defScope sTally) := ⟨rfl, rfl, rfl, by decide +kernel, rfl, by decide +kernel, by decide +kernel⟩
theorem ok_tally (F : FnP K "tally" "Net.tally" sTally f fd) (R : RK P w K mg base C) (NT : NCls K N C Rd) (DRow : MetOk P w K mg base CX0 N "row" 3 ["self", "reading"] (spNetRow C N Rd) fRow fdRow)
    (DAT : DefOk P w K mg base CX0 "add_term" 6 ["matrix", "row", "weight"] (spAddTerm C) fAT fdAT) (DP : DefOk P w K mg base CX0 "plus" 4 ["a", "b"] (spPlus C (· + ·)) fP fdP) (DD : DefOk P w K mg base CX0 "dot" 4 ["a", "b"] (spDot C) fD fdD)
    (DS : DefOk P w K mg base CX0 "scale" 4 ["factor", "a"] (spScale C) fS fdS) : FnOk P w K mg base CX0 7 f fd ["self", "reading", "weight"] (spTally C N Rd) := by
  refine F.ok scTally (fun vs H Q E h => ?_) (fun cdv A outer s H vs Q E hr h => ?_)
  · obtain ⟨a, lp, lr, r, wv, names, S, nm, ts, v, w, w0, rfl, _⟩ := h
    rfl
  · obtain ⟨a, lp, lr, r, wv, names, S, nm, ts, v, w', w0, rfl, ⟨dx, va, vm, vi, vr, vt, us, nv⟩, hrd, tok, hw, hn, ok, tm, k⟩ := h
    have hr6 : Room 6 _ := hr
    have hr4 : Room 4 _ := hr.mono (by decide)
    have hr3 : Room 3 _ := hr.mono (by decide)
    refine ⟨_, PSs.nox (pss_cons (ps_set (i := 3) scTally.nd rfl (Or.inl rfl) (pe_meth (pv 0) NT.cl DRow.me DRow.ok hr3 DRow.bd .nil pass0 (pa_cons (pv 1) pa_nil))) (pss_cons (ps_set (i := 4) scTally.nd rfl (Or.inl rfl) (pe_subQ R hr3 (pe_fld (pv 1) rfl) (pe_cd DD hr4 rfl pass0 (pa_cons (pv 3) (pa_cons (pe_fld (pv 0) rfl) pa_nil))))) (pss_cons (ps_fld (pv 0) (pe_cd DAT hr6 rfl pass0 (pa_cons (pe_fld (pv 0) rfl) (pa_cons (pv 3) (pa_cons (pv 2) pa_nil)))) rfl) (pss_cons (ps_fld (pv 0) (pe_cd DP hr4 rfl pass0 (pa_cons (pe_fld (pv 0) rfl) (pa_cons (pe_cd DS hr4 rfl pass0 (pa_cons (pe_mulQ R hr3 (pv 2) (pv 4)) (pa_cons (pv 3) pa_nil))) pa_nil))) rfl) (pss_one (ps_fld (pv 0) (pe_addQ R hr3 (pe_fld (pv 0) rfl) (pe_mulQ R hr3 (pe_mulQ R hr3 (pv 2) (pv 4)) (pv 4))) rfl)))))), ?_⟩
    obtain ⟨nal, nar⟩ := nv.nal
    have hC : Fz2 C Rd C := Or.inl rfl
    refine st_set (ev_row nv hn rfl (ev_var (i := 1) rfl ⟨r, rfl, hrd⟩) tok) fun rv H1 e1 p1 => ?_
    obtain ⟨r', dr, tv, qv, wv', hr', hr1, hr2, hr3', hr4'⟩ := id hrd
    cases hr'
    refine st_set (P := isQ C (shf S.n S.x (rowOf names ts) v)) (ev_opQ (f := (· - ·)) (ev_own rfl (e1 _ _ hr1) NT.rcl NT.r3 (rdf_get3 _ _ _ _) (P := isQ C v) (hr3'.ex e1)) (ev_dot (ev_var (P := isV C S.n (rowOf names ts)) rfl p1) (ev_own rfl (e1 _ _ nv.obj) NT.cl NT.p2 (nf_get2 _ _ _ _ _ _ _) (P := isV C S.n S.x) (nv.x.ex e1)) ok.d) ok.hv ok.ax) fun sv H2 e2 p2 => ?_
    have e02 := e1.trans e2
    have v2 := nv.ex e02
    refine st_fld rfl v2.obj NT.cl NT.p4 (by show 7 < 1000; decide) (ev_call3 (P := isM C S.n S.n (addT w' (rowOf names ts) S.M)) (ev_own rfl v2.obj NT.cl NT.p4 (nf_get4 _ _ _ _ _ _ _) (P := isM C S.n S.n S.M) v2.M) (ev_var (P := isV C S.n (rowOf names ts)) rfl (IsV.ex p1 e2)) (ev_var (P := isQ C w') rfl (hw.ex e02)) fun x y z H1 _ p1 p2 p3 H2 e2 Q q =>
      ⟨x, y, z, S.n, S.M, rowOf names ts, w', rfl, IsM.ex p1 e2, IsV.ex p2 e2, IsQ.ex p3 e2, hn, ok.hw, ok.ha, tm.m, tm.rr, tm.wrr, q⟩) fun w1 H3 e3 p3 => ?_
    rw [nf_put4]
    have e03 := e02.trans e3
    generalize hK3 : upd H3 a _ = K3
    have x3 : ExE (· = a) H K3 := by rw [← hK3]; exact (Ex.exe e03).mut rfl
    have o3 := (congrFun hK3 a).symm.trans upd_same
    have i3 : ExI (Fz2 C Rd) H3 K3 := by rw [← hK3]; exact (ExI.refl H3).mut (e03 _ _ nv.obj) (imm_net NT.nc NT.nr)
    have q3 := IsM.mono hC p3 i3
    have i03 : ExI (Fz2 C Rd) H K3 := e03.imm.trans i3
    have rv3 : IsV C K3 rv S.n (rowOf names ts) := (IsV.ex p1 (e2.trans e3)).mono hC i3
    have sv3 : IsQ C K3 sv (shf S.n S.x (rowOf names ts) v) := (IsQ.ex p2 e3).mono hC i3
    have wv3 : IsQ C K3 wv w' := hw.mono hC i03
    refine st_fld rfl o3 NT.cl NT.p6 (by show 7 < 1000; decide) (ev_vec (g := (· + ·)) (ev_own rfl o3 NT.cl NT.p6 (nf_get6 _ _ _ _ _ _ _) (P := isV C S.n S.rt) (nv.rt.mono hC i03)) (ev_scale (ev_opQ (f := (· * ·)) (ev_var (P := isQ C w') rfl wv3) (ev_var (P := isQ C (shf S.n S.x (rowOf names ts) v)) rfl sv3) ok.hw ok.s) (ev_var (P := isV C S.n (rowOf names ts)) rfl rv3) hn (fun _ => ok.ws) ok.ha) hn ok.r ok.wsa) fun w2 H4 e4 p4 => ?_
    rw [nf_put6]
    generalize hK4 : upd H4 a _ = K4
    have x4 : ExE (· = a) K3 K4 := by rw [← hK4]; exact (Ex.exe e4).mut rfl
    have o4 := (congrFun hK4 a).symm.trans upd_same
    have i4 : ExI (Fz2 C Rd) H4 K4 := by rw [← hK4]; exact (ExI.refl H4).mut (e4 _ _ o3) (imm_net NT.nc NT.nr)
    have q4 := IsV.mono hC p4 i4
    have j4 := exi_net x4 o3 NT.nc NT.nr
    have i04 := i03.trans j4
    have sv4 := sv3.mono hC j4
    have wv4 := wv3.mono hC j4
    refine st_fld rfl o4 NT.cl NT.p7 (by show 7 < 1000; decide) (ev_opQ (f := (· + ·)) (ev_own rfl o4 NT.cl NT.p7 (nf_get7 _ _ _ _ _ _ _) (P := isQ C S.t) (nv.t.mono hC i04)) (ev_opQ (f := (· * ·)) (ev_opQ (f := (· * ·)) (ev_var (P := isQ C w') rfl wv4) (ev_var (P := isQ C (shf S.n S.x (rowOf names ts) v)) rfl sv4) ok.hw ok.s) (ev_var (P := isQ C (shf S.n S.x (rowOf names ts) v)) rfl sv4) ok.ws ok.s) ok.t ok.wss) fun w3 H5 e5 p5 => ?_
    rw [nf_put7]
    generalize hK5 : upd H5 a _ = K5
    have x5 : ExE (· = a) K4 K5 := by rw [← hK5]; exact (Ex.exe e5).mut rfl
    have o5 := (congrFun hK5 a).symm.trans upd_same
    have i5 : ExI (Fz2 C Rd) H5 K5 := by rw [← hK5]; exact (ExI.refl H5).mut (e5 _ _ o4) (imm_net NT.nc NT.nr)
    have q5 := IsQ.mono hC p5 i5
    have j5 := exi_net x5 o4 NT.nc NT.nr
    have i05 := i04.trans j5
    have x05 := (x3.trans x4).trans x5
    exact k K5 (x05.mono fun p hp => Or.inl hp) ((x05 _ _ (Ne.symm nar) nv.rds).trans nv.rds.symm) ⟨dx, va, w1, vi, w2, w3, us, o5, x05 _ _ (Ne.symm nal) nv.pts, x05 _ _ (Ne.symm nar) nv.rds, nv.len, nv.nd, nv.ne, nv.x.mono hC i05, q3.mono hC (j4.trans j5), nv.P.mono hC i05, q4.mono hC j5, q5, nv.ulen,
      fun k hk => let ⟨u, ts, k1, k2, k3, k4⟩ := nv.rd k hk; ⟨u, ts, k1, k2.exi i05, k3, k4⟩⟩
theorem scPut : FnScope ["self", "reading"] ["self", "reading"] (defScope sPut) := ⟨rfl, rfl, rfl, by decide +kernel, rfl, by decide +kernel, by decide +kernel⟩
theorem ok_put (F : FnP K "put" "Net.put" sPut f fd) (NT : NCls K N C Rd) (DRow : MetOk P w K mg base CX0 N "row" 3 ["self", "reading"] (spNetRow C N Rd) fRow fdRow)
    (DWA : DefOk P w K mg base CX0 "with_added" 6 ["matrix", "inverse", "row", "weight"] (spWithAdded C) fWA fdWA) (DTal : MetOk P w K mg base CX0 N "tally" 7 ["self", "reading", "weight"] (spTally C N Rd) fT fdT) : FnOk P w K mg base CX0 8 f fd ["self", "reading"] (spPut C N Rd) := by
  refine F.ok scPut (fun vs H Q E h => ?_) (fun cdv A outer s H vs Q E hr h => ?_)
  · obtain ⟨a, lp, lr, r, names, S, nm, ts, v, w, rfl, _⟩ := h
    rfl
  · obtain ⟨a, lp, lr, r, names, S, nm, ts, v, w', rfl, ⟨dx, va, vm, vi, vr, vt, us, nv⟩, hrd, tok, K0, hm, hN, k⟩ := h
    have hr7 : Room 7 _ := hr
    have hr6 : Room 6 _ := hr.mono (by decide)
    have hr3 : Room 3 _ := hr.mono (by decide)
    have hn : S.n ≤ 1000 := by have := K0.n5; omega
    refine ⟨_, PSs.nox (pss_cons (ps_fld (pv 0) (pe_cd DWA hr6 rfl pass0 (pa_cons (pe_fld (pv 0) rfl) (pa_cons (pe_fld (pv 0) rfl) (pa_cons (pe_meth (pv 0) NT.cl DRow.me DRow.ok hr3 DRow.bd .nil pass0 (pa_cons (pv 1) pa_nil)) (pa_cons (pe_fld (pv 1) rfl) pa_nil))))) rfl) (pss_one (ps_expr (pe_meth (pv 0) NT.cl DTal.me DTal.ok hr7 DTal.bd .nil pass0 (pa_cons (pv 1) (pa_cons (pe_fld (pv 1) rfl) pa_nil)))))), ?_⟩
    obtain ⟨nal, nar⟩ := nv.nal
    have hC : Fz2 C Rd C := Or.inl rfl
    obtain ⟨r', dr, tv, qv, wv', hr', hr1, hr2, hr3', hr4'⟩ := id hrd
    cases hr'
    have aok := K0.addok hm hN
    refine st_fld (P := isM C S.n S.n (S.put (rowOf names ts) w')) rfl nv.obj NT.cl NT.p5 (by show 7 < 1000; decide) (fun H1 e Q' q => ?_) fun w1 H3 e3 p3 => ?_
    · -- with_added(normal, inverse, row, weight)
      have ea := ev_own (σ := L2.start ["self", "reading"] [V.ref a, V.ref r]) (i := 0) rfl nv.obj NT.cl NT.p4 (nf_get4 _ _ _ _ _ _ _) (P := isM C S.n S.n S.M) nv.M
      have eb := ev_own (σ := L2.start ["self", "reading"] [V.ref a, V.ref r]) (i := 0) rfl nv.obj NT.cl NT.p5 (nf_get5 _ _ _ _ _ _ _) (P := isM C S.n S.n S.P) nv.P
      have ec := ev_row (σ := L2.start ["self", "reading"] [V.ref a, V.ref r]) (E := E0) (i := 0) nv hn rfl (ev_var (i := 1) rfl ⟨r, rfl, hrd⟩) tok
      have ed := ev_own (σ := L2.start ["self", "reading"] [V.ref a, V.ref r]) (i := 1) rfl hr1 NT.rcl NT.r4 (rdf_get4 _ _ _ _) (P := isQ C w') hr4'
      exact ev_call4 (P := isM C S.n S.n (S.put (rowOf names ts) w')) ea eb ec ed (fun x1 x2 x3 x4 H1 _ p1 p2 p3 p4 H5 e5 Q q => ⟨x1, x2, x3, x4, S.n, S.M, S.P, rowOf names ts, w', rfl, IsM.ex p1 e5, IsM.ex p2 e5, IsV.ex p3 e5, IsQ.ex p4 e5, hn, aok,
        fun h => ⟨K0.sameok hm hN, fun z H' ex p => q z H' ex (by rw [← put_same h] at p; exact p)⟩, fun h => ⟨K0.moreok hm hN h, fun z H' ex p => q z H' ex (by rw [← put_more h] at p; exact p)⟩⟩) H1 e Q' q
    · rw [nf_put5]
      generalize hK3 : upd H3 a _ = K3
      have x3 : ExE (· = a) H K3 := by rw [← hK3]; exact (Ex.exe e3).mut rfl
      have o3 := (congrFun hK3 a).symm.trans upd_same
      have i3 : ExI (Fz2 C Rd) H3 K3 := by rw [← hK3]; exact (ExI.refl H3).mut (e3 _ _ nv.obj) (imm_net NT.nc NT.nr)
      have q3 := IsM.mono hC p3 i3
      have i03 : ExI (Fz2 C Rd) H K3 := e3.imm.trans i3
      have l3 := x3 _ _ (Ne.symm nal) nv.pts
      have r3 := x3 _ _ (Ne.symm nar) nv.rds
      have hrd3 : RdIs C Rd K3 r nm ts v w' := hrd.exi i03
      have nv3 : NetAt C N Rd K3 a lp lr names { S with P := S.put (rowOf names ts) w' } := ⟨dx, va, vm, w1, vr, vt, us, o3, l3, r3, nv.len, nv.nd, nv.ne, nv.x.mono hC i03, nv.M.mono hC i03, q3, nv.rt.mono hC i03, nv.t.mono hC i03, nv.ulen, fun k hk => let ⟨u, ts, k1, k2, k3, k4⟩ := nv.rd k hk; ⟨u, ts, k1, k2.exi i03, k3, k4⟩⟩
      have tal := K0.tally hN
      refine ⟨_, rfl, a, dx, _, rfl, o3, nf_no _ _ _ _ _ _ _ (by decide +kernel), _, rfl, _, rfl, r, Rd, dr, _, _, rfl, i03 _ _ hr1 (Or.inr rfl), NT.rcl, NT.r4, rdf_get4 _ _ _ _, ?_⟩
      exact ⟨a, lp, lr, r, wv', names, _, nm, ts, v, w', w', rfl, nv3, hrd3, tok, hr4'.mono hC i03, hn, ⟨tal.d, tal.hv, tal.ax, tal.s, tal.hw, tal.ws, tal.ha, tal.wsa, tal.r, tal.wss, tal.t⟩, ⟨aok.m, aok.rr, aok.wrr⟩, fun H' ex hlr ha => k H' ((x3.mono fun p hp => Or.inl hp).trans ex) (hlr.trans (r3.trans nv.rds.symm)) ha⟩
theorem scAdd : FnScope ["self", "reading", "other", "name", "_"] ["self", "reading"] (defScope sAdd) := ⟨rfl, rfl, rfl, by decide +kernel, rfl, by decide +kernel, by decide +kernel⟩
theorem ok_add (F : FnP K "add" "Net.add" sAdd f fd) (NT : NCls K N C Rd) (mn : mg "len" = none) (mM : mg "MOST_READINGS" = some (.int 24 t12)) (DPut : MetOk P w K mg base CX0 N "put" 8 ["self", "reading"] (spPut C N Rd) fPut fdPut) :
    FnOk P w K mg base CX0 9 f fd ["self", "reading"] (spAdd C N Rd) := by
  refine F.ok scAdd (fun vs H Q E h => ?_) (fun cdv A outer s H vs Q E hr h => ?_)
  · obtain ⟨a, lp, lr, r, names, S, ts, v, w, rfl, _⟩ := h
    rfl
  · obtain ⟨a, lp, lr, r, names, S, ts, v, w', rfl, ⟨dx, va, vm, vi, vr, vt, us, nv⟩, hrd, tok, K0, hm, hN, k⟩ := h
    have hr8 : Room 8 _ := hr
    refine ⟨_, PSs.nox (pss_cons (ps_for PassesOwn.never rfl (pi_list (pe_fld (pv 0) rfl)) (pg_name (i := 2) scAdd.nd rfl (Or.inl rfl)) (pss_one (ps_if (pt_cmpR op_eq (pe_fld (pv 2) rfl) (pe_fld (pv 1) rfl) (nomark _)) (pss_one ps_never) pss_nil))) (pss_cons (ps_for PassesOwn.never rfl (pi_tup (pe_fld (pv 1) rfl)) (pg_tup rfl (pgs_cons (pg_name (i := 3) scAdd.nd rfl (Or.inl rfl)) (pgs_cons (pg_name (i := 4) scAdd.nd rfl (Or.inl rfl)) pgs_nil))) (pss_one (ps_if (pt_cmpR op_notIn_seq (pv 3) (pe_fld (pv 0) rfl) (by rfl)) (pss_one ps_never) pss_nil))) (pss_cons (ps_if (pt_cmpR op_eq (pe_callB call_len_seq (by rfl) mn PySem.boot_len (pa_cons (pe_fld (pv 0) rfl) pa_nil)) (pe_glob (v := .int 24) rfl mM ⟨_, rfl⟩) (nomark _)) (pss_one ps_never) pss_nil) (pss_cons (ps_expr (pe_meth (pv 0) NT.cl DPut.me DPut.ok hr8 DPut.bd .nil pass0 (pa_cons (pv 1) pa_nil))) (pss_one (ps_expr (pe_bm PySem.F.plainAttrs_list PySem.F.slot_list_append PySem.F.type_list_append mt_append (pe_fld (pv 0) rfl) (pa_cons (pv 1) pa_nil)))))))), ?_⟩
    obtain ⟨nal, nar⟩ := nv.nal
    have hC : Fz2 C Rd C := Or.inl rfl
    obtain ⟨r', dr, tv, qv, wv', hr', hr1, hr2, hr3', hr4'⟩ := id hrd
    cases hr'
    obtain ⟨tp, ob, tus, rfl, hob, htp, htl, hte⟩ := id hr2
    refine st_forL (K := K) (a := lr) (us := us) (ev_own rfl nv.obj NT.cl NT.p3 (nf_get3 _ _ _ _ _ _ _) rfl) nv.rds (fun i σ H' => ∃ x1, σ = [some (.ref a), some (.ref r), x1, none, none] ∧ Ex H H') (fun H2 e2 => ⟨none, rfl, e2⟩) (fun i σ' H' ⟨x1, _, e⟩ => e _ _ nv.rds) ?_ ?_
    · rintro i x σ H2 hx ⟨x1, rfl, e2⟩
      have hi : i < S.m := by rw [← nv.ulen]; exact (List.getElem?_eq_some_iff.mp hx).1
      obtain ⟨u, ts', k1, k2, _, _⟩ := nv.rd i hi
      rw [hx] at k1
      cases k1
      obtain ⟨r2, dr2, tv2, qv2, wv2, rfl, k3, _⟩ := k2
      refine st_if (evT_eqS (x := rname i) (y := rname S.m) (ev_own (i := 2) rfl (e2 _ _ k3) NT.rcl NT.r1 (rdf_get1 _ _ _ _) rfl) (ev_own (i := 1) rfl (e2 _ _ hr1) NT.rcl NT.r1 (rdf_get1 _ _ _ _) rfl)) (fun hb => ?_) fun _ H3 e3 => ⟨_, rfl, e2.trans e3⟩
      have := rname_inj i (by omega) S.m hm (of_decide_eq_true hb)
      omega
    · rintro σ H2 ⟨x1, rfl, e2⟩
      refine st_forT (K := K) (a := tp) (us := tus) (ev_own (i := 1) rfl (e2 _ _ hr1) NT.rcl NT.r2 (rdf_get2 _ _ _ _) rfl) (fun H3 e3 => SqT.frz (e3 _ _ (e2 _ _ htp))) (fun i σ H' => ∃ x2 x3, σ = [some (.ref a), some (.ref r), x1, x2, x3] ∧ Ex H H') (fun H3 e3 => ⟨none, none, rfl, e2.trans e3⟩) (fun i σ' H' ⟨x2, x3, _, e⟩ => SqT.frz (e _ _ htp)) ?_ ?_
      · rintro i x σ H3 hx ⟨x2, x3, rfl, e3⟩
        have hi : i < ts.length := by rw [← htl]; exact (List.getElem?_eq_some_iff.mp hx).1
        obtain ⟨y, c, hyc⟩ : ∃ y c, ts[i]? = some (y, c) := ⟨_, _, List.getElem?_eq_getElem hi⟩
        obtain ⟨q, hq1, hq2⟩ := hte i y c hyc
        rw [hx] at hq1
        cases hq1
        refine pair_tgt (e3 _ _ hq2) ?_
        refine st_if (evT_notInS (K := K) (l := names) (y := y) (ev_var rfl rfl) (ev_own (i := 0) rfl (e3 _ _ nv.obj) NT.cl NT.p1 (nf_get1 _ _ _ _ _ _ _) ⟨lp, rfl, e3 _ _ nv.pts⟩)) (fun hb => ?_) fun _ H4 e4 => ⟨_, _, rfl, e3.trans e4⟩
        rw [decide_eq_true (tok.mem _ (List.mem_of_getElem? hyc))] at hb
        cases hb
      · rintro σ H3 ⟨x2, x3, rfl, e3⟩
        have v3 := nv.ex e3
        have hlen : ∀ {σ : L2.St}, σ[0]? = some (some (V.ref a)) → Ev (tCB (rLen K) (tCons (tFld K (tVar 0) "readings") tNil)) σ H3 (isX (.int (S.m : Int))) := fun h => by
          have := ev_lenL (K := K) (n := us.length) (Pi := fun i => ⟨fun _ _ => True, fun _ _ _ _ _ => trivial⟩) (ev_own h v3.obj NT.cl NT.p3 (nf_get3 _ _ _ _ _ _ _) ⟨lr, us, rfl, v3.rds, rfl, fun i hi => ⟨_, List.getElem?_eq_getElem hi, trivial⟩⟩)
          rwa [nv.ulen] at this
        refine st_if (evT_eqI (hlen rfl) ev_c) (fun hb => by have := of_decide_eq_true hb; omega) fun _ H4 e4 => ?_
        have v4 := v3.ex e4
        have e04 := e3.trans e4
        refine ⟨_, rfl, a, dx, _, rfl, v4.obj, nf_no _ _ _ _ _ _ _ (by decide +kernel), _, rfl, ?_⟩
        refine ⟨a, lp, lr, r, names, S, rname S.m, ts, v, w', rfl, ⟨dx, va, vm, vi, vr, vt, us, v4⟩, hrd.exi e04.imm, tok, K0, hm, hN, fun H5 x5 hlr5 ⟨dx5, va5, vm5, vi5, vr5, vt5, us5, v5⟩ => ?_⟩
        obtain rfl : us5 = us := by
          have := v5.rds
          rw [hlr5, v4.rds] at this
          cases this
          rfl
        refine st_appendE (K := K) (a := lr) (ev_own (i := 0) rfl v5.obj NT.cl NT.p3 (nf_get3 _ _ _ _ _ _ _) rfl) v5.rds (by rw [nv.ulen]; omega) (ev_var (P := isX (.ref r)) rfl rfl) fun z H6 e6 p6 => ?_
        obtain rfl : z = .ref r := p6
        have v6 := v5.ex e6
        have i6 : ExI (Fz2 C Rd) H6 (upd H6 lr (.lst (us5 ++ [.ref r]))) := (ExI.refl H6).mut v6.rds imm_lst
        have i46 : ExI (Fz2 C Rd) H4 H6 := (x5.exi fun p o hp ho => by
          rcases hp with rfl | rfl | rfl
          · rw [v4.obj] at ho; cases ho; exact imm_net NT.nc NT.nr
          · rw [v4.pts] at ho; cases ho; exact imm_lst
          · rw [v4.rds] at ho; cases ho; exact imm_lst).trans e6.imm
        have hrd6 : RdIs C Rd (upd H6 lr (.lst (us5 ++ [.ref r]))) r (rname S.m) ts v w' := hrd.exi (e04.imm.trans (i46.trans i6))
        refine k _ (((Ex.exe e04).trans (x5.trans (Ex.exe e6))).mut (Or.inr (Or.inr rfl))) ⟨dx5, va5, vm5, vi5, vr5, vt5, us5 ++ [.ref r], by rw [upd_ne nar]; exact v6.obj, by rw [upd_ne nv.ne]; exact v6.pts, upd_same, v6.len, v6.nd, v6.ne, v6.x.mono hC i6, v6.M.mono hC i6, v6.P.mono hC i6, v6.rt.mono hC i6, v6.t.mono hC i6, by rw [List.length_append, nv.ulen]; rfl, ?_⟩
        intro k hk
        by_cases e : k = S.m
        · subst e
          refine ⟨.ref r, ts, by rw [List.getElem?_append_right (by rw [nv.ulen]; exact Nat.le_refl _), nv.ulen]; simp, ?_, tok, snoc_at _ _ _⟩
          show IsRdAt C Rd _ (.ref r) (rname S.m) ts (snoc S.m S.val v S.m) (snoc S.m S.W w' S.m)
          rw [snoc_at, snoc_at]
          exact hrd6
        · have hk' : k < S.m := by have : k < S.m + 1 := hk; omega
          obtain ⟨u, ts', k1, k2, k3, k4⟩ := v6.rd k hk'
          refine ⟨u, ts', by rw [List.getElem?_append_left (by rw [nv.ulen]; exact hk')]; exact k1, ?_, k3, (snoc_lt _ _ hk').trans k4⟩
          show IsRdAt C Rd _ u (rname k) ts' (snoc S.m S.val v k) (snoc S.m S.W w' k)
          rw [snoc_lt _ _ hk', snoc_lt _ _ hk']
          exact k2.exi i6
end
end PW

set_option Elab.async false
set_option linter.all false
set_option maxRecDepth 100000
set_option maxHeartbeats 4000000
/-! PwM: errors; functions of the points. -/
namespace PW
open PySem PySem.Spec PyProof.Rows L2 PN
/-! ### dict(t) of a tuple of pairs -/
abbrev rDictT (K : PySem.W.Frag) : List V → Hp → VK → Prop := fun xs H Q => ∃ (a : Addr) (o : Obj) (ps : List Addr) (kvs : List (Key × V)), xs = [.ref a] ∧ o.dict = none ∧ H a = some (.frz o (.tup (ps.map V.ref))) ∧ Paired (fun p kv => SqT K H p [kV kv.1, kv.2]) ps kvs ∧
  ∀ p, H p = none → Q (.ref p) (upd H p (.dK (mergeK [] kvs)))
theorem vals_pairs {X : Cx} {pins : List (Addr × Obj)} {σ : L2.St} {H : Hp} {s : Shared} (I : L2.Inv X pins σ H s) : ∀ {ps : List Addr} {kvs : List (Key × V)}, Paired (fun p kv => SqT X.K H p [kV kv.1, kv.2]) ps kvs →
    ∃ (prs : List (Key × Value)) (us : List (Value × Value)), KV kvs prs ∧ prs.length = ps.length ∧ us.length = ps.length ∧ (∀ (j : Nat) (k v : Value), us[j]? = some (k, v) → ∃ p, ps[j]? = some p ∧ IsTup s.heap p #[k, v]) ∧ ∀ (j : Nat) (k v : Value), us[j]? = some (k, v) → ∃ y, prs[j]? = some (y, v) ∧ (mixKind X.prog X.w).is y k = true
  | _, _, .nil => ⟨[], [], .nil, rfl, rfl, fun j k v e => by simp at e, fun j k v e => by simp at e⟩
  | _, _, .cons (a := p) (b := kv) h t => by
    obtain ⟨prs, us, r, h1, h2, h3, h4⟩ := vals_pairs I t
    obtain ⟨its, rv, ht, _⟩ := I.tuple h
    obtain ⟨u, y, ei, ru, ry⟩ := vals2 rv
    subst ei
    refine ⟨(kv.1, y) :: prs, (u, y) :: us, .cons ⟨rfl, ry⟩ r, by rw [List.length_cons, List.length_cons, h1], by rw [List.length_cons, List.length_cons, h2], fun j k v e => ?_, fun j k v e => ?_⟩
    · cases j with
      | zero =>
        cases (Option.some.inj (show some (u, y) = some (k, v) from e))
        exact ⟨p, rfl, ht⟩
      | succ j => exact h3 j k v e
    · cases j with
      | zero =>
        cases (Option.some.inj (show some (u, y) = some (k, v) from e))
        exact ⟨kv.1, rfl, kV_is (P := X.prog) (w := X.w) ru⟩
      | succ j => exact h4 j k v e
theorem call_dictT {X : Cx} (hcalm : X.calm = true) : CallR X (.type "dict") (rDictT X.K) := by
  intro pins s σ H xs us Q I r q
  obtain ⟨a, o, ps, kvs, rfl, ho, ha, hp, q⟩ := q
  obtain ⟨u, rfl, rx⟩ := vals1 r
  cases rx
  obtain ⟨hoa, hz, its, rv, ht⟩ : s.heap.get? a = some o ∧ (ps.map V.ref).length ≤ sizeLine ∧ ∃ its : List Value, Vals (ps.map V.ref) its ∧ IsTup s.heap a its.toArray := by
    have x : ObjOk X.prog X.w H s.heap a (.frz o (.tup (ps.map V.ref))) := I.hok a _ ha
    exact ⟨x.1, x.2.1, x.2.2⟩
  have ei := refs_at rv
  subst ei
  obtain ⟨o', ho', hc, n, hd⟩ := id ht
  rw [hoa] at ho'
  cases ho'
  obtain ⟨prs, us, rel, hl, hl2, hpr, hkey⟩ := vals_pairs I hp
  rw [List.length_map] at hz
  have hus : ∀ j, j < us.length → ∃ k v, us[j]? = some (k, v) := fun j hj => ⟨us[j].1, us[j].2, List.getElem?_eq_getElem hj⟩
  refine PySem.call_dict_pairs (PairArg.tuple (prog := X.prog) (w := X.w) a (ps.map Value.ref).toArray (fun j => ps.getD j 0) us) (knd := mixKind X.prog X.w) (kvs := prs) (I.ok.hd hcalm)
    ⟨⟨o, n, hoa, hc, ho, hd⟩, by simp [hl2], fun j k v e => ?_⟩ ⟨by rw [hl, hl2], fun j k v e => hkey j k v e⟩ (by rw [hl2]; exact hz) fun h' tk hd' hk => ?_
  · obtain ⟨p, e1, e2⟩ := hpr j k v e
    refine ⟨?_, .inl ?_⟩
    · show (ps.map Value.ref).toArray[j]? = some (Value.ref (ps.getD j 0))
      rw [List.getD_eq_getElem?_getD, e1]
      simp [e1]
    · show IsTup s.heap (ps.getD j 0) #[k, v]
      rw [List.getD_eq_getElem?_getD, e1]
      exact e2
  · have hm : (s.heap.objs.size == sysModules) = false := beq_eq_false_iff_ne.mpr (Nat.ne_of_gt I.big)
    have hlen : (mergeK [] kvs).length ≤ sizeLine := by
      refine Nat.le_trans (length_mergeK kvs []) ?_
      rw [List.length_nil, Nat.zero_add, rel.length, hl]
      exact hz
    exact ⟨.ref s.heap.objs.size, upd H s.heap.objs.size (.dK (mergeK [] kvs)), I.laid (t' := tk) (fun b o e => hk b o (by simp) e) (Nat.le_refl _) (show ObjOk X.prog X.w _ _ _ (.dK (mergeK [] kvs)) from ⟨hlen, hm, merged [] prs, KV.merge rel .nil, hd'⟩), rfl, q _ (I.hok.fresh (Nat.le_refl _))⟩
/-- the table of terms, every name once -/
def kTm (ts : List (Str × Int)) : List (Key × V) := ts.map fun p => ((.inr p.1 : Key), V.int p.2)
theorem valV_mergeK (k : Key) : ∀ (more kvs : List (Key × V)), valV (mergeK kvs more) k = (valV more.reverse k).or (valV kvs k)
  | [], kvs => by simp [mergeK, valV]
  | p :: more, kvs => by
    show valV (mergeK (putK kvs p.1 p.2) more) k = _
    rw [valV_mergeK k more, valV_put, List.reverse_cons]
    unfold valV
    rw [List.find?_append]
    cases h : more.reverse.find? fun kv => decide (kv.1 = k) with
    | some v => rfl
    | none =>
      by_cases e : k = p.1
      · subst e
        simp
      · rw [if_neg e]
        have : ¬ p.1 = k := fun z => e z.symm
        simp [this]
theorem valV_kTm {ts : List (Str × Int)} (nd : (ts.map Prod.fst).Nodup) (y : Str) : valV (mergeK [] (kTm ts)) (.inr y) = (ts.lookup y).map V.int := by
  rw [valV_mergeK]
  have e0 : valV ([] : List (Key × V)) (.inr y) = none := rfl
  rw [e0, Option.or_none]
  induction ts with
  | nil => rfl
  | cons p ts ih =>
    rw [List.map_cons, List.nodup_cons] at nd
    have ih := ih nd.2
    unfold valV at ih ⊢
    unfold kTm at ih ⊢
    rw [List.map_cons, List.reverse_cons, List.find?_append]
    cases h : ((ts.map fun p => ((.inr p.1 : Key), V.int p.2)).reverse).find? fun kv => decide (kv.1 = (.inr y : Key)) with
    | some v =>
      rw [h] at ih
      have hne : (y == p.1) = false := by
        rw [beq_eq_false_iff_ne]
        rintro rfl
        have h1 := List.find?_some h
        have h2 := List.mem_of_find?_eq_some h
        rw [List.mem_reverse] at h2
        obtain ⟨q, hq, rfl⟩ := List.mem_map.mp h2
        have h3 : (Sum.inr q.1 : Key) = Sum.inr p.1 := of_decide_eq_true h1
        exact nd.1 (List.mem_map.mpr ⟨q, hq, Sum.inr.inj h3⟩)
      rw [List.lookup_cons, hne]
      exact ih
    | none =>
      rw [h] at ih
      rw [List.lookup_cons]
      by_cases e : y = p.1
      · subst e
        simp
      · have h1 : (y == p.1) = false := beq_eq_false_iff_ne.mpr e
        have h2 : ¬ (Sum.inr p.1 : Key) = Sum.inr y := fun z => e (Sum.inr.inj z).symm
        rw [h1]
        simp only [List.find?_cons, List.find?_nil, decide_eq_false h2, Option.none_or]
        exact ih
/-! ### errors -/
def spEx (C : Addr) : Sp := fun vs H Q _ => ∃ (a : Addr) (mv : V), vs = [.ref a, mv] ∧ H a = some (exo a C none) ∧ ∀ dx, H dx = none → dx ≠ a → Q .non (upd (upd H dx (exd dx [(("movement" : Str), mv)])) a (exo a C (some dx)))
/-- an error's class, with its __init__ -/
structure ExCls (P : Program) (w : World) (K : PySem.W.Frag) (mg : Str → Option Value) (base : Heap) (x : Str) (C : Addr) where
  T : OexC K C
  fI : Addr
  fdI : FuncData
  iC : PySem.W.findIn K (.ref C) "__init__" = some (some (.ref fI))
  tI : PySem.W.typeIn K (.ref fI) = some (.type "function")
  no : PySem.W.findIn K (.ref C) "movement" = some none
  F1 : FnOk P w K mg base CX0 1 fI fdI ["self", "movement"] (spEx C)
  bd : Binds K fdI ["self", "movement"] []
  gl : mg x = some (.ref C)
  te : PySem.W.exmOne K (.ref C) (.ref C) = some true
  xf : XfC K C
abbrev sWeakInit : Stmt := inClass (topS 9) 0
abbrev sNotEstInit : Stmt := inClass (topS 10) 0
theorem scExI : FnScope ["self", "movement"] ["self", "movement"] (defScope sWeakInit) := ⟨rfl, rfl, rfl, by decide +kernel, rfl, by decide +kernel, by decide +kernel⟩
theorem scExI2 : FnScope ["self", "movement"] ["self", "movement"] (defScope sNotEstInit) := ⟨rfl, rfl, rfl, by decide +kernel, rfl, by decide +kernel, by decide +kernel⟩
section
variable {P : Program} {w : World} {K : PySem.W.Frag} {mg : Str → Option Value} {base : Heap} {f C : Addr} {fd : FuncData}
theorem ok_weakinit (F : FnP K "__init__" "WeakDatum.__init__" sWeakInit f fd) (T : OexC K C) (no : PySem.W.findIn K (.ref C) "movement" = some none) : FnOk P w K mg base CX0 1 f fd ["self", "movement"] (spEx C) := by
  refine F.ok scExI (fun vs H Q E h => ?_) (fun cdv A outer s H vs Q E hr h => ?_)
  · obtain ⟨a, mv, rfl, _⟩ := h
    rfl
  · obtain ⟨a, mv, rfl, h1, k⟩ := h
    exact ⟨_, PSs.nox (pss_one (ps_ost (pv 0) (pv 1))), _, rfl, _, rfl, a, C, rfl, T, no, .inl ⟨h1, fun dx hdx ne => k dx hdx ne⟩⟩
theorem ok_notestinit (F : FnP K "__init__" "NotEstimable.__init__" sNotEstInit f fd) (T : OexC K C) (no : PySem.W.findIn K (.ref C) "movement" = some none) : FnOk P w K mg base CX0 1 f fd ["self", "movement"] (spEx C) := by
  refine F.ok scExI2 (fun vs H Q E h => ?_) (fun cdv A outer s H vs Q E hr h => ?_)
  · obtain ⟨a, mv, rfl, _⟩ := h
    rfl
  · obtain ⟨a, mv, rfl, h1, k⟩ := h
    exact ⟨_, PSs.nox (pss_one (ps_ost (pv 0) (pv 1))), _, rfl, _, rfl, a, C, rfl, T, no, .inl ⟨h1, fun dx hdx ne => k dx hdx ne⟩⟩
end
theorem heap_end {H : Hp} {a d : Addr} {o1 o2 o3 o4 : HO} (ha : H a = none) : upd (del (upd (upd (upd H a o1) d o2) a o3) a) d o4 = upd H d o4 := by
  funext b
  by_cases hb : b = d
  · rw [hb, upd_same, upd_same]
  · rw [upd_ne hb, upd_ne hb]
    by_cases h : b = a
    · rw [h, del_same, ha]
    · rw [del_ne h, upd_ne h, upd_ne hb, upd_ne h]
/-- raise X(e) -/
theorem st_raise {P : Program} {w : World} {K : PySem.W.Frag} {mg : Str → Option Value} {base : Heap} {x : Str} {C : Addr} {σ : L2.St} {H : Hp} {te : TE} {Pm : MP} {W : XK} (XC : ExCls P w K mg base x C) (h : Ev te σ H Pm)
    (q : ∀ v d H2, Ex H H2 → Pm.p v H2 → H2 d = none → W (.ref C) (some d) (upd H2 d (.xd [(("movement" : Str), v)]))) : tMkO C (spEx C) [] (tCons te tNil) σ H W :=
  h.use fun v H2 e p => ⟨by show 1 ≤ 1000; decide, fun a ha => ⟨a, v, rfl, upd_same, fun dx hdx ne => ⟨rfl, dx, [(("movement" : Str), v)], upd_same, by rw [upd_ne ne]; exact upd_same, by rw [upd_ne ne] at hdx; exact hdx, by
    rw [heap_end ha]
    rw [upd_ne ne] at hdx
    exact q v dx H2 e p hdx⟩⟩⟩
abbrev sCheckPoints : Stmt := topS 48
abbrev sRowFn : Stmt := topS 49
abbrev sMovedBy : Stmt := topS 50
abbrev sFixedRow : Stmt := topS 51
abbrev sEstimable : Stmt := topS 52
abbrev sValueOf : Stmt := topS 53
def spCheckPoints (C N Rd : Addr) : Sp := fun vs H Q _ => ∃ (a lp lr : Addr) (tv : V) (names : List Str) (S : NS) (ts : List (Str × Int)), vs = [.ref a, tv] ∧ NetAt C N Rd H a lp lr names S ∧ (isTm ts).p tv H ∧ TmOk names ts ∧ ∀ H', Ex H H' → Q .non H'
def spRowFn (C N Rd : Addr) : Sp := fun vs H Q _ => ∃ (a lp lr : Addr) (tv : V) (names : List Str) (S : NS) (ts : List (Str × Int)), vs = [.ref a, tv] ∧ NetAt C N Rd H a lp lr names S ∧ (isTm ts).p tv H ∧ TmOk names ts ∧ S.n ≤ 1000 ∧ ∀ z H', Ex H H' → IsV C H' z S.n (rowOf names ts) → Q z H'
def spMovedBy (C : Addr) : Sp := fun vs H Q _ => ∃ (u v : V) (n : Nat) (a : Nat → Rat) (ks : List (Nat → Rat)), vs = [u, v] ∧ IsV C H u n a ∧ (isK C n ks).p v H ∧ (∀ j, j < ks.length → DotOk n a (ks.getD j fun _ => 0) ∧ Sm (dt n a (ks.getD j fun _ => 0))) ∧
  ((∀ j, j < ks.length → dt n a (ks.getD j fun _ => 0) = 0) → ∀ H', Ex H H' → Q .non H') ∧ ∀ j, j < ks.length → dt n a (ks.getD j fun _ => 0) ≠ 0 → ∀ z H', Ex H H' → IsV C H' z n (ks.getD j fun _ => 0) → Q z H'
/-- what a function's terms want of the numbers -/
structure FnNum (S : NS) (a : Nat → Rat) : Prop where
  n : S.n ≤ 1000
  m : S.m ≤ 1000
  mv : MovOk S
  d : ∀ j, j < (mvs S).length → DotOk S.n a (PN.mv S j) ∧ Sm (dt S.n a (PN.mv S j))
  h : HtsOk S
  v : DotOk S.n a (hts S)
def spFixedRow (C N Rd CN : Addr) : Sp := fun vs H Q E => ∃ (a lp lr : Addr) (tv : V) (names : List Str) (S : NS) (ts : List (Str × Int)), vs = [.ref a, tv] ∧ NetAt C N Rd H a lp lr names S ∧ (isTm ts).p tv H ∧ TmOk names ts ∧ FnNum S (rowOf names ts) ∧
  ((∀ j, j < (mvs S).length → dt S.n (rowOf names ts) (mv S j) = 0) → ∀ z H', Ex H H' → IsV C H' z S.n (rowOf names ts) → Q z H') ∧
  ∀ j, j < (mvs S).length → dt S.n (rowOf names ts) (mv S j) ≠ 0 → ∀ d z H', Ex H H' → H' d = some (.xd [(("movement" : Str), z)]) → IsV C H' z S.n (mv S j) → E (.ref CN) (some d) H'
def spEstimable (C N Rd : Addr) : Sp := fun vs H Q _ => ∃ (a lp lr : Addr) (tv : V) (names : List Str) (S : NS) (ts : List (Str × Int)), vs = [.ref a, tv] ∧ NetAt C N Rd H a lp lr names S ∧ (isTm ts).p tv H ∧ TmOk names ts ∧ FnNum S (rowOf names ts) ∧
  ((∀ j, j < (mvs S).length → dt S.n (rowOf names ts) (mv S j) = 0) → ∀ H', Ex H H' → Q (.bl true) H') ∧ ((¬ ∀ j, j < (mvs S).length → dt S.n (rowOf names ts) (mv S j) = 0) → ∀ H', Ex H H' → Q (.bl false) H')
def spValueOf (C N Rd CN : Addr) : Sp := fun vs H Q E => ∃ (a lp lr : Addr) (tv : V) (names : List Str) (S : NS) (ts : List (Str × Int)), vs = [.ref a, tv] ∧ NetAt C N Rd H a lp lr names S ∧ (isTm ts).p tv H ∧ TmOk names ts ∧ FnNum S (rowOf names ts) ∧
  ((∀ j, j < (mvs S).length → dt S.n (rowOf names ts) (mv S j) = 0) → ∀ z H', Ex H H' → IsQ C H' z (dt S.n (rowOf names ts) (hts S)) → Q z H') ∧
  ∀ j, j < (mvs S).length → dt S.n (rowOf names ts) (mv S j) ≠ 0 → ∀ d z H', Ex H H' → H' d = some (.xd [(("movement" : Str), z)]) → IsV C H' z S.n (mv S j) → E (.ref CN) (some d) H'
section
variable {K : PySem.W.Frag} {σ : L2.St} {H : Hp} {ta tb : TE} {C : Addr} {E : XK}
theorem evT_neQ {a b : Rat} (ha : Ev ta σ H (isQ C a)) (hb : Ev tb σ H (isQ C b)) : EvT (tTest (tOp (rOwnNe C (spREq C) E) ta tb)) σ H (!decide (a = b)) := fun H1 e Q q =>
  ha H1 e _ fun x H2 e2 p => hb H2 (e.trans e2) _ fun y H3 e3 p3 => by
    have p4 : IsQ C H3 x a := IsQ.ex p e3
    obtain ⟨u, du, rfl, h1⟩ := id p4
    obtain ⟨v, dv, rfl, h2⟩ := id p3
    exact ⟨u, du, _, v, dv, _, rfl, rfl, h1, h2, _, _, a, b, rfl, p4, p3, _, rfl, _, rfl, q H3 (e2.trans e3)⟩
theorem ev_isN {v : V} (ha : Ev ta σ H (isX v)) : Ev (tOp (fun x y H Q => y = V.non ∧ Q (V.bl (decide (x = V.non))) H) ta (tC .non)) σ H (isX (.bl (decide (v = .non)))) := fun H1 e Q q =>
  ha H1 e _ fun x H2 e2 p => by
    obtain rfl : x = v := p
    exact ⟨rfl, q _ H2 e2 rfl⟩
end
section
variable {P : Program} {w : World} {K : PySem.W.Frag} {mg : Str → Option Value} {base : Heap} {f C N Rd CN fCP fRF fMB fMov fHts fD fFR : Addr} {fd fdCP fdRF fdMB fdMov fdHts fdD fdFR : FuncData}
theorem scCheckPoints : FnScope ["net", "terms", "name", "_"] ["net", "terms"] (defScope sCheckPoints) := ⟨rfl, rfl, rfl, by decide +kernel, rfl, by decide +kernel, by decide +kernel⟩
theorem ok_checkpoints (F : FnP K "check_points" "check_points" sCheckPoints f fd) (NT : NCls K N C Rd) : FnOk P w K mg base CX0 1 f fd ["net", "terms"] (spCheckPoints C N Rd) := by
  refine F.ok scCheckPoints (fun vs H Q E h => ?_) (fun cdv A outer s H vs Q E hr h => ?_)
  · obtain ⟨a, lp, lr, tv, names, S, ts, rfl, _⟩ := h
    rfl
  · obtain ⟨a, lp, lr, tv, names, S, ts, rfl, ⟨dx, va, vm, vi, vr, vt, us, nv⟩, htm, tok, k⟩ := h
    refine ⟨_, PSs.nox (pss_one (ps_for PassesOwn.never rfl (pi_tup (pv 1)) (pg_tup rfl (pgs_cons (pg_name (i := 2) scCheckPoints.nd rfl (Or.inl rfl)) (pgs_cons (pg_name (i := 3) scCheckPoints.nd rfl (Or.inl rfl)) pgs_nil))) (pss_one (ps_if (pt_cmpR op_notIn_seq (pv 2) (pe_fld (pv 0) rfl) (by rfl)) (pss_one ps_never) pss_nil)))), ?_⟩
    obtain ⟨tp, ob, tus, rfl, hob, htp, htl, hte⟩ := id htm
    refine st_forT (K := K) (a := tp) (us := tus) (rest := tNext) (D := { nx := fun _ H' => Q V.non H', rt := Q }) (ev_var rfl rfl) (fun H2 e2 => SqT.frz (e2 _ _ htp)) (fun i σ H' => ∃ x2 x3, σ = [some (.ref a), some (.ref tp), x2, x3] ∧ Ex H H') (fun H3 e3 => ⟨none, none, rfl, e3⟩) (fun i σ' H' ⟨x2, x3, _, e⟩ => SqT.frz (e _ _ htp)) ?_ ?_
    · rintro i x σ H3 hx ⟨x2, x3, rfl, e3⟩
      have hi : i < ts.length := by rw [← htl]; exact (List.getElem?_eq_some_iff.mp hx).1
      obtain ⟨y, c, hyc⟩ : ∃ y c, ts[i]? = some (y, c) := ⟨_, _, List.getElem?_eq_getElem hi⟩
      obtain ⟨q, hq1, hq2⟩ := hte i y c hyc
      rw [hx] at hq1
      cases hq1
      refine pair_tgt (e3 _ _ hq2) ?_
      refine st_if (evT_notInS (K := K) (l := names) (y := y) (ev_var rfl rfl) (ev_own (i := 0) rfl (e3 _ _ nv.obj) NT.cl NT.p1 (nf_get1 _ _ _ _ _ _ _) ⟨lp, rfl, e3 _ _ nv.pts⟩)) (fun hb => ?_) fun _ H4 e4 => ⟨_, _, rfl, e3.trans e4⟩
      rw [decide_eq_true (tok.mem _ (List.mem_of_getElem? hyc))] at hb
      cases hb
    · rintro σ H3 ⟨x2, x3, rfl, e3⟩
      exact k H3 e3
theorem scRowFn : FnScope ["net", "terms", "numbers", "name"] ["net", "terms"] (defScope sRowFn) := ⟨rfl, rfl, rfl, by decide +kernel, rfl, by decide +kernel, by decide +kernel⟩
theorem ok_rowfn (F : FnP K "row_of_function" "row_of_function" sRowFn f fd) (R : RK P w K mg base C) (NT : NCls K N C Rd) (mt : mg "tuple" = none) (md : mg "dict" = none) (DCP : DefOk P w K mg base CX0 "check_points" 1 ["net", "terms"] (spCheckPoints C N Rd) fCP fdCP) :
    FnOk P w K mg base CX0 3 f fd ["net", "terms"] (spRowFn C N Rd) := by
  refine F.ok scRowFn (fun vs H Q E h => ?_) (fun cdv A outer s H vs Q E hr h => ?_)
  · obtain ⟨a, lp, lr, tv, names, S, ts, rfl, _⟩ := h
    rfl
  · obtain ⟨a, lp, lr, tv, names, S, ts, rfl, nat, htm, tok, hn, k⟩ := h
    obtain ⟨dx, va, vm, vi, vr, vt, us, nv⟩ := id nat
    have hr2 : Room 2 _ := hr
    have hr1 : Room 1 _ := hr.mono (by decide)
    refine ⟨_, PSs.nox (pss_cons (ps_expr (pe_cd DCP hr1 rfl pass0 (pa_cons (pv 0) (pa_cons (pv 1) pa_nil)))) (pss_cons (ps_set (i := 2) scRowFn.nd rfl (Or.inr rfl) (pe_callTy (r := rDictT K) (call_dictT rfl) (by rfl) md (by decide +kernel) (pa_cons (pv 1) pa_nil))) (pss_one (ps_ret (pe_callTy (r := rTup K) call_tuple_of (by rfl) mt (by decide +kernel) (pa_cons (pe_lc (own := [("name", 3)]) (g := (gName 3)) (tt := tYes) rfl scRowFn.nd (pi_list (pe_fld (pv 0) rfl)) (blkOk_by (N := ["net", "terms", "numbers", "name"]) (sc := defScope sRowFn) (by decide +kernel)) (fun _ _ _ _ _ => (pg_name (i := 3) scRowFn.nd rfl (Or.inl rfl))) (fun _ _ _ _ _ => pts_nil) (fun _ _ _ _ _ => (pe_mk1 R hr2 rfl (pa_cons (pe_dget2 (hu_of hr1) (pv 2) (pv 3) pe_int ⟨rfl, rfl, rfl, rfl⟩) pa_nil)))) pa_nil)))))), ?_⟩
    refine Ev.use (P := isX .non) (ev_call2 (ev_var (P := isX (.ref a)) rfl rfl) (ev_var (P := isTm ts) rfl htm) fun x y H1 e1 p1 p2 H2 e2 Q q => by
      obtain rfl : x = .ref a := p1
      exact ⟨a, lp, lr, y, names, S, ts, rfl, nat.ex (e1.trans e2), (isTm ts).mono _ _ _ e2 p2, tok, fun H' e => q _ H' e rfl⟩) fun _ H1 e1 _ => ?_
    obtain ⟨tp, ob, tus, rfl, hob, htp, htl, hte⟩ := id htm
    obtain ⟨ps, hps⟩ : ∃ ps : List Addr, tus = ps.map V.ref ∧ Paired (fun p (kv : Key × V) => SqT K H1 p [kV kv.1, kv.2]) ps (kTm ts) := by
      have : ∀ (ts : List (Str × Int)) (tus : List V), tus.length = ts.length → (∀ (i : Nat) (y : Str) (c : Int), ts[i]? = some (y, c) → ∃ q : Addr, tus[i]? = some (V.ref q) ∧ H q = some (.tup [.str y, .int c])) → ∃ ps : List Addr, tus = ps.map V.ref ∧ Paired (fun p (kv : Key × V) => SqT K H1 p [kV kv.1, kv.2]) ps (kTm ts) := by
        intro ts
        induction ts with
        | nil => intro tus h1 _; exact ⟨[], List.length_eq_zero_iff.mp h1, .nil⟩
        | cons p ts ih =>
          intro tus h1 h2
          cases tus with
          | nil => simp at h1
          | cons t tus =>
            obtain ⟨ps, e, r⟩ := ih tus (by simpa using h1) (fun i y c hh => h2 (i + 1) y c hh)
            obtain ⟨q, k1, k2⟩ := h2 0 p.1 p.2 rfl
            cases (show some t = some (V.ref q) from k1)
            exact ⟨q :: ps, by rw [e]; rfl, .cons (SqT.of (e1 _ _ k2)) r⟩
      exact this ts tus htl hte
    obtain ⟨rfl, hpr⟩ := hps
    refine ⟨_, rfl, tp, ob, ps, kTm ts, rfl, hob, e1 _ _ htp, hpr, fun d hd => ?_⟩
    have e2 : Ex H (upd H1 d (.dK (mergeK [] (kTm ts)))) := e1.trans (Ex.new hd)
    have hdd : upd H1 d (.dK (mergeK [] (kTm ts))) d = some (.dK (mergeK [] (kTm ts))) := upd_same
    generalize upd H1 d (.dK (mergeK [] (kTm ts))) = H2 at e2 hdd ⊢
    refine st_ret (P := isV C S.n (rowOf names ts)) (ev_V (ev_tupL (K := K) (ev_lc (n := S.n) (Pi := fun i => isQ C (rowOf names ts i)) hn (fd_list (K := K) (Pi := fun i => isX (.str (names.getD i default))) (ev_own (i := 0) rfl (e2 _ _ nv.obj) NT.cl NT.p1 (nf_get1 _ _ _ _ _ _ _) ⟨lp, _, rfl, e2 _ _ nv.pts, by rw [List.length_map]; exact nv.len, fun i hi => ⟨_, by rw [List.getElem?_map, List.getElem?_eq_getElem (by rw [nv.len]; exact hi)]; rfl, by show V.str _ = V.str (names.getD i default); rw [List.getD_eq_getElem?_getD, List.getElem?_eq_getElem (by rw [nv.len]; exact hi)]; rfl⟩⟩)) (fun _ _ => im_Q) fun i H3 x H' hi e3 y Qt q => by
      obtain ⟨rfl, H0, e0, hx⟩ := y
      obtain rfl : x = .str (names.getD i default) := hx
      refine q _ _ (Ex.refl _) rfl (ev_mk1 (C := C) (t := coef ts (names.getD i default)) fun H4 e4 Q q => ?_)
      refine ⟨_, rfl, d, rfl, .inl ⟨_, .inl (e4 _ _ (e3 _ _ hdd))⟩, _, rfl, _, DGet.k (k := .inr (names.getD i default)) (e4 _ _ (e3 _ _ hdd)), ?_⟩
      rw [valV_kTm tok.nd]
      refine q _ H4 (Ex.refl _) ?_
      show Option.getD (Option.map V.int (ts.lookup (names.getD i default))) (V.int 0) = V.int (coef ts (names.getD i default))
      unfold coef
      cases ts.lookup (names.getD i default) <;> rfl))) fun z H' e p => k z H' (e2.trans e) p
theorem scMovedBy : FnScope ["row", "movements", "movement"] ["row", "movements"] (defScope sMovedBy) := ⟨rfl, rfl, rfl, by decide +kernel, rfl, by decide +kernel, by decide +kernel⟩
theorem ok_movedby (F : FnP K "moved_by" "moved_by" sMovedBy f fd) (R : RK P w K mg base C) (DD : DefOk P w K mg base CX0 "dot" 4 ["a", "b"] (spDot C) fD fdD) : FnOk P w K mg base CX0 5 f fd ["row", "movements"] (spMovedBy C) := by
  refine F.ok scMovedBy (fun vs H Q E h => ?_) (fun cdv A outer s H vs Q E hr h => ?_)
  · obtain ⟨u, v, n, a, ks, rfl, _⟩ := h
    rfl
  · obtain ⟨u, v, n, a, ks, rfl, hu, hv, ok, k0, k1⟩ := h
    have hr4 : Room 4 _ := hr
    have hr2 : Room 2 _ := hr.mono (by decide)
    refine ⟨_, PSs.nox (pss_cons (ps_for PassesOwn.never rfl (pi_list (pv 1)) (pg_name (i := 2) scMovedBy.nd rfl (Or.inl rfl)) (pss_one (ps_if (pt_cmpR (op_ownNe R.T.ne R.T.cm R.E.me.at_ R.E.me.fn R.E.ok hr2 R.E.bd pass0) (pe_cd DD hr4 rfl pass0 (pa_cons (pv 0) (pa_cons (pv 2) pa_nil))) (pe_mk1 R hr2 rfl (pa_cons pe_int pa_nil)) (nomark _)) (pss_one (ps_ret (pv 2))) pss_nil))) (pss_one (ps_ret pe_non))), ?_⟩
    obtain ⟨l, us, rfl, hl, hlen, hk⟩ := id hv
    refine st_forL (K := K) (a := l) (us := us) (ev_var rfl rfl) hl (fun i σ H' => ∃ x1, σ = [some u, some (.ref l), x1] ∧ Ex H H' ∧ ∀ j, j < i → dt n a (ks.getD j fun _ => 0) = 0) (fun H2 e2 => ⟨none, rfl, e2, fun j hj => by omega⟩) (fun i σ' H' ⟨x1, _, e, _⟩ => e _ _ hl) ?_ ?_
    · rintro i x σ H2 hx ⟨x1, rfl, e2, hz⟩
      have hi : i < ks.length := by rw [← hlen]; exact (List.getElem?_eq_some_iff.mp hx).1
      obtain ⟨y, h1, h2⟩ := hk i hi
      rw [hx] at h1
      cases h1
      have h2 : IsV C H x n (ks.getD i fun _ => 0) := h2
      refine st_if (evT_neQ (ev_dot (ev_var (P := isV C n a) rfl (hu.ex e2)) (ev_var (P := isV C n (ks.getD i fun _ => 0)) rfl (h2.ex e2)) (ok i hi).1) ev_zero) (fun hb H3 e3 => ?_) (fun hb H3 e3 => ?_)
      · have hne : dt n a (ks.getD i fun _ => 0) ≠ 0 := fun z => by rw [decide_eq_true z] at hb; cases hb
        refine st_ret (ev_var (P := isV C n (ks.getD i fun _ => 0)) rfl (h2.ex (e2.trans e3))) fun z H4 e4 p4 => k1 i hi hne z H4 ((e2.trans e3).trans e4) p4
      · have h0 : dt n a (ks.getD i fun _ => 0) = 0 := by
          by_cases z : dt n a (ks.getD i fun _ => 0) = 0
          · exact z
          · rw [decide_eq_false z] at hb; cases hb
        refine ⟨some x, rfl, e2.trans e3, fun j hj => ?_⟩
        by_cases e : j = i
        · rw [e]; exact h0
        · exact hz j (by omega)
    · rintro σ H2 ⟨x1, rfl, e2, hz⟩
      rw [hlen] at hz
      refine st_ret ev_c fun z H3 e3 p3 => ?_
      obtain rfl : z = .non := p3
      exact k0 hz H3 (e2.trans e3)
/-- the movements, asked for -/
theorem ev_mov {σ : L2.St} {H : Hp} {a lp lr : Addr} {names : List Str} {S : NS} {i : Nat} {E : XK} (hs : σ[i]? = some (some (.ref a))) (nat : NetAt C N Rd H a lp lr names S) (ok : MovOk S) (hn : S.n ≤ 1000) (hm : S.m ≤ 1000) :
    Ev (tMeth N "movements" (spMov C N Rd) [] E (tVar i) tNil) σ H (isK C S.n (mvs S)) := by
  obtain ⟨dx, va, vm, vi, vr, vt, us, nv⟩ := id nat
  exact ev_meth0 hs nv.obj (nf_no _ _ _ _ _ _ _ (by decide +kernel)) fun H1 e H2 e2 Q q => ⟨a, lp, lr, names, S, rfl, nat.ex (e.trans e2), hn, hm, ok.r, ok.s, q⟩
theorem ev_hts {σ : L2.St} {H : Hp} {a lp lr : Addr} {names : List Str} {S : NS} {i : Nat} {E : XK} (hs : σ[i]? = some (some (.ref a))) (nat : NetAt C N Rd H a lp lr names S) (ok : HtsOk S) (hn : S.n ≤ 1000) :
    Ev (tMeth N "heights" (spHts C N Rd) [] E (tVar i) tNil) σ H (isV C S.n (hts S)) := by
  obtain ⟨dx, va, vm, vi, vr, vt, us, nv⟩ := id nat
  exact ev_meth0 hs nv.obj (nf_no _ _ _ _ _ _ _ (by decide +kernel)) fun H1 e H2 e2 Q q => ⟨a, lp, lr, names, S, rfl, nat.ex (e.trans e2), hn, ok, q⟩
theorem ev_rowfn {σ : L2.St} {H : Hp} {ta tb : TE} {a lp lr : Addr} {names : List Str} {S : NS} {ts : List (Str × Int)} {E : XK} (ha : Ev ta σ H (isX (.ref a))) (hb : Ev tb σ H (isTm ts)) (nat : NetAt C N Rd H a lp lr names S) (tok : TmOk names ts) (hn : S.n ≤ 1000) :
    Ev (tCall (spRowFn C N Rd) [] E (tCons ta (tCons tb tNil))) σ H (isV C S.n (rowOf names ts)) :=
  ev_call2 ha hb fun x y H1 e p1 p2 H2 e2 Q q => by
    obtain rfl : x = .ref a := p1
    exact ⟨a, lp, lr, y, names, S, ts, rfl, nat.ex (e.trans e2), (isTm ts).mono _ _ _ e2 p2, tok, hn, q⟩
/-- moved_by, its two answers -/
def isMb (C : Addr) (n : Nat) (a : Nat → Rat) (ks : List (Nat → Rat)) : MP := ⟨fun v H => (v = .non ∧ ∀ j, j < ks.length → dt n a (ks.getD j fun _ => 0) = 0) ∨ ∃ j, j < ks.length ∧ dt n a (ks.getD j fun _ => 0) ≠ 0 ∧ IsV C H v n (ks.getD j fun _ => 0),
  fun _ _ _ e h => h.elim .inl fun ⟨j, h1, h2, h3⟩ => .inr ⟨j, h1, h2, h3.ex e⟩⟩
theorem ev_movedby {σ : L2.St} {H : Hp} {ta tb : TE} {n : Nat} {a : Nat → Rat} {ks : List (Nat → Rat)} {E : XK} (ha : Ev ta σ H (isV C n a)) (hb : Ev tb σ H (isK C n ks)) (ok : ∀ j, j < ks.length → DotOk n a (ks.getD j fun _ => 0) ∧ Sm (dt n a (ks.getD j fun _ => 0))) :
    Ev (tCall (spMovedBy C) [] E (tCons ta (tCons tb tNil))) σ H (isMb C n a ks) :=
  ev_call2 ha hb fun x y H1 e p1 p2 H2 e2 Q q => ⟨x, y, n, a, ks, rfl, IsV.ex p1 e2, (isK C n ks).mono _ _ _ e2 p2, ok, fun h H' ex => q _ H' ex (.inl ⟨rfl, h⟩), fun j hj h z H' ex p => q z H' ex (.inr ⟨j, hj, h, p⟩)⟩
theorem scFixedRow : FnScope ["net", "terms", "row", "movement"] ["net", "terms"] (defScope sFixedRow) := ⟨rfl, rfl, rfl, by decide +kernel, rfl, by decide +kernel, by decide +kernel⟩
theorem ok_fixedrow (F : FnP K "fixed_row" "fixed_row" sFixedRow f fd) (NT : NCls K N C Rd) (XN : ExCls P w K mg base "NotEstimable" CN) (DRF : DefOk P w K mg base CX0 "row_of_function" 3 ["net", "terms"] (spRowFn C N Rd) fRF fdRF)
    (DMB : DefOk P w K mg base CX0 "moved_by" 5 ["row", "movements"] (spMovedBy C) fMB fdMB) (DMov : MetOk P w K mg base CX0 N "movements" 8 ["self"] (spMov C N Rd) fMov fdMov) : FnOk P w K mg base (L2.CX P w) 9 f fd ["net", "terms"] (spFixedRow C N Rd CN) := by
  refine F.ok scFixedRow (fun vs H Q E h => ?_) (fun cdv A outer s H vs Q E hr h => ?_)
  · obtain ⟨a, lp, lr, tv, names, S, ts, rfl, _⟩ := h
    rfl
  · obtain ⟨a, lp, lr, tv, names, S, ts, rfl, nat, htm, tok, num, k0, k1⟩ := h
    have hr8 : Room 8 _ := hr
    have hr5 : Room 5 _ := hr.mono (by decide)
    have hr3 : Room 3 _ := hr.mono (by decide)
    have hr2 : Room 2 _ := hr.mono (by decide)
    refine ⟨_, (pss_cons (ps_set (i := 2) scFixedRow.nd rfl (Or.inl rfl) (pe_cd DRF hr3 rfl pass0 (pa_cons (pv 0) (pa_cons (pv 1) pa_nil)))) (pss_cons (ps_set (i := 3) scFixedRow.nd rfl (Or.inl rfl) (pe_cd DMB hr5 rfl pass0 (pa_cons (pv 2) (pa_cons (pe_meth0 (pv 0) NT.cl DMov.me DMov.ok hr8 DMov.bd .nil pass0) pa_nil)))) (pss_cons (ps_if (pt_cmpR op_notN (pv 3) pe_non (nomark _)) (pss_one (ps_raise rfl (takes_of rfl rfl rfl rfl) (pmk_oex XN.T XN.iC XN.tI XN.F1 hr2 XN.bd .nil pass0 rfl XN.gl (pa_cons (pv 3) pa_nil)))) pss_nil) (pss_one (ps_ret (pv 2)))))), ?_⟩
    refine st_set (ev_rowfn (ev_var rfl rfl) (ev_var (P := isTm ts) rfl htm) nat tok num.n) fun rv H1 e1 p1 => ?_
    refine st_set (ev_movedby (ks := mvs S) (ev_var (P := isV C S.n (rowOf names ts)) rfl p1) (ev_mov rfl (nat.ex e1) num.mv num.n num.m) num.d) fun mv H2 e2 p2 => ?_
    rcases p2 with ⟨rfl, hz⟩ | ⟨j, hj, hne, hv⟩
    · refine st_if (evT_notN (ev_var (P := isX V.non) rfl rfl)) (fun hb => by simp at hb) fun _ H3 e3 => ?_
      exact st_ret (ev_var (P := isV C S.n (rowOf names ts)) rfl (IsV.ex p1 (e2.trans e3))) fun z H4 e4 p4 => k0 hz z H4 (((e1.trans e2).trans e3).trans e4) p4
    · obtain ⟨ma, mus, rfl, hm⟩ := id hv
      refine st_if (evT_notN (ev_var (P := isX (V.ref ma)) rfl rfl)) (fun _ H3 e3 => ?_) (fun hb => by simp at hb)
      refine st_raise XN (ev_var (P := isV C S.n (mv S j)) rfl (IsV.ex hv e3)) fun v d H4 e4 p4 hd => ?_
      have e5 : Ex H4 (upd H4 d (.xd [(("movement" : Str), v)])) := Ex.new hd
      exact k1 j hj hne d v _ ((((e1.trans e2).trans e3).trans e4).trans e5) upd_same (IsV.ex p4 e5)
theorem scEstimable : FnScope ["net", "terms"] ["net", "terms"] (defScope sEstimable) := ⟨rfl, rfl, rfl, by decide +kernel, rfl, by decide +kernel, by decide +kernel⟩
theorem ok_estimable (F : FnP K "estimable" "estimable" sEstimable f fd) (NT : NCls K N C Rd) (DRF : DefOk P w K mg base CX0 "row_of_function" 3 ["net", "terms"] (spRowFn C N Rd) fRF fdRF)
    (DMB : DefOk P w K mg base CX0 "moved_by" 5 ["row", "movements"] (spMovedBy C) fMB fdMB) (DMov : MetOk P w K mg base CX0 N "movements" 8 ["self"] (spMov C N Rd) fMov fdMov) : FnOk P w K mg base CX0 9 f fd ["net", "terms"] (spEstimable C N Rd) := by
  refine F.ok scEstimable (fun vs H Q E h => ?_) (fun cdv A outer s H vs Q E hr h => ?_)
  · obtain ⟨a, lp, lr, tv, names, S, ts, rfl, _⟩ := h
    rfl
  · obtain ⟨a, lp, lr, tv, names, S, ts, rfl, nat, htm, tok, num, k0, k1⟩ := h
    have hr8 : Room 8 _ := hr
    have hr5 : Room 5 _ := hr.mono (by decide)
    have hr3 : Room 3 _ := hr.mono (by decide)
    refine ⟨_, PSs.nox (pss_one (ps_ret (pe_cmpR op_isN (pe_cd DMB hr5 rfl pass0 (pa_cons (pe_cd DRF hr3 rfl pass0 (pa_cons (pv 0) (pa_cons (pv 1) pa_nil))) (pa_cons (pe_meth0 (pv 0) NT.cl DMov.me DMov.ok hr8 DMov.bd .nil pass0) pa_nil))) pe_non (nomark _)))), ?_⟩
    refine Ev.use (P := isMb C S.n (rowOf names ts) (mvs S)) (ev_movedby (ks := mvs S) (ev_rowfn (ev_var rfl rfl) (ev_var (P := isTm ts) rfl htm) nat tok num.n) (ev_mov rfl nat num.mv num.n num.m) num.d) fun v H1 e1 p1 => ?_
    rcases p1 with ⟨rfl, hz⟩ | ⟨j, hj, hne, hv⟩
    · exact ⟨rfl, k0 hz H1 e1⟩
    · obtain ⟨ma, mus, rfl, hm⟩ := hv
      exact ⟨rfl, k1 (fun h => hne (h j hj)) H1 e1⟩
theorem scValueOf : FnScope ["net", "terms"] ["net", "terms"] (defScope sValueOf) := ⟨rfl, rfl, rfl, by decide +kernel, rfl, by decide +kernel, by decide +kernel⟩
theorem ok_valueof (F : FnP K "value_of" "value_of" sValueOf f fd) (NT : NCls K N C Rd) (DFR : DefOk P w K mg base (L2.CX P w) "fixed_row" 9 ["net", "terms"] (spFixedRow C N Rd CN) fFR fdFR)
    (DD : DefOk P w K mg base CX0 "dot" 4 ["a", "b"] (spDot C) fD fdD) (DHts : MetOk P w K mg base CX0 N "heights" 6 ["self"] (spHts C N Rd) fHts fdHts) : FnOk P w K mg base (L2.CX P w) 10 f fd ["net", "terms"] (spValueOf C N Rd CN) := by
  refine F.ok scValueOf (fun vs H Q E h => ?_) (fun cdv A outer s H vs Q E hr h => ?_)
  · obtain ⟨a, lp, lr, tv, names, S, ts, rfl, _⟩ := h
    rfl
  · obtain ⟨a, lp, lr, tv, names, S, ts, rfl, nat, htm, tok, num, k0, k1⟩ := h
    have hr9 : Room 9 _ := hr
    have hr6 : Room 6 _ := hr.mono (by decide)
    have hr4 : Room 4 _ := hr.mono (by decide)
    refine ⟨_, (pss_one (ps_ret (pe_cd DD hr4 rfl pass0 (pa_cons (pe_callS DFR.ok hr9 rfl DFR.gl DFR.kp DFR.bd (fun σ => passAt (takes_of rfl rfl rfl rfl) σ) (pa_cons (pv 0) (pa_cons (pv 1) pa_nil))) (pa_cons (pe_meth0 (pv 0) NT.cl DHts.me DHts.ok hr6 DHts.bd .nil pass0) pa_nil))))), ?_⟩
    refine ⟨_, rfl, _, rfl, a, lp, lr, tv, names, S, ts, rfl, nat, htm, tok, num, fun hz z H1 e1 p1 => ?_, fun j hj hne d z H1 e1 hd hv => k1 j hj hne d z H1 e1 hd hv⟩
    refine (ev_hts (σ := L2.start ["net", "terms"] [V.ref a, tv]) (i := 0) (E := E0) rfl (nat.ex e1) num.h num.n).use fun h H2 e2 p2 => ?_
    exact ⟨z, h, S.n, rowOf names ts, hts S, rfl, IsV.ex p1 e2, p2, num.v, fun r H3 e3 p3 => k0 hz r H3 ((e1.trans e2).trans e3) p3⟩
end
end PW

set_option Elab.async false
set_option linter.all false
set_option maxRecDepth 100000
set_option maxHeartbeats 4000000
/-! PwN: heights in a datum. -/
namespace PW
open PySem PySem.Spec PyProof.Rows L2 PN
section
variable {X : Cx} {K : PySem.W.Frag} {o e : Expr} {f : Str} {to ta : TE} {t : TA} {pos apos cpos : Pos}
theorem pe_fldK (hK : X.K = K) (he : PE X e ta) (hb : attributeBase e f X.env (eval e X.env) = eval e X.env) : PE X (.Attribute e f pos) (tFld K ta f) := by
  subst hK
  exact pe_fld he hb
theorem pi_listK {tg : Expr} {te : TE} (hK : X.K = K) (he : PE X e te) (hs : ∀ x, foldedSetIterable e X.env x = pure x := by intro _; rfl) : PI X tg e (iList K te) := by
  subst hK
  exact pi_list he
theorem pe_indexK (hK : X.K = K) (ho : PE X o to) (ha : PA X [e] t) (hbase : attributeBase o "index" X.env (eval o X.env) = eval o X.env := by rfl)
    (hfew : ((backTo cpos (starEach [e] X.env)).all (fun x => !x.1) && (backToKw cpos (keywordEach [] X.env)).all (fun x => x.1.isSome)
      && decide (([e] : List Expr).length + ([] : List Keyword).length + (if ([] : List Keyword).isEmpty then 0 else 1) < 30)) = true := by rfl)
    (hline : (apos.endLine == cpos.line) = true := by rfl) (hs : starEach [e] X.env = (false, eval e X.env) :: starEach [] X.env := by rfl) (hplain : (backTo cpos (starEach [] X.env)).any (·.1) = false := by rfl) :
    PE X (.Call (.Attribute o "index" apos) [e] [] cpos) (tBM K "list" (rIndex K) to t) := by
  subst hK
  exact pe_bm PySem.F.plainAttrs_list PySem.F.slot_list_index PySem.F.type_list_index mt_index ho ha hbase hfew hline hs hplain
end
abbrev sCheckDatum : Stmt := topS 35
abbrev sHin : Stmt := topS 36
def lcScope : Expr → Scope
  | .ListComp _ _ s _ => s
  | _ => defScope sHin
def stVal : Stmt → Expr
  | .Assign _ e _ => e
  | .Return (some e) _ => e
  | _ => .Constant .none 0 ⟨0, 0, 0, 0⟩
def arg0 : Expr → Expr
  | .Call _ (e :: _) _ _ => e
  | e => e
def unfree (s : Scope) : Scope := { s with names := s.names.map fun (n, k) => if k == .free then (n, .cell) else (n, k) }
abbrev scParts : Scope := unfree <| lcScope (stVal ((defBody sHin).getD 9 (.Pass ⟨0, 0, 0, 0⟩)))
abbrev scMatrix : Scope := unfree <| lcScope (arg0 (stVal ((defBody sHin).getD 11 (.Pass ⟨0, 0, 0, 0⟩))))
def spCheckDatum (C N Rd : Addr) : Sp := fun vs H Q _ => ∃ (a lp lr l : Addr) (names dn : List Str) (S : NS), vs = [.ref a, .ref l] ∧ NetAt C N Rd H a lp lr names S ∧ H l = some (.lst (dn.map V.str)) ∧ dn.Nodup ∧ (∀ y, y ∈ dn → y ∈ names) ∧ dn.length ≤ 1000 ∧ ∀ H', Ex H H' → Q .non H'
def spHin (C N Rd CW : Addr) : Sp := fun vs H Q E => ∃ (a lp lr l : Addr) (names dn : List Str) (S : NS) (pl : Nat → Nat), vs = [.ref a, .ref l] ∧ NetAt C N Rd H a lp lr names S ∧ H l = some (.lst (dn.map V.str)) ∧ dn.Nodup ∧ (∀ j, j < dn.length → pl j < S.n ∧ dn[j]? = names[pl j]?) ∧ dn.length ≤ 300 ∧ S.n ≤ 300 ∧ S.m ≤ 300 ∧ MovOk S ∧ HinOk S pl dn.length ∧
  (kern (S.m + dn.length) S.n (wk S pl) = [] → ∀ z H', Ex H H' → IsV C H' z S.n (hin S pl dn.length) → Q z H') ∧ (kern (S.m + dn.length) S.n (wk S pl) ≠ [] → ∀ d H', Ex H H' → E (.ref CW) (some d) H')
section
variable {K : PySem.W.Frag} {σ : L2.St} {H : Hp} {te ta tb : TE} {i k : Nat} {l : Addr} {dn : List Str}
theorem ev_takeS (hs : σ[i]? = some (some (.ref l))) (hl : H l = some (.lst (dn.map V.str))) (hb : Ev tb σ H (isX (.int (k : Int)))) : Ev (tSl (rSlL K) (tVar i) tNoPart (tPart tb)) σ H (isL ((dn.take k).map V.str)) := fun H1 e Q q =>
  ⟨_, hs, hb H1 e _ fun u H3 e3 p3 => by
    obtain rfl : u = .int (k : Int) := p3
    refine ⟨(k : Int), rfl, l, _, rfl, SqL.of (e3 _ _ (e _ _ hl)), fun p hp => q _ _ (e3.trans (Ex.new hp)) ⟨p, rfl, ?_⟩⟩
    rw [upd_same]
    unfold cutV
    rw [HT.sIx_none, HT.sIx_nat, List.drop_zero, Nat.sub_zero, List.map_take]
    by_cases h : k ≤ (dn.map V.str).length
    · rw [Nat.min_eq_left h]
    · rw [Nat.min_eq_right (by omega), List.take_of_length_le (Nat.le_refl _), List.take_of_length_le (by omega)]⟩
theorem ev_mapL {tl : TE} {n : Nat} {Pi Pk : Nat → MP} (hn : n ≤ 1000) (hl : Ev tl σ H (isLs n Pi)) (im : ∀ i, i < n → Im (Pk i)) (hw : ∀ x, wipe ((wipe σ [k]).set k (some x)) [k] = wipe σ [k])
    (he : ∀ i x H1, i < n → Ex H H1 → (Pi i).p x H1 → Ev te ((wipe σ [k]).set k (some x)) H1 (Pk i)) : Ev (tLc (iList K tl) (gName k) tYes te [k]) σ H (isLs n Pk) :=
  ev_lc hn (fd_list hl) im fun i H1 x H' hi e y Qt q => by
    obtain ⟨rfl, H0, e0, p⟩ := y
    exact q _ _ (Ex.refl _) (hw x) (he i x _ hi e ((Pi i).mono _ _ _ e0 p))
theorem ev_cat {n m : Nat} {Pi Pj : Nat → MP} (ha : Ev ta σ H (isLs n Pi)) (hb : Ev tb σ H (isLs m Pj)) (hn : n + m ≤ 1000) : Ev (tOp rCat ta tb) σ H (isLs (n + m) fun i => if i < n then Pi i else Pj (i - n)) :=
  ev_op ha hb fun x y H1 _ p1 p2 Q q => by
    obtain ⟨a, us, rfl, h1, h2, h3⟩ := p1
    obtain ⟨b, ws, rfl, k1, k2, k3⟩ := p2
    refine ⟨a, b, us, ws, rfl, rfl, h1, k1, by rw [h2, k2]; exact Nat.le_of_lt (sz1000 hn), fun p hp => q _ _ (Ex.new hp) ⟨p, us ++ ws, rfl, upd_same, by rw [List.length_append, h2, k2], fun i hi => ?_⟩⟩
    by_cases e : i < n
    · obtain ⟨u, j1, j2⟩ := h3 i e
      exact ⟨u, by rw [List.getElem?_append_left (by rw [h2]; exact e)]; exact j1, by dsimp only; rw [if_pos e]; exact (Pi i).mono _ _ _ (Ex.new hp) j2⟩
    · obtain ⟨u, j1, j2⟩ := k3 (i - n) (by omega)
      exact ⟨u, by rw [List.getElem?_append_right (by rw [h2]; omega), h2]; exact j1, by dsimp only; rw [if_neg e]; exact (Pj (i - n)).mono _ _ _ (Ex.new hp) j2⟩
theorem evT_list {n : Nat} {Pi : Nat → MP} (h : Ev te σ H (isLs n Pi)) : EvT (fun σ H Q => te σ H fun x H' => ∃ k, TruV K x H' k ∧ Q k H') σ H (decide (0 < n)) := fun H1 e Q q =>
  h H1 e _ fun v H2 e2 p => by
    obtain ⟨a, us, rfl, h1, h2, h3⟩ := p
    refine ⟨_, .inl ⟨us, SqL.of h1, rfl⟩, ?_⟩
    have : (!us.isEmpty) = decide (0 < n) := by
      subst h2
      cases us <;> simp
    rw [this]
    exact q H2 e2
theorem isLs_imp {n : Nat} {Pi Pj : Nat → MP} (h : Ev te σ H (isLs n Pi)) (i : ∀ j v H', j < n → (Pi j).p v H' → (Pj j).p v H') : Ev te σ H (isLs n Pj) :=
  h.imp fun v H' _ ⟨a, us, h1, h2, h3, h4⟩ => ⟨a, us, h1, h2, h3, fun j hj => let ⟨u, k1, k2⟩ := h4 j hj; ⟨u, k1, i j u H' hj k2⟩⟩
end
section
variable {P : Program} {w : World} {K : PySem.W.Frag} {mg : Str → Option Value} {base : Heap} {f C N Rd CW fCD fRow fK fU fMov fHts fN fD fSol fP fS : Addr} {fd fdCD fdRow fdK fdU fdMov fdHts fdN fdD fdSol fdP fdS : FuncData}
theorem scCheckDatum : FnScope ["net", "names", "name", "at"] ["net", "names"] (defScope sCheckDatum) := ⟨rfl, rfl, rfl, by decide +kernel, rfl, by decide +kernel, by decide +kernel⟩
theorem ok_checkdatum (F : FnP K "check_datum" "check_datum" sCheckDatum f fd) (NT : NCls K N C Rd) (me : mg "enumerate" = none) : FnOk P w K mg base CX0 1 f fd ["net", "names"] (spCheckDatum C N Rd) := by
  refine F.ok scCheckDatum (fun vs H Q E h => ?_) (fun cdv A outer s H vs Q E hr h => ?_)
  · obtain ⟨a, lp, lr, l, names, dn, S, rfl, _⟩ := h
    rfl
  · obtain ⟨a, lp, lr, l, names, dn, S, rfl, ⟨dx, va, vm, vi, vr, vt, us, nv⟩, hl, nd, hmem, hn, k⟩ := h
    refine ⟨_, PSs.nox (pss_cons (ps_for PassesOwn.never rfl (pi_list (pv 1)) (pg_name (i := 2) scCheckDatum.nd rfl (Or.inl rfl)) (pss_one (ps_if (pt_cmpR op_notIn_seq (pv 2) (pe_fld (pv 0) rfl) (by rfl)) (pss_one ps_never) pss_nil))) (pss_one (ps_for PassesOwn.never rfl (pi_enum (by rfl) me (pa_cons (pv 1) pa_nil)) (pg_tup rfl (pgs_cons (pg_name (i := 3) scCheckDatum.nd rfl (Or.inl rfl)) (pgs_cons (pg_name (i := 2) scCheckDatum.nd rfl (Or.inl rfl)) pgs_nil))) (pss_one (ps_if (pt_cmpR op_in_seq (pv 2) (pe_slice sl_list (pv 1) po_none (po_some (pv 3))) (by rfl)) (pss_one ps_never) pss_nil))))), ?_⟩
    have at_ : ∀ {i : Nat} {x : V}, (dn.map V.str)[i]? = some x → ∃ y, dn[i]? = some y ∧ x = .str y := fun {i x} h => by
      rw [List.getElem?_map] at h
      cases e : dn[i]? with
      | none => rw [e] at h; cases h
      | some y => rw [e] at h; exact ⟨y, rfl, (Option.some.inj h).symm⟩
    refine st_forL (K := K) (a := l) (us := dn.map V.str) (ev_var rfl rfl) hl (fun i σ H' => ∃ x2 x3, σ = [some (.ref a), some (.ref l), x2, x3] ∧ Ex H H') (fun H2 e2 => ⟨none, none, rfl, e2⟩) (fun i σ' H' ⟨x2, x3, _, e⟩ => e _ _ hl) ?_ ?_
    · rintro i x σ H2 hx ⟨x2, x3, rfl, e2⟩
      obtain ⟨y, hy, rfl⟩ := at_ hx
      refine st_if (evT_notInS (K := K) (l := names) (y := y) (ev_var rfl rfl) (ev_own (i := 0) rfl (e2 _ _ nv.obj) NT.cl NT.p1 (nf_get1 _ _ _ _ _ _ _) ⟨lp, rfl, e2 _ _ nv.pts⟩)) (fun hb => ?_) fun _ H4 e4 => ⟨_, _, rfl, e2.trans e4⟩
      rw [decide_eq_true (hmem _ (List.mem_of_getElem? hy))] at hb
      cases hb
    · rintro σ H2 ⟨x2, x3, rfl, e2⟩
      refine st_forEL (K := K) (k := 1) (a := l) (us := dn.map V.str) (rest := tNext) (D := { nx := fun _ H' => Q V.non H', rt := Q }) rfl (e2 _ _ hl) (fun i σ H' => ∃ x2 x3, σ = [some (.ref a), some (.ref l), x2, x3] ∧ Ex H H') ⟨_, _, rfl, e2⟩ (fun i σ' H' ⟨x2, x3, _, e⟩ => e _ _ hl) ?_ ?_
      · rintro i x T σ H3 hx ⟨x2, x3, rfl, e3⟩ hT
        obtain ⟨y, hy, rfl⟩ := at_ hx
        refine pair_tgt upd_same ?_
        have e4 := e3.trans (Ex.new (o := .tup [.int (i : Int), .str y]) hT)
        refine st_if (evT_inS (K := K) (l := dn.take i) (y := y) (ev_var rfl rfl) (ev_takeS (K := K) (i := 1) (k := i) rfl (e4 _ _ hl) (ev_var rfl rfl))) (fun hb => ?_) fun _ H5 e5 => ⟨_, _, rfl, e4.trans e5⟩
        have hm := of_decide_eq_true hb
        obtain ⟨j, hj, hjy⟩ := List.mem_iff_getElem.mp hm
        rw [List.length_take] at hj
        rw [List.getElem_take] at hjy
        have h1 : dn[j]? = dn[i]? := by rw [hy, List.getElem?_eq_getElem (by omega), hjy]
        have := (List.getElem?_inj (by omega) nd).mp h1
        omega
      · rintro σ H3 ⟨x2, x3, rfl, e3⟩
        exact k H3 e3
theorem scHin : FnScope ["net", "names", "places", "width", "rows", "weak", "movements", "heights", "wanted", "parts", "aims", "matrix", "steps", "step", "movement", "name", "reading", "place", "one", "other", "part"] ["net", "names"] (defScope sHin) := ⟨rfl, rfl, rfl, by decide +kernel, rfl, by decide +kernel, by decide +kernel⟩
theorem ok_hin (F : FnP K "heights_in" "heights_in" sHin f fd) (R : RK P w K mg base C) (NT : NCls K N C Rd) (XW : ExCls P w K mg base "WeakDatum" CW) (mn : mg "len" = none) (mt : mg "tuple" = none) (mz : mg "zip" = none)
    (DCD : DefOk P w K mg base CX0 "check_datum" 1 ["net", "names"] (spCheckDatum C N Rd) fCD fdCD) (DRow : MetOk P w K mg base CX0 N "row" 3 ["self", "reading"] (spNetRow C N Rd) fRow fdRow) (DK : DefOk P w K mg base CX0 "kernel" 7 ["matrix", "width"] (spKernel C) fK fdK)
    (DU : DefOk P w K mg base CX0 "unit" 3 ["width", "index"] (spUnit C) fU fdU) (DMov : MetOk P w K mg base CX0 N "movements" 8 ["self"] (spMov C N Rd) fMov fdMov) (DHts : MetOk P w K mg base CX0 N "heights" 6 ["self"] (spHts C N Rd) fHts fdHts)
    (DN : DefOk P w K mg base CX0 "minus" 4 ["a", "b"] (spPlus C (· - ·)) fN fdN) (DD : DefOk P w K mg base CX0 "dot" 4 ["a", "b"] (spDot C) fD fdD) (DSol : DefOk P w K mg base CX0 "solve" 7 ["matrix", "width", "vector"] (spSolve C) fSol fdSol)
    (DP : DefOk P w K mg base CX0 "plus" 4 ["a", "b"] (spPlus C (· + ·)) fP fdP) (DS : DefOk P w K mg base CX0 "scale" 4 ["factor", "a"] (spScale C) fS fdS) : FnOk P w K mg base (L2.CX P w) 9 f fd ["net", "names"] (spHin C N Rd CW) := by
  refine F.ok scHin (fun vs H Q E h => ?_) (fun cdv A outer s H vs Q E hr h => ?_)
  · obtain ⟨a, lp, lr, l, names, dn, S, pl, rfl, _⟩ := h
    rfl
  · obtain ⟨a, lp, lr, l, names, dn, S, pl, rfl, nat, hl, nd, hpl, hq, hn, hm, mo, ok, k0, k1⟩ := h
    obtain ⟨dx, va, vm, vi, vr, vt, us, nv⟩ := id nat
    have hr8 : Room 8 _ := hr
    have hr7 : Room 7 _ := hr.mono (by decide)
    have hr6 : Room 6 _ := hr.mono (by decide)
    have hr4 : Room 4 _ := hr.mono (by decide)
    have hr3 : Room 3 _ := hr.mono (by decide)
    have hr2 : Room 2 _ := hr.mono (by decide)
    have hr1 : Room 1 _ := hr.mono (by decide)
    refine ⟨_, (pss_cons (ps_expr (pe_cd DCD hr1 rfl pass0 (pa_cons (pv 0) (pa_cons (pv 1) pa_nil)))) (pss_cons (ps_set (i := 2) scHin.nd rfl (Or.inr rfl) (pe_lc (own := [("name", 15)]) (g := (gName 15)) (tt := tYes) rfl scHin.nd (pi_list (pv 1)) (blkOk_by (N := ["net", "names", "places", "width", "rows", "weak", "movements", "heights", "wanted", "parts", "aims", "matrix", "steps", "step", "movement", "name", "reading", "place", "one", "other", "part"]) (sc := defScope sHin) (by decide +kernel)) (fun _ _ _ _ _ => (pg_name (i := 15) scHin.nd rfl (Or.inl rfl))) (fun _ _ _ _ _ => pts_nil) (fun _ _ _ _ _ => (pe_indexK (K := K) rfl (pe_fldK (K := K) rfl (pv 0) rfl) (pa_cons (pv 15) pa_nil))))) (pss_cons (ps_set (i := 3) scHin.nd rfl (Or.inr rfl) (pe_callB call_len_seq (by rfl) mn PySem.boot_len (pa_cons (pe_fld (pv 0) rfl) pa_nil))) (pss_cons (ps_setLc (i := 4) (own := [("reading", 16)]) (g := (gName 16)) (tt := tYes) rfl scHin.nd rfl rfl (sw_true rfl rfl rfl (by decide +kernel)) (pi_list (pe_fld (pv 0) rfl)) (blkOk_by (N := ["net", "names", "places", "width", "rows", "weak", "movements", "heights", "wanted", "parts", "aims", "matrix", "steps", "step", "movement", "name", "reading", "place", "one", "other", "part"]) (sc := defScope sHin) (by decide +kernel)) (fun _ _ _ _ _ => (pg_name (i := 16) scHin.nd rfl (Or.inl rfl))) (fun _ _ _ _ _ => pts_nil) (fun _ _ _ _ _ => (pe_meth (pv 0) NT.cl DRow.me DRow.ok hr3 DRow.bd .nil pass0 (pa_cons (pv 16) pa_nil)))) (pss_cons (ps_set (i := 5) scHin.nd rfl (Or.inl rfl) (pe_cd DK hr7 rfl pass0 (pa_cons (pe_callTy (r := rTup K) call_tuple_of (by rfl) mt (by decide +kernel) (pa_cons (pe_op op_cat (pv 4) (pe_lc (own := [("place", 17)]) (g := (gName 17)) (tt := tYes) rfl scHin.nd (pi_listK (K := K) rfl (pv 2)) (blkOk_by (N := ["net", "names", "places", "width", "rows", "weak", "movements", "heights", "wanted", "parts", "aims", "matrix", "steps", "step", "movement", "name", "reading", "place", "one", "other", "part"]) (sc := defScope sHin) (by decide +kernel)) (fun _ _ _ _ _ => (pg_name (i := 17) scHin.nd rfl (Or.inl rfl))) (fun _ _ _ _ _ => pts_nil) (fun _ _ _ _ _ => (pe_cd DU hr3 rfl pass0 (pa_cons (pv 3) (pa_cons (pv 17) pa_nil)))))) pa_nil)) (pa_cons (pv 3) pa_nil)))) (pss_cons (ps_if (pt_truth (pv 5) (by intro _; rfl)) (pss_one (ps_raise rfl (takes_of rfl rfl rfl rfl) (pmk_oex XW.T XW.iC XW.tI XW.F1 hr2 XW.bd .nil pass0 rfl XW.gl (pa_cons (pe_ix ix_list (pv 5) pe_int (fun _ _ => rfl)) pa_nil)))) pss_nil) (pss_cons (ps_set (i := 6) scHin.nd rfl (Or.inl rfl) (pe_meth0 (pv 0) NT.cl DMov.me DMov.ok hr8 DMov.bd .nil pass0)) (pss_cons (ps_set (i := 7) scHin.nd rfl (Or.inl rfl) (pe_meth0 (pv 0) NT.cl DHts.me DHts.ok hr6 DHts.bd .nil pass0)) (pss_cons (ps_set (i := 8) scHin.nd rfl (Or.inr rfl) (pe_cd DN hr4 rfl pass0 (pa_cons (pe_fld (pv 0) rfl) (pa_cons (pv 7) pa_nil)))) (pss_cons (ps_set (i := 9) scHin.nd rfl (Or.inr rfl) (pe_lc (own := [("movement", 14)]) (g := (gName 14)) (tt := tYes) rfl scHin.nd (pi_list (pv 6)) (blkOk_by (N := ["net", "names", "places", "width", "rows", "weak", "movements", "heights", "wanted", "parts", "aims", "matrix", "steps", "step", "movement", "name", "reading", "place", "one", "other", "part"]) (sc := defScope sHin) (by decide +kernel)) (fun _ _ _ _ _ => (pg_name (i := 14) scHin.nd rfl (Or.inr rfl))) (fun _ _ _ _ _ => pts_nil) (fun _ _ _ _ _ => (pe_callTy (r := rTup K) call_tuple_of (by rfl) mt (by decide +kernel) (pa_cons (pe_lc (own := [("place", 17)]) (g := (gName 17)) (tt := tYes) rfl scHin.nd (pi_listK (K := K) rfl (pv 2)) (blkOk_by (N := ["net", "names", "places", "width", "rows", "weak", "movements", "heights", "wanted", "parts", "aims", "matrix", "steps", "step", "movement", "name", "reading", "place", "one", "other", "part"]) (sc := scParts) (by decide +kernel)) (fun _ _ _ _ _ => (pg_name (i := 17) scHin.nd rfl (Or.inl rfl))) (fun _ _ _ _ _ => pts_nil) (fun _ _ _ _ _ => (pe_ix (r := rIxT K) ix_tup (pv 14) (pv 17) (fun _ _ => rfl)))) pa_nil))))) (pss_cons (ps_set (i := 10) scHin.nd rfl (Or.inr rfl) (pe_callTy (r := rTup K) call_tuple_of (by rfl) mt (by decide +kernel) (pa_cons (pe_lc (own := [("place", 17)]) (g := (gName 17)) (tt := tYes) rfl scHin.nd (pi_listK (K := K) rfl (pv 2)) (blkOk_by (N := ["net", "names", "places", "width", "rows", "weak", "movements", "heights", "wanted", "parts", "aims", "matrix", "steps", "step", "movement", "name", "reading", "place", "one", "other", "part"]) (sc := defScope sHin) (by decide +kernel)) (fun _ _ _ _ _ => (pg_name (i := 17) scHin.nd rfl (Or.inl rfl))) (fun _ _ _ _ _ => pts_nil) (fun _ _ _ _ _ => (pe_ix (r := rIxT K) ix_tup (pv 8) (pv 17) (fun _ _ => rfl)))) pa_nil))) (pss_cons (ps_set (i := 11) scHin.nd rfl (Or.inl rfl) (pe_callTy (r := rTup K) call_tuple_of (by rfl) mt (by decide +kernel) (pa_cons (pe_lc (own := [("one", 18)]) (g := (gName 18)) (tt := tYes) rfl scHin.nd (pi_listK (K := K) rfl (pv 9)) (blkOk_by (N := ["net", "names", "places", "width", "rows", "weak", "movements", "heights", "wanted", "parts", "aims", "matrix", "steps", "step", "movement", "name", "reading", "place", "one", "other", "part"]) (sc := defScope sHin) (by decide +kernel)) (fun _ _ _ _ _ => (pg_name (i := 18) scHin.nd rfl (Or.inr rfl))) (fun _ _ _ _ _ => pts_nil) (fun _ _ _ _ _ => (pe_callTy (r := rTup K) call_tuple_of (by rfl) mt (by decide +kernel) (pa_cons (pe_lc (own := [("other", 19)]) (g := (gName 19)) (tt := tYes) rfl scHin.nd (pi_listK (K := K) rfl (pv 9)) (blkOk_by (N := ["net", "names", "places", "width", "rows", "weak", "movements", "heights", "wanted", "parts", "aims", "matrix", "steps", "step", "movement", "name", "reading", "place", "one", "other", "part"]) (sc := scMatrix) (by decide +kernel)) (fun _ _ _ _ _ => (pg_name (i := 19) scHin.nd rfl (Or.inl rfl))) (fun _ _ _ _ _ => pts_nil) (fun _ _ _ _ _ => (pe_cd DD hr4 rfl pass0 (pa_cons (pv 18) (pa_cons (pv 19) pa_nil))))) pa_nil)))) pa_nil))) (pss_cons (ps_set (i := 12) scHin.nd rfl (Or.inl rfl) (pe_cd DSol hr7 rfl pass0 (pa_cons (pv 11) (pa_cons (pe_callB call_len_seq (by rfl) mn PySem.boot_len (pa_cons (pv 9) pa_nil)) (pa_cons (pe_callTy (r := rTup K) call_tuple_of (by rfl) mt (by decide +kernel) (pa_cons (pe_lc (own := [("part", 20)]) (g := (gName 20)) (tt := tYes) rfl scHin.nd (pi_listK (K := K) rfl (pv 9)) (blkOk_by (N := ["net", "names", "places", "width", "rows", "weak", "movements", "heights", "wanted", "parts", "aims", "matrix", "steps", "step", "movement", "name", "reading", "place", "one", "other", "part"]) (sc := defScope sHin) (by decide +kernel)) (fun _ _ _ _ _ => (pg_name (i := 20) scHin.nd rfl (Or.inl rfl))) (fun _ _ _ _ _ => pts_nil) (fun _ _ _ _ _ => (pe_cd DD hr4 rfl pass0 (pa_cons (pv 20) (pa_cons (pv 10) pa_nil))))) pa_nil)) pa_nil))))) (pss_cons (ps_for (passes_of rfl) rfl (pi_mix (by rfl) mz (pa_cons (pv 12) (pa_cons (pv 6) pa_nil))) (pg_tup rfl (pgs_cons (pg_name (i := 13) scHin.nd rfl (Or.inl rfl)) (pgs_cons (pg_name (i := 14) scHin.nd rfl (Or.inl rfl)) pgs_nil))) (pss_one (ps_set (i := 7) scHin.nd rfl (Or.inl rfl) (pe_cd DP hr4 rfl pass0 (pa_cons (pv 7) (pa_cons (pe_cd DS hr4 rfl pass0 (pa_cons (pv 13) (pa_cons (pv 14) pa_nil))) pa_nil)))))) (pss_one (ps_ret (pv 7))))))))))))))))), ?_⟩
    have hdn : ∀ j, j < dn.length → dn[j]? = some (dn.getD j default) := fun j hj => by rw [List.getD_eq_getElem?_getD, List.getElem?_eq_getElem hj]; rfl
    refine Ev.use (P := isX .non) (ev_call2 (ev_var (P := isX (.ref a)) rfl rfl) (ev_var (P := isX (.ref l)) rfl rfl) fun x y H1 e1 p1 p2 H2 e2 Q q => by
      obtain rfl : x = .ref a := p1
      obtain rfl : y = .ref l := p2
      exact ⟨a, lp, lr, l, names, dn, S, rfl, nat.ex (e1.trans e2), e2 _ _ (e1 _ _ hl), nd, fun y hy => by
        obtain ⟨j, hj, rfl⟩ := List.mem_iff_getElem.mp hy
        have := (hpl j hj).2
        rw [List.getElem?_eq_getElem hj] at this
        exact List.mem_of_getElem? this.symm, by omega, fun H' e => q _ H' e rfl⟩) fun _ H1 e1 _ => ?_
    -- places
    refine st_set (P := isLs dn.length fun j => isX (.int (pl j : Int))) (ev_mapL (K := K) (k := 15) (Pi := fun j => isX (.str (dn.getD j default))) (by omega) (ev_var rfl ⟨l, _, rfl, e1 _ _ hl, List.length_map _, fun j hj => ⟨_, by rw [List.getElem?_map, hdn j hj]; rfl, rfl⟩⟩) (fun _ _ => im_X) (fun _ => rfl) fun j x H2 hj e2 p => by
      obtain rfl : x = .str (dn.getD j default) := p
      refine ev_index (K := K) nv.nd (l := names) ?_ (ev_own (i := 0) rfl (e2 _ _ (e1 _ _ nv.obj)) NT.cl NT.p1 (nf_get1 _ _ _ _ _ _ _) ⟨lp, rfl, e2 _ _ (e1 _ _ nv.pts)⟩) (ev_var rfl rfl)
      rw [← (hpl j hj).2]
      exact hdn j hj) fun pv H2 e2 hpv => ?_
    have e02 := e1.trans e2
    -- width
    refine st_set (P := isX (.int (S.n : Int))) (by
      have := ev_lenL (K := K) (n := names.length) (Pi := fun i => ⟨fun _ _ => True, fun _ _ _ _ _ => trivial⟩) (ev_own (i := 0) (σ := (L2.start ["net", "names", "places", "width", "rows", "weak", "movements", "heights", "wanted", "parts", "aims", "matrix", "steps", "step", "movement", "name", "reading", "place", "one", "other", "part"] [V.ref a, V.ref l]).set 2 (some pv)) rfl (e02 _ _ nv.obj) NT.cl NT.p1 (nf_get1 _ _ _ _ _ _ _) ⟨lp, _, rfl, e02 _ _ nv.pts, List.length_map _, fun i hi => ⟨_, List.getElem?_eq_getElem (by rw [List.length_map]; exact hi), trivial⟩⟩)
      rwa [nv.len] at this) fun wv H3 e3 hwv => ?_
    obtain rfl : wv = .int (S.n : Int) := hwv
    have e03 := e02.trans e3
    -- rows
    refine st_set (P := isLs S.m fun k => isV C S.n (S.A k)) (ev_mapL (K := K) (k := 16) (by omega) (ev_own (i := 0) rfl (e03 _ _ nv.obj) NT.cl NT.p3 (nf_get3 _ _ _ _ _ _ _) (P := isLs S.m fun k => ⟨fun v H => ∃ r ts, v = V.ref r ∧ RdIs C Rd H r (rname k) ts (S.val k) (S.W k) ∧ TmOk names ts ∧ S.A k = rowOf names ts, fun _ _ _ e ⟨r, ts, h0, h1, h2⟩ => ⟨r, ts, h0, h1.exi e.imm, h2⟩⟩) ⟨lr, us, rfl, e03 _ _ nv.rds, nv.ulen, fun k hk => by
        obtain ⟨u, ts, h1, h2, h3⟩ := nv.rd k hk
        obtain ⟨r, dr, tv, qv, wv, rfl, h4⟩ := id h2
        exact ⟨_, h1, r, ts, rfl, h2.exi e03.imm, h3⟩⟩) (fun _ _ => im_V) (fun _ => rfl) fun k x H4 hk e4 p => by
      obtain ⟨r, ts, rfl, h1, h2, h3⟩ := p
      rw [h3]
      exact ev_row (nv.ex (e03.trans e4)) (by omega) rfl (ev_var rfl ⟨r, rfl, h1⟩) h2) fun rv H4 e4 hrv => ?_
    have e04 := e03.trans e4
    have hpv4 := (isLs dn.length fun j => isX (.int (pl j : Int))).mono _ _ _ (e3.trans e4) hpv
    -- weak
    refine st_set (P := isK C S.n (kern (S.m + dn.length) S.n (wk S pl))) (ev_call2 (P1 := isM C (S.m + dn.length) S.n (wk S pl)) (ev_M (ev_tupL (K := K) (isLs_imp (ev_cat (ev_var (P := isLs S.m fun k => isV C S.n (S.A k)) rfl hrv) (ev_mapL (K := K) (k := 17) (Pk := fun j => isV C S.n (un (pl j))) (by omega) (ev_var (P := isLs dn.length fun j => isX (.int (pl j : Int))) rfl hpv4) (fun _ _ => im_V) (fun _ => rfl) fun j x H5 hj e5 p => by
        obtain rfl : x = .int (pl j : Int) := p
        exact ev_call2 (ev_var (P := isX (.int (S.n : Int))) rfl rfl) (ev_var (P := isX (.int (pl j : Int))) rfl rfl) fun x y H6 _ p1 p2 H7 e7 Q q => by
          obtain rfl : x = .int (S.n : Int) := p1
          obtain rfl : y = .int (pl j : Int) := p2
          exact ⟨S.n, pl j, rfl, by omega, q⟩) (by omega)) fun j v H' hj p => by
        show IsV C H' v S.n (wk S pl j)
        unfold wk
        by_cases h : j < S.m
        · rw [if_pos h] at p ⊢
          exact p
        · rw [if_neg h] at p ⊢
          exact p))) (ev_var (P := isX (.int (S.n : Int))) rfl rfl) fun x y H5 _ p1 p2 H6 e6 Q q => by
      obtain rfl : y = .int (S.n : Int) := p2
      exact ⟨x, S.m + dn.length, S.n, wk S pl, rfl, IsM.ex p1 e6, by omega, by omega, ok.wr, ok.ws, q⟩) fun kv H5 e5 hkv => ?_
    have e05 := e04.trans e5
    refine st_if (evT_list (K := K) (ev_var (P := isLs (kern (S.m + dn.length) S.n (wk S pl)).length fun i => isV C S.n ((kern (S.m + dn.length) S.n (wk S pl)).getD i fun _ => 0)) rfl hkv)) (fun hb H6 e6 => ?_) (fun hb H6 e6 => ?_)
    · have h0 := of_decide_eq_true hb
      refine st_raise XW (ev_ixL (K := K) (i := 0) (ev_var (P := isLs (kern (S.m + dn.length) S.n (wk S pl)).length fun i => isV C S.n ((kern (S.m + dn.length) S.n (wk S pl)).getD i fun _ => 0)) rfl ((isK C S.n _).mono _ _ _ e6 hkv)) (ev_c (x := .int 0)) h0) fun v d H7 e7 _ hd => ?_
      exact k1 (fun h => by rw [h] at h0; cases h0) d _ ((e05.trans (e6.trans e7)).trans (Ex.new hd))
    have hk0 : kern (S.m + dn.length) S.n (wk S pl) = [] := by
      have := of_decide_eq_false hb
      exact List.length_eq_zero_iff.mp (by omega)
    have e06 := e05.trans e6
    refine st_set (ev_mov (i := 0) rfl (nat.ex e06) mo (by omega) (by omega)) fun mv' H7 e7 hmv => ?_
    have e07 := e06.trans e7
    refine st_set (ev_hts (i := 0) rfl (nat.ex e07) ok.h (by omega)) fun hv H8 e8 hhv => ?_
    have e08 := e07.trans e8
    refine st_set (P := isV C S.n fun i => S.x i - hts S i) (ev_vec (g := (· - ·)) (ev_own (i := 0) rfl (e08 _ _ nv.obj) NT.cl NT.p2 (nf_get2 _ _ _ _ _ _ _) (P := isV C S.n S.x) (nv.x.ex e08)) (ev_var (P := isV C S.n (hts S)) rfl hhv) (by omega) ok.x ok.hs) fun wv H9 e9 hwv => ?_
    have e09 := e08.trans e9
    have hmv9 : (isK C S.n (mvs S)).p mv' H9 := (isK C S.n (mvs S)).mono _ _ _ (e8.trans e9) hmv
    have hpv9 := (isLs dn.length fun j => isX (.int (pl j : Int))).mono _ _ _ (((e5.trans e6).trans e7).trans (e8.trans e9)) hpv4
    generalize hσ : List.set _ 8 (some wv) = σ9
    obtain rfl : σ9 = [some (.ref a), some (.ref l), some pv, some (.int (S.n : Int)), some rv, some kv, some mv', some hv, some wv, none, none, none, none, none, none, none, none, none, none, none, none] := by rw [← hσ]; rfl
    -- parts
    have kln : (mvs S).length ≤ S.n := by
      have h1 : (mvs S).length = (frees S.n (red S.m S.A S.n).piv).length := List.length_map _
      have h2 := piv_le_w (h := S.m) (w := S.n) (R0 := S.A)
      omega
    have klen : (mvs S).length ≤ 1000 := by omega
    have klt : (mvs S).length < 1000 := by omega
    refine st_set (P := isLs (mvs S).length fun i => isV C dn.length (prt S pl i)) (ev_mapL (K := K) (k := 14) klen (ev_var (P := isLs (mvs S).length fun i => isV C S.n ((mvs S).getD i fun _ => 0)) rfl hmv9) (fun _ _ => im_V) (fun _ => rfl) fun i x HA hi eA p => by
      exact ev_V (ev_tupL (K := K) (ev_mapL (K := K) (k := 17) (Pk := fun j => isQ C (prt S pl i j)) (by omega) (ev_var (P := isLs dn.length fun j => isX (.int (pl j : Int))) rfl ((isLs dn.length fun j => isX (.int (pl j : Int))).mono _ _ _ eA hpv9)) (fun _ _ => im_Q) (fun _ => rfl) fun j y HB hj eB p2 => by
        obtain rfl : y = .int (pl j : Int) := p2
        exact ev_ixV (K := K) (x := mv S i) (ev_var rfl (IsV.ex p eB)) (ev_var rfl rfl) (hpl j hj).1))) fun pts HA eA hpt => ?_
    generalize hσ : List.set _ 9 (some pts) = σx
    obtain rfl : σx = [some (.ref a), some (.ref l), some pv, some (.int (S.n : Int)), some rv, some kv, some mv', some hv, some wv, some pts, none, none, none, none, none, none, none, none, none, none, none] := by rw [← hσ]; rfl
    -- aims
    refine st_set (P := isV C dn.length (aim S pl)) (ev_V (ev_tupL (K := K) (ev_mapL (K := K) (k := 17) (Pk := fun j => isQ C (aim S pl j)) (by omega) (ev_var (P := isLs dn.length fun j => isX (.int (pl j : Int))) rfl ((isLs dn.length fun j => isX (.int (pl j : Int))).mono _ _ _ eA hpv9)) (fun _ _ => im_Q) (fun _ => rfl) fun j y HB hj eB p2 => by
        obtain rfl : y = .int (pl j : Int) := p2
        exact ev_ixV (K := K) (x := fun i => S.x i - hts S i) (ev_var rfl (IsV.ex hwv (eA.trans eB))) (ev_var rfl rfl) (hpl j hj).1))) fun av HB eB hav => ?_
    have hptB := (isLs (mvs S).length fun i => isV C dn.length (prt S pl i)).mono _ _ _ eB hpt
    generalize hσ : List.set _ 10 (some av) = σx
    obtain rfl : σx = [some (.ref a), some (.ref l), some pv, some (.int (S.n : Int)), some rv, some kv, some mv', some hv, some wv, some pts, some av, none, none, none, none, none, none, none, none, none, none] := by rw [← hσ]; rfl
    -- matrix
    refine st_set (P := isM C (mvs S).length (mvs S).length (grm S pl dn.length)) (ev_M (ev_tupL (K := K) (ev_mapL (K := K) (k := 18) (Pk := fun i => isV C (mvs S).length (grm S pl dn.length i)) klen (ev_var (P := isLs (mvs S).length fun i => isV C dn.length (prt S pl i)) rfl hptB) (fun _ _ => im_V) (fun _ => rfl) fun i x HC hi eC p =>
      ev_V (ev_tupL (K := K) (ev_mapL (K := K) (k := 19) (Pk := fun j => isQ C (grm S pl dn.length i j)) klen (ev_var (P := isLs (mvs S).length fun i => isV C dn.length (prt S pl i)) rfl ((isLs (mvs S).length fun i => isV C dn.length (prt S pl i)).mono _ _ _ eC hptB)) (fun _ _ => im_Q) (fun _ => rfl) fun j y HD hj eD p2 =>
        ev_dot (ev_var (P := isV C dn.length (prt S pl i)) rfl (IsV.ex p eD)) (ev_var (P := isV C dn.length (prt S pl j)) rfl p2) (ok.g i hi j hj)))))) fun gm HC eC hgm => ?_
    have hptC := (isLs (mvs S).length fun i => isV C dn.length (prt S pl i)).mono _ _ _ eC hptB
    generalize hσ : List.set _ 11 (some gm) = σx
    obtain rfl : σx = [some (.ref a), some (.ref l), some pv, some (.int (S.n : Int)), some rv, some kv, some mv', some hv, some wv, some pts, some av, some gm, none, none, none, none, none, none, none, none, none] := by rw [← hσ]; rfl
    -- steps
    refine st_set (P := isV C (mvs S).length (stp S pl dn.length)) (ev_call3 (P3 := isV C (mvs S).length (rhs S pl dn.length)) (ev_var (P := isM C (mvs S).length (mvs S).length (grm S pl dn.length)) rfl hgm) (ev_lenL (K := K) (ev_var (P := isLs (mvs S).length fun i => isV C dn.length (prt S pl i)) rfl hptC)) (ev_V (ev_tupL (K := K) (ev_mapL (K := K) (k := 20) (Pk := fun j => isQ C (rhs S pl dn.length j)) klen (ev_var (P := isLs (mvs S).length fun i => isV C dn.length (prt S pl i)) rfl hptC) (fun _ _ => im_Q) (fun _ => rfl) fun j y HD hj eD p2 =>
        ev_dot (ev_var (P := isV C dn.length (prt S pl j)) rfl p2) (ev_var (P := isV C dn.length (aim S pl)) rfl (IsV.ex hav (eC.trans eD))) (ok.r j hj)))) fun x y z HD _ p1 p2 p3 HE eE Q q => by
      obtain rfl : y = .int ((mvs S).length : Int) := p2
      exact ⟨x, z, (mvs S).length, grm S pl dn.length, rhs S pl dn.length, rfl, IsM.ex p1 eE, IsV.ex p3 eE, klt, ok.so, ok.np, q⟩) fun sv HD eD hsv => ?_
    have e0D := e09.trans (eA.trans (eB.trans (eC.trans eD)))
    generalize hσ : List.set _ 12 (some sv) = σx
    obtain rfl : σx = [some (.ref a), some (.ref l), some pv, some (.int (S.n : Int)), some rv, some kv, some mv', some hv, some wv, some pts, some av, some gm, some sv, none, none, none, none, none, none, none, none] := by rw [← hσ]; rfl
    -- the loop
    refine st_for (fd_mix (K := K) (Pi := fun i => isQ C (stp S pl dn.length i)) (Pj := fun i => isV C S.n (mv S i)) (n := (mvs S).length) (ev_var rfl hsv) (ev_var rfl ((isK C S.n (mvs S)).mono _ _ _ (eA.trans (eB.trans (eC.trans eD))) hmv9))) (fun i σ H' => ∃ hv' x y, σ = [some (.ref a), some (.ref l), some pv, some (.int (S.n : Int)), some rv, some kv, some mv', some hv', some wv, some pts, some av, some gm, some sv, x, y, none, none, none, none, none, none] ∧ IsV C H' hv' S.n (hinU S pl dn.length i))
      (fun H2 e2 => ⟨hv, none, none, rfl, (IsV.ex hhv (e9.trans (eA.trans (eB.trans (eC.trans (eD.trans e2)))))).congr fun i _ => by unfold hinU; show hts S i = hts S i + 0; grind⟩) ?_ ?_
    · rintro i z σ HF HG HH hi eF eG ⟨hv', x, y, rfl, ph⟩ ⟨T, xi, yi, H0, rfl, hT, rfl, e0, px, py⟩
      refine pair_tgt upd_same ?_
      have eT : Ex HG (upd HG T (.tup [xi, yi])) := Ex.new hT
      refine st_set1 (ev_vec (g := (· + ·)) (ev_var (P := isV C S.n (hinU S pl dn.length i)) rfl (ph.ex eT)) (ev_scale (ev_var (P := isQ C (stp S pl dn.length i)) rfl (IsQ.ex px (e0.trans eT))) (ev_var (P := isV C S.n (mv S i)) rfl (IsV.ex py (e0.trans eT))) (by omega) (fun _ => ok.st i hi) (ok.mv i hi)) (by omega) (ok.u i (by omega)) (ok.sm i hi)) fun v' HI eI pI => ?_
      refine ⟨(eG.trans eT).trans eI, v', some xi, some yi, rfl, IsV.congr pI fun j _ => ?_⟩
      show hts S j + sm i (fun k => stp S pl dn.length k * mv S k j) + stp S pl dn.length i * mv S i j = hts S j + (sm i (fun k => stp S pl dn.length k * mv S k j) + stp S pl dn.length i * mv S i j)
      grind
    · rintro σ HF HG eF eG ⟨hv', x, y, rfl, ph⟩
      exact st_ret (ev_var (P := isV C S.n (hin S pl dn.length)) rfl ph) fun z HI eI pI => k0 hk0 z HI (e0D.trans (eF.trans (eG.trans eI))) pI
end
end PW

set_option Elab.async false
set_option linter.all false
set_option maxRecDepth 100000
set_option maxHeartbeats 4000000
/-! PwO: sorted(d, key=lambda x: str(x)). -/
namespace PW
open PySem PySem.Spec PyProof.Rows L2 PN LamX
/-- the lambda's text: one parameter, made a text -/
structure LamStr (params : Arguments) (body : Expr) (scope : Scope) (x : Str) : Prop where
  bodyE : ∃ p1 p2 p3, body = .Call (.Name "str" p1) [.Name x p2] [] p3
  bind : ∀ (q : Str) (pm cdv ct v : Value), bindArgs (PySem.W.kla_fn "<lambda>" q params body scope [] pm cdv ct) ⟨[v], []⟩ = pure [(x, v)]
  dft : ∀ env : Env, defaultsOf params env = ([], [])
  kind : scope.kind = .function
  co : scope.isCoroutine = false
  gen : scope.isGenerator = false
  nocell : ∀ y ∈ scope.names, y.2 ≠ .cell
  nofree : ∀ y ∈ scope.names, y.2 ≠ .free
  loc : scope.names.lookup x = some .local
  str : scope.names.lookup ("str" : Str) = some .globalImplicit
  dbg : (x == ("__debug__" : Str)) = false
theorem clo_nil {cells : List (Str × Addr)} : ∀ {names : List (Str × NameKind)} {acc : List (Str × Addr)}, (∀ y ∈ names, y.2 ≠ .free) → cloFrom cells names acc = acc
  | [], acc, _ => rfl
  | (n, k) :: r, acc, h => by
    have hk : (k == NameKind.free) = false := beq_eq_false_iff_ne.mpr (h (n, k) List.mem_cons_self)
    show (if (k == NameKind.free) = true then _ else cloFrom cells r acc) = acc
    rw [hk, if_neg Bool.false_ne_true]
    exact clo_nil fun y hy => h y (List.mem_cons_of_mem _ hy)
section
variable {P : Program} {w : World} {A : Around} {s : Shared} {K : PySem.W.Frag} {mg : Str → Option Value} {base : Heap}
theorem lam_run {params : Arguments} {body : Expr} {scope : Scope} {x q : Str} {f c' : Addr} {pm ctv : Value} (L : LamStr params body scope x) (M : Mod K mg base) (kb : ∀ b o, base.get? b = some o → s.heap.get? b = some o) (hms : mg "str" = none)
    (hf : s.heap.get? f = some (PySem.W.kla_obj "<lambda>" q params body scope [] pm c' ctv)) (hc : s.heap.CodeRec (.ref c') q) (hroom : A.depth < recursionLimit) (y : Str) (t : Tok) :
    wpAny (model P w) A (call (.ref f) [.str y t]) (fun v s' => v = .str y t ∧ ∃ h' tk, s' = { s with heap := h', toks := tk } ∧ ∀ b o, s.heap.get? b = some o → h'.get? b = some o) (fun _ _ => False) s := by
  obtain ⟨p1, p2, p3, rfl⟩ := L.bodyE
  have nl : s.heap.NoLimit := M.nolimit.keeps kb
  refine wpAny_call (PySem.W.kla_callFunE hroom hf rfl L.co L.gen rfl hc ?_)
  show wpAny _ A.in1 (bindArgs (PySem.W.kla_fn "<lambda>" q params (.Call (.Name "str" p1) [.Name x p2] [] p3) scope [] pm (.ref c') ctv) ⟨[.str y t], []⟩) _ _ s
  rw [L.bind q pm (.ref c') ctv (.str y t)]
  refine wpAny_pure (wpAny_newFunctionEnv L.nocell (fun z hz => ?_) (fun h₁ hns hsb => ⟨nl.fresh _ hsb, ?_⟩) L.kind)
  · rw [List.mem_singleton.mp hz]
    exact L.loc
  · have kp : ∀ b o, s.heap.get? b = some o → h₁.get? b = some o := fun b o e => hsb.extBut b o (Nat.ne_of_lt (Heap.lt_size e)) (Heap.get?_push_of_some _ e)
    obtain ⟨mb, hb1, hb2⟩ := M.blt
    have hbs : bootBuiltins ("str" : Str) = some (.type "str") := by decide +kernel
    refine PySem.W.kla_codeExpr ?_
    refine Call_ ?_
    refine Calls.Name_function_global (by exact L.kind) (by exact L.str) (Calls.loadGlobal_builtin (M.glob.keeps fun b o e => kp b o (kb b o e)) hms (hb1.keeps fun b o e => kp b o (kb b o e)) ((hb2 "str" (by decide)).trans hbs) ?_) (by decide)
    refine PyProof.Rows.callWith_type1 (T := "str") (args_cons ?_ (by rfl)) (by rfl) (by rfl)
    refine wpAny_Name (wpAny_loadName_local (by exact L.kind) (by exact L.loc) hns (v := .str y t) (by simp [List.lookup]) ?_) L.dbg
    refine args_nil (PySem.P.str_of_str ?_)
    exact ⟨rfl, h₁, _, rfl, kp⟩
end
/-- sorted(d, key=lambda ..) -/
def tSrt (T : List (Addr × Str)) (td : TE) : TE := fun σ H Q => tCons td tNil σ H fun vs H1 => ∃ (a : Addr) (kvs : List (Key × V)) (ks : List Str), vs = [.ref a] ∧ H1 a = some (.dK kvs) ∧ kvs.map (·.1) = ks.map Sum.inr ∧ ks.length < 64 ∧ Tabs T H1 ∧
  ∀ (ys : List Str) (p : Addr) (H2 : Hp), ys.Perm ks → ExtN H1 H2 → Tabs T H2 → H2 p = none → Q (.ref p) (upd H2 p (.lst (ys.map V.str)))
theorem strs_each : ∀ {vs : List Value} {ks : List Str}, StrsAre vs ks → PySem.W.EachIs (fun v y => ∃ t, v = Value.str y t) vs ks
  | _, _, .nil => .nil
  | _, _, .cons y t h => .cons ⟨t, rfl⟩ (strs_each h)
theorem each_strs : ∀ {vs : List Value} {ks : List Str}, PySem.W.EachIs (fun v y => ∃ t, v = Value.str y t) vs ks → Vals (ks.map V.str) vs
  | _, _, .nil => .nil
  | _, _, .cons ⟨t, e⟩ h => .cons ⟨t, e⟩ (each_strs h)
section
variable {X : Cx}
theorem pe_sortedLam {T : List (Addr × Str)} {c P : Addr} {e : Expr} {te : TE} {params : Arguments} {body : Expr} {scope : Scope} {x : Str} {p lpos kpos pos : Pos} (hcm : X.calm = true) (L : LamStr params body scope x) (hg : Gl X "sorted") (hm : X.mg "sorted" = none) (hms : X.mg "str" = none)
    (TB : TabB X.base X.mg c P) (hcode : X.env.code = .ref c) (hmT : (P, X.env.qual ++ "<lambda>") ∈ T) (hu : ∀ p ∈ T, p.1 = P → p.2 = X.env.qual ++ "<lambda>") (hun : X.A.units + 66 < cLine) (hdp : X.A.depth < recursionLimit) (he : PE X e te)
    (hst : backTo pos (starEach [e] X.env) = (false, eval e X.env) :: backTo pos (starEach [] X.env) := by rfl) (hpl : (backTo pos (starEach [e] X.env)).any (·.1) = false := by rfl)
    (hs : starEach [e] X.env = (false, eval e X.env) :: starEach [] X.env := by rfl) :
    PE X (.Call (.Name "sorted" p) [e] [⟨some "key", .Lambda params body scope lpos, kpos⟩] pos) (tSrt T te) := by
  refine ⟨fun pins s σ H Q I h => ?_⟩
  refine wpAny_Call_Name_kw (ld_blt I hg hm PyProof.Rows.boot_sorted ?_)
  refine PyProof.Rows.callWith_kw (thn ((pa_cons he pa_nil hs).run pos pins s σ H _ I h) fun us s1 ⟨vs, H1, I1, r1, q1⟩ => ?_) hst hpl (by rfl) (by rfl)
  obtain ⟨a, kvs, ks, rfl, hd, hks, h64, hT, q⟩ := q1
  obtain ⟨u, rfl, rx⟩ := vals1 r1
  cases rx
  show wpAny _ _ (evalAll ((do let v ← eval (.Lambda params body scope lpos) X.env; standAt pos; pure v) :: [])) _ _ s1
  refine wpAny_evalAll_cons (wpAny_bind (lam_make2 I1 TB hcode hmT hu hT (L.dft _) (fun y hy e => absurd e (L.nofree y hy)) fun f c' pm ctv H2 s2 I2 eN T2 hf hfn hfr hco => wpAny_bind (wpAny_standAt (wpAny_pure (wpAny_evalAll_nil ?_)))))
  rw [clo_nil L.nofree] at hf
  show wpAny _ _ (call (.builtin "sorted") [.ref a] [(Str.ofString "key", .ref f)]) _ _ s2
  have hd2 : Rd H2 a (.dK kvs) := .inl (eN a _ hd fun ps z => by cases z)
  obtain ⟨z, lo, vs, rel, dd⟩ := dk_rd I2.hok hd2
  obtain ⟨ep, hat⟩ := dd.dictAt
  have hkeys : vs.map (·.1) = ks.map Sum.inr := rel.keys.symm.trans hks
  have hl : vs.length = ks.length := by
    have e := congrArg List.length hkeys
    rw [List.length_map, List.length_map] at e
    exact e
  have h16 : vs.length ≤ sizeLine := by rw [hl, sizeLine_eq]; omega
  refine PyProof.Rows.call_function_entry_kw PyProof.Rows.kind_sorted PyProof.Rows.plain_sorted PyProof.Rows.entry_sorted (PyProof.Rows.ksk_s1 _ _) ?_
  unfold Builtin.«sorted»
  refine wpAny_bind (m := checkCount "sorted" 1 1 _) (wpAny_pure ?_)
  refine wpAny_bind (PySem.W.kdu_collect (A := X.A.in1) (PySem.W.kdl_dict (knd := mixKind X.prog X.w) (kvs := vs) (ep := ep) lo) (I2.ok.hd hcm) hat h16 fun h' tk acc hk hacc => ?_)
  have hal : acc.toList.length = ks.length := by rw [Array.length_toList, hacc.1, hl]
  have hS : StrsAre acc.toList ks := L2.strs_at hal fun j v e => by
    obtain ⟨k, y, e1, e2⟩ := hacc.2 j v (by rw [← Array.getElem?_toList]; exact e)
    have e3 : (vs.map (·.1))[j]? = some k := by rw [List.getElem?_map, e1]; rfl
    rw [hkeys, List.getElem?_map] at e3
    cases e4 : ks[j]? with
    | none => rw [e4] at e3; cases e3
    | some y' =>
      rw [e4] at e3
      have e5 : Sum.inr y' = k := Option.some.inj e3
      subst e5
      obtain ⟨t, ev⟩ := Value.isStrOf_shape (x := y') (v := v) e2
      exact ⟨y', t, rfl, ev⟩
  have I3 : Inv X pins σ H2 { s2 with heap := h', toks := tk } := I2.kept hk
  have hz16 : acc.toList.length ≤ sizeLine := by rw [hal, sizeLine_eq]; omega
  refine wpAny_bind (wpAny_newList ?_ hz16)
  have hoL : (h'.push (seqObj "list" acc.toList.toArray 0)).get? h'.objs.size = some (seqObj "list" acc.toList.toArray 0) := Heap.get?_push_size _ rfl
  show wpAny _ _ _ _ _ { s2 with heap := h'.push (seqObj "list" acc.toList.toArray 0), toks := tk }
  have up : ∀ {g : Heap}, PySem.W.KeepsBut h'.objs.size (h'.push (seqObj "list" acc.toList.toArray 0)) g → ∀ b o, h'.get? b = some o → g.get? b = some o := fun {g} kp b o e => kp b o (Nat.ne_of_lt (Heap.lt_size e)) (Heap.get?_push_of_some _ e)
  obtain ⟨⟨oc, cvs, tq, hoc, hdc, hvc⟩, _, _⟩ := I2.hok c' _ hco
  refine wpAny_bind (wpAny_holding (wpAny_call_entry_kw PyProof.Rows.slot_list_sort ⟨_, hoL, rfl⟩ PyProof.Rows.entry_list_sort ?body (PyProof.Rows.ksk_l1 _ _)))
  case body =>
    rw [PyProof.Rows.ksk_t1]
    refine PySem.W.keyH_tree (kz := ks.map PyData.str) (vs := acc.toList) (s := { s2 with heap := h'.push (seqObj "list" acc.toList.toArray 0), toks := tk }) hoL (by rw [List.length_map, hal]) hz16
      (fun d hd d' hd' => ?_) (.inr fun d hd => ?_) (fun d hd => ?_) (fun i v k hv hk' g tk2 kp => ?_) fun g tk2 out cc kp hD ko => ?_
    · obtain ⟨y, _, rfl⟩ := List.mem_map.mp hd
      obtain ⟨y', _, rfl⟩ := List.mem_map.mp hd'
      rfl
    · obtain ⟨y, _, rfl⟩ := List.mem_map.mp hd
      exact ⟨fun z => (by cases z), fun xs z => (by cases z)⟩
    · obtain ⟨y, _, rfl⟩ := List.mem_map.mp hd
      show X.A.units + 1 + 1 + (PyData.str y).depth < cLine
      have : (PyData.str y).depth ≤ 1 := by first | (simp [PyData.depth]; done) | decide | exact Nat.le_refl _ | exact Nat.zero_le _
      omega
    · obtain ⟨y, t, hy, rfl⟩ : ∃ y t, ks[i]? = some y ∧ v = .str y t := by
        have hi : i < ks.length := by rw [← hal]; exact (List.getElem?_eq_some_iff.mp hv).1
        obtain ⟨t, e⟩ := (strs_each hS).zip (v, ks[i]) (List.mem_of_getElem? (i := i) (by rw [List.getElem?_zip_eq_some]; exact ⟨hv, List.getElem?_eq_getElem hi⟩))
        exact ⟨_, t, List.getElem?_eq_getElem hi, e⟩
      rw [List.getElem?_map, hy] at hk'
      obtain rfl : PyData.str y = k := Option.some.inj hk'
      have kp2 : ∀ b o, s2.heap.get? b = some o → g.get? b = some o := fun b o e => up kp b o (hk b o e)
      refine wpAny_mono (lam_run (s := { s2 with heap := g, toks := tk2 }) L I2.mod (fun b o e => kp2 b o (I2.bk b o e)) hms (kp2 _ _ hf) ⟨c', oc, cvs, tq, rfl, kp2 _ _ hoc, hdc, hvc⟩ (by exact hdp) y t) (fun v' s' hv' => ?_) fun _ _ hF => hF
      obtain ⟨rfl, h3, tk3, e3, k3⟩ := hv'
      exact ⟨h3, tk3, e3, k3, .str y t⟩
    · have each := PySem.W.keyedOut_each (rev := false) (R := fun v y => ∃ t, v = Value.str y t) (bs := ks) PyData.str ko (strs_each hS)
      refine ⟨.none, rfl, wpAny_pure ⟨_, rfl, ?_⟩⟩
      have hperm : (ks.mergeSort (PySem.W.dataLe false PyData.str)).Perm ks := List.mergeSort_perm ks _
      refine ⟨.ref h'.objs.size, upd H2 h'.objs.size (.lst ((ks.mergeSort (PySem.W.dataLe false PyData.str)).map V.str)), I3.laid (t' := tk2) (fun b o e => up kp b o e) (Nat.le_refl _) ⟨?_, out, cc, each_strs each, hD⟩, rfl, q _ _ H2 hperm eN T2 (I3.hok.fresh (Nat.le_refl _))⟩
      rw [List.length_map, hperm.length_eq, sizeLine_eq]
      omega
end
end PW

set_option Elab.async false
set_option linter.all false
set_option maxRecDepth 100000
set_option maxHeartbeats 4000000
/-! PwP: the law's state: digits drawn from it. -/
namespace PW
open PySem PySem.Spec PyProof.Rows L2 PN
abbrev sMixed : Stmt := topS 55
abbrev sTake : Stmt := topS 56
abbrev sState : Stmt := topS 57
abbrev sRatioL : Stmt := topS 66
abbrev sWeightL : Stmt := topS 67
/-- the state at s, its cells at l -/
def StAt (H : Hp) (s l : Addr) : Prop := s ≠ l ∧ ∃ (d : Int) (us : List Int), 0 ≤ d ∧ H s = some (.lst [.ref l, .int d]) ∧ H l = some (.lst (us.map V.int))
def slB (s l : Addr) : Addr → Prop := fun a => a = s ∨ a = l
theorem StAt.ex {H H' : Hp} {s l : Addr} (h : StAt H s l) (e : Ex H H') : StAt H' s l := let ⟨n, d, us, h0, h1, h2⟩ := h; ⟨n, d, us, h0, e _ _ h1, e _ _ h2⟩
theorem StAt.exi {H H' : Hp} {s l : Addr} {Fz : Addr → Prop} (h : StAt H s l) (e : ExE (slB s l) H H') : ExI Fz H H' := e.exi fun p o hp ho i => by
  obtain ⟨n, d, us, h0, h1, h2⟩ := h
  rcases hp with rfl | rfl
  · rw [h1] at ho; cases ho; exact i
  · rw [h2] at ho; cases ho; exact i
def spMixed : Sp := fun vs H Q _ => ∃ c : Int, vs = [.int c] ∧ ∀ z H', 0 ≤ z → Ex H H' → Q (.int z) H'
def spTake : Sp := fun vs H Q _ => ∃ (s l : Addr) (n : Int), vs = [.ref s, .int n] ∧ 0 < n ∧ n.natAbs.log2 < 9000 ∧ StAt H s l ∧ ∀ d H', 0 ≤ d → d < n → StAt H' s l → ExE (slB s l) H H' → Q (.int d) H'
def spState (K : PySem.W.Frag) : Sp := fun vs H Q _ => ∃ (a : Addr) (us : List Int), vs = [.ref a] ∧ SqL K H a (us.map V.int) ∧ ∀ s l H', StAt H' s l → Ex H H' → Q (.ref s) H'
def spRatioL (C : Addr) : Sp := fun vs H Q _ => ∃ (s l : Addr), vs = [.ref s] ∧ StAt H s l ∧ ∀ z q H', StAt H' s l → ExE (slB s l) H H' → IsQ C H' z q → Dn 2520 18 q → Q z H'
def spWeightL (C : Addr) : Sp := fun vs H Q _ => ∃ (s l : Addr), vs = [.ref s] ∧ StAt H s l ∧ ∀ z q H', StAt H' s l → ExE (slB s l) H H' → IsQ C H' z q → Dn 6 5 q → 0 < q → Dn 12 6 (1 / q) → Q z H'
section
variable {K : PySem.W.Frag} {σ : L2.St} {H : Hp} {ta tb te : TE} {i j : Nat} {a : Addr} {us : List V} {x : V} {E : XK} {tt ut : TT} {b : Bool} {D : Ends} {rest : TS}
theorem use_tail {t : TS} (I : L2.St → Hp → Prop) (tail : ∀ σ' H', I σ' H' → rest D σ' H') (h : (∀ σ' H', I σ' H' → rest D σ' H') → t { D with nx := rest D } σ H) : tSeq t rest D σ H := h tail
theorem ev_ixAt (hs : σ[i]? = some (some (.ref a))) (ha : H a = some (.lst us)) (hx : us[j]? = some x) : Ev (tOp (rIxL K) (tVar i) (tC (.int (j : Int)))) σ H (isX x) := fun H1 e Q q =>
  ⟨_, hs, a, us, (j : Int), x, rfl, rfl, SqL.of (e _ _ ha), by
    have hj : j < us.length := (List.getElem?_eq_some_iff.mp hx).1
    unfold atI
    rw [ixN_nat hj]
    exact hx, q x H1 (Ex.refl H1) rfl⟩
theorem evT_bI {g : Int → Int → Bool} {m n : Int} (ha : Ev ta σ H (isX (.int m))) (hb : Ev tb σ H (isX (.int n))) : EvT (tTest (tOp (rI0 fun i j => .bl (g i j)) ta tb)) σ H (g m n) := fun H1 e Q q =>
  ha H1 e _ fun u H2 e2 p => hb H2 (e.trans e2) _ fun v H3 e3 p3 => by
    obtain rfl : u = .int m := p
    obtain rfl : v = .int n := p3
    exact ⟨m, n, rfl, rfl, _, rfl, q H3 (e2.trans e3)⟩
theorem evT_and {c : Bool} (h1 : EvT tt σ H b) (h2 : b = true → EvT ut σ H c) : EvT (tAnd tt ut) σ H (b && c) := fun H1 e Q q =>
  h1 H1 e _ fun H2 e2 => by
    cases b with
    | true => rw [if_pos rfl]; exact h2 rfl H2 (e.trans e2) Q fun H3 e3 => q H3 (e2.trans e3)
    | false => rw [if_neg Bool.false_ne_true]; exact q H2 e2
abbrev rInt1 : List V → Hp → VK → Prop := fun xs H Q => (∃ i, xs = [.int i] ∧ Q (.int i) H) ∨ ∃ k, xs = [.bl k] ∧ Q (.int (if k then 1 else 0)) H
theorem ev_int {n : Int} (h : Ev te σ H (isX (.int n))) : Ev (tCB rInt1 (tCons te tNil)) σ H (isX (.int n)) := fun H1 e Q q =>
  h H1 e _ fun v H2 e2 p => by
    obtain rfl : v = .int n := p
    exact .inl ⟨n, rfl, q _ _ e2 rfl⟩
theorem ev_intB {k : Bool} (h : Ev te σ H (isX (.bl k))) : Ev (tCB rInt1 (tCons te tNil)) σ H (isX (.int (if k then 1 else 0))) := fun H1 e Q q =>
  h H1 e _ fun v H2 e2 p => by
    obtain rfl : v = .bl k := p
    exact .inr ⟨k, rfl, q _ _ e2 rfl⟩
theorem ev_lenX (h : Ev te σ H (isX (.ref a))) (ha : H a = some (.lst us)) : Ev (tCB (rLen K) (tCons te tNil)) σ H (isX (.int (us.length : Int))) := fun H1 e Q q =>
  h H1 e _ fun v H2 e2 p => by
    obtain rfl : v = .ref a := p
    exact ⟨a, us, rfl, .inl (SqL.of (e2 _ _ (e _ _ ha))), q _ _ e2 rfl⟩
end
theorem low_log {n : Int} {k : Nat} (hk : 0 < k) (hk' : k ≤ 9000) (h : n.natAbs < 2 ^ k) : n.natAbs.log2 < 9000 := by
  by_cases e : n.natAbs = 0
  · rw [e]; decide
  · have := (Nat.log2_lt e).mpr h
    omega
section
variable {P : Program} {w : World} {K : PySem.W.Frag} {mg : Str → Option Value} {base : Heap} {f C fMx fT : Addr} {fd fdMx fdT : FuncData}
theorem scMixed : FnScope ["_law_cell", "_law_seed", "_law_number", "_law_k"] ["_law_cell"] (defScope sMixed) := ⟨rfl, rfl, rfl, by decide +kernel, rfl, by decide +kernel, by decide +kernel⟩
theorem ok_mixed (F : FnP K "_law_mixed" "_law_mixed" sMixed f fd) (mi : mg "int" = none) (mr : mg "range" = none) : FnOk P w K mg base CX0 1 f fd ["_law_cell"] spMixed := by
  refine F.ok scMixed (fun vs H Q E h => ?_) (fun cdv A outer s H vs Q E hr h => ?_)
  · obtain ⟨c, rfl, _⟩ := h
    rfl
  · obtain ⟨c, rfl, k⟩ := h
    refine ⟨_, PSs.nox (pss_cons (ps_set (i := 1) scMixed.nd rfl (Or.inl rfl) (pe_op op_mod (pe_callTy call_int1 (by rfl) mi (by decide +kernel) (pa_cons (pv 0) pa_nil)) pe_int)) (pss_cons (ps_set (i := 2) scMixed.nd rfl (Or.inl rfl) pe_int) (pss_cons (ps_for PassesOwn.never rfl (pi_range1 rfl mr (pa_cons pe_int pa_nil)) (pg_name (i := 3) scMixed.nd rfl (Or.inl rfl)) (pss_cons (ps_set (i := 1) scMixed.nd rfl (Or.inl rfl) (pe_op op_mod (pe_callTy call_int1 (by rfl) mi (by decide +kernel) (pa_cons (pe_op op_add (pe_op op_add (pe_op op_mulW (pv 1) pe_int) pe_int) (pe_op op_mulW pe_int (pv 3))) pa_nil)) pe_int)) (pss_one (ps_set (i := 2) scMixed.nd rfl (Or.inl rfl) (pe_op op_add (pe_op op_mulW (pv 2) pe_int) (pv 1)))))) (pss_one (ps_ret (pv 2)))))), ?_⟩
    refine st_set (P := isX (.int (c % 1000000007))) (ev_ints (ev_int (ev_var (P := isX (.int c)) rfl rfl)) ev_c (by decide)) fun v H1 e1 p1 => ?_
    obtain rfl : v = .int (c % 1000000007) := p1
    refine st_set (P := isX (.int 0)) ev_c fun v H2 e2 p2 => ?_
    obtain rfl : v = .int 0 := p2
    refine st_forR (n := 6) (ev_c (x := .int 6)) (by decide) (fun i σ H' => ∃ (sd nm : Int) (x : Option V), σ = [some (.int c), some (.int sd), some (.int nm), x] ∧ 0 ≤ sd ∧ sd < 1000000007 ∧ 0 ≤ nm ∧ nm < 2 ^ (30 * i) ∧ Ex H H')
      (fun H3 e3 => ⟨_, 0, none, rfl, Int.emod_nonneg _ (by decide), Int.emod_lt_of_pos _ (by decide), by decide, by decide, (e1.trans e2).trans e3⟩) ?_ ?_
    · rintro i σ H3 hi ⟨sd, nm, x, rfl, h1, h2, h3, h4, e3⟩
      refine st_set (P := isX (.int ((sd * 48271 + 12820163 + 7 * (i : Int)) % 1000000007))) (ev_ints (ev_int (ev_addI (ev_addI (ev_mulI (ev_var (P := isX (.int sd)) rfl rfl) ev_c (wide_mul (a := 30) (b := 16) (by omega) (by decide) (by decide) (by decide) (by decide))) ev_c) (ev_mulI ev_c (ev_var (P := isX (.int (i : Int))) rfl rfl) (wide_mul (a := 3) (b := 30) (by decide) (by omega) (by decide) (by decide) (by decide))))) ev_c (by decide)) fun v H4 e4 p4 => ?_
      obtain rfl : v = .int ((sd * 48271 + 12820163 + 7 * (i : Int)) % 1000000007) := p4
      have b1 := Int.emod_nonneg (sd * 48271 + 12820163 + 7 * (i : Int)) (show (1000000007 : Int) ≠ 0 by decide)
      have b2 := Int.emod_lt_of_pos (sd * 48271 + 12820163 + 7 * (i : Int)) (show (0 : Int) < 1000000007 by decide)
      generalize (sd * 48271 + 12820163 + 7 * (i : Int)) % 1000000007 = sd' at b1 b2 ⊢
      have h180 : (2 : Int) ^ (30 * i) ≤ 2 ^ 180 := by exact_mod_cast Nat.pow_le_pow_right (by decide) (by omega)
      refine st_set1 (P := isX (.int (nm * 1000000007 + sd'))) (ev_addI (ev_mulI (ev_var (P := isX (.int nm)) rfl rfl) ev_c (wide_mul (a := 180) (b := 30) (by omega) (by decide) (by decide) (by decide) (by decide))) (ev_var (P := isX (.int sd')) rfl rfl)) fun v H5 e5 p5 => ?_
      obtain rfl : v = .int (nm * 1000000007 + sd') := p5
      refine ⟨sd', nm * 1000000007 + sd', some (.int (i : Int)), rfl, b1, b2, by omega, ?_, (e3.trans e4).trans e5⟩
      rw [Nat.mul_add, Int.pow_add, show (2 : Int) ^ (30 * 1) = 1073741824 from rfl]
      omega
    · rintro σ H3 ⟨sd, nm, x, rfl, h1, h2, h3, h4, e3⟩
      exact st_ret (P := isX (.int nm)) (ev_var rfl rfl) fun v H4 e4 p4 => by
        obtain rfl : v = .int nm := p4
        exact k nm H4 h3 (e3.trans e4)
theorem scTake : FnScope ["_law_state_here", "_law_limit", "_law_cell", "_law_digit"] ["_law_state_here", "_law_limit"] (defScope sTake) := ⟨rfl, rfl, rfl, by decide +kernel, rfl, by decide +kernel, by decide +kernel⟩
theorem ok_take (F : FnP K "_law_take" "_law_take" sTake f fd) (mi : mg "int" = none) (mb : mg "abs" = none) (mn : mg "len" = none) (DMx : DefOk P w K mg base CX0 "_law_mixed" 1 ["_law_cell"] spMixed fMx fdMx) :
    FnOk P w K mg base CX0 2 f fd ["_law_state_here", "_law_limit"] spTake := by
  refine F.ok scTake (fun vs H Q E h => ?_) (fun cdv A outer s H vs Q E hr h => ?_)
  · obtain ⟨s, l, n, rfl, _⟩ := h
    rfl
  · obtain ⟨s, l, n, rfl, hn, hlog, ⟨ne, d, us, hd, hs, hl⟩, k⟩ := h
    have hr1 : Room 1 _ := hr
    refine ⟨_, PSs.nox (pss_cons (ps_if (PW.pt (pw_and (pt_cmpR op_lt (pe_ix ix_list (pv 0) pe_int (fun _ _ => rfl)) (pv 1) (nomark _)) (pw_and1 (pt_cmpR op_gt (pe_callB call_len_seq (by rfl) mn PySem.boot_len (pa_cons (pe_ix ix_list (pv 0) pe_int (fun _ _ => rfl)) pa_nil)) pe_int (nomark _))))) (pss_cons (ps_set (i := 2) scTake.nd rfl (Or.inl rfl) (pe_callB call_abs (by rfl) mb (by decide +kernel) (pa_cons (pe_callTy call_int1 (by rfl) mi (by decide +kernel) (pa_cons (pe_bm PySem.F.plainAttrs_list PySem.F.slot_list_pop PySem.F.type_list_pop mt_popAt (pe_ix ix_list (pv 0) pe_int (fun _ _ => rfl)) (pa_cons pe_int pa_nil)) pa_nil)) pa_nil))) (pss_cons (ps_if (pt_cmpR op_lt (pv 2) (pe_op op_pow pe_int pe_int) (nomark _)) (pss_one (ps_set (i := 2) scTake.nd rfl (Or.inl rfl) (pe_cd DMx hr1 rfl pass0 (pa_cons (pv 2) pa_nil)))) pss_nil) (pss_one (ps_asg (pv 2) (pg_sub (pv 0) pe_int set_list))))) pss_nil) (pss_cons (ps_set (i := 3) scTake.nd rfl (Or.inl rfl) (pe_op op_mod (pe_callTy call_int1 (by rfl) mi (by decide +kernel) (pa_cons (pe_ix ix_list (pv 0) pe_int (fun _ _ => rfl)) pa_nil)) (pv 1))) (pss_cons (ps_asg (pe_op op_fdivA (pe_ix ix_list (pv 0) pe_int (fun _ _ => rfl)) (pv 1)) (pg_sub (pv 0) pe_int set_list)) (pss_one (ps_ret (pv 3)))))), ?_⟩
    refine use_tail (fun σ' H' => ∃ (x : Option V) (d' : Int) (vs : List Int), σ' = [some (.ref s), some (.int n), x, none] ∧ 0 ≤ d' ∧ H' s = some (.lst [.ref l, .int d']) ∧ H' l = some (.lst (vs.map V.int)) ∧ ExE (slB s l) H H') ?_ fun tail => ?_
    · rintro σ' H1 ⟨x, d', vs, rfl, hd', hs1, hl1, e1⟩
      refine st_set (P := isX (.int (d' % n))) (ev_ints (ev_int (ev_ixAt (K := K) (i := 0) (j := 1) (us := [.ref l, .int d']) rfl hs1 rfl)) (ev_var (P := isX (.int n)) rfl rfl) hn) fun v H2 e2 p2 => ?_
      obtain rfl : v = .int (d' % n) := p2
      refine (ev_ints (C := CDivA) (g := fun i j => .int (i.fdiv j)) (ev_ixAt (K := K) (σ := [some (V.ref s), some (V.int n), x, some (V.int (d' % n))]) (i := 0) (j := 1) (us := [.ref l, .int d']) rfl (e2 _ _ hs1) rfl) (ev_var (i := 1) (P := isX (.int n)) rfl rfl) ⟨by omega, hlog⟩).use fun v H3 e3 p3 => ?_
      obtain rfl : v = .int (d'.fdiv n) := p3
      refine ⟨_, rfl, s, _, 1, 1, rfl, rfl, e3 _ _ (e2 _ _ hs1), rfl, ?_⟩
      refine st_ret (P := isX (.int (d' % n))) (ev_var rfl rfl) fun v H4 e4 p4 => ?_
      obtain rfl : v = .int (d' % n) := p4
      refine k _ _ (Int.emod_nonneg _ (by omega)) (Int.emod_lt_of_pos _ hn) ⟨ne, d'.fdiv n, vs, Int.fdiv_nonneg hd' (by omega), e4 _ _ upd_same, e4 _ _ (by rw [upd_ne (fun e => ne e.symm)]; exact e3 _ _ (e2 _ _ hl1))⟩ ((e1.trans (Ex.exe (e2.trans e3))).mut (Or.inl rfl) |>.trans (Ex.exe e4))
    · refine st_if (evT_and (evT_bI (g := fun i j => decide (i < j)) (ev_ixAt (K := K) (i := 0) (j := 1) (us := [.ref l, .int d]) rfl hs rfl) (ev_var (P := isX (.int n)) rfl rfl)) fun _ => evT_bI (g := fun i j => decide (j < i)) (ev_lenX (K := K) (ev_ixAt (K := K) (i := 0) (j := 0) (us := [.ref l, .int d]) rfl hs rfl) hl) (ev_c (x := .int 0))) (fun hb H1 e1 => ?_) fun hb H1 e1 => tail _ _ ⟨none, d, us, rfl, hd, e1 _ _ hs, e1 _ _ hl, Ex.exe e1⟩
      rw [Bool.and_eq_true, decide_eq_true_eq, decide_eq_true_eq, List.length_map] at hb
      cases us with
      | nil => have := hb.2; simp at this
      | cons u us =>
        refine (ev_ixAt (K := K) (i := 0) (j := 0) (us := [.ref l, .int d]) rfl (e1 _ _ hs) rfl).use fun v H2 e2 p2 => ?_
        obtain rfl : v = .ref l := p2
        have hl2 := e2 _ _ (e1 _ _ hl)
        have hs2 := e2 _ _ (e1 _ _ hs)
        refine ⟨.inl ⟨rfl, _, SqL.of hl2⟩, l, _, 0, 0, .int u, rfl, rfl, hl2, by decide, by decide, ?_, rfl, ?_⟩
        · unfold seqIndex?
          simp
        · generalize hK : upd H2 l _ = K2
          have l2 : K2 l = some (.lst (us.map V.int)) := by rw [← hK]; exact upd_same
          have s2 : K2 s = some (.lst [.ref l, .int d]) := by rw [← hK, upd_ne ne]; exact hs2
          have x2 : ExE (slB s l) H K2 := by rw [← hK]; exact (Ex.exe (e1.trans e2)).mut (Or.inr rfl)
          refine .inl ⟨u, rfl, u, rfl, ?_⟩
          have c0 : (0 : Int) ≤ if u < 0 then -u else u := by split <;> omega
          generalize (if u < 0 then -u else u) = c at c0 ⊢
          dsimp only [gName]
          show tSeq (tIfS _ _ _) (tAsg _ _) _ _ _
          refine use_tail (fun σ' H' => ∃ c' : Int, σ' = [some (.ref s), some (.int n), some (.int c'), none] ∧ 0 ≤ c' ∧ Ex K2 H') ?_ fun tail2 => ?_
          · rintro σ' H3 ⟨c', rfl, hc', e3⟩
            refine Ev.use (P := isX (.int c')) (ev_var rfl rfl) fun v H4 e4 p4 => ?_
            obtain rfl : v = .int c' := p4
            refine ⟨_, rfl, s, _, 1, 1, rfl, rfl, e4 _ _ (e3 _ _ s2), rfl, ?_⟩
            exact tail _ _ ⟨some (.int c'), c', us, rfl, hc', upd_same, by rw [upd_ne (fun e => ne e.symm)]; exact e4 _ _ (e3 _ _ l2), (x2.trans (Ex.exe (e3.trans e4))).mut (Or.inl rfl)⟩
          · refine st_if (evT_bI (g := fun i j => decide (i < j)) (ev_var (P := isX (.int c)) rfl rfl) (ev_ints (C := CPow) (g := fun i j => .int (i ^ j.toNat)) (ev_c (x := .int 10)) (ev_c (x := .int 18)) ⟨by decide, by decide, by decide⟩)) (fun _ H3 e3 => ?_) fun _ H3 e3 => tail2 _ _ ⟨c, rfl, c0, e3⟩
            refine Ev.use (P := isX (.int c)) (ev_var rfl rfl) fun v H4 e4 p4 => ?_
            obtain rfl : v = .int c := p4
            exact ⟨c, rfl, fun z H5 hz e5 => tail2 _ _ ⟨z, rfl, hz, (e3.trans e4).trans e5⟩⟩
end
end PW

set_option Elab.async false
set_option linter.all false
set_option maxRecDepth 100000
set_option maxHeartbeats 4000000
/-! PwQ: the law's state made; ratios and weights drawn. -/
namespace PW
open PySem PySem.Spec PyProof.Rows L2 PN
section
variable {K : PySem.W.Frag} {σ : L2.St} {H : Hp} {ta tb te : TE} {i j : Nat} {a s l : Addr} {us : List V} {x : V} {E : XK} {n m : Int} {Q : VK} {D : Ends} {t u : TS}
theorem ev_takeX {k : Nat} (hs : σ[i]? = some (some (.ref a))) (hl : H a = some (.lst us)) (hb : Ev tb σ H (isX (.int (k : Int)))) : Ev (tSl (rSlL K) (tVar i) tNoPart (tPart tb)) σ H (isL (us.take k)) := fun H1 e Q q =>
  ⟨_, hs, hb H1 e _ fun u H3 e3 p3 => by
    obtain rfl : u = .int (k : Int) := p3
    refine ⟨(k : Int), rfl, a, _, rfl, SqL.of (e3 _ _ (e _ _ hl)), fun p hp => q _ _ (e3.trans (Ex.new hp)) ⟨p, rfl, ?_⟩⟩
    rw [upd_same]
    unfold cutV
    rw [HT.sIx_none, HT.sIx_nat, List.drop_zero, Nat.sub_zero]
    by_cases h : k ≤ us.length
    · rw [Nat.min_eq_left h]
    · rw [Nat.min_eq_right (by omega), List.take_of_length_le (Nat.le_refl _), List.take_of_length_le (by omega)]⟩
theorem sqL_ex {H' : Hp} (h : SqL K H a us) (e : Ex H H') : SqL K H' a us := by
  rcases h with (h | ⟨o, h⟩) | h
  · exact .inl (.inl (e _ _ h))
  · exact .inl (.inr ⟨o, e _ _ h⟩)
  · exact .inr h
theorem ev_takeS63 {k : Nat} (hs : σ[i]? = some (some (.ref a))) (hl : SqL K H a us) (hb : Ev tb σ H (isX (.int (k : Int)))) : Ev (tSl (rSlL K) (tVar i) tNoPart (tPart tb)) σ H (isL (us.take k)) := fun H1 e Q q =>
  ⟨_, hs, hb H1 e _ fun u H3 e3 p3 => by
    obtain rfl : u = .int (k : Int) := p3
    refine ⟨(k : Int), rfl, a, _, rfl, sqL_ex hl (e.trans e3), fun p hp => q _ _ (e3.trans (Ex.new hp)) ⟨p, rfl, ?_⟩⟩
    rw [upd_same]
    unfold cutV
    rw [HT.sIx_none, HT.sIx_nat, List.drop_zero, Nat.sub_zero]
    by_cases h : k ≤ us.length
    · rw [Nat.min_eq_left h]
    · rw [Nat.min_eq_right (by omega), List.take_of_length_le (Nat.le_refl _), List.take_of_length_le (by omega)]⟩
/-- a list of two -/
def isP2 (P1 P2 : MP) : MP := ⟨fun v H => ∃ p a b, v = .ref p ∧ H p = some (.lst [a, b]) ∧ P1.p a H ∧ P2.p b H, fun _ _ _ e ⟨p, a, b, h1, h2, h3, h4⟩ => ⟨p, a, b, h1, e _ _ h2, P1.mono _ _ _ e h3, P2.mono _ _ _ e h4⟩⟩
theorem ev_lst2 {P1 P2 : MP} (ha : Ev ta σ H P1) (hb : Ev tb σ H P2) : Ev (tLst (tCons ta (tCons tb tNil))) σ H (isP2 P1 P2) := fun H1 e Q q =>
  ha H1 e _ fun x H2 e2 p => hb H2 (e.trans e2) _ fun y H3 e3 p3 => ⟨by show 2 ≤ sizeLine; decide, fun z nz => q _ _ ((e2.trans e3).trans (Ex.new nz)) ⟨z, x, y, rfl, upd_same, P1.mono _ _ _ (e3.trans (Ex.new nz)) p, P2.mono _ _ _ (Ex.new nz) p3⟩⟩
theorem take_at (hx : Ev te σ H (isX (.int n))) (hs : σ[i]? = some (some (.ref s))) (hS : StAt H s l) (hn : 0 < n) (hl : n.natAbs < 2 ^ 60) (q : ∀ d H', 0 ≤ d → d < n → StAt H' s l → ExE (slB s l) H H' → Q (.int d) H') : tCall spTake [] E (tCons (tVar i) (tCons te tNil)) σ H Q :=
  ⟨_, hs, hx.use fun v H1 e1 p => by
    obtain rfl : v = .int n := p
    exact ⟨s, l, n, rfl, hn, low_log (k := 60) (by decide) (by decide) hl, hS.ex e1, fun d H' h1 h2 h3 h4 => q d H' h1 h2 h3 ((Ex.exe e1).trans h4)⟩⟩
theorem take_c (hs : σ[i]? = some (some (.ref s))) (hS : StAt H s l) (hn : 0 < n) (hl : n.natAbs < 2 ^ 60) (q : ∀ d H', 0 ≤ d → d < n → StAt H' s l → ExE (slB s l) H H' → Q (.int d) H') : tCall spTake [] E (tCons (tVar i) (tCons (tC (.int n)) tNil)) σ H Q :=
  take_at ev_c hs hS hn hl q
theorem if_take (hs : σ[i]? = some (some (.ref s))) (hS : StAt H s l) (hn : 0 < n) (hl : n.natAbs < 2 ^ 60) (h1 : ∀ H', StAt H' s l → ExE (slB s l) H H' → t D σ H') (h2 : ∀ H', StAt H' s l → ExE (slB s l) H H' → u D σ H') :
    tIfS (tTest (tOp rEq (tCall spTake [] E (tCons (tVar i) (tCons (tC (.int n)) tNil))) (tC (.int m)))) t u D σ H :=
  take_c hs hS hn hl fun d H' _ _ hS' e' => by
    refine ⟨rfl, _, rfl, ?_⟩
    cases decide (V.int d = V.int m) with
    | true => rw [if_pos rfl]; exact h1 H' hS' e'
    | false => rw [if_neg Bool.false_ne_true]; exact h2 H' hS' e'
end
theorem dn_qd {t b D c : Int} {k : Nat} (hb : b ≠ 0) (hc : b * c = D) (h : (t * c).natAbs < 2 ^ k) : Dn D k (qd t b) := ⟨t * c, by
  have hb' : (b : Rat) ≠ 0 := by exact_mod_cast hb
  unfold qd
  rw [← hc, Rat.intCast_mul, Rat.intCast_mul]
  grind, h⟩
theorem abs_lt {x B : Int} {k : Nat} (h1 : -B ≤ x) (h2 : x ≤ B) (hB : B.natAbs < 2 ^ k) : x.natAbs < 2 ^ k := Nat.lt_of_le_of_lt (by omega) hB
theorem qd_pos {t b : Int} (ht : 0 < t) (hb : 0 < b) : 0 < qd t b := by
  have h1 : (0 : Rat) < (t : Rat) := by exact_mod_cast ht
  have h2 : (0 : Rat) < (b : Rat) := by exact_mod_cast hb
  unfold qd
  rw [Rat.div_def]
  exact Rat.mul_pos h1 (Rat.inv_pos.mpr h2)
theorem qd_inv {t b : Int} (ht : t ≠ 0) (hb : b ≠ 0) : 1 / qd t b = qd b t := by
  have h1 : (t : Rat) ≠ 0 := by exact_mod_cast ht
  have h2 : (b : Rat) ≠ 0 := by exact_mod_cast hb
  unfold qd
  grind
section
variable {P : Program} {w : World} {K : PySem.W.Frag} {mg : Str → Option Value} {base : Heap} {f C fT : Addr} {fd fdT : FuncData}
theorem scState : FnScope ["_law_script", "_law_cell"] ["_law_script"] (defScope sState) := ⟨rfl, rfl, rfl, by decide +kernel, rfl, by decide +kernel, by decide +kernel⟩
theorem ok_state (F : FnP K "_law_state" "_law_state" sState f fd) (mi : mg "int" = none) : FnOk P w K mg base CX0 1 f fd ["_law_script"] (spState K) := by
  refine F.ok scState (fun vs H Q E h => ?_) (fun cdv A outer s H vs Q E hr h => ?_)
  · obtain ⟨a, us, rfl, _⟩ := h
    rfl
  · obtain ⟨a, us, rfl, ha, k⟩ := h
    refine ⟨_, PSs.nox (pss_one (ps_ret (pe_lst (pa_cons (pe_lc (own := [("_law_cell", 1)]) (g := (gName 1)) (tt := tYes) rfl scState.nd (pi_list (pe_slice sl_list (pv 0) po_none (po_some pe_int))) (blkOk_by (N := ["_law_script", "_law_cell"]) (sc := defScope sState) (by decide +kernel)) (fun _ _ _ _ _ => (pg_name (i := 1) scState.nd rfl (Or.inl rfl))) (fun _ _ _ _ _ => pts_nil) (fun _ _ _ _ _ => (pe_callTy call_int1 (by rfl) mi (by decide +kernel) (pa_cons (pv 1) pa_nil)))) (pa_cons pe_int pa_nil))))), ?_⟩
    have hsl : Ev (tSl (rSlL K) (tVar 0) tNoPart (tPart (tC (.int 63)))) (L2.start ["_law_script", "_law_cell"] [V.ref a]) H (isLs (us.take 63).length fun i => isX (.int ((us.take 63).getD i 0))) := by
      refine (ev_takeS63 (K := K) (i := 0) (k := 63) (us := us.map V.int) rfl ha ev_c).imp fun v H' _ ⟨p, h1, h2⟩ => ⟨p, _, h1, h2, by rw [← List.map_take, List.length_map], fun i hi => ⟨.int ((us.take 63).getD i 0), ?_, rfl⟩⟩
      rw [← List.map_take, List.getElem?_map, List.getElem?_eq_getElem hi, List.getD_eq_getElem?_getD, List.getElem?_eq_getElem hi]
      rfl
    refine st_ret (ev_lst2 (ev_mapL (K := K) (k := 1) (Pk := fun i => isX (.int ((us.take 63).getD i 0))) (by have := List.length_take_le 63 us; omega) hsl (fun _ _ => im_X) (fun _ => rfl) fun i x H1 hi e1 p => ev_int (ev_var (i := 1) rfl p)) (ev_c (x := .int 0))) fun v H2 e2 p2 => ?_
    obtain ⟨q, x, y, rfl, hq, ⟨l, ws, rfl, hl, hw, hx⟩, rfl⟩ := p2
    have hw2 : ws = (us.take 63).map V.int := by
      refine List.ext_getElem? fun i => ?_
      by_cases hi : i < (us.take 63).length
      · obtain ⟨u, h1, h2⟩ := hx i hi
        rw [h1, List.getElem?_map, List.getElem?_eq_getElem hi]
        rw [show u = V.int ((us.take 63).getD i 0) from h2, List.getD_eq_getElem?_getD, List.getElem?_eq_getElem hi]
        rfl
      · rw [List.getElem?_eq_none (by omega), List.getElem?_eq_none (by rw [List.length_map]; omega)]
    refine k q l _ ⟨fun e => ?_, 0, us.take 63, by decide, hq, by rw [hl, hw2]⟩ e2
    rw [e, hl] at hq
    have hq := HO.lst.inj (Option.some.inj hq)
    rw [hw2] at hq
    cases h : us.take 63 with
    | nil => rw [h] at hq; cases hq
    | cons u r => rw [h] at hq; cases hq
theorem scRatioL : FnScope ["_law_state_here"] ["_law_state_here"] (defScope sRatioL) := ⟨rfl, rfl, rfl, by decide +kernel, rfl, by decide +kernel, by decide +kernel⟩
theorem ok_ratiol (F : FnP K "_law_ratio" "_law_ratio" sRatioL f fd) (R : RK P w K mg base C) (DT : DefOk P w K mg base CX0 "_law_take" 2 ["_law_state_here", "_law_limit"] spTake fT fdT) : FnOk P w K mg base CX0 3 f fd ["_law_state_here"] (spRatioL C) := by
  refine F.ok scRatioL (fun vs H Q E h => ?_) (fun cdv A outer s H vs Q E hr h => ?_)
  · obtain ⟨s, l, rfl, _⟩ := h
    rfl
  · obtain ⟨s, l, rfl, hS, k⟩ := h
    have hr2 : Room 2 _ := hr
    refine ⟨_, PSs.nox (pss_cons (ps_if (pt_cmpR op_eq (pe_cd DT hr2 rfl pass0 (pa_cons (pv 0) (pa_cons pe_int pa_nil))) pe_int (nomark _)) (pss_one (ps_ret (pe_mk1 R hr2 rfl (pa_cons (pe_op op_sub (pe_cd DT hr2 rfl pass0 (pa_cons (pv 0) (pa_cons pe_int pa_nil))) pe_int) pa_nil)))) pss_nil) (pss_one (ps_ret (pe_mk2 R hr2 rfl (pa_cons (pe_op op_sub (pe_cd DT hr2 rfl pass0 (pa_cons (pv 0) (pa_cons pe_int pa_nil))) pe_int) (pa_cons (pe_op op_add pe_int (pe_cd DT hr2 rfl pass0 (pa_cons (pv 0) (pa_cons pe_int pa_nil)))) pa_nil)))))), ?_⟩
    refine if_take (i := 0) rfl hS (by decide) (by decide) (fun H1 S1 e1 => ?_) fun H1 S1 e1 => ?_
    · refine take_c (i := 0) rfl S1 (by decide) (by decide) fun d H2 h0 h1 S2 e2 => ?_
      refine ⟨d, 6, rfl, rfl, ?_⟩
      refine (ev_mk1 (σ := L2.start ["_law_state_here"] [V.ref s]) (H := H2) (ev_c (x := .int (d - 6)))).use fun v H3 e3 p3 => ?_
      refine k v _ H3 (S2.ex e3) ((e1.trans e2).trans (Ex.exe e3)) p3 ?_
      rw [← qd_one]
      exact dn_qd (c := 2520) (by decide) (by decide) (abs_lt (B := 20000) (by omega) (by omega) (by decide))
    · show tCall spTake [] E0 (tCons (tVar 0) (tCons (tC (.int 199)) tNil)) _ _ _
      refine take_c (i := 0) rfl S1 (by decide) (by decide) fun d H2 h0 h1 S2 e2 => ?_
      refine ⟨d, 99, rfl, rfl, ?_⟩
      show tCall spTake [] E0 (tCons (tVar 0) (tCons (tC (.int 9)) tNil)) _ _ _
      refine take_c (i := 0) rfl S2 (by decide) (by decide) fun g H3 g0 g1 S3 e3 => ?_
      refine ⟨1, g, rfl, rfl, ?_⟩
      have hg : ∃ c : Int, (1 + g) * c = 2520 ∧ 0 ≤ c ∧ c ≤ 2520 := by
        have : g = 0 ∨ g = 1 ∨ g = 2 ∨ g = 3 ∨ g = 4 ∨ g = 5 ∨ g = 6 ∨ g = 7 ∨ g = 8 := by omega
        rcases this with rfl | rfl | rfl | rfl | rfl | rfl | rfl | rfl | rfl
        · exact ⟨2520, by decide⟩
        · exact ⟨1260, by decide⟩
        · exact ⟨840, by decide⟩
        · exact ⟨630, by decide⟩
        · exact ⟨504, by decide⟩
        · exact ⟨420, by decide⟩
        · exact ⟨360, by decide⟩
        · exact ⟨315, by decide⟩
        · exact ⟨280, by decide⟩
      obtain ⟨c, hc, c0, c1⟩ := hg
      refine (ev_mk (σ := L2.start ["_law_state_here"] [V.ref s]) (H := H3) (ev_c (x := .int (d - 99))) (ev_c (x := .int (1 + g))) (by omega) (low_log (k := 60) (by decide) (by decide) (by omega))).use fun v H4 e4 p4 => ?_
      refine k v _ H4 (S3.ex e4) (((e1.trans e2).trans e3).trans (Ex.exe e4)) p4 (dn_qd (c := c) (by omega) hc ?_)
      rw [Int.natAbs_mul]
      exact Nat.lt_of_le_of_lt (Nat.mul_le_mul (show (d - 99).natAbs ≤ 99 by omega) (show c.natAbs ≤ 2520 by omega)) (by decide)
theorem scWeightL : FnScope ["_law_state_here"] ["_law_state_here"] (defScope sWeightL) := ⟨rfl, rfl, rfl, by decide +kernel, rfl, by decide +kernel, by decide +kernel⟩
theorem ok_weightl (F : FnP K "_law_weight" "_law_weight" sWeightL f fd) (R : RK P w K mg base C) (DT : DefOk P w K mg base CX0 "_law_take" 2 ["_law_state_here", "_law_limit"] spTake fT fdT) : FnOk P w K mg base CX0 3 f fd ["_law_state_here"] (spWeightL C) := by
  refine F.ok scWeightL (fun vs H Q E h => ?_) (fun cdv A outer s H vs Q E hr h => ?_)
  · obtain ⟨s, l, rfl, _⟩ := h
    rfl
  · obtain ⟨s, l, rfl, hS, k⟩ := h
    have hr2 : Room 2 _ := hr
    refine ⟨_, PSs.nox (pss_one (ps_ret (pe_mk2 R hr2 rfl (pa_cons (pe_op op_add pe_int (pe_cd DT hr2 rfl pass0 (pa_cons (pv 0) (pa_cons pe_int pa_nil)))) (pa_cons (pe_op op_add pe_int (pe_cd DT hr2 rfl pass0 (pa_cons (pv 0) (pa_cons pe_int pa_nil)))) pa_nil))))), ?_⟩
    show tCall spTake [] E0 _ _ _ _
    refine take_c (i := 0) rfl hS (by decide) (by decide) fun d H2 h0 h1 S2 e2 => ?_
    refine ⟨1, d, rfl, rfl, ?_⟩
    show tCall spTake [] E0 _ _ _ _
    refine take_c (i := 0) rfl S2 (by decide) (by decide) fun g H3 g0 g1 S3 e3 => ?_
    refine ⟨1, g, rfl, rfl, ?_⟩
    refine (ev_mk (σ := L2.start ["_law_state_here"] [V.ref s]) (H := H3) (ev_c (x := .int (1 + d))) (ev_c (x := .int (1 + g))) (by omega) (low_log (k := 60) (by decide) (by decide) (by omega))).use fun v H4 e4 p4 => ?_
    have hg : ∃ c : Int, (1 + g) * c = 6 ∧ 0 ≤ c ∧ c ≤ 6 := by
      have : g = 0 ∨ g = 1 ∨ g = 2 := by omega
      rcases this with rfl | rfl | rfl
      · exact ⟨6, by decide⟩
      · exact ⟨3, by decide⟩
      · exact ⟨2, by decide⟩
    have hd : ∃ c : Int, (1 + d) * c = 12 ∧ 0 ≤ c ∧ c ≤ 12 := by
      have : d = 0 ∨ d = 1 ∨ d = 2 ∨ d = 3 := by omega
      rcases this with rfl | rfl | rfl | rfl
      · exact ⟨12, by decide⟩
      · exact ⟨6, by decide⟩
      · exact ⟨4, by decide⟩
      · exact ⟨3, by decide⟩
    obtain ⟨c, hc, c0, c1⟩ := hg
    obtain ⟨c', hc', c0', c1'⟩ := hd
    refine k v _ H4 (S3.ex e4) ((e2.trans e3).trans (Ex.exe e4)) p4 (dn_qd (c := c) (by omega) hc ?_) (qd_pos (by omega) (by omega)) ?_
    · rw [Int.natAbs_mul]
      exact Nat.lt_of_le_of_lt (Nat.mul_le_mul (show (1 + d).natAbs ≤ 4 by omega) (show c.natAbs ≤ 6 by omega)) (by decide)
    · rw [qd_inv (by omega) (by omega)]
      refine dn_qd (c := c') (by omega) hc' ?_
      rw [Int.natAbs_mul]
      exact Nat.lt_of_le_of_lt (Nat.mul_le_mul (show (1 + g).natAbs ≤ 3 by omega) (show c'.natAbs ≤ 12 by omega)) (by decide)
end
end PW

set_option Elab.async false
set_option linter.all false
set_option maxRecDepth 100000
set_option maxHeartbeats 4000000
/-! PwR: names drawn; sums of pairs. -/
namespace PW
open PySem PySem.Spec PyProof.Rows L2 PN
abbrev sPair : Stmt := topS 58
abbrev sPairs : Stmt := topS 59
abbrev sSum : Stmt := topS 60
abbrev sDotL : Stmt := topS 62
abbrev sEqual : Stmt := topS 64
abbrev sPoints : Stmt := topS 68
abbrev sRowL : Stmt := topS 70
/-- a pair of whole numbers whose quotient is q -/
def isPb (k : Nat) (q : Rat) : MP := ⟨fun v H => ∃ (T : Addr) (t b : Int), v = .ref T ∧ H T = some (.tup [.int t, .int b]) ∧ b ≠ 0 ∧ qd t b = q ∧ t.natAbs < 2 ^ k ∧ b.natAbs < 2 ^ k, fun _ _ _ e ⟨T, t, b, h1, h2, h3⟩ => ⟨T, t, b, h1, e _ _ h2, h3⟩⟩
theorem im_Pb {k : Nat} {q : Rat} : Im (isPb k q) := fun v H H' e ⟨T, t, b, h1, h2, h3⟩ => ⟨T, t, b, h1, e _ _ h2 (fun us z => by cases z), h3⟩
def spPoints : Sp := fun vs H Q _ => ∃ (s l : Addr), vs = [.ref s, .int 5] ∧ StAt H s l ∧ ∀ (p : Addr) (names : List Str) (H' : Hp), StAt H' s l → ExE (slB s l) H H' → H' p = some (.lst (names.map V.str)) → names.Nodup → 0 < names.length → names.length ≤ 5 → Q (.ref p) H'
def spPair (C : Addr) : Sp := fun vs H Q _ => ∃ (x : V) (q : Rat), vs = [x] ∧ IsQ C H x q ∧ Sm q ∧ ∀ z H', Ex H H' → (isPb LIM q).p z H' → Q z H'
def spPairs (C : Addr) : Sp := fun vs H Q _ => ∃ (x : V) (n : Nat) (y : Nat → Rat), vs = [x] ∧ IsV C H x n y ∧ n ≤ 1000 ∧ (∀ i, i < n → Sm (y i)) ∧ ∀ z H', Ex H H' → (isLs n fun i => isPb LIM (y i)).p z H' → Q z H'
def spSum : Sp := fun vs H Q _ => ∃ (x : V) (n k : Nat) (y : Nat → Rat), vs = [x] ∧ (isLs n fun i => isPb k (y i)).p x H ∧ n ≤ 50 ∧ 0 < k ∧ k ≤ 9000 ∧ ∀ z H', Ex H H' → (isPb (1 + n * (k + 1)) (sm n y)).p z H' → Q z H'
def spDotL : Sp := fun vs H Q _ => ∃ (x u : V) (n k : Nat) (c : Nat → Int) (y : Nat → Rat), vs = [x, u] ∧ (isLs n fun i => isX (.int (c i))).p x H ∧ (∀ i, i < n → (c i).natAbs ≤ 10) ∧ (isLs n fun i => isPb k (y i)).p u H ∧ n ≤ 50 ∧ 0 < k ∧ k ≤ 8000 ∧ ∀ z H', Ex H H' → (isPb (1 + n * (k + 5)) (sm n fun i => ((c i : Int) : Rat) * y i)).p z H' → Q z H'
def spEqual : Sp := fun vs H Q _ => ∃ (x u : V) (k j : Nat) (p q : Rat), vs = [x, u] ∧ (isPb k p).p x H ∧ (isPb j q).p u H ∧ 0 < k ∧ 0 < j ∧ k + j ≤ 900000 ∧ ∀ H', Ex H H' → Q (.bl (decide (p = q))) H'
def spRowL : Sp := fun vs H Q _ => ∃ (p : Addr) (tv : V) (names : List Str) (ts : List (Str × Int)), vs = [.ref p, tv] ∧ H p = some (.lst (names.map V.str)) ∧ names.length ≤ 1000 ∧ (isTm ts).p tv H ∧ (ts.map Prod.fst).Nodup ∧ ∀ (r : Addr) (us : List V) (H' : Hp), Ex H H' → H r = none → H' r = some (.lst us) → us.length = names.length → (∀ i, i < names.length → us[i]? = some (.int (coef ts (names.getD i default)))) → Q (.ref r) H'
section
variable {K : PySem.W.Frag} {σ : L2.St} {H : Hp} {ta tb te : TE} {i j : Nat} {a : Addr} {us vs : List V} {k m : Nat} {p q : Rat}
theorem ev_mapT {tl : TE} {n : Nat} {Pi Pk : Nat → MP} (hn : n ≤ 1000) (hl : Ev tl σ H (isTs n Pi)) (im : ∀ i, i < n → Im (Pk i)) (hw : ∀ x, wipe ((wipe σ [j]).set j (some x)) [j] = wipe σ [j])
    (he : ∀ i x H1, i < n → Ex H H1 → (Pi i).p x H1 → Ev te ((wipe σ [j]).set j (some x)) H1 (Pk i)) : Ev (tLc (iTup K tl) (gName j) tYes te [j]) σ H (isLs n Pk) :=
  ev_lc hn (fd_tup hl) im fun i H1 x H' hi e y Qt q => by
    obtain ⟨rfl, H0, e0, p⟩ := y
    exact q _ _ (Ex.refl _) (hw x) (he i x _ hi e ((Pi i).mono _ _ _ e0 p))
theorem ev_mapLN {tl : TE} {n k : Nat} {Pi Pk : Nat → MP} (hn : n ≤ 1000) (hl : Ev tl σ H (isLs n Pi)) (im : ∀ i, i < n → Im (Pk i)) (hw : ∀ x, wipe ((wipe σ [k]).set k (some x)) [k] = wipe σ [k])
    (he : ∀ i x H1, i < n → Ex H H1 → (Pi i).p x H1 → Ev te ((wipe σ [k]).set k (some x)) H1 (Pk i)) : Ev (tLc (iList K tl) (gName k) tYes te [k]) σ H (isLsN H n Pk) :=
  ev_lcN hn (fd_list hl) im fun i H1 x H' hi e y Qt q => by
    obtain ⟨rfl, H0, e0, p⟩ := y
    exact q _ _ (Ex.refl _) (hw x) (he i x _ hi e ((Pi i).mono _ _ _ e0 p))
theorem ev_mapR0 {n k : Nat} {Pk : Nat → MP} (hn : n ≤ 1000) (hl : Ev ta σ H (isX (.int (n : Int)))) (im : ∀ i, i < n → Im (Pk i)) (hw : ∀ x, wipe ((wipe σ [k]).set k (some x)) [k] = wipe σ [k])
    (he : ∀ i H1, i < n → Ex H H1 → Ev te ((wipe σ [k]).set k (some (.int (i : Int)))) H1 (Pk i)) : Ev (tLc (iRng1 (tCons ta tNil)) (gName k) tYes te [k]) σ H (isLs n Pk) :=
  ev_lc hn (fd_range hl hn) im fun i H1 x H' hi e y Qt q => by
    obtain ⟨rfl, rfl⟩ := y
    exact q _ _ (Ex.refl _) (hw _) (he i _ hi e)
theorem qd_self (q : Rat) : qd q.num (q.den : Int) = q := by
  unfold qd
  rw [← Rat.divInt_eq_div]
  exact Rat.num_divInt_den q
theorem ev_dropX {k : Nat} (hs : σ[i]? = some (some (.ref a))) (hl : H a = some (.lst us)) (hb : Ev tb σ H (isX (.int (k : Int)))) (hk : k ≤ us.length) : Ev (tSl (rSlL K) (tVar i) (tPart tb) tNoPart) σ H (isL (us.drop k)) := fun H1 e Q q =>
  ⟨_, hs, hb H1 e _ fun u H3 e3 p3 => by
    obtain rfl : u = .int (k : Int) := p3
    refine ⟨(k : Int), rfl, a, _, rfl, SqL.of (e3 _ _ (e _ _ hl)), fun p hp => q _ _ (e3.trans (Ex.new hp)) ⟨p, rfl, ?_⟩⟩
    rw [upd_same]
    unfold cutV
    rw [HT.sIx_none, HT.sIx_nat, Nat.min_eq_left hk, List.take_of_length_le (by rw [List.length_drop]; omega)]⟩
theorem ev_catX (ha : Ev ta σ H (isL us)) (hb : Ev tb σ H (isL vs)) (hn : us.length + vs.length ≤ 1000) : Ev (tOp rCat ta tb) σ H (isL (us ++ vs)) :=
  ev_op ha hb fun x y H1 _ p1 p2 Q q => by
    obtain ⟨a, rfl, h1⟩ := p1
    obtain ⟨b, rfl, h2⟩ := p2
    exact ⟨a, b, us, vs, rfl, rfl, h1, h2, Nat.le_of_lt (sz1000 hn), fun p hp => q _ _ (Ex.new hp) ⟨p, rfl, upd_same⟩⟩
end
theorem pairs_of {K : PySem.W.Frag} {H : Hp} : ∀ (ts : List (Str × Int)) (tus : List V), tus.length = ts.length → (∀ (i : Nat) (y : Str) (c : Int), ts[i]? = some (y, c) → ∃ q : Addr, tus[i]? = some (V.ref q) ∧ H q = some (.tup [.str y, .int c])) → ∃ ps : List Addr, tus = ps.map V.ref ∧ Paired (fun p (kv : Key × V) => SqT K H p [kV kv.1, kv.2]) ps (kTm ts)
  | [], tus, h1, _ => ⟨[], List.length_eq_zero_iff.mp h1, .nil⟩
  | p :: ts, [], h1, _ => by simp at h1
  | p :: ts, t :: tus, h1, h2 => by
    obtain ⟨ps, e, r⟩ := pairs_of (K := K) ts tus (by simpa using h1) (fun i y c hh => h2 (i + 1) y c hh)
    obtain ⟨q, k1, k2⟩ := h2 0 p.1 p.2 rfl
    cases (show some t = some (V.ref q) from k1)
    exact ⟨q :: ps, by rw [e]; rfl, .cons (SqT.of k2) r⟩
theorem qd_sum {t b t' B : Int} (hb : b ≠ 0) (hB : B ≠ 0) : qd (t * b + t' * B) (B * b) = qd t B + qd t' b := by
  have h1 : (b : Rat) ≠ 0 := by exact_mod_cast hb
  have h2 : (B : Rat) ≠ 0 := by exact_mod_cast hB
  unfold qd
  rw [Rat.intCast_add, Rat.intCast_mul, Rat.intCast_mul, Rat.intCast_mul]
  grind
theorem qd_cm {c t b : Int} : qd (c * t) b = (c : Rat) * qd t b := by
  unfold qd
  rw [Rat.intCast_mul]
  grind
theorem qd_eq {t b t' b' : Int} (hb : b ≠ 0) (hb' : b' ≠ 0) : (t * b' = t' * b) ↔ qd t b = qd t' b' := by
  have h1 : (b : Rat) ≠ 0 := by exact_mod_cast hb
  have h2 : (b' : Rat) ≠ 0 := by exact_mod_cast hb'
  unfold qd
  constructor
  · intro h
    have : (t : Rat) * (b' : Rat) = (t' : Rat) * (b : Rat) := by exact_mod_cast h
    grind
  · intro h
    have : (t : Rat) * (b' : Rat) = (t' : Rat) * (b : Rat) := by grind
    exact_mod_cast this
theorem abs_mul2 {a b : Int} {m n : Nat} (h1 : a.natAbs < 2 ^ m) (h2 : b.natAbs < 2 ^ n) : (a * b).natAbs < 2 ^ (m + n) := by
  rw [Int.natAbs_mul, Nat.pow_add]
  exact Nat.mul_lt_mul'' h1 h2
theorem rot_nodup {l : List Str} (h : l.Nodup) (t : Nat) : (l.drop t ++ l.take t).Nodup := by
  have : (l.drop t ++ l.take t).Perm l := List.perm_append_comm.trans (by rw [List.take_append_drop])
  exact this.nodup_iff.mpr h
section
variable {P : Program} {w : World} {K : PySem.W.Frag} {mg : Str → Option Value} {base : Heap} {f C fT fS : Addr} {fd fdT fdS : FuncData}
theorem scPair : FnScope ["_law_ratio_here"] ["_law_ratio_here"] (defScope sPair) := ⟨rfl, rfl, rfl, by decide +kernel, rfl, by decide +kernel, by decide +kernel⟩
theorem ok_pair (F : FnP K "_law_pair" "_law_pair" sPair f fd) (R : RK P w K mg base C) : FnOk P w K mg base CX0 1 f fd ["_law_ratio_here"] (spPair C) := by
  refine F.ok scPair (fun vs H Q E h => ?_) (fun cdv A outer s H vs Q E hr h => ?_)
  · obtain ⟨x, q, rfl, _⟩ := h
    rfl
  · obtain ⟨x, q, rfl, hq, sq, k⟩ := h
    refine ⟨_, PSs.nox (pss_one (ps_ret (pe_tup (pa_cons (pe_fld (pv 0) rfl) (pa_cons (pe_fld (pv 0) rfl) pa_nil))))), ?_⟩
    refine st_ret (ev_tup2 (ev_top R.T (ev_var (P := isQ C q) rfl hq)) (ev_bot R.T (ev_var (P := isQ C q) rfl hq))) fun z H' e p => ?_
    obtain ⟨T, a, b, rfl, hT, rfl, rfl⟩ := p
    exact k _ H' e ⟨T, q.num, q.den, rfl, hT, den0 q, qd_self q, sq.1, by rw [Int.natAbs_natCast]; exact sq.2⟩
theorem scPairs : FnScope ["_law_vector", "_law_ratio_here"] ["_law_vector"] (defScope sPairs) := ⟨rfl, rfl, rfl, by decide +kernel, rfl, by decide +kernel, by decide +kernel⟩
theorem ok_pairs (F : FnP K "_law_pairs" "_law_pairs" sPairs f fd) (R : RK P w K mg base C) : FnOk P w K mg base CX0 1 f fd ["_law_vector"] (spPairs C) := by
  refine F.ok scPairs (fun vs H Q E h => ?_) (fun cdv A outer s H vs Q E hr h => ?_)
  · obtain ⟨x, n, y, rfl, _⟩ := h
    rfl
  · obtain ⟨x, n, y, rfl, hq, hn, sq, k⟩ := h
    refine ⟨_, PSs.nox (pss_one (ps_ret (pe_lc (own := [("_law_ratio_here", 1)]) (g := (gName 1)) (tt := tYes) rfl scPairs.nd (pi_tup (pv 0)) (blkOk_by (N := ["_law_vector", "_law_ratio_here"]) (sc := defScope sPairs) (by decide +kernel)) (fun _ _ _ _ _ => (pg_name (i := 1) scPairs.nd rfl (Or.inl rfl))) (fun _ _ _ _ _ => pts_nil) (fun _ _ _ _ _ => (pe_tup (pa_cons (pe_fldK (K := K) rfl (pv 1) rfl) (pa_cons (pe_fldK (K := K) rfl (pv 1) rfl) pa_nil))))))), ?_⟩
    refine st_ret (P := isLs n fun i => isPb LIM (y i)) (ev_mapT (K := K) (j := 1) (Pk := fun i => isPb LIM (y i)) hn (ev_var (P := isV C n y) rfl hq).isTs_V (fun _ _ => im_Pb) (fun _ => rfl) fun i z H1 hi e1 p => (ev_tup2 (ev_top R.T (ev_var (i := 1) (P := isQ C (y i)) rfl p)) (ev_bot R.T (ev_var (i := 1) (P := isQ C (y i)) rfl p))).imp fun v H' _ p => ?_) fun z H' e p => k z H' e p
    obtain ⟨T, a, b, rfl, hT, rfl, rfl⟩ := p
    exact ⟨T, (y i).num, (y i).den, rfl, hT, den0 _, qd_self _, (sq i hi).1, by rw [Int.natAbs_natCast]; exact (sq i hi).2⟩
theorem scEqual : FnScope ["_law_one", "_law_two"] ["_law_one", "_law_two"] (defScope sEqual) := ⟨rfl, rfl, rfl, by decide +kernel, rfl, by decide +kernel, by decide +kernel⟩
theorem ok_equal (F : FnP K "_law_equal" "_law_equal" sEqual f fd) : FnOk P w K mg base CX0 1 f fd ["_law_one", "_law_two"] spEqual := by
  refine F.ok scEqual (fun vs H Q E h => ?_) (fun cdv A outer s H vs Q E hr h => ?_)
  · obtain ⟨x, u, k, j, p, q, rfl, _⟩ := h
    rfl
  · obtain ⟨x, u, k, j, p, q, rfl, ⟨T, t, b, rfl, hT, b0, rfl, ht, hb⟩, ⟨T', t', b', rfl, hT', b0', rfl, ht', hb'⟩, k0, j0, kj, cont⟩ := h
    refine ⟨_, PSs.nox (pss_one (ps_ret (pe_cmpR op_eq (pe_op op_mulW (pe_ix ix_tup (pv 0) pe_int (fun _ _ => rfl)) (pe_ix ix_tup (pv 1) pe_int (fun _ _ => rfl))) (pe_op op_mulW (pe_ix ix_tup (pv 1) pe_int (fun _ _ => rfl)) (pe_ix ix_tup (pv 0) pe_int (fun _ _ => rfl))) (nomark _)))), ?_⟩
    have mul : ∀ {a c : Int} {m n : Nat}, a.natAbs < 2 ^ m → c.natAbs < 2 ^ n → 0 < m → 0 < n → m + n ≤ 900000 → CMulW a c := fun h1 h2 h3 h4 h5 => wide_mul h1 h2 h3 h4 (by omega)
    refine ⟨_, rfl, T, _, 0, _, rfl, rfl, SqT.of hT, rfl, _, rfl, T', _, 1, _, rfl, rfl, SqT.of hT', rfl, t, b', rfl, rfl, mul ht hb' k0 j0 kj, _, rfl, T', _, 0, _, rfl, rfl, SqT.of hT', rfl, _, rfl, T, _, 1, _, rfl, rfl, SqT.of hT, rfl, t', b, rfl, rfl, mul ht' hb j0 k0 (by omega), rfl, ?_⟩
    have e0 : decide (V.int (t * b') = V.int (t' * b)) = decide (qd t b = qd t' b') := by
      have := qd_eq (t := t) (t' := t') b0 b0'
      by_cases h : t * b' = t' * b
      · rw [decide_eq_true (this.mp h), h, decide_eq_true rfl]
      · rw [decide_eq_false (fun z => h (this.mpr z)), decide_eq_false fun z => h (V.int.inj z)]
    rw [e0]
    exact cont H (Ex.refl H)
theorem scSum : FnScope ["_law_pairs_here", "_law_total", "_law_top", "_law_bottom"] ["_law_pairs_here"] (defScope sSum) := ⟨rfl, rfl, rfl, by decide +kernel, rfl, by decide +kernel, by decide +kernel⟩
theorem ok_sum (F : FnP K "_law_sum" "_law_sum" sSum f fd) : FnOk P w K mg base CX0 1 f fd ["_law_pairs_here"] spSum := by
  refine F.ok scSum (fun vs H Q E h => ?_) (fun cdv A outer s H vs Q E hr h => ?_)
  · obtain ⟨x, n, k, y, rfl, _⟩ := h
    rfl
  · obtain ⟨x, n, k, y, rfl, hx, hn, k0, k9, cont⟩ := h
    refine ⟨_, PSs.nox (pss_cons (ps_set (i := 1) scSum.nd rfl (Or.inl rfl) (pe_tup (pa_cons pe_int (pa_cons pe_int pa_nil)))) (pss_cons (ps_for PassesOwn.never rfl (pi_list (pv 0)) (pg_tup rfl (pgs_cons (pg_name (i := 2) scSum.nd rfl (Or.inl rfl)) (pgs_cons (pg_name (i := 3) scSum.nd rfl (Or.inl rfl)) pgs_nil))) (pss_one (ps_set (i := 1) scSum.nd rfl (Or.inl rfl) (pe_tup (pa_cons (pe_op op_add (pe_op op_mulW (pe_ix ix_tup (pv 1) pe_int (fun _ _ => rfl)) (pv 3)) (pe_op op_mulW (pv 2) (pe_ix ix_tup (pv 1) pe_int (fun _ _ => rfl)))) (pa_cons (pe_op op_mulW (pe_ix ix_tup (pv 1) pe_int (fun _ _ => rfl)) (pv 3)) pa_nil)))))) (pss_one (ps_ret (pv 1))))), ?_⟩
    refine st_set (P := isPb 1 0) ((ev_tup2 (ev_c (x := .int 0)) (ev_c (x := .int 1))).imp fun v H' _ p => ?_) fun v H1 e1 p1 => ?_
    · obtain ⟨T, a, b, rfl, hT, rfl, rfl⟩ := p
      exact ⟨T, 0, 1, rfl, hT, by decide, by unfold qd; grind, by decide, by decide⟩
    refine st_for (fd_list (K := K) (n := n) (Pi := fun i => isPb k (y i)) (ev_var rfl ((isLs n fun i => isPb k (y i)).mono _ _ _ e1 hx))) (fun i σ H' => ∃ z x2 x3, σ = [some x, some z, x2, x3] ∧ (isPb (1 + i * (k + 1)) (sm i y)).p z H') (fun H2 e2 => ⟨v, none, none, rfl, by rw [Nat.zero_mul]; exact (isPb 1 0).mono _ _ _ e2 p1⟩) ?_ ?_
    · rintro i u σ HF HG HH hi eF eG ⟨z, x2, x3, rfl, pz⟩ ⟨rfl, H0, e0, pu⟩
      obtain ⟨T, t, b, rfl, hT, b0, hq, ht, hb⟩ := (isPb k (y i)).mono _ _ _ e0 pu
      obtain ⟨S, T', B, rfl, hS, B0, hQ, hT', hB⟩ := pz
      refine pair_tgt hT ?_
      have hk1 : 1 + i * (k + 1) + k ≤ 900000 := by
        have : i * (k + 1) ≤ 50 * 9001 := Nat.mul_le_mul (by omega) (by omega)
        omega
      have mul : ∀ {a c : Int} {m n : Nat}, a.natAbs < 2 ^ m → c.natAbs < 2 ^ n → 0 < m → 0 < n → m + n ≤ 900000 → CMulW a c := fun h1 h2 h3 h4 h5 => wide_mul h1 h2 h3 h4 (by omega)
      refine ⟨_, rfl, S, _, 0, _, rfl, rfl, SqT.of hS, rfl, _, rfl, T', b, rfl, rfl, mul hT' hb (by omega) k0 hk1, _, rfl, _, rfl, S, _, 1, _, rfl, rfl, SqT.of hS, rfl, t, B, rfl, rfl, mul ht hB k0 (by omega) (by omega), _, _, rfl, rfl, _, rfl, S, _, 1, _, rfl, rfl, SqT.of hS, rfl, _, rfl, B, b, rfl, rfl, mul hB hb (by omega) k0 hk1, by show 2 ≤ sizeLine; decide, fun p hp => ?_⟩
      refine ⟨eG.trans (Ex.new hp), .ref p, some (.int t), some (.int b), rfl, p, _, _, rfl, upd_same, Int.mul_ne_zero B0 b0, ?_, ?_, ?_⟩
      · rw [qd_sum b0 B0, hq, hQ]
        rfl
      · have h1 := abs_mul2 hT' hb
        have h2 := abs_mul2 ht hB
        have e : 1 + (i + 1) * (k + 1) = (1 + i * (k + 1) + k) + 1 := by rw [Nat.succ_mul]; omega
        rw [e, Nat.pow_succ]
        rw [Nat.add_comm k] at h2
        have := Int.natAbs_add_le (T' * b) (t * B)
        omega
      · have h1 := abs_mul2 hB hb
        refine Nat.lt_of_lt_of_le h1 (Nat.pow_le_pow_right (by decide) ?_)
        rw [Nat.succ_mul]
        omega
    · rintro σ HF HG eF eG ⟨z, x2, x3, rfl, pz⟩
      exact st_ret (ev_var rfl pz) fun z H' e p => cont z H' (e1.trans (eF.trans (eG.trans e))) p
theorem scDotL : FnScope ["_law_row_here", "_law_pairs_here", "_law_k"] ["_law_row_here", "_law_pairs_here"] (defScope sDotL) := ⟨rfl, rfl, rfl, by decide +kernel, rfl, by decide +kernel, by decide +kernel⟩
theorem ok_dotl (F : FnP K "_law_dot" "_law_dot" sDotL f fd) (mr : mg "range" = none) (mn : mg "len" = none) (DS : DefOk P w K mg base CX0 "_law_sum" 1 ["_law_pairs_here"] spSum fS fdS) : FnOk P w K mg base CX0 2 f fd ["_law_row_here", "_law_pairs_here"] spDotL := by
  refine F.ok scDotL (fun vs H Q E h => ?_) (fun cdv A outer s H vs Q E hr h => ?_)
  · obtain ⟨x, u, n, k, c, y, rfl, _⟩ := h
    rfl
  · obtain ⟨x, u, n, k, c, y, rfl, hx, hc, hu, hn, k0, k8, cont⟩ := h
    have hr1 : Room 1 _ := hr
    refine ⟨_, PSs.nox (pss_one (ps_ret (pe_cd DS hr1 rfl pass0 (pa_cons (pe_lc (own := [("_law_k", 2)]) (g := (gName 2)) (tt := tYes) rfl scDotL.nd (pi_range1 rfl mr (pa_cons (pe_callB call_len_seq (by rfl) mn PySem.boot_len (pa_cons (pv 0) pa_nil)) pa_nil)) (blkOk_by (N := ["_law_row_here", "_law_pairs_here", "_law_k"]) (sc := defScope sDotL) (by decide +kernel)) (fun _ _ _ _ _ => (pg_name (i := 2) scDotL.nd rfl (Or.inl rfl))) (fun _ _ _ _ _ => pts_nil) (fun _ _ _ _ _ => (pe_tup (pa_cons (pe_op op_mulW (pe_ix (r := rIxL K) ix_list (pv 0) (pv 2) (fun _ _ => rfl)) (pe_ix (r := rIxT K) ix_tup (pe_ix (r := rIxL K) ix_list (pv 1) (pv 2) (fun _ _ => rfl)) pe_int (fun _ _ => rfl))) (pa_cons (pe_ix (r := rIxT K) ix_tup (pe_ix (r := rIxL K) ix_list (pv 1) (pv 2) (fun _ _ => rfl)) pe_int (fun _ _ => rfl)) pa_nil))))) pa_nil)))), ?_⟩
    refine st_ret (P := isPb (1 + n * (k + 5)) (sm n fun i => ((c i : Int) : Rat) * y i)) (ev_call1 (P1 := isLs n fun i => isPb (k + 4) (((c i : Int) : Rat) * y i)) (ev_mapR0 (k := 2) (Pk := fun i => isPb (k + 4) (((c i : Int) : Rat) * y i)) (by omega) (ev_lenL (K := K) (ev_var (P := isLs n fun i => isX (.int (c i))) rfl hx)) (fun _ _ => im_Pb) (fun _ => rfl) fun i H1 hi e1 => ?_) fun x H1 _ p1 H2 e2 Q q => ⟨x, n, k + 4, fun i => ((c i : Int) : Rat) * y i, rfl, (isLs n _).mono _ _ _ e2 p1, hn, by omega, by omega, q⟩) fun z H' e p => cont z H' e p
    refine fun H2 e2 Q q => ?_
    obtain ⟨a, us, rfl, ha, hl, hu1⟩ := hu
    obtain ⟨v, hv1, T, t, b, rfl, hT, b0, hq, ht, hb⟩ := hu1 i hi
    obtain ⟨p, ws, rfl, hp, hwl, hw1⟩ := hx
    obtain ⟨v, hv2, rfl⟩ := hw1 i hi
    have e12 := e1.trans e2
    have at_ : ∀ {l : List V} {x : V}, l[i]? = some x → atI l (i : Int) = some x := fun {l x} h => by
      have hj : i < l.length := (List.getElem?_eq_some_iff.mp h).1
      unfold atI
      rw [ixN_nat hj]
      exact h
    refine ⟨_, rfl, _, rfl, p, ws, (i : Int), _, rfl, rfl, SqL.of (e12 _ _ hp), at_ hv2, _, rfl, _, rfl, a, us, (i : Int), _, rfl, rfl, SqL.of (e12 _ _ ha), at_ hv1, T, _, 0, _, rfl, rfl, SqT.of (e12 _ _ hT), rfl, c i, t, rfl, rfl, wide_mul (a := 4) (b := k) (by have := hc i hi; omega) ht (by decide) k0 (by omega), _, rfl, _, rfl, a, us, (i : Int), _, rfl, rfl, SqL.of (e12 _ _ ha), at_ hv1, T, _, 1, _, rfl, rfl, SqT.of (e12 _ _ hT), rfl, by show 2 ≤ sizeLine; decide, fun z hz => ?_⟩
    refine q _ _ (Ex.new hz) ⟨z, c i * t, b, rfl, upd_same, b0, by rw [qd_cm, hq], ?_, Nat.lt_of_lt_of_le hb (Nat.pow_le_pow_right (by decide) (by omega))⟩
    have := abs_mul2 (m := 4) (show (c i).natAbs < 2 ^ 4 by have := hc i hi; omega) ht
    rwa [Nat.add_comm] at this
theorem scRowL : FnScope ["_law_points_here", "_law_terms_here", "_law_numbers", "_law_name"] ["_law_points_here", "_law_terms_here"] (defScope sRowL) := ⟨rfl, rfl, rfl, by decide +kernel, rfl, by decide +kernel, by decide +kernel⟩
theorem ok_rowl (F : FnP K "_law_row" "_law_row" sRowL f fd) (md : mg "dict" = none) : FnOk P w K mg base CX0 2 f fd ["_law_points_here", "_law_terms_here"] spRowL := by
  refine F.ok scRowL (fun vs H Q E h => ?_) (fun cdv A outer s H vs Q E hr h => ?_)
  · obtain ⟨p, tv, names, ts, rfl, _⟩ := h
    rfl
  · obtain ⟨p, tv, names, ts, rfl, hp, hn, htm, nd, k⟩ := h
    have hr1 : Room 1 _ := hr
    refine ⟨_, PSs.nox (pss_cons (ps_set (i := 2) scRowL.nd rfl (Or.inr rfl) (pe_callTy (r := rDictT K) (call_dictT rfl) (by rfl) md (by decide +kernel) (pa_cons (pv 1) pa_nil))) (pss_one (ps_ret (pe_lc (own := [("_law_name", 3)]) (g := (gName 3)) (tt := tYes) rfl scRowL.nd (pi_list (pv 0)) (blkOk_by (N := ["_law_points_here", "_law_terms_here", "_law_numbers", "_law_name"]) (sc := defScope sRowL) (by decide +kernel)) (fun _ _ _ _ _ => (pg_name (i := 3) scRowL.nd rfl (Or.inl rfl))) (fun _ _ _ _ _ => pts_nil) (fun _ _ _ _ _ => (pe_dget2 (hu_of hr1) (pv 2) (pv 3) pe_int ⟨rfl, rfl, rfl, rfl⟩)))))), ?_⟩
    obtain ⟨tp, ob, tus, rfl, hob, htp, htl, hte⟩ := id htm
    obtain ⟨ps, hps⟩ : ∃ ps : List Addr, tus = ps.map V.ref ∧ Paired (fun p (kv : Key × V) => SqT K H p [kV kv.1, kv.2]) ps (kTm ts) := by
      exact pairs_of ts tus htl hte
    obtain ⟨rfl, hpr⟩ := hps
    refine ⟨_, rfl, tp, ob, ps, kTm ts, rfl, hob, htp, hpr, fun d hd => ?_⟩
    have e2 : Ex H (upd H d (.dK (mergeK [] (kTm ts)))) := Ex.new hd
    have hdd : upd H d (.dK (mergeK [] (kTm ts))) d = some (.dK (mergeK [] (kTm ts))) := upd_same
    generalize upd H d (.dK (mergeK [] (kTm ts))) = H2 at e2 hdd ⊢
    refine st_ret (P := isLsN H2 names.length fun i => isX (.int (coef ts (names.getD i default)))) (ev_mapLN (K := K) (k := 3) (Pi := fun i => isX (.str (names.getD i default))) (Pk := fun i => isX (.int (coef ts (names.getD i default)))) hn (ev_var rfl ⟨p, _, rfl, e2 _ _ hp, List.length_map _, fun i hi => ⟨_, by rw [List.getElem?_map, List.getElem?_eq_getElem hi]; rfl, by show V.str _ = V.str (names.getD i default); rw [List.getD_eq_getElem?_getD, List.getElem?_eq_getElem hi]; rfl⟩⟩) (fun _ _ => im_X) (fun _ => rfl) fun i x H3 hi e3 hx => ?_) fun z H' e p => by
      obtain ⟨r, us, rfl, h1, h2, h3, h4⟩ := p
      exact k r us H' (e2.trans e) (e2.free h1) h2 h3 fun i hi => by
        obtain ⟨u, k1, rfl⟩ := h4 i hi
        exact k1
    obtain rfl : x = .str (names.getD i default) := hx
    refine fun H4 e4 Q q => ?_
    refine ⟨_, rfl, d, rfl, .inl ⟨_, .inl (e4 _ _ (e3 _ _ hdd))⟩, _, rfl, _, DGet.k (k := .inr (names.getD i default)) (e4 _ _ (e3 _ _ hdd)), ?_⟩
    rw [valV_kTm nd]
    refine q _ H4 (Ex.refl _) ?_
    show Option.getD (Option.map V.int (ts.lookup (names.getD i default))) (V.int 0) = V.int (coef ts (names.getD i default))
    unfold coef
    cases ts.lookup (names.getD i default) <;> rfl
theorem scPoints : FnScope ["_law_state_here", "_law_most", "_law_names", "_law_turn"] ["_law_state_here", "_law_most"] (defScope sPoints) := ⟨rfl, rfl, rfl, by decide +kernel, rfl, by decide +kernel, by decide +kernel⟩
theorem ok_points (F : FnP K "_law_points" "_law_points" sPoints f fd) (mn : mg "len" = none) (DT : DefOk P w K mg base CX0 "_law_take" 2 ["_law_state_here", "_law_limit"] spTake fT fdT) : FnOk P w K mg base CX0 3 f fd ["_law_state_here", "_law_most"] spPoints := by
  refine F.ok scPoints (fun vs H Q E h => ?_) (fun cdv A outer s H vs Q E hr h => ?_)
  · obtain ⟨s, l, rfl, _⟩ := h
    rfl
  · obtain ⟨s, l, rfl, hS, k⟩ := h
    have hr2 : Room 2 _ := hr
    refine ⟨_, PSs.nox (pss_cons (ps_set (i := 2) scPoints.nd rfl (Or.inl rfl) (pe_slice sl_list (pe_lst (pa_cons pe_str (pa_cons pe_str (pa_cons pe_str (pa_cons pe_str (pa_cons pe_str (pa_cons pe_str pa_nil))))))) po_none (po_some (pe_op op_add pe_int (pe_cd DT hr2 rfl pass0 (pa_cons (pv 0) (pa_cons (pv 1) pa_nil))))))) (pss_cons (ps_set (i := 3) scPoints.nd rfl (Or.inl rfl) (pe_cd DT hr2 rfl pass0 (pa_cons (pv 0) (pa_cons (pe_callB call_len_seq (by rfl) mn PySem.boot_len (pa_cons (pv 2) pa_nil)) pa_nil)))) (pss_one (ps_ret (pe_op op_cat (pe_slice sl_list (pv 2) (po_some (pv 3)) po_none) (pe_slice sl_list (pv 2) po_none (po_some (pv 3)))))))), ?_⟩
    refine ⟨by show 6 ≤ sizeLine; decide, fun p hp => ?_⟩
    generalize hK : upd H p _ = K1
    have x1 : Ex H K1 := by rw [← hK]; exact Ex.new hp
    have p1 : K1 p = some (.lst ((["a", "b", "c", "d", "e", "f"] : List Str).map V.str)) := by rw [← hK]; exact upd_same
    show tCall spTake [] E0 (tCons (tVar 0) (tCons (tVar 1) tNil)) _ _ _
    have nsl : ∀ {H2 : Hp} {z : Addr} {us : List Str}, 0 < us.length → StAt H2 s l → H2 z = some (.lst (us.map V.str)) → ¬ slB s l z := fun {H2 z us} hz hS hu => by
      obtain ⟨_, d, vs, _, h1, h2⟩ := hS
      cases us with
      | nil => cases hz
      | cons u r =>
        rintro (rfl | rfl)
        · rw [h1] at hu
          cases hu
        · rw [h2] at hu
          cases vs with
          | nil => cases hu
          | cons v r => cases hu
    refine take_at (i := 0) (n := 5) (ev_var (P := isX (.int 5)) rfl rfl) rfl (hS.ex x1) (by decide) (by decide) fun d H2 h0 h1 S2 e2 => ?_
    obtain ⟨m, rfl⟩ := Int.eq_ofNat_of_zero_le h0
    have p2 := e2 _ _ (nsl (by decide) (hS.ex x1) p1) p1
    refine ⟨1, (m : Int), rfl, rfl, 1 + (m : Int), rfl, p, _, rfl, SqL.of p2, fun z hz => ?_⟩
    have hcut : cutV ((["a", "b", "c", "d", "e", "f"] : List Str).map V.str) none (some (1 + (m : Int))) = ((["a", "b", "c", "d", "e", "f"] : List Str).take (m + 1)).map V.str := by
      have : (1 + (m : Int)) = ((m + 1 : Nat) : Int) := by omega
      rw [this]
      unfold cutV
      rw [HT.sIx_none, HT.sIx_nat, List.drop_zero, Nat.sub_zero, Nat.min_eq_left (by show m + 1 ≤ 6; omega), List.map_take]
    have hlen : ((["a", "b", "c", "d", "e", "f"] : List Str).take (m + 1)).length = m + 1 := by
      rw [List.length_take]
      show min (m + 1) 6 = m + 1
      omega
    have hnd : ((["a", "b", "c", "d", "e", "f"] : List Str).take (m + 1)).Nodup := List.Nodup.sublist (List.take_sublist _ _) (by decide)
    generalize (["a", "b", "c", "d", "e", "f"] : List Str).take (m + 1) = names at hcut hlen hnd
    generalize hK3 : upd H2 z _ = K3
    have x3 : Ex H2 K3 := by rw [← hK3]; exact Ex.new hz
    have z3 : K3 z = some (.lst (names.map V.str)) := by rw [← hK3, ← hcut]; exact upd_same
    have S3 := S2.ex x3
    show tCall spTake [] E0 (tCons (tVar 0) (tCons (tCB (rLen K) (tCons (tVar 2) tNil)) tNil)) _ _ _
    refine take_at (i := 0) (n := ((names.map V.str).length : Int)) (ev_lenAt (K := K) (i := 2) rfl z3) rfl S3 (by rw [List.length_map]; omega) (by rw [List.length_map]; omega) fun d H4 g0 g1 S4 e4 => ?_
    obtain ⟨t, rfl⟩ := Int.eq_ofNat_of_zero_le g0
    rw [List.length_map] at g1
    have z4 := e4 _ _ (nsl (by omega) S3 z3) z3
    refine st_ret (P := isL ((names.drop t ++ names.take t).map V.str)) ((ev_catX (ev_dropX (K := K) (i := 2) rfl z4 (ev_var (P := isX (.int (t : Int))) rfl rfl) (by rw [List.length_map]; omega)) (ev_takeX (K := K) (i := 2) (k := t) rfl z4 (ev_var (P := isX (.int (t : Int))) rfl rfl)) (by rw [List.length_drop, List.length_take, List.length_map]; omega)).imp fun v H' _ p => by rw [List.map_append, List.map_drop, List.map_take]; exact p) fun v H5 e5 p5 => ?_
    obtain ⟨q, rfl, hq⟩ := p5
    refine k q (names.drop t ++ names.take t) H5 (S4.ex e5) ((Ex.exe x1).trans (e2.trans ((Ex.exe x3).trans (e4.trans (Ex.exe e5))))) hq (rot_nodup hnd t) (by rw [List.length_append, List.length_drop, List.length_take]; omega) (by rw [List.length_append, List.length_drop, List.length_take]; omega)
end
end PW

set_option Elab.async false
set_option linter.all false
set_option maxRecDepth 100000
set_option maxHeartbeats 4000000
/-! PwS: terms drawn. -/
namespace PW
open PySem PySem.Spec PyProof.Rows L2 PN LamX
theorem _root_.L2.Room.u66 {k : Nat} {A : Around} (r : Room k A) : A.units + 66 < cLine := by have := r.un; omega
abbrev sTerms : Stmt := topS 69
/-! ### tuple(list) made as a known object -/
abbrev rTupF (K : PySem.W.Frag) : List V → Hp → VK → Prop := fun xs H Q => ∃ p ys, xs = [.ref p] ∧ SqL K H p ys ∧ ∀ (l : Addr) (o : Obj), H l = none → o.dict = none → Q (.ref l) (upd H l (.frz o (.tup ys)))
theorem call_tupF {X : Cx} : CallR X (.type "tuple") (rTupF X.K) := by
  intro pins s σ H xs us Q I r h
  obtain ⟨p, ys, rfl, hq, q⟩ := h
  obtain ⟨u, rfl, rx⟩ := vals1 r
  cases rx
  obtain ⟨its, r', pl, hz⟩ := I.list hq
  have hlen := r'.length
  refine call_tuple_list pl.isList (fun h' kp => ?_) (by simp only [List.size_toArray] <;> omega)
  have I1 : Inv X pins σ H { s with heap := h' } := I.kept (t' := s.toks) kp
  have I2 : Inv X pins σ (upd H h'.objs.size (.frz { cls := .type "tuple", data := .seq its.toArray } (.tup ys))) { s with heap := h'.push { cls := .type "tuple", data := .seq its.toArray } } :=
    I1.laid (t' := s.toks) (fun b o e => Heap.get?_push_of_some _ e) (Nat.le_refl _) (show ObjOk X.prog X.w _ _ _ (.frz _ (.tup ys)) from ⟨Heap.get?_push_size _ rfl, hz, its, r', IsTup.new _ _⟩)
  exact ⟨.ref h'.objs.size, _, I2, rfl, q _ _ (I1.hok.fresh (Nat.le_refl _)) rfl⟩
theorem atI_at {l : List V} {i : Nat} {x : V} (h : l[i]? = some x) : atI l (i : Int) = some x := by
  have hj : i < l.length := (List.getElem?_eq_some_iff.mp h).1
  unfold atI
  rw [ixN_nat hj]
  exact h
/-! ### frames -/
/-- all but B and the tables are kept -/
def ExX (B : Addr → Prop) (H H' : Hp) : Prop := ∀ a o, ¬ B a → (∀ ps, o ≠ .tbl ps) → H a = some o → H' a = some o
section
variable {B : Addr → Prop} {H H1 H' : Hp} {s l p : Addr}
theorem ExX.refl (H : Hp) : ExX B H H := fun _ _ _ _ h => h
theorem ExX.trans (a : ExX B H H1) (b : ExX B H1 H') : ExX B H H' := fun x o n t h => b x o n t (a x o n t h)
theorem ExE.exx (e : ExE B H H') : ExX B H H' := fun a o n _ h => e a o n h
theorem Ex.exx (e : Ex H H') : ExX B H H' := fun a o _ _ h => e a o h
theorem _root_.LamX.ExtN.exx (e : ExtN H H') : ExX B H H' := fun a o _ t h => e a o h t
theorem ExX.new {o : HO} (e : ExX B H H') (h : H p = none) : ExX B H (upd H' p o) := fun a u n t ha => by
  rw [upd_ne (fun q => by rw [q, h] at ha; cases ha)]
  exact e a u n t ha
theorem ExX.mut {o : HO} (e : ExX B H H') (h : B p) : ExX B H (upd H' p o) := fun a u n t ha => by
  rw [upd_ne (fun q => n (by rw [q]; exact h))]
  exact e a u n t ha
theorem StAt.nb (h : StAt H s l) {o : HO} (hp : H p = some o) (no : ∀ us, o ≠ .lst us) : ¬ slB s l p := by
  obtain ⟨_, d, vs, _, h1, h2⟩ := h
  rintro (rfl | rfl)
  · rw [h1] at hp; cases hp; exact no _ rfl
  · rw [h2] at hp; cases hp; exact no _ rfl
theorem StAt.nl (h : StAt H s l) {us : List Str} (h0 : 0 < us.length) (hp : H p = some (.lst (us.map V.str))) : ¬ slB s l p := by
  obtain ⟨_, d, vs, _, h1, h2⟩ := h
  cases us with
  | nil => cases h0
  | cons u r =>
    rintro (rfl | rfl)
    · rw [h1] at hp; cases hp
    · rw [h2] at hp
      cases vs with
      | nil => cases hp
      | cons v r => cases hp
theorem _root_.LamX.Tabs.keep {T : List (Addr × Str)} (t : Tabs T H) (e : ∀ b o, (∀ us, o ≠ .lst us) → (∀ C dx fs, o ≠ .ins C dx fs) → (∀ kvs, o ≠ .dK kvs) → H b = some o → H' b = some o) : Tabs T H' := fun p hp => by
  obtain ⟨ps, h1, h2, h3⟩ := t p hp
  refine ⟨ps, e _ _ (fun _ z => by cases z) (fun _ _ _ z => by cases z) (fun _ z => by cases z) h1, h2, fun pos cv hc => ?_⟩
  obtain ⟨c, e1, e2⟩ := h3 pos cv hc
  exact ⟨c, e1, e _ _ (fun _ z => by cases z) (fun _ _ _ z => by cases z) (fun _ z => by cases z) e2⟩
theorem _root_.LamX.Tabs.st {T : List (Addr × Str)} (t : Tabs T H) (h : StAt H s l) (e : ExE (slB s l) H H') : Tabs T H' := t.keep fun b o no _ _ hb => e b o (h.nb hb no) hb
theorem _root_.LamX.Tabs.dk {T : List (Addr × Str)} (t : Tabs T H) {kvs kvs' : List (Key × V)} (h : H p = some (.dK kvs)) : Tabs T (upd H p (.dK kvs')) := t.keep fun b o _ _ no hb => by
  rw [upd_ne (fun q => by rw [q, h] at hb; cases hb; exact no _ rfl)]
  exact hb
theorem StAt.n (h : StAt H s l) (e : ExtN H H') : StAt H' s l := let ⟨n, d, us, h0, h1, h2⟩ := h; ⟨n, d, us, h0, e _ _ h1 (fun _ z => by cases z), e _ _ h2 (fun _ z => by cases z)⟩
theorem StAt.dk (h : StAt H s l) {kvs kvs' : List (Key × V)} (hp : H p = some (.dK kvs)) : StAt (upd H p (.dK kvs')) s l := by
  have hn := h.nb hp (fun _ z => by cases z)
  obtain ⟨n, d, us, h0, h1, h2⟩ := h
  exact ⟨n, d, us, h0, by rw [upd_ne (fun q => hn (Or.inl q.symm))]; exact h1, by rw [upd_ne (fun q => hn (Or.inr q.symm))]; exact h2⟩
end
/-! ### a dict of whole numbers under names -/
structure DI (names : List Str) (m : List (Str × Int)) : Prop where
  nd : (m.map Prod.fst).Nodup
  mem : ∀ p ∈ m, p.1 ∈ names ∧ p.2.natAbs ≤ 9
theorem valV_kT (y : Str) : ∀ m : List (Str × Int), valV (kTm m) (.inr y) = (m.lookup y).map V.int
  | [] => rfl
  | (x, c) :: r => by
    by_cases e : x = y
    · subst e
      rw [show kTm ((x, c) :: r) = (Sum.inr x, V.int c) :: kTm r from rfl, valV_pos rfl, List.lookup_cons, beq_self_eq_true]
      rfl
    · rw [show kTm ((x, c) :: r) = (Sum.inr x, V.int c) :: kTm r from rfl, valV_neg (fun h => e (Sum.inr.inj h)), List.lookup_cons, beq_eq_false_iff_ne.mpr (fun h => e h.symm)]
      exact valV_kT y r
theorem keys_kT (m : List (Str × Int)) : (kTm m).map (·.1) = (m.map Prod.fst).map Sum.inr := by
  unfold kTm
  rw [List.map_map, List.map_map]
  rfl
theorem lookup_in {m : List (Str × Int)} {y : Str} (h : y ∈ m.map Prod.fst) : ∃ c, m.lookup y = some c ∧ (y, c) ∈ m := by
  induction m with
  | nil => cases h
  | cons p r ih =>
    obtain ⟨x, c⟩ := p
    rw [List.lookup_cons]
    by_cases e : y = x
    · subst e
      exact ⟨c, by rw [beq_self_eq_true], List.mem_cons_self⟩
    · rw [beq_eq_false_iff_ne.mpr e]
      rcases List.mem_cons.mp h with h | h
      · exact absurd h e
      · obtain ⟨c', h1, h2⟩ := ih h
        exact ⟨c', h1, List.mem_cons_of_mem _ h2⟩
theorem lookup_no {m : List (Str × Int)} {y : Str} (h : y ∉ m.map Prod.fst) : m.lookup y = none := by
  induction m with
  | nil => rfl
  | cons p r ih =>
    obtain ⟨x, c⟩ := p
    have e : y ≠ x := fun e => h (by rw [e]; exact List.mem_cons_self)
    rw [List.lookup_cons, beq_eq_false_iff_ne.mpr e]
    exact ih fun hh => h (List.mem_cons_of_mem _ hh)
theorem DI.put {names : List Str} {m : List (Str × Int)} (h : DI names m) {y : Str} {c : Int} (hy : y ∈ names) (hc : c.natAbs ≤ 9) : ∃ m', putK (kTm m) (.inr y) (.int c) = kTm m' ∧ DI names m' ∧ m'.length ≤ m.length + 1 ∧ 0 < m'.length := by
  by_cases a : y ∈ m.map Prod.fst
  · refine ⟨m.map fun p => if p.1 = y then (p.1, c) else p, ?_, ⟨?_, ?_⟩, by rw [List.length_map]; omega, by rw [List.length_map]; cases m with
      | nil => cases a
      | cons p r => exact Nat.succ_pos _⟩
    · obtain ⟨c', h1, _⟩ := lookup_in a
      unfold putK
      rw [valV_any, valV_kT, h1]
      show (if true = true then _ else _) = _
      rw [if_pos rfl]
      unfold kTm
      rw [List.map_map, List.map_map]
      refine List.map_congr_left fun p _ => ?_
      show (if (Sum.inr p.1 : Key) = Sum.inr y then ((Sum.inr p.1 : Key), V.int c) else (Sum.inr p.1, V.int p.2)) = _
      by_cases e : p.1 = y
      · rw [if_pos (by rw [e])]
        show _ = (((Sum.inr (if p.1 = y then (p.1, c) else p).1 : Key)), V.int (if p.1 = y then (p.1, c) else p).2)
        rw [if_pos e]
      · rw [if_neg (fun h => e (Sum.inr.inj h))]
        show _ = (((Sum.inr (if p.1 = y then (p.1, c) else p).1 : Key)), V.int (if p.1 = y then (p.1, c) else p).2)
        rw [if_neg e]
    · rw [List.map_map]
      have : (Prod.fst ∘ fun p : Str × Int => if p.1 = y then (p.1, c) else p) = Prod.fst := by
        funext p
        show (if p.1 = y then (p.1, c) else p).1 = p.1
        split <;> rfl
      rw [this]
      exact h.nd
    · intro p hp
      obtain ⟨q, hq, rfl⟩ := List.mem_map.mp hp
      by_cases e : q.1 = y
      · rw [if_pos e]
        exact ⟨(h.mem q hq).1, hc⟩
      · rw [if_neg e]
        exact h.mem q hq
  · refine ⟨m ++ [(y, c)], ?_, ⟨?_, ?_⟩, by rw [List.length_append]; exact Nat.le_refl _, by rw [List.length_append]; exact Nat.succ_pos _⟩
    · rw [putK_new]
      · unfold kTm
        rw [List.map_append]
        rfl
      · rw [valV_kT]
        rw [lookup_no a]
        rfl
    · rw [List.map_append]
      refine List.nodup_append.mpr ⟨h.nd, List.nodup_cons.mpr ⟨List.not_mem_nil, List.nodup_nil⟩, fun x hx z hz e => ?_⟩
      have hz : z = y := List.mem_singleton.mp hz
      rw [hz] at e
      exact a (e ▸ hx)
    · intro p hp
      rcases List.mem_append.mp hp with hp | hp
      · exact h.mem p hp
      · cases List.mem_singleton.mp hp
        exact ⟨hy, hc⟩
/-- the terms told in the order of ys -/
def tsOf (m : List (Str × Int)) (ys : List Str) : List (Str × Int) := ys.map fun y => (y, (m.lookup y).getD 0)
theorem DI.tm {names : List Str} {m : List (Str × Int)} (h : DI names m) {ys : List Str} (hp : ys.Perm (m.map Prod.fst)) : TmOk names (tsOf m ys) where
  nd := by
    have : (tsOf m ys).map Prod.fst = ys := by
      unfold tsOf
      rw [List.map_map]
      exact (List.map_congr_left fun _ _ => rfl).trans (List.map_id _)
    rw [this]
    exact hp.nodup_iff.mpr h.nd
  mem := fun p hp' => by
    obtain ⟨y, hy, rfl⟩ := List.mem_map.mp hp'
    obtain ⟨q, hq, e⟩ := List.mem_map.mp (hp.mem_iff.mp hy)
    exact e ▸ (h.mem q hq).1
  le := fun p hp' => by
    obtain ⟨y, hy, rfl⟩ := List.mem_map.mp hp'
    obtain ⟨c, h1, h2⟩ := lookup_in (hp.mem_iff.mp hy)
    show ((m.lookup y).getD 0).natAbs ≤ 10
    rw [h1]
    have := (h.mem _ h2).2
    show c.natAbs ≤ 10
    omega

def qTerms : Str := "_law_terms.<locals>.<lambda>"
def spTerms (T : List (Addr × Str)) : Sp := fun vs H Q _ => ∃ (s l p : Addr) (names : List Str), vs = [.ref s, .ref p] ∧ StAt H s l ∧ H p = some (.lst (names.map V.str)) ∧ 0 < names.length ∧ names.length ≤ 1000 ∧ Tabs T H ∧
  ∀ (z : V) (ts : List (Str × Int)) (H' : Hp), StAt H' s l → ExX (slB s l) H H' → Tabs T H' → (isTm ts).p z H' → TmOk names ts → Q z H'
structure TI (T : List (Addr × Str)) (s l p d : Addr) (names : List Str) (m : List (Str × Int)) (H0 H : Hp) : Prop where
  S : StAt H s l
  pt : H p = some (.lst (names.map V.str))
  dd : H d = some (.dK (kTm m))
  tb : Tabs T H
  fr : ExX (slB s l) H0 H
section
variable {T : List (Addr × Str)} {s l p d : Addr} {names : List Str} {m m' : List (Str × Int)} {H0 H H' : Hp}
theorem TI.st (h : TI T s l p d names m H0 H) (h0 : 0 < names.length) (S' : StAt H' s l) (e : ExE (slB s l) H H') : TI T s l p d names m H0 H' :=
  ⟨S', e _ _ (h.S.nl h0 h.pt) h.pt, e _ _ (h.S.nb h.dd (fun _ z => by cases z)) h.dd, h.tb.st h.S e, h.fr.trans e.exx⟩
theorem TI.ex (h : TI T s l p d names m H0 H) (e : Ex H H') : TI T s l p d names m H0 H' :=
  ⟨h.S.ex e, e _ _ h.pt, e _ _ h.dd, h.tb.ext e, h.fr.trans e.exx⟩
theorem TI.srt (h : TI T s l p d names m H0 H) (e : ExtN H H') (t : Tabs T H') : TI T s l p d names m H0 H' :=
  ⟨h.S.n e, e _ _ h.pt (fun _ z => by cases z), e _ _ h.dd (fun _ z => by cases z), t, h.fr.trans e.exx⟩
theorem TI.put (h : TI T s l p d names m H0 H) (hd : H0 d = none) : TI T s l p d names m' H0 (upd H d (.dK (kTm m'))) :=
  ⟨h.S.dk h.dd, by rw [upd_ne (fun q => by have := h.dd; rw [← q, h.pt] at this; cases this)]; exact h.pt, upd_same, h.tb.dk h.dd, h.fr.new hd⟩
end
def isTp (p : Str × Int) : MP := isPr (isX (.str p.1)) (isX (.int p.2))
theorem im_Tp {p : Str × Int} : Im (isTp p) := fun v H H' e ⟨T, a, b, h1, h2, h3, h4⟩ => ⟨T, a, b, h1, e _ _ h2 (fun us z => by cases z), h3, h4⟩
section
variable {K : PySem.W.Frag} {σ : L2.St} {H : Hp} {te : TE} {i j : Nat} {d : Addr} {m ts : List (Str × Int)} {y : Str} {c : Int}
theorem ev_tupF (h : Ev te σ H (isLs ts.length fun i => isTp (ts.getD i default))) : Ev (tCB (rTupF K) (tCons te tNil)) σ H (isTm ts) := fun H1 e Q q =>
  h H1 e _ fun v H2 e2 p => by
    obtain ⟨a, us, rfl, ha, hl, hu⟩ := p
    refine ⟨a, us, rfl, SqL.of ha, fun z o hz ho => q _ _ (e2.trans (Ex.new hz)) ⟨z, o, us, rfl, ho, upd_same, hl, fun i y c hi => ?_⟩⟩
    have hi' : i < ts.length := (List.getElem?_eq_some_iff.mp hi).1
    obtain ⟨u, k1, T, x, b, rfl, k2, k3, k4⟩ := hu i hi'
    have e3 : ts.getD i default = (y, c) := by rw [List.getD_eq_getElem?_getD, hi]; rfl
    rw [e3] at k3 k4
    cases k3
    cases k4
    exact ⟨T, k1, Ex.new hz _ _ k2⟩
theorem ev_eqI {ta tb : TE} {i j : Int} (ha : Ev ta σ H (isX (.int i))) (hb : Ev tb σ H (isX (.int j))) : Ev (tOp rEq ta tb) σ H (isX (.bl (decide (i = j)))) := fun H1 e Q q =>
  ha H1 e _ fun x H2 e2 p => hb H2 (e.trans e2) _ fun y H3 e3 p3 => by
    obtain rfl : x = .int i := p
    obtain rfl : y = .int j := p3
    refine ⟨rfl, ?_⟩
    have e0 : decide (V.int i = V.int j) = decide (i = j) := by
      by_cases h : i = j
      · rw [h]; simp
      · rw [decide_eq_false h, decide_eq_false fun z => h (V.int.inj z)]
    rw [e0]
    exact q _ H3 (e2.trans e3) rfl
theorem ev_dget (h1 : σ[i]? = some (some (.ref d))) (h2 : σ[j]? = some (some (.str y))) (hd : H d = some (.dK (kTm m))) (hc : m.lookup y = some c) : Ev (tDGet (tVar i) (tVar j)) σ H (isX (.int c)) := fun H1 e Q q =>
  ⟨_, h1, _, h2, d, .int c, rfl, by
    have := DGet.k (k := .inr y) (e _ _ hd)
    rw [valV_kT, hc] at this
    exact this, q _ _ (Ex.refl _) rfl⟩
end
theorem okC {P : Program} {w : World} {K : PySem.W.Frag} {mg : Str → Option Value} {base : Heap} {x qual : Str} {params : Arguments} {body : List Stmt} {scope : Scope} {dvs : List V} {kws : List (Str × V)} {f c : Addr} {fd : FuncData} {CX : CXT} {N ps : List Str} {k : Nat} {sp : Sp}
    (F : FunD K x qual params body scope dvs kws f fd) (hc : fd.code = .ref c) (S : FnScope N ps scope) (len : ∀ vs H Q E, sp vs H Q E → vs.length = ps.length)
    (hb : ∀ (A : Around) (outer : List Env) (s : Shared) (H : Hp) (vs : List V) (Q : VK) (E : XK), Room k (A.deeper (envOfC qual scope s.heap.objs.size f (.ref c))) → sp vs H Q E →
      ∃ t, PSs (cxOf CX P w K mg base N qual scope f (.ref c) A outer s H E) body t ∧ t { nx := fun _ H' => Q .non H', rt := Q } (L2.start N vs) H) : FnOk P w K mg base CX (k + 1) f fd ps sp := by
  obtain ⟨oc, od, dV, kV, doc, pm, an, cdv, ct, osl, rfl, lk, hcd, _, _⟩ := F.ex
  obtain rfl : cdv = .ref c := hc
  exact fn_of lk hcd S len fun A outer s H vs Q E hr hsp => hb A outer s H vs Q E hr hsp
section
variable {P : Program} {w : World} {K : PySem.W.Frag} {mg : Str → Option Value} {base : Heap} {f fT c Pt : Addr} {fd fdT : FuncData} {T : List (Addr × Str)}
theorem scTerms : FnScope ["_law_state_here", "_law_points_here", "_law_numbers", "_law_pick", "_law_k", "_law_name", "_law_names"] ["_law_state_here", "_law_points_here"] (defScope sTerms) := ⟨rfl, rfl, rfl, by decide +kernel, rfl, by decide +kernel, by decide +kernel⟩
theorem ok_terms (F : FnP K "_law_terms" "_law_terms" sTerms f fd) (hcode : fd.code = .ref c) (TB : TabB base mg c Pt) (hT1 : (Pt, qTerms) ∈ T) (hT2 : ∀ p ∈ T, p.1 = Pt → p.2 = qTerms)
    (mi : mg "int" = none) (mn : mg "len" = none) (mr : mg "range" = none) (mt : mg "tuple" = none) (mso : mg "sorted" = none) (mst : mg "str" = none) (DT : DefOk P w K mg base CX0 "_law_take" 2 ["_law_state_here", "_law_limit"] spTake fT fdT) :
    FnOk P w K mg base CX0 3 f fd ["_law_state_here", "_law_points_here"] (spTerms T) := by
  refine okC F hcode scTerms (fun vs H Q E h => ?_) (fun A outer s H vs Q E hr h => ?_)
  · obtain ⟨s, l, p, names, rfl, _⟩ := h
    rfl
  · obtain ⟨s, l, p, names, rfl, hS, hp, h0, hn, hT, k⟩ := h
    have hr2 : Room 2 _ := hr
    have hr1 : Room 1 _ := hr.mono (by decide)
    refine ⟨_, PSs.nox (pss_cons (ps_set (i := 2) scTerms.nd rfl (Or.inr rfl) (pe_dnewK)) (pss_cons (ps_set (i := 3) scTerms.nd rfl (Or.inl rfl) (pe_cd DT hr2 rfl pass0 (pa_cons (pv 0) (pa_cons pe_int pa_nil)))) (pss_cons (ps_for PassesOwn.never rfl (pi_range1 rfl mr (pa_cons (pe_op op_add (pe_op op_add pe_int (pe_callTy call_int1 (by rfl) mi (by decide +kernel) (pa_cons (pe_cmpR op_gt (pv 3) pe_int (nomark _)) pa_nil))) (pe_callTy call_int1 (by rfl) mi (by decide +kernel) (pa_cons (pe_cmpR op_eq (pv 3) pe_int (nomark _)) pa_nil))) pa_nil)) (pg_name (i := 4) scTerms.nd rfl (Or.inl rfl)) (pss_cons (ps_set (i := 5) scTerms.nd rfl (Or.inl rfl) (pe_ix ix_list (pv 1) (pe_cd DT hr2 rfl pass0 (pa_cons (pv 0) (pa_cons (pe_callB call_len_seq (by rfl) mn PySem.boot_len (pa_cons (pv 1) pa_nil)) pa_nil))) (fun _ _ => rfl))) (pss_one (ps_dput (hu_of hr1) (pv 2) (pv 5) (pe_ix ix_list (pe_lst (pa_cons pe_int (pa_cons (pe_un un_neg pe_int) (pa_cons (pe_op op_add pe_int (pe_cd DT hr2 rfl pass0 (pa_cons (pv 0) (pa_cons pe_int pa_nil)))) (pa_cons (pe_op op_sub (pe_op op_sub pe_int pe_int) (pe_cd DT hr2 rfl pass0 (pa_cons (pv 0) (pa_cons pe_int pa_nil)))) pa_nil))))) (pe_cd DT hr2 rfl pass0 (pa_cons (pv 0) (pa_cons pe_int pa_nil))) (fun _ _ => rfl)) rfl)))) (pss_cons (ps_if (PW.pt (pw_and (pt_cmpR op_in_seq (pv 3) (pe_lst (pa_cons pe_int (pa_cons pe_int pa_nil))) (by rfl)) (pw_and1 (pt_cmpR op_eq (pe_callB call_lenD (by rfl) mn PySem.boot_len (pa_cons (pv 2) pa_nil)) pe_int (nomark _))))) (pss_cons (ps_set (i := 6) scTerms.nd rfl (Or.inl rfl) (pe_sortedLam (T := T) rfl ⟨⟨_, _, _, rfl⟩, fun _ _ _ _ _ => rfl, fun _ => rfl, rfl, rfl, rfl, by decide +kernel, by decide +kernel, rfl, rfl, rfl⟩ (by rfl) mso mst TB rfl hT1 hT2 hr1.u66 hr1.depth (pv 2))) (pss_one (ps_dput (hu_of hr1) (pv 2) (pe_ix ix_list (pv 6) pe_int (fun _ _ => rfl)) (pe_op op_sub pe_int (pe_dget (hu_of hr1) (pv 2) (pe_ix ix_list (pv 6) pe_int (fun _ _ => rfl)) (fun _ _ => rfl))) rfl))) pss_nil) (pss_one (ps_ret (pe_callTy (r := rTupF K) call_tupF (by rfl) mt (by decide +kernel) (pa_cons (pe_lc (own := [("_law_name", 5)]) (g := (gName 5)) (tt := tYes) rfl scTerms.nd (pi_listK (K := K) rfl (pe_sortedLam (T := T) rfl ⟨⟨_, _, _, rfl⟩, fun _ _ _ _ _ => rfl, fun _ => rfl, rfl, rfl, rfl, by decide +kernel, by decide +kernel, rfl, rfl, rfl⟩ (by rfl) mso mst TB rfl hT1 hT2 hr1.u66 hr1.depth (pv 2))) (blkOk_by (N := ["_law_state_here", "_law_points_here", "_law_numbers", "_law_pick", "_law_k", "_law_name", "_law_names"]) (sc := defScope sTerms) (by decide +kernel)) (fun _ _ _ _ _ => (pg_name (i := 5) scTerms.nd rfl (Or.inl rfl))) (fun _ _ _ _ _ => pts_nil) (fun _ _ _ _ _ => (pe_tup (pa_cons (pv 5) (pa_cons (pe_dget (hu_of hr1) (pv 2) (pv 5) (fun _ _ => rfl)) pa_nil))))) pa_nil)))))))), ?_⟩
    intro d hd
    have t0 : TI T s l p d names [] H (upd H d (.dK [])) := ⟨hS.ex (Ex.new hd), Ex.new hd _ _ hp, upd_same, hT.ext (Ex.new hd), (ExX.refl H).new hd⟩
    have hnd : H d = none := hd
    generalize upd H d (.dK []) = K1 at t0 ⊢
    show tCall spTake [] E0 (tCons (tVar 0) (tCons (tC (.int 4)) tNil)) _ K1 _
    refine take_c (i := 0) rfl t0.S (by decide) (by decide) fun e H2 e0 e4 S2 x2 => ?_
    have t2 := t0.st h0 S2 x2
    dsimp only [gName]
    show tSeq (tFor _ _ _) (tSeq (tIfS _ _ _) _) _ [some (.ref s), some (.ref p), some (.ref d), some (.int e), none, none, none] H2
    have hrg : Ev (tOp (rI0 fun i j => .int (i + j)) (tOp (rI0 fun i j => .int (i + j)) (tC (.int 1)) (tCB rInt1 (tCons (tOp (rI0 fun i j => .bl (decide (j < i))) (tVar 3) (tC (.int 0))) tNil))) (tCB rInt1 (tCons (tOp rEq (tVar 3) (tC (.int 3))) tNil))) [some (.ref s), some (.ref p), some (.ref d), some (.int e), none, none, none] H2 (isX (.int ((1 + (if 0 < e then 1 else 0) + (if e = 3 then 1 else 0) : Nat) : Int))) := by
      have := ev_addI (ev_addI (ev_c (x := .int 1)) (ev_intB (ev_ints0 (g := fun i j => .bl (decide (j < i))) (ev_var (σ := [some (V.ref s), some (.ref p), some (.ref d), some (.int e), none, none, none]) (H := H2) (i := 3) (P := isX (.int e)) rfl rfl) (ev_c (x := .int 0))))) (ev_intB (ev_eqI (ev_var (i := 3) (P := isX (.int e)) rfl rfl) (ev_c (x := .int 3))))
      refine this.imp fun v H' _ hv => ?_
      show v = _
      rw [show v = _ from hv]
      congr 1
      by_cases h1 : 0 < e <;> by_cases h2 : e = 3 <;> simp [h1, h2]
    refine st_forR (n := 1 + (if 0 < e then 1 else 0) + (if e = 3 then 1 else 0)) hrg (by split <;> split <;> decide) (fun i σ H' => ∃ m x4 x5, σ = [some (.ref s), some (.ref p), some (.ref d), some (.int e), x4, x5, none] ∧ TI T s l p d names m H H' ∧ DI names m ∧ m.length ≤ i)
      (fun H3 e3 => ⟨[], none, none, rfl, t2.ex e3, ⟨List.nodup_nil, fun p hp => by cases hp⟩, Nat.le_refl _⟩) ?_ ?_
    · rintro i σ H3 hi ⟨m, x4, x5, rfl, t3, di, ml⟩
      refine ⟨_, rfl, ?_⟩
      show tCall spTake [] E0 (tCons (tVar 0) (tCons (tCB (rLen K) (tCons (tVar 1) tNil)) tNil)) _ _ _
      refine take_at (i := 0) (n := ((names.map V.str).length : Int)) (ev_lenAt (K := K) (i := 1) rfl t3.pt) rfl t3.S (by rw [List.length_map]; omega) (by rw [List.length_map]; omega) fun g H4 g0 g1 S4 x4 => ?_
      obtain ⟨g, rfl⟩ := Int.eq_ofNat_of_zero_le g0
      rw [List.length_map] at g1
      have t4 := t3.st h0 S4 x4
      have hgl : g < names.length := by omega
      have hat : atI (names.map V.str) (g : Int) = some (.str names[g]) := by
        unfold atI
        rw [ixN_nat (by rw [List.length_map]; exact hgl)]
        show (names.map V.str)[g]? = _
        rw [List.getElem?_map, List.getElem?_eq_getElem hgl]
        rfl
      refine ⟨p, _, (g : Int), _, rfl, rfl, SqL.of t4.pt, hat, ?_⟩
      refine ⟨1, rfl, ?_⟩
      show tCall spTake [] E0 (tCons (tVar 0) (tCons (tC (.int 9)) tNil)) _ _ _
      refine take_c (i := 0) rfl t4.S (by decide) (by decide) fun d1 H5 d10 d11 S5 x5 => ?_
      have t5 := t4.st h0 S5 x5
      refine ⟨1, d1, rfl, rfl, ?_⟩
      refine ⟨0, 1, rfl, rfl, ?_⟩
      show tCall spTake [] E0 (tCons (tVar 0) (tCons (tC (.int 9)) tNil)) _ _ _
      refine take_c (i := 0) rfl t5.S (by decide) (by decide) fun d2 H6 d20 d21 S6 x6 => ?_
      have t6 := t5.st h0 S6 x6
      refine ⟨0 - 1, d2, rfl, rfl, ?_⟩
      refine ⟨by show 4 ≤ sizeLine; decide, fun q hq => ?_⟩
      have t7 := t6.ex (Ex.new (o := .lst [.int 1, .int (-1), .int (1 + d1), .int (0 - 1 - d2)]) hq)
      have q7 : upd H6 q (.lst [.int 1, .int (-1), .int (1 + d1), .int (0 - 1 - d2)]) q = some (.lst [.int 1, .int (-1), .int (1 + d1), .int (0 - 1 - d2)]) := upd_same
      generalize upd H6 q (.lst [.int 1, .int (-1), .int (1 + d1), .int (0 - 1 - d2)]) = H7 at t7 q7 ⊢
      show tCall spTake [] E0 (tCons (tVar 0) (tCons (tC (.int 4)) tNil)) _ H7 _
      refine take_c (i := 0) rfl t7.S (by decide) (by decide) fun e8 H8 e80 e81 S8 x8 => ?_
      have nq : ¬ slB s l q := by
        obtain ⟨_, ds, vs, _, h1, h2⟩ := t6.S
        rintro (rfl | rfl)
        · rw [h1] at hq; cases hq
        · rw [h2] at hq; cases hq
      have q8 := x8 _ _ nq q7
      have t8 := t7.st h0 S8 x8
      have hc : ∃ c : Int, atI [V.int 1, V.int (-1), V.int (1 + d1), V.int (0 - 1 - d2)] e8 = some (V.int c) ∧ c.natAbs ≤ 9 := by
        have : e8 = 0 ∨ e8 = 1 ∨ e8 = 2 ∨ e8 = 3 := by omega
        rcases this with rfl | rfl | rfl | rfl
        · exact ⟨1, rfl, by decide⟩
        · exact ⟨-1, rfl, by decide⟩
        · exact ⟨1 + d1, rfl, by omega⟩
        · exact ⟨0 - 1 - d2, rfl, by omega⟩
      obtain ⟨c, hc1, hc2⟩ := hc
      refine ⟨q, _, e8, _, rfl, rfl, SqL.of q8, hc1, ?_⟩
      obtain ⟨m', hm1, hm2, hm3, _⟩ := di.put (y := names[g]) (List.getElem_mem hgl) hc2
      refine ⟨_, rfl, _, rfl, d, _, rfl, DPut.k (k := .inr names[g]) t8.dd (by show (kTm m).length < sizeLine; unfold kTm; rw [List.length_map]; exact small1000 (by split at hi <;> split at hi <;> omega)), ?_⟩
      rw [hm1]
      exact ⟨m', _, _, rfl, t8.put hnd, hm2, by omega⟩
    · rintro σ H3 ⟨m, x4, x5, rfl, t3, di, ml⟩
      have m3 : m.length ≤ 3 := by
        refine Nat.le_trans ml ?_
        split <;> split <;> decide
      refine use_tail (fun σ' H' => ∃ m x6, σ' = [some (.ref s), some (.ref p), some (.ref d), some (.int e), x4, x5, x6] ∧ TI T s l p d names m H H' ∧ DI names m ∧ m.length ≤ 10) ?_ fun tail => ?_
      · rintro σ' H4 ⟨m, x6, rfl, t4, di, ml⟩
        refine ⟨_, rfl, d, kTm m, m.map Prod.fst, rfl, t4.dd, keys_kT m, by rw [List.length_map]; omega, t4.tb, fun ys p2 H5 perm eN tb5 hp2 => ?_⟩
        have t5 := t4.srt eN tb5
        have t6 := t5.ex (Ex.new (o := .lst (ys.map V.str)) hp2)
        have p6 : upd H5 p2 (.lst (ys.map V.str)) p2 = some (.lst (ys.map V.str)) := upd_same
        generalize upd H5 p2 (.lst (ys.map V.str)) = H6 at t6 p6 ⊢
        have yl : ys.length = (tsOf m ys).length := (List.length_map _).symm
        have hy2 : ys.length ≤ 1000 := by rw [perm.length_eq, List.length_map]; omega
        refine Ev.use (te := tCB (rTupF K) (tCons (tLc (iList K (tC (.ref p2))) (gName 5) tYes (tTup (tCons (tVar 5) (tCons (tDGet (tVar 2) (tVar 5)) tNil))) [5]) tNil)) (P := isTm (tsOf m ys)) (ev_tupF (ev_mapL (K := K) (k := 5) (Pi := fun i => isX (.str (ys.getD i default))) (by rw [← yl]; exact hy2) ?_ (fun _ _ => im_Tp) (fun _ => rfl) fun i x H7 hi e7 hx => ?_)) fun z H7 e7 p7 => k z _ H7 (t6.S.ex e7) (t6.fr.trans e7.exx) (t6.tb.ext e7) p7 (di.tm perm)
        · refine fun H7 e7 Q q => q _ _ (Ex.refl _) ⟨p2, _, rfl, e7 _ _ p6, by rw [List.length_map]; exact yl, fun i hi => ⟨_, by rw [List.getElem?_map, List.getElem?_eq_getElem (by rw [yl]; exact hi)]; rfl, ?_⟩⟩
          show V.str _ = V.str (ys.getD i default)
          rw [List.getD_eq_getElem?_getD, List.getElem?_eq_getElem (by rw [yl]; exact hi)]
          rfl
        · obtain rfl : x = .str (ys.getD i default) := hx
          have hi' : i < ys.length := by rw [yl]; exact hi
          have hmem : ys.getD i default ∈ m.map Prod.fst := by
            rw [← perm.mem_iff, List.getD_eq_getElem?_getD, List.getElem?_eq_getElem hi']
            exact List.getElem_mem hi'
          obtain ⟨c, hc1, hc2⟩ := lookup_in hmem
          have e9 : (tsOf m ys).getD i default = (ys.getD i default, c) := by
            unfold tsOf
            rw [List.getD_eq_getElem?_getD, List.getElem?_map, List.getD_eq_getElem?_getD, List.getElem?_eq_getElem hi'] at *
            show (ys[i], (m.lookup ys[i]).getD 0) = (ys[i], c)
            rw [show m.lookup ys[i] = some c from hc1]
            rfl
          rw [e9]
          exact ev_tup2 (ev_var (i := 5) rfl rfl) (ev_dget (i := 2) (j := 5) rfl rfl (e7 _ _ t6.dd) hc1)
      · refine ⟨_, rfl, by show 2 ≤ sizeLine; decide, fun q hq => ?_⟩
        have t4 := t3.ex (Ex.new (o := .lst [.int 1, .int 2]) hq)
        refine ⟨q, _, rfl, .inl (SqL.of upd_same), rfl, rfl, _, rfl, ?_⟩
        generalize (if false = true then _ else inV (V.int e) _) = bb
        generalize upd H3 q (.lst [.int 1, .int 2]) = H4 at t4 ⊢
        cases bb with
        | false => exact tail _ _ ⟨m, none, rfl, t4, di, by omega⟩
        | true =>
          rw [if_pos rfl]
          refine ⟨_, rfl, d, kTm m, rfl, t4.dd, rfl, _, rfl, ?_⟩
          by_cases h2 : m.length = 2
          · have hd2 : decide (V.int ((kTm m).length : Int) = V.int 2) = true := decide_eq_true (by unfold kTm; rw [List.length_map, h2]; rfl)
            rw [hd2]
            refine ⟨_, rfl, d, kTm m, m.map Prod.fst, rfl, t4.dd, keys_kT m, by rw [List.length_map]; omega, t4.tb, fun ys p2 H5 perm eN tb5 hp2 => ?_⟩
            have t5 := t4.srt eN tb5
            have t6 := t5.ex (Ex.new (o := .lst (ys.map V.str)) hp2)
            have p6 : upd H5 p2 (.lst (ys.map V.str)) p2 = some (.lst (ys.map V.str)) := upd_same
            generalize upd H5 p2 (.lst (ys.map V.str)) = H6 at t6 p6 ⊢
            have yl : ys.length = 2 := by rw [perm.length_eq, List.length_map, h2]
            have y0 : (ys.map V.str)[0]? = some (.str (ys.getD 0 default)) := by
              rw [List.getElem?_map, List.getD_eq_getElem?_getD, List.getElem?_eq_getElem (show 0 < ys.length by omega)]; rfl
            have y1 : (ys.map V.str)[1]? = some (.str (ys.getD 1 default)) := by
              rw [List.getElem?_map, List.getD_eq_getElem?_getD, List.getElem?_eq_getElem (show 1 < ys.length by omega)]; rfl
            have m0 : ys.getD 0 default ∈ m.map Prod.fst := by
              rw [← perm.mem_iff, List.getD_eq_getElem?_getD, List.getElem?_eq_getElem (show 0 < ys.length by omega)]
              exact List.getElem_mem _
            have m1 : ys.getD 1 default ∈ m.map Prod.fst := by
              rw [← perm.mem_iff, List.getD_eq_getElem?_getD, List.getElem?_eq_getElem (show 1 < ys.length by omega)]
              exact List.getElem_mem _
            generalize ys.getD 0 default = z0 at y0 m0
            generalize ys.getD 1 default = z1 at y1 m1
            obtain ⟨c1, hc1, hc2⟩ := lookup_in m1
            obtain ⟨q0, hq0, e0⟩ := List.mem_map.mp m0
            obtain ⟨m', hm1, hm2, hm3, _⟩ := di.put (y := z0) (c := 0 - c1) (e0 ▸ (di.mem q0 hq0).1) (by have := (di.mem _ hc2).2; show (0 - c1).natAbs ≤ 9; have : c1.natAbs ≤ 9 := this; omega)
            have hg := DGet.k (k := .inr z1) t6.dd
            rw [valV_kT, hc1] at hg
            refine ⟨_, rfl, _, rfl, p2, _, 1, _, rfl, rfl, SqL.of p6, atI_at (i := 1) y1, d, _, rfl, hg, 0, c1, rfl, rfl, _, rfl, _, rfl, p2, _, 0, _, rfl, rfl, SqL.of p6, atI_at (i := 0) y0, d, _, rfl, DPut.k (k := .inr z0) t6.dd (by show (kTm m).length < sizeLine; unfold kTm; rw [List.length_map]; exact small1000 (by omega)), ?_⟩
            rw [hm1]
            exact tail _ _ ⟨m', _, rfl, t6.put hnd, hm2, by omega⟩
          · have : decide (V.int ((kTm m).length : Int) = V.int 2) = false := decide_eq_false fun z => h2 (by have := V.int.inj z; unfold kTm at this; rw [List.length_map] at this; omega)
            rw [this]
            exact tail _ _ ⟨m, none, rfl, t4, di, by omega⟩
end
end PW

set_option Elab.async false
set_option linter.all false
set_option maxRecDepth 100000
set_option maxHeartbeats 4000000
/-! PwT: the net drawn. -/
namespace PW
open PySem PySem.Spec PyProof.Rows L2 PN LamX
abbrev sNet : Stmt := topS 71
structure LA (T : List (Addr × Str)) (C N Rd s l p a lp lr : Addr) (names ns : List Str) (S : NS) (H : Hp) : Prop where
  st : StAt H s l
  tb : Tabs T H
  pt : H p = some (.lst (names.map V.str))
  net : NetAt C N Rd H a lp lr ns S
  nlp : ¬ slB s l lp
  nlr : ¬ slB s l lr
  npn : ¬ netB a lp lr p
def RowAt (s l a lp lr lw : Addr) (names : List Str) (H : Hp) (v : V) (A : Nat → Rat) : Prop := ∃ (r : Addr) (us : List V) (ts : List (Str × Int)), v = .ref r ∧ H r = some (.lst us) ∧ us.length = names.length ∧ (∀ i, i < names.length → us[i]? = some (.int (coef ts (names.getD i default)))) ∧ TmOk names ts ∧ A = rowOf names ts ∧ ¬ slB s l r ∧ ¬ netB a lp lr r ∧ r ≠ lw
structure LR (s l p a lp lr lw : Addr) (names : List Str) (S : NS) (rws : List V) (H : Hp) : Prop where
  rw : H lw = some (.lst rws)
  nlw : ¬ slB s l lw
  nwl : ¬ netB a lp lr lw
  npw : p ≠ lw
  rl : rws.length = S.m
  rk : ∀ k, k < S.m → ∃ v, rws[k]? = some v ∧ RowAt s l a lp lr lw names H v (S.A k)
section
variable {T : List (Addr × Str)} {C N Rd s l p a lp lr lw : Addr} {names ns ns' : List Str} {S S' : NS} {H H' : Hp} {rws : List V}
theorem NetAt.obj (h : NetAt C N Rd H a lp lr ns S) : ∃ dx fs us, H a = some (.ins N dx fs) ∧ H lp = some (.lst (ns.map V.str)) ∧ H lr = some (.lst us) := let ⟨dx, va, vm, vi, vr, vt, us, nv⟩ := h; ⟨dx, _, us, nv.obj, nv.pts, nv.rds⟩
theorem LA.gen (h : LA T C N Rd s l p a lp lr names ns S H) (h0 : 0 < names.length) (S1 : StAt H' s l) (t1 : Tabs T H') (e : ExX (slB s l) H H') : LA T C N Rd s l p a lp lr names ns S H' := by
  obtain ⟨dx, fs, us, o1, o2, o3⟩ := h.net.obj
  have na := h.st.nb o1 (fun _ z => by cases z)
  refine ⟨S1, t1, e _ _ (h.st.nl h0 h.pt) (fun _ z => by cases z) h.pt, h.net.keep (fun q o hq i => ?_) ((e _ _ na (fun _ z => by cases z) o1).trans o1.symm) ((e _ _ h.nlp (fun _ z => by cases z) o2).trans o2.symm) ((e _ _ h.nlr (fun _ z => by cases z) o3).trans o3.symm), h.nlp, h.nlr, h.npn⟩
  exact e q o (h.st.nb hq fun us z => by rw [z] at i; exact i) (fun ps z => by rw [z] at i; exact i) hq
theorem LA.sta (h : LA T C N Rd s l p a lp lr names ns S H) (h0 : 0 < names.length) (S1 : StAt H' s l) (e : ExE (slB s l) H H') : LA T C N Rd s l p a lp lr names ns S H' := h.gen h0 S1 (h.tb.st h.st e) e.exx
theorem LA.ex (h : LA T C N Rd s l p a lp lr names ns S H) (h0 : 0 < names.length) (e : Ex H H') : LA T C N Rd s l p a lp lr names ns S H' := h.gen h0 (h.st.ex e) (h.tb.ext e) e.exx
theorem LA.nets (h : LA T C N Rd s l p a lp lr names ns S H) : ¬ netB a lp lr s ∧ ¬ netB a lp lr l := by
  obtain ⟨dx, fs, us, o1, o2, o3⟩ := h.net.obj
  have na := h.st.nb o1 (fun _ z => by cases z)
  refine ⟨?_, ?_⟩
  · rintro (rfl | rfl | rfl)
    · exact na (Or.inl rfl)
    · exact h.nlp (Or.inl rfl)
    · exact h.nlr (Or.inl rfl)
  · rintro (rfl | rfl | rfl)
    · exact na (Or.inr rfl)
    · exact h.nlp (Or.inr rfl)
    · exact h.nlr (Or.inr rfl)
theorem LA.upd (h : LA T C N Rd s l p a lp lr names ns S H) (e : ExE (netB a lp lr) H H') (nat : NetAt C N Rd H' a lp lr ns' S') : LA T C N Rd s l p a lp lr names ns' S' H' := by
  obtain ⟨dx, fs, us, o1, o2, o3⟩ := h.net.obj
  obtain ⟨n1, n2⟩ := h.nets
  obtain ⟨ne, d, vs, h0, h1, h2⟩ := h.st
  refine ⟨⟨ne, d, vs, h0, e _ _ n1 h1, e _ _ n2 h2⟩, h.tb.keep fun b o k1 k2 _ hb => e b o ?_ hb, e _ _ h.npn h.pt, nat, h.nlp, h.nlr, h.npn⟩
  rintro (rfl | rfl | rfl)
  · rw [o1] at hb; cases hb; exact k2 _ _ _ rfl
  · rw [o2] at hb; cases hb; exact k1 _ rfl
  · rw [o3] at hb; cases hb; exact k1 _ rfl
theorem LA.puts (h : LA T C N Rd s l p a lp lr names ns S H) {ws : List V} (hw : H lw = some (.lst rws)) (nlw : ¬ slB s l lw) (nwl : ¬ netB a lp lr lw) (npw : p ≠ lw) : LA T C N Rd s l p a lp lr names ns S (L2.upd H lw (.lst ws)) := by
  have n1 : s ≠ lw := fun e => nlw (Or.inl e.symm)
  have n2 : l ≠ lw := fun e => nlw (Or.inr e.symm)
  obtain ⟨ne, d, vs, h0, h1, h2⟩ := h.st
  refine ⟨⟨ne, d, vs, h0, by rw [upd_ne n1]; exact h1, by rw [upd_ne n2]; exact h2⟩, h.tb.keep fun b o k1 _ _ hb => ?_, by rw [upd_ne npw]; exact h.pt, h.net.keep ((ExI.refl H).mut hw imm_lst) (upd_ne fun e => nwl (Or.inl e.symm)) (upd_ne fun e => nwl (Or.inr (Or.inl e.symm))) (upd_ne fun e => nwl (Or.inr (Or.inr e.symm))), h.nlp, h.nlr, h.npn⟩
  rw [upd_ne fun q => by rw [q, hw] at hb; cases hb; exact k1 _ rfl]
  exact hb
theorem RowAt.keep {v : V} {A : Nat → Rat} (h : RowAt s l a lp lr lw names H v A) (e : ∀ r us, ¬ slB s l r → ¬ netB a lp lr r → r ≠ lw → H r = some (.lst us) → H' r = some (.lst us)) : RowAt s l a lp lr lw names H' v A := by
  obtain ⟨r, us, ts, h1, h2, h3, h4, h5, h6, h7, h8, h9⟩ := h
  exact ⟨r, us, ts, h1, e _ _ h7 h8 h9 h2, h3, h4, h5, h6, h7, h8, h9⟩
theorem LR.keep (h : LR s l p a lp lr lw names S rws H) (e : ∀ r us, ¬ slB s l r → ¬ netB a lp lr r → H r = some (.lst us) → H' r = some (.lst us)) : LR s l p a lp lr lw names S rws H' :=
  ⟨e _ _ h.nlw h.nwl h.rw, h.nlw, h.nwl, h.npw, h.rl, fun k hk => let ⟨v, h1, h2⟩ := h.rk k hk; ⟨v, h1, h2.keep fun r us a b _ hr => e r us a b hr⟩⟩
theorem LR.exx (h : LR s l p a lp lr lw names S rws H) (e : ExX (slB s l) H H') : LR s l p a lp lr lw names S rws H' := h.keep fun r us n _ hr => e _ _ n (fun _ z => by cases z) hr
theorem LR.ex (h : LR s l p a lp lr lw names S rws H) (e : Ex H H') : LR s l p a lp lr lw names S rws H' := h.keep fun r us _ _ hr => e _ _ hr
theorem LR.app (h : LR s l p a lp lr lw names S rws H) {v : V} {A : Nat → Rat} (hv : RowAt s l a lp lr lw names H v A) (hm : S'.m = S.m + 1) (hA : ∀ k, k < S.m → S'.A k = S.A k) (hA' : S'.A S.m = A) : LR s l p a lp lr lw names S' (rws ++ [v]) (L2.upd H lw (.lst (rws ++ [v]))) := by
  have kp : ∀ r us, ¬ slB s l r → ¬ netB a lp lr r → r ≠ lw → H r = some (.lst us) → L2.upd H lw (.lst (rws ++ [v])) r = some (.lst us) := fun r us _ _ n hr => by rw [upd_ne n]; exact hr
  refine ⟨upd_same, h.nlw, h.nwl, h.npw, by rw [List.length_append, h.rl, hm]; rfl, fun k hk => ?_⟩
  by_cases e : k < S.m
  · obtain ⟨x, h1, h2⟩ := h.rk k e
    exact ⟨x, by rw [List.getElem?_append_left (by rw [h.rl]; exact e)]; exact h1, by rw [hA k e]; exact h2.keep kp⟩
  · have e2 : k = S.m := by omega
    subst e2
    exact ⟨v, by rw [List.getElem?_append_right (by rw [h.rl]; exact Nat.le_refl _), h.rl]; simp, by rw [hA']; exact hv.keep kp⟩
/-- same rows of the net, another heap -/
theorem LR.state (h : LR s l p a lp lr lw names S rws H) (hm : S'.m = S.m) (hA : ∀ k, k < S.m → S'.A k = S.A k) : LR s l p a lp lr lw names S' rws H := ⟨h.rw, h.nlw, h.nwl, h.npw, by rw [h.rl, hm], fun k hk => by rw [hA k (by omega)]; exact h.rk k (by omega)⟩
theorem row_dn {ts : List (Str × Int)} (h : TmOk names ts) (i : Nat) : Dn 1 4 (rowOf names ts i) := by
  refine Dn.int _ ?_
  unfold coef
  cases e : ts.lookup (names.getD i default) with
  | none => decide
  | some c =>
    have : (names.getD i default, c) ∈ ts := by
      by_cases hh : names.getD i default ∈ ts.map Prod.fst
      · obtain ⟨c', h1, h2⟩ := lookup_in hh
        rw [h1] at e
        cases e
        exact h2
      · rw [lookup_no hh] at e
        cases e
    have := h.le _ this
    show c.natAbs < 2 ^ 4
    have : c.natAbs ≤ 10 := this
    omega
theorem LA.nexi (h : LA T C N Rd s l p a lp lr names ns S H) (nc : N ≠ C) (nr : N ≠ Rd) (e : ExE (netB a lp lr) H H') : ExI (Fz2 C Rd) H H' := e.exi fun q o hq ho => by
  obtain ⟨dx, fs, us, o1, o2, o3⟩ := h.net.obj
  rcases hq with rfl | rfl | rfl
  · rw [o1] at ho; cases ho; exact imm_net nc nr
  · rw [o2] at ho; cases ho; exact imm_lst
  · rw [o3] at ho; cases ho; exact imm_lst
theorem LA.fresh (h : LA T C N Rd s l p a lp lr names ns S H) (h' : LR s l p a lp lr lw names S' rws H) {r : Addr} (hr : H r = none) : ¬ slB s l r ∧ ¬ netB a lp lr r ∧ r ≠ lw := by
  obtain ⟨dx, fs, us, o1, o2, o3⟩ := h.net.obj
  obtain ⟨_, d, vs, _, g1, g2⟩ := h.st
  refine ⟨?_, ?_, fun e => by rw [e, h'.rw] at hr; cases hr⟩
  · rintro (rfl | rfl)
    · rw [g1] at hr; cases hr
    · rw [g2] at hr; cases hr
  · rintro (rfl | rfl | rfl)
    · rw [o1] at hr; cases hr
    · rw [o2] at hr; cases hr
    · rw [o3] at hr; cases hr
theorem for_take {σ : L2.St} {te : TE} {i : Nat} {n : Int} {E : XK} {g : TG} {tb rest : TS} {D : Ends} (hx : Ev te σ H (isX (.int n))) (hs : σ[i]? = some (some (.ref s))) (hS : StAt H s l) (hn : 0 < n) (hl : n.natAbs < 2 ^ 60)
    (q : ∀ d H', 0 ≤ d → d < n → StAt H' s l → ExE (slB s l) H H' → tSeq (tFor (iRng1 (tCons (tC (.int d)) tNil)) g tb) rest D σ H') : tSeq (tFor (iRng1 (tCons (tCall spTake [] E (tCons (tVar i) (tCons te tNil))) tNil)) g tb) rest D σ H :=
  take_at hx hs hS hn hl fun d H' h1 h2 h3 h4 => q d H' h1 h2 h3 h4
theorem for_take1 {σ : L2.St} {te : TE} {i : Nat} {n : Int} {E : XK} {g : TG} {tb rest : TS} {D : Ends} (hx : Ev te σ H (isX (.int n))) (hs : σ[i]? = some (some (.ref s))) (hS : StAt H s l) (hn : 0 < n) (hl : n.natAbs < 2 ^ 60)
    (q : ∀ d H', 0 ≤ d → d < n → StAt H' s l → ExE (slB s l) H H' → tSeq (tFor (iRng1 (tCons (tC (.int (1 + d))) tNil)) g tb) rest D σ H') : tSeq (tFor (iRng1 (tCons (tOp (rI0 fun i j => .int (i + j)) (tC (.int 1)) (tCall spTake [] E (tCons (tVar i) (tCons te tNil)))) tNil)) g tb) rest D σ H :=
  take_at hx hs hS hn hl fun d H' h1 h2 h3 h4 => ⟨1, d, rfl, rfl, q d H' h1 h2 h3 h4⟩
theorem rlen : ∀ i : Nat, i < 8 → ("r" : Str).length + ((toString (i : Int) : String) : Str).length ≤ sizeLine ∧ (i : Int).natAbs.log2 < 1920 := by decide +kernel
end
def spNet (T : List (Addr × Str)) (C N Rd : Addr) : Sp := fun vs H Q _ => ∃ (s l : Addr), vs = [.ref s, .int 7] ∧ StAt H s l ∧ Tabs T H ∧
  ∀ (z p a lp lr lw : Addr) (names : List Str) (S : NS) (rws : List V) (H' : Hp), H' z = some (.tup [.ref a, .ref p, .ref lw]) → names.Nodup → 0 < names.length → names.length ≤ 5 → LA T C N Rd s l p a lp lr names names S H' → NOk S → LR s l p a lp lr lw names S rws H' → Q (.ref z) H'
section
variable {P : Program} {w : World} {K : PySem.W.Frag} {mg : Str → Option Value} {base : Heap} {f C N Rd fN fR fPo fAP fAdd fT fRa fWe fTe fRo : Addr} {fd fdN fdR fdPo fdAP fdAdd fdT fdRa fdWe fdTe fdRo : FuncData} {T : List (Addr × Str)}
theorem scNet : FnScope ["_law_state_here", "_law_most", "_law_points_here", "_law_net_here", "_law_name", "_law_rows", "_law_k", "_law_terms_here"] ["_law_state_here", "_law_most"] (defScope sNet) := ⟨rfl, rfl, rfl, by decide +kernel, rfl, by decide +kernel, by decide +kernel⟩
theorem ok_net (F : FnP K "_law_net" "_law_net" sNet f fd) (NT : NCls K N C Rd) (mr : mg "range" = none) (mst : mg "str" = none)
    (MN : Mk K N fN) (FN : FnOk P w K mg base CX0 3 fN fdN ["self"] (spNetInit C N Rd)) (bN : Binds K fdN ["self"] []) (mgN : mg "Net" = some (.ref N))
    (MR : Mk K Rd fR) (FR : FnOk P w K mg base CX0 1 fR fdR ["self", "name", "terms", "value", "weight"] (spRdInit Rd)) (bR : Binds K fdR ["self", "name", "terms", "value", "weight"] []) (mgR : mg "Reading" = some (.ref Rd))
    (DPo : DefOk P w K mg base CX0 "_law_points" 3 ["_law_state_here", "_law_most"] spPoints fPo fdPo) (DAP : MetOk P w K mg base CX0 N "add_point" 4 ["self", "name", "approximation"] (spAddPoint C N Rd) fAP fdAP) (DAdd : MetOk P w K mg base CX0 N "add" 9 ["self", "reading"] (spAdd C N Rd) fAdd fdAdd)
    (DT : DefOk P w K mg base CX0 "_law_take" 2 ["_law_state_here", "_law_limit"] spTake fT fdT) (DRa : DefOk P w K mg base CX0 "_law_ratio" 3 ["_law_state_here"] (spRatioL C) fRa fdRa) (DWe : DefOk P w K mg base CX0 "_law_weight" 3 ["_law_state_here"] (spWeightL C) fWe fdWe)
    (DTe : DefOk P w K mg base CX0 "_law_terms" 3 ["_law_state_here", "_law_points_here"] (spTerms T) fTe fdTe) (DRo : DefOk P w K mg base CX0 "_law_row" 2 ["_law_points_here", "_law_terms_here"] spRowL fRo fdRo) :
    FnOk P w K mg base CX0 10 f fd ["_law_state_here", "_law_most"] (spNet T C N Rd) := by
  refine F.ok scNet (fun vs H Q E h => ?_) (fun cdv A outer s H vs Q E hr h => ?_)
  · obtain ⟨s, l, rfl, _⟩ := h
    rfl
  · obtain ⟨s, l, rfl, hS, hT, k⟩ := h
    have hr9 : Room 9 _ := hr
    have hr4 : Room 4 _ := hr.mono (by decide)
    have hr3 : Room 3 _ := hr.mono (by decide)
    have hr2 : Room 2 _ := hr.mono (by decide)
    refine ⟨_, PSs.nox (pss_cons (ps_set (i := 2) scNet.nd rfl (Or.inl rfl) (pe_cd DPo hr3 rfl pass0 (pa_cons (pv 0) (pa_cons pe_int pa_nil)))) (pss_cons (ps_set (i := 3) scNet.nd rfl (Or.inl rfl) (pe_make0 MN FN hr4 rfl mgN bN .nil pass0)) (pss_cons (ps_for PassesOwn.never rfl (pi_list (pv 2)) (pg_name (i := 4) scNet.nd rfl (Or.inl rfl)) (pss_one (ps_expr (pe_meth (pv 3) NT.cl DAP.me DAP.ok hr4 DAP.bd .nil pass0 (pa_cons (pv 4) (pa_cons (pe_cd DRa hr3 rfl pass0 (pa_cons (pv 0) pa_nil)) pa_nil)))))) (pss_cons (ps_set (i := 5) scNet.nd rfl (Or.inl rfl) (pe_lst pa_nil)) (pss_cons (ps_for PassesOwn.never rfl (pi_range1 rfl mr (pa_cons (pe_cd DT hr2 rfl pass0 (pa_cons (pv 0) (pa_cons (pe_op op_add (pv 1) pe_int) pa_nil))) pa_nil)) (pg_name (i := 6) scNet.nd rfl (Or.inl rfl)) (pss_cons (ps_set (i := 7) scNet.nd rfl (Or.inl rfl) (pe_cd DTe hr3 rfl pass0 (pa_cons (pv 0) (pa_cons (pv 2) pa_nil)))) (pss_cons (ps_expr (pe_meth (pv 3) NT.cl DAdd.me DAdd.ok hr9 DAdd.bd .nil pass0 (pa_cons (pe_make MR FR hr2 rfl mgR bR .nil pass0 (pa_cons (pe_op op_add_str pe_str (pe_callTy call_str_int (by rfl) mst (by decide +kernel) (pa_cons (pv 6) pa_nil))) (pa_cons (pv 7) (pa_cons (pe_cd DRa hr3 rfl pass0 (pa_cons (pv 0) pa_nil)) (pa_cons (pe_cd DWe hr3 rfl pass0 (pa_cons (pv 0) pa_nil)) pa_nil)))) (by decide)) pa_nil))) (pss_one (ps_expr (pe_bm PySem.F.plainAttrs_list PySem.F.slot_list_append PySem.F.type_list_append mt_append (pv 5) (pa_cons (pe_cd DRo hr2 rfl pass0 (pa_cons (pv 2) (pa_cons (pv 7) pa_nil))) pa_nil))))))) (pss_one (ps_ret (pe_tup (pa_cons (pv 3) (pa_cons (pv 2) (pa_cons (pv 5) pa_nil))))))))))), ?_⟩
    refine ⟨_, rfl, s, l, rfl, hS, fun p names H1 S1 x1 hp nd h0 h5 => ?_⟩
    have T1 := hT.st hS x1
    dsimp only [gName]
    intro a da ha hda nda
    have xa : Ex H1 (L2.upd (L2.upd H1 da (.own a)) a (.ins N da [])) := (Ex.new hda).mut ha
    refine ⟨a, da, rfl, upd_same, fun lp lr H3 hlp hlr e3 nat => ⟨rfl, ?_⟩⟩
    have x3 : Ex H1 H3 := fun q o hq => e3 q o (fun e => by rw [e, ha] at hq; cases hq) (xa q o hq)
    have hlp1 : H1 lp = none := xa.free hlp
    have hlr1 : H1 lr = none := xa.free hlr
    have nn : ∀ {q : Addr}, H1 q = none → ¬ slB s l q := fun {q} hq => by
      obtain ⟨_, d, vs, _, g1, g2⟩ := S1
      rintro (rfl | rfl)
      · rw [g1] at hq; cases hq
      · rw [g2] at hq; cases hq
    have a0 : LA T C N Rd s l p a lp lr names (names.take 0) (NS.zero (names.take 0).length fun _ => 0) H3 := ⟨S1.ex x3, T1.ext x3, x3 _ _ hp, nat _, nn hlp1, nn hlr1, by
      rintro (rfl | rfl | rfl)
      · rw [ha] at hp; cases hp
      · rw [hlp1] at hp; cases hp
      · rw [hlr1] at hp; cases hp⟩
    dsimp only [gName]
    show tSeq (tFor _ _ _) _ _ [some (.ref s), some (.int 7), some (.ref p), some (.ref a), none, none, none, none] H3
    refine st_forL (K := K) (a := p) (us := names.map V.str) (ev_var (i := 2) rfl rfl) a0.pt (fun i σ H' => ∃ x4 xx, σ = [some (.ref s), some (.int 7), some (.ref p), some (.ref a), x4, none, none, none] ∧ LA T C N Rd s l p a lp lr names (names.take i) (NS.zero (names.take i).length xx) H' ∧ ∀ j, j < (names.take i).length → Dn 2520 18 (xx j))
      (fun H4 e4 => ⟨none, _, rfl, a0.ex h0 e4, fun j hj => by cases hj⟩) (fun i σ H' ⟨_, _, _, h, _⟩ => h.pt) ?_ ?_
    · rintro i x σ H4 hx ⟨x4, xx, rfl, a4, hd⟩
      rw [List.getElem?_map] at hx
      obtain ⟨y, hy, rfl⟩ : ∃ y, names[i]? = some y ∧ x = .str y := by
        cases e : names[i]? with
        | none => rw [e] at hx; cases hx
        | some y => rw [e] at hx; exact ⟨y, rfl, (Option.some.inj hx).symm⟩
      obtain ⟨hi, hyi⟩ := List.getElem?_eq_some_iff.mp hy
      have etake : names.take (i + 1) = names.take i ++ [y] := by rw [List.take_succ, hy]; rfl
      obtain ⟨dx, va, vm, vi, vr, vt, us, nv⟩ := id a4.net
      refine ⟨_, rfl, a, dx, _, rfl, nv.obj, nf_no _ _ _ _ _ _ _ (by decide), _, rfl, _, rfl, s, l, rfl, a4.st, fun z q H5 S5 x5 hq hqd => ?_⟩
      have a5 := a4.sta h0 S5 x5
      have ylt : (names.take i).length = i := by rw [List.length_take]; omega
      refine ⟨a, lp, lr, y, z, names.take i, xx, q, rfl, a5.net, fun hm => ?_, by rw [ylt]; omega, hq, fun H6 e6 nat6 => ?_⟩
      · obtain ⟨j, hj, hjy⟩ := List.mem_iff_getElem.mp hm
        rw [List.getElem_take] at hjy
        have := (List.getElem?_inj (j := j) hi nd).mp (by rw [hy, List.getElem?_eq_getElem (by omega), hjy])
        omega
      · rw [← etake] at nat6
        have el : (names.take i).length + 1 = (names.take (i + 1)).length := by rw [etake, List.length_append]; rfl
        rw [el] at nat6
        refine ⟨_, _, rfl, a5.upd e6 nat6, fun j hj => ?_⟩
        by_cases e : j = (names.take i).length
        · rw [if_pos e]; exact hqd
        · rw [if_neg e]; exact hd j (by omega)
    · rintro σ H4 ⟨x4, xx, rfl, a4, hd⟩
      rw [List.length_map, List.take_length] at a4 hd
      have nok : NOk (NS.zero names.length xx) := NOk.zero h5 hd
      refine st_new fun lw hlw => ?_
      have x5 : Ex H4 (L2.upd H4 lw (.lst [])) := Ex.new hlw
      have lw5 : L2.upd H4 lw (.lst []) lw = some (.lst []) := upd_same
      have a5 := a4.ex h0 x5
      generalize L2.upd H4 lw (.lst []) = H5 at x5 lw5 a5 ⊢
      obtain ⟨dx4, fs4, us4, o41, o42, o43⟩ := a4.net.obj
      have nlw : ¬ slB s l lw := by
        obtain ⟨_, d, vs, _, g1, g2⟩ := a4.st
        rintro (rfl | rfl)
        · rw [g1] at hlw; cases hlw
        · rw [g2] at hlw; cases hlw
      have nwl : ¬ netB a lp lr lw := by
        rintro (rfl | rfl | rfl)
        · rw [o41] at hlw; cases hlw
        · rw [o42] at hlw; cases hlw
        · rw [o43] at hlw; cases hlw
      have r5 : LR s l p a lp lr lw names (NS.zero names.length xx) [] H5 := ⟨lw5, nlw, nwl, fun e => (by have := a4.pt; rw [e, hlw] at this; cases this), rfl, fun k hk => absurd hk (Nat.not_lt_zero k)⟩
      show tSeq (tFor _ _ _) _ _ [some (.ref s), some (.int 7), some (.ref p), some (.ref a), x4, some (.ref lw), none, none] H5
      refine for_take (i := 0) (n := 7 + 1) (ev_addI (ev_var (i := 1) (P := isX (.int 7)) rfl rfl) ev_c) rfl a5.st (by decide) (by decide) fun d H6 d0 d1 S6 x6 => ?_
      have a6 := a5.sta h0 S6 x6
      have r6 := r5.exx x6.exx
      obtain ⟨d, rfl⟩ := Int.eq_ofNat_of_zero_le d0
      refine st_forR (n := d) (ev_c (x := .int (d : Int))) (by omega) (fun i σ H' => ∃ x6 x7 S rws, σ = [some (.ref s), some (.int 7), some (.ref p), some (.ref a), x4, some (.ref lw), x6, x7] ∧ LA T C N Rd s l p a lp lr names names S H' ∧ NOk S ∧ S.m = i ∧ LR s l p a lp lr lw names S rws H')
        (fun H7 e7 => ⟨none, none, _, [], rfl, a6.ex h0 e7, nok, rfl, r6.ex e7⟩) ?_ ?_
      · rintro i σ H7 hi ⟨x6, x7, S, rws, rfl, a7, ok, hm, r7⟩
        refine ⟨_, rfl, _, rfl, s, l, p, names, rfl, a7.st, a7.pt, h0, by omega, a7.tb, fun tv ts H8 S8 x8 T8 htm tok => ?_⟩
        have a8 := a7.gen h0 S8 T8 x8
        have r8 := r7.exx x8
        obtain ⟨dx, va, vm, vi, vr, vt, us, nv⟩ := id a8.net
        refine ⟨_, rfl, a, dx, _, rfl, nv.obj, nf_no _ _ _ _ _ _ _ (by decide), _, rfl, (i : Int), rfl, (rlen i (by omega)).2, "r", toString (i : Int), rfl, rfl, (rlen i (by omega)).1, _, rfl, _, rfl, s, l, rfl, S8, fun z1 q1 H9 S9 x9 hq1 hd1 => ?_⟩
        have a9 := a8.sta h0 S9 x9
        have r9 := r8.exx x9.exx
        have tm9 := isTm_exi (Fz := Fz2 C Rd) htm (S8.exi x9)
        refine ⟨_, rfl, s, l, rfl, S9, fun z2 w2 HA SA xA hq2 hd2 hw0 hd3 => ?_⟩
        have aA := a9.sta h0 SA xA
        have rA := r9.exx xA.exx
        have tmA := isTm_exi (Fz := Fz2 C Rd) tm9 (S9.exi xA)
        have q1A := hq1.mono (Fz := Fz2 C Rd) (Or.inl rfl) (S9.exi xA)
        intro rd dr hrd hdr nrd
        refine ⟨rd, dr, _, _, _, _, rfl, upd_same, rfl, ?_⟩
        generalize hHB : L2.upd (L2.upd (L2.upd HA dr (.own rd)) rd (.ins Rd dr [])) rd _ = HB
        have xB : Ex HA HB := by
          rw [← hHB, upd_upd]
          exact (Ex.new hdr).mut hrd
        have oB : HB rd = some (.ins Rd dr (rdf (.str (rname i)) tv z1 z2)) := by rw [← hHB]; exact upd_same
        have aB := aA.ex h0 xB
        have rB := rA.ex xB
        have tmB := (isTm ts).mono _ _ _ xB tmA
        subst hm
        refine ⟨a, lp, lr, rd, names, S, ts, q1, w2, rfl, aB.net, ⟨rd, dr, tv, z1, z2, rfl, oB, tmB, q1A.ex xB, hq2.ex xB⟩, tok, ok, by omega, ⟨fun i _ => row_dn tok i, hd2, hw0, hd3, hd1⟩, fun HC eC natC => ?_⟩
        have aC := aB.upd eC natC
        have rC := rB.keep fun r us _ n hr => eC _ _ n hr
        have tmC := isTm_exi tmB (aB.nexi NT.nc NT.nr eC)
        refine ⟨_, rfl, .inl ⟨rfl, _, SqL.of rC.rw⟩, _, rfl, _, rfl, p, tv, names, ts, rfl, aC.pt, by omega, tmC, tok.nd, fun r2 us2 HD eD hr0 hr1 hul hus => ?_⟩
        have aD := aC.ex h0 eD
        have rD := rC.ex eD
        obtain ⟨f1, f2, f3⟩ := aC.fresh rC hr0
        refine ⟨lw, rws, .ref r2, rfl, rfl, rD.rw, sz1000 (by rw [rD.rl]; omega), ?_⟩
        refine ⟨_, _, S.add (rowOf names ts) w2 q1, rws ++ [.ref r2], rfl, aD.puts rD.rw rD.nlw rD.nwl rD.npw, ok.add (by omega) ⟨fun i _ => row_dn tok i, hd2, hw0, hd3, hd1⟩, rfl, rD.app ⟨r2, us2, ts, rfl, hr1, hul, hus, tok, rfl, f1, f2, f3⟩ rfl (fun k hk => ?_) ?_⟩
        · show snoc S.m S.A (rowOf names ts) k = S.A k
          unfold snoc
          rw [if_neg (by omega)]
        · show snoc S.m S.A (rowOf names ts) S.m = _
          unfold snoc
          rw [if_pos rfl]
      · rintro σ H7 ⟨x6, x7, S, rws, rfl, a7, ok, hm, r7⟩
        exact ⟨_, rfl, _, rfl, _, rfl, by show 3 ≤ sizeLine; decide, fun z hz => k z p a lp lr lw names S rws _ upd_same nd h0 h5 (a7.ex h0 (Ex.new hz)) ok (r7.ex (Ex.new hz))⟩
end
end PW

set_option Elab.async false
set_option linter.all false
set_option maxRecDepth 100000
set_option maxHeartbeats 4000000
/-! PwU: a function drawn. -/
namespace PW
open PySem PySem.Spec PyProof.Rows L2 PN LamX
abbrev sFunc : Stmt := topS 72
/-- a dict of whole numbers, is it empty? -/
def rEqE : R2 := fun x y H Q => ∃ a b ks, x = .ref a ∧ y = .ref b ∧ H a = some (.dK ks) ∧ H b = some (.dK []) ∧ Q (.bl (decide (ks.length = 0))) H
theorem op_eqE {X : Cx} (hu : X.A.units < cLine) : OpR X (compareOp .Eq) rEqE := by
  intro pins s σ H x y v u Q I rx ry h
  obtain ⟨a, b, ks, rfl, rfl, ea, eb, q⟩ := h
  obtain rfl : v = Value.ref a := rx
  obtain rfl : u = Value.ref b := ry
  obtain ⟨_, ya, va, ra, da⟩ := (show ObjOk X.prog X.w H s.heap a (.dK ks) from I.hok a _ ea)
  obtain ⟨_, yb, vb, rb, db⟩ := (show ObjOk X.prog X.w H s.heap b (.dK []) from I.hok b _ eb)
  have h1 : va.length = ks.length := ra.length.symm
  have h2 : vb.length = 0 := rb.length.symm
  refine PySem.W.keq_eq (knd := mixKind X.prog X.w) (r := true) ya yb da db hu (fun e => hits_all rb ra fun p hp => ?_) (fin_bl I q ?_)
  · have : ks = [] := List.length_eq_zero_iff.mp (by omega)
    rw [this] at hp
    cases hp
  · rw [h1, h2, Bool.and_true]
    by_cases e : ks.length = 0 <;> simp [e]
structure TF (T : List (Addr × Str)) (C N Rd s l p a lp lr lw : Addr) (names : List Str) (S : NS) (rws : List V) (H0 H : Hp) : Prop where
  la : LA T C N Rd s l p a lp lr names names S H
  lr : LR s l p a lp lr lw names S rws H
  fr : ExX (slB s l) H0 H
  h0 : 0 < names.length
structure NL (s l nl : Addr) (names : List Str) (g : Nat → Int) (H : Hp) : Prop where
  nb : ¬ slB s l nl
  ex : ∃ us, H nl = some (.lst us) ∧ us.length = names.length ∧ ∀ i, i < names.length → us[i]? = some (.int (g i))
section
variable {T : List (Addr × Str)} {C N Rd s l p a lp lr lw nl d : Addr} {names : List Str} {S : NS} {H0 H H' : Hp} {rws : List V} {g : Nat → Int} {kvs kvs' : List (Key × V)}
theorem TF.ex (h : TF T C N Rd s l p a lp lr lw names S rws H0 H) (e : Ex H H') : TF T C N Rd s l p a lp lr lw names S rws H0 H' := ⟨h.la.ex h.h0 e, h.lr.ex e, h.fr.trans e.exx, h.h0⟩
theorem TF.sta (h : TF T C N Rd s l p a lp lr lw names S rws H0 H) (S' : StAt H' s l) (e : ExE (slB s l) H H') : TF T C N Rd s l p a lp lr lw names S rws H0 H' := ⟨h.la.sta h.h0 S' e, h.lr.exx e.exx, h.fr.trans e.exx, h.h0⟩
theorem TF.dk (h : TF T C N Rd s l p a lp lr lw names S rws H0 H) (hd : H d = some (.dK kvs)) (h0 : H0 d = none) : TF T C N Rd s l p a lp lr lw names S rws H0 (L2.upd H d (.dK kvs')) := by
  have nd : ∀ {q : Addr} {o : HO}, H q = some o → (∀ ks, o ≠ .dK ks) → q ≠ d := fun {q o} hq no e => by rw [e, hd] at hq; cases hq; exact no _ rfl
  obtain ⟨dx, fs, us, o1, o2, o3⟩ := h.la.net.obj
  refine ⟨⟨h.la.st.dk hd, h.la.tb.dk hd, by rw [upd_ne (nd h.la.pt fun _ z => by cases z)]; exact h.la.pt, h.la.net.keep ((ExI.refl H).mut hd (fun z => z)) (upd_ne (nd o1 fun _ z => by cases z)) (upd_ne (nd o2 fun _ z => by cases z)) (upd_ne (nd o3 fun _ z => by cases z)), h.la.nlp, h.la.nlr, h.la.npn⟩, h.lr.keep fun r us _ _ hr => by rw [upd_ne (nd hr fun _ z => by cases z)]; exact hr, h.fr.new h0, h.h0⟩
theorem NL.ex' (h : NL s l nl names g H) (e : Ex H H') : NL s l nl names g H' := ⟨h.nb, let ⟨us, h1, h2⟩ := h.ex; ⟨us, e _ _ h1, h2⟩⟩
theorem NL.sta (h : NL s l nl names g H) (e : ExE (slB s l) H H') : NL s l nl names g H' := ⟨h.nb, let ⟨us, h1, h2⟩ := h.ex; ⟨us, e _ _ h.nb h1, h2⟩⟩
theorem NL.dk (h : NL s l nl names g H) (hd : H d = some (.dK kvs)) : NL s l nl names g (L2.upd H d (.dK kvs')) := ⟨h.nb, let ⟨us, h1, h2⟩ := h.ex; ⟨us, by rw [upd_ne fun e => by rw [e, hd] at h1; cases h1]; exact h1, h2⟩⟩
theorem NL.of (hS : StAt H s l) {v : V} (e : Ex H H') (h : (isLsN H names.length fun i => isX (.int (g i))).p v H') : ∃ nl, v = .ref nl ∧ NL s l nl names g H' := by
  obtain ⟨r, us, rfl, h1, h2, h3, h4⟩ := h
  refine ⟨r, rfl, ?_, us, h2, h3, fun i hi => ?_⟩
  · obtain ⟨_, d, vs, _, g1, g2⟩ := hS
    rintro (rfl | rfl)
    · rw [g1] at h1; cases h1
    · rw [g2] at h1; cases h1
  · obtain ⟨u, k1, rfl⟩ := h4 i hi
    exact k1
end
def qFunc : Str := "_law_function.<locals>.<lambda>"
def spFunc (T : List (Addr × Str)) (C N Rd : Addr) : Sp := fun vs H Q _ => ∃ (s l p a lp lr lw : Addr) (names : List Str) (S : NS) (rws : List V), vs = [.ref s, .ref p, .ref lw] ∧ TF T C N Rd s l p a lp lr lw names S rws H H ∧ names.length ≤ 5 ∧ names.Nodup ∧ S.m ≤ 7 ∧
  ∀ (z : V) (ts : List (Str × Int)) (H' : Hp), StAt H' s l → ExX (slB s l) H H' → Tabs T H' → (isTm ts).p z H' → TmOk names ts → Q z H'
def dInts (xs : List Int) : PyData := .list (xs.map PyData.int)
theorem canLay_ll : ∀ xss : List (List Int), PyData.canLayAll0 (xss.map dInts) = true
  | [] => by simp [PyData.canLayAll0]
  | x :: r => by
    simp only [List.map_cons, PyData.canLayAll0, canLay_ll r, Bool.and_true]
    exact SeqAt.canLay_of_shaped (PySem.W.shaped_ints x)
theorem depth_ll : ∀ xss : List (List Int), PyData.depthAll (xss.map dInts) ≤ 2
  | [] => by simp [PyData.depthAll]
  | x :: r => by
    have h1 := depth_ll r
    have h2 := PySem.W.depthAll_ints x
    have h3 : PyData.depth (dInts x) ≤ 2 := by unfold dInts; simp only [PyData.depth]; omega
    simp only [List.map_cons, PyData.depthAll]
    omega
theorem shaped_ll (xss : List (List Int)) : SeqAt.shaped (.list (xss.map dInts)) = true := by
  have h1 := depth_ll xss
  have h2 : PyData.depth (.list (xss.map dInts)) ≤ 64 := by simp only [PyData.depth]; omega
  show (PyData.canLay0 (.list (xss.map dInts)) && decide (PyData.depth (.list (xss.map dInts)) ≤ 64)) = true
  rw [Bool.and_eq_true]
  exact ⟨by simp only [PyData.canLay0]; exact canLay_ll xss, decide_eq_true h2⟩
theorem dp_ints {K : PySem.W.Frag} {H : Hp} : ∀ xs : List Int, DpAll K H (xs.map V.int) (xs.map PyData.int)
  | [] => .nil
  | x :: r => .cons (.int x) (dp_ints r)
theorem dp_rows {K : PySem.W.Frag} {H : Hp} : ∀ rws : List V, (∀ v ∈ rws, ∃ (r : Addr) (xs : List Int), v = .ref r ∧ H r = some (.lst (xs.map V.int))) → ∃ xss : List (List Int), DpAll K H rws (xss.map dInts) ∧ xss.length = rws.length
  | [], _ => ⟨[], .nil, rfl⟩
  | v :: tl, h => by
    obtain ⟨xss, h1, h2⟩ := dp_rows (K := K) tl fun u hu => h u (List.mem_cons_of_mem _ hu)
    obtain ⟨r, xs, rfl, hr⟩ := h v List.mem_cons_self
    exact ⟨xs :: xss, .cons (.lst (SqL.of hr) (dp_ints xs)) h1, by rw [List.length_cons, List.length_cons, h2]⟩
theorem LR.ints {s l p a lp lr lw : Addr} {names : List Str} {S : NS} {rws : List V} {H : Hp} (h : LR s l p a lp lr lw names S rws H) : ∀ v ∈ rws, ∃ (r : Addr) (xs : List Int), v = .ref r ∧ H r = some (.lst (xs.map V.int)) := fun v hv => by
  obtain ⟨i, hi, rfl⟩ := List.mem_iff_getElem.mp hv
  obtain ⟨v, h1, r, us, ts, rfl, h3, h4, h5, _⟩ := h.rk i (by rw [← h.rl]; exact hi)
  rw [List.getElem?_eq_getElem hi] at h1
  refine ⟨r, (List.range names.length).map fun i => coef ts (names.getD i default), Option.some.inj h1, ?_⟩
  rw [h3]
  congr 2
  refine List.ext_getElem? fun j => ?_
  by_cases hj : j < names.length
  · rw [h5 j hj, List.getElem?_map, List.getElem?_map, List.getElem?_range hj]
    rfl
  · rw [List.getElem?_eq_none (by omega), List.getElem?_eq_none (by simp; omega)]
theorem ev_abs {σ : L2.St} {H : Hp} {te : TE} {n : Int} (h : Ev te σ H (isX (.int n))) : Ev (tCB (fun xs H Q => ∃ i, xs = [V.int i] ∧ Q (.int (if i < 0 then -i else i)) H) (tCons te tNil)) σ H (isX (.int (if n < 0 then -n else n))) := fun H1 e Q q =>
  h H1 e _ fun v H2 e2 p => by
    obtain rfl : v = .int n := p
    exact ⟨n, rfl, q _ _ e2 rfl⟩
theorem names_at {names : List Str} {j : Nat} (h : j < names.length) : (names.map V.str)[j]? = some (.str names[j]) := by
  rw [List.getElem?_map, List.getElem?_eq_getElem h]
  rfl
section
variable {P : Program} {w : World} {K : PySem.W.Frag} {mg : Str → Option Value} {base : Heap} {f fT fTe c Pt C N Rd : Addr} {fd fdT fdTe : FuncData} {T : List (Addr × Str)}
theorem scFunc : FnScope ["_law_state_here", "_law_points_here", "_law_rows", "_law_numbers", "_law_k", "_law_row_here", "_law_named", "_law_j", "_law_name"] ["_law_state_here", "_law_points_here", "_law_rows"] (defScope sFunc) := ⟨rfl, rfl, rfl, by decide +kernel, rfl, by decide +kernel, by decide +kernel⟩
theorem ok_func (F : FnP K "_law_function" "_law_function" sFunc f fd) (hcode : fd.code = .ref c) (TB : TabB base mg c Pt) (hT1 : (Pt, qFunc) ∈ T) (hT2 : ∀ p ∈ T, p.1 = Pt → p.2 = qFunc)
    (mb : mg "abs" = none) (mn : mg "len" = none) (mr : mg "range" = none) (mt : mg "tuple" = none) (mso : mg "sorted" = none) (mst : mg "str" = none) (DT : DefOk P w K mg base CX0 "_law_take" 2 ["_law_state_here", "_law_limit"] spTake fT fdT)
    (DTe : DefOk P w K mg base CX0 "_law_terms" 3 ["_law_state_here", "_law_points_here"] (spTerms T) fTe fdTe) :
    FnOk P w K mg base CX0 4 f fd ["_law_state_here", "_law_points_here", "_law_rows"] (spFunc T C N Rd) := by
  refine okC F hcode scFunc (fun vs H Q E h => ?_) (fun A outer s₀ H vs Q E hr h => ?_)
  · obtain ⟨s, l, p, a, lp, lr, lw, names, S, rws, rfl, _⟩ := h
    rfl
  · obtain ⟨s, l, p, a, lp, lr, lw, names, S, rws, rfl, t0, h5, nd, hm, k⟩ := h
    have hr3 : Room 3 _ := hr
    have hr2 : Room 2 _ := hr.mono (by decide)
    have hr1 : Room 1 _ := hr.mono (by decide)
    refine ⟨_, PSs.nox (pss_cons (ps_set (i := 3) scFunc.nd rfl (Or.inr rfl) (pe_lc (own := [("_law_name", 8)]) (g := (gName 8)) (tt := tYes) rfl scFunc.nd (pi_list (pv 1)) (blkOk_by (N := ["_law_state_here", "_law_points_here", "_law_rows", "_law_numbers", "_law_k", "_law_row_here", "_law_named", "_law_j", "_law_name"]) (sc := defScope sFunc) (by decide +kernel)) (fun _ _ _ _ _ => (pg_name (i := 8) scFunc.nd rfl (Or.inl rfl))) (fun _ _ _ _ _ => pts_nil) (fun _ _ _ _ _ => pe_int))) (pss_cons (ps_if (PW.pt (pw_and (pt_cmpR (op_neD hr1.units) (pv 2) (pe_lst pa_nil) (nomark _)) (pw_and1 (pt_cmpR op_eq (pe_cd DT hr2 rfl pass0 (pa_cons (pv 0) (pa_cons pe_int pa_nil))) pe_int (nomark _))))) (pss_one (ps_for PassesOwn.never rfl (pi_range1 rfl mr (pa_cons (pe_op op_add pe_int (pe_cd DT hr2 rfl pass0 (pa_cons (pv 0) (pa_cons pe_int pa_nil)))) pa_nil)) (pg_name (i := 4) scFunc.nd rfl (Or.inl rfl)) (pss_cons (ps_set (i := 5) scFunc.nd rfl (Or.inr rfl) (pe_ix ix_list (pv 2) (pe_cd DT hr2 rfl pass0 (pa_cons (pv 0) (pa_cons (pe_callB call_len_seq (by rfl) mn PySem.boot_len (pa_cons (pv 2) pa_nil)) pa_nil))) (fun _ _ => rfl))) (pss_one (ps_set (i := 3) scFunc.nd rfl (Or.inr rfl) (pe_lc (own := [("_law_j", 7)]) (g := (gName 7)) (tt := tYes) rfl scFunc.nd (pi_range1 rfl mr (pa_cons (pe_callB call_len_seq (by rfl) mn PySem.boot_len (pa_cons (pv 1) pa_nil)) pa_nil)) (blkOk_by (N := ["_law_state_here", "_law_points_here", "_law_rows", "_law_numbers", "_law_k", "_law_row_here", "_law_named", "_law_j", "_law_name"]) (sc := defScope sFunc) (by decide +kernel)) (fun _ _ _ _ _ => (pg_name (i := 7) scFunc.nd rfl (Or.inl rfl))) (fun _ _ _ _ _ => pts_nil) (fun _ _ _ _ _ => (pe_op op_add (pe_ix (r := rIxL K) ix_list (pv 3) (pv 7) (fun _ _ => rfl)) (pe_ix (r := rIxL K) ix_list (pv 5) (pv 7) (fun _ _ => rfl)))))))))) pss_nil) (pss_cons (ps_set (i := 6) scFunc.nd rfl (Or.inr rfl) (pe_dnewK)) (pss_cons (ps_for PassesOwn.never rfl (pi_range1 rfl mr (pa_cons (pe_callB call_len_seq (by rfl) mn PySem.boot_len (pa_cons (pv 1) pa_nil)) pa_nil)) (pg_name (i := 7) scFunc.nd rfl (Or.inl rfl)) (pss_one (ps_if (PW.pt (pw_and (pt_cmpR op_ne (pe_ix (r := rIxL K) ix_list (pv 3) (pv 7) (fun _ _ => rfl)) pe_int (nomark _)) (pw_and1 (pt_cmpR op_lt (pe_callB call_abs (by rfl) mb (by decide +kernel) (pa_cons (pe_ix (r := rIxL K) ix_list (pv 3) (pv 7) (fun _ _ => rfl)) pa_nil)) pe_int (nomark _))))) (pss_one (ps_dput (hu_of hr1) (pv 6) (pe_ix ix_list (pv 1) (pv 7) (fun _ _ => rfl)) (pe_ix (r := rIxL K) ix_list (pv 3) (pv 7) (fun _ _ => rfl)) rfl)) pss_nil))) (pss_cons (ps_if (pt_cmpR (op_eqE hr1.units0) (pv 6) (pe_dnewK) (nomark _)) (pss_one (ps_ret (pe_cd DTe hr3 rfl pass0 (pa_cons (pv 0) (pa_cons (pv 1) pa_nil))))) pss_nil) (pss_one (ps_ret (pe_callTy (r := rTupF K) call_tupF (by rfl) mt (by decide +kernel) (pa_cons (pe_lc (own := [("_law_name", 8)]) (g := (gName 8)) (tt := tYes) rfl scFunc.nd (pi_listK (K := K) rfl (pe_sortedLam (T := T) rfl ⟨⟨_, _, _, rfl⟩, fun _ _ _ _ _ => rfl, fun _ => rfl, rfl, rfl, rfl, by decide +kernel, by decide +kernel, rfl, rfl, rfl⟩ (by rfl) mso mst TB rfl hT1 hT2 hr1.u66 hr1.depth (pv 6))) (blkOk_by (N := ["_law_state_here", "_law_points_here", "_law_rows", "_law_numbers", "_law_k", "_law_row_here", "_law_named", "_law_j", "_law_name"]) (sc := defScope sFunc) (by decide +kernel)) (fun _ _ _ _ _ => (pg_name (i := 8) scFunc.nd rfl (Or.inl rfl))) (fun _ _ _ _ _ => pts_nil) (fun _ _ _ _ _ => (pe_tup (pa_cons (pv 8) (pa_cons (pe_dget (hu_of hr1) (pv 6) (pv 8) (fun _ _ => rfl)) pa_nil))))) pa_nil))))))))), ?_⟩
    refine st_set (P := isLsN H names.length fun i => isX (.int 0)) (ev_mapLN (K := K) (k := 8) (Pi := fun i => isX (.str (names.getD i default))) (Pk := fun _ => isX (.int 0)) (by omega) (ev_var (i := 1) rfl ⟨p, _, rfl, t0.la.pt, List.length_map _, fun i hi => ⟨_, by rw [List.getElem?_map, List.getElem?_eq_getElem hi]; rfl, by show V.str _ = V.str (names.getD i default); rw [List.getD_eq_getElem?_getD, List.getElem?_eq_getElem hi]; rfl⟩⟩) (fun _ _ => im_X) (fun _ => rfl) fun i x H3 hi e3 hx => ev_c) fun v H1 e1 p1 => ?_
    obtain ⟨nl, rfl, n1⟩ := NL.of (g := fun _ => 0) t0.la.st e1 p1
    have t1 := t0.ex e1
    refine use_tail (fun σ' H' => ∃ nl g x4 x5, σ' = [some (.ref s), some (.ref p), some (.ref lw), some (.ref nl), x4, x5, none, none, none] ∧ TF T C N Rd s l p a lp lr lw names S rws H H' ∧ NL s l nl names g H') ?_ fun tail => ?_
    · rintro σ' H2 ⟨nl, g, x4, x5, rfl, t2, n2⟩
      intro d hd
      have t3 : TF T C N Rd s l p a lp lr lw names S rws H2 (L2.upd H2 d (.dK [])) := TF.ex ⟨t2.la, t2.lr, ExX.refl _, t2.h0⟩ (Ex.new hd)
      have n3 := n2.ex' (Ex.new (o := .dK []) hd)
      have d3 : L2.upd H2 d (.dK []) d = some (.dK (kTm [])) := upd_same
      generalize L2.upd H2 d (.dK []) = K1 at t3 n3 d3 ⊢
      dsimp only [gName]
      show tSeq (tFor _ _ _) _ _ [some (.ref s), some (.ref p), some (.ref lw), some (.ref nl), x4, x5, some (.ref d), none, none] K1
      have hlen : Ev (tCB (rLen K) (tCons (tVar 1) tNil)) [some (.ref s), some (.ref p), some (.ref lw), some (.ref nl), x4, x5, some (.ref d), none, none] K1 (isX (.int (names.length : Int))) := by
        have := ev_lenAt (K := K) (σ := [some (.ref s), some (.ref p), some (.ref lw), some (.ref nl), x4, x5, some (.ref d), none, none]) (i := 1) rfl t3.la.pt
        rwa [List.length_map] at this
      refine st_forR (n := names.length) hlen (by omega) (fun j σ H' => ∃ m x7, σ = [some (.ref s), some (.ref p), some (.ref lw), some (.ref nl), x4, x5, some (.ref d), x7, none] ∧ TF T C N Rd s l p a lp lr lw names S rws H2 H' ∧ NL s l nl names g H' ∧ H' d = some (.dK (kTm m)) ∧ DI names m ∧ m.length ≤ j)
        (fun H3 e3 => ⟨[], none, rfl, t3.ex e3, n3.ex' e3, e3 _ _ d3, ⟨List.nodup_nil, fun p hp => by cases hp⟩, Nat.le_refl _⟩) ?_ ?_
      · rintro j σ H3 hj ⟨m, x7, rfl, t4, n4, d4, di, ml⟩
        dsimp only [gName]
        have ixn : Ev (tOp (rIxL K) (tVar 3) (tVar 7)) [some (.ref s), some (.ref p), some (.ref lw), some (.ref nl), x4, x5, some (.ref d), some (.int (j : Int)), none] H3 (isX (.int (g j))) := fun H4 e4 Q q => by
          obtain ⟨us, h1, h2, h3⟩ := n4.ex
          exact ⟨_, rfl, _, rfl, nl, us, (j : Int), _, rfl, rfl, SqL.of (e4 _ _ h1), atI_at (h3 j hj), q _ _ (Ex.refl _) rfl⟩
        refine st_if (evT_and (evT_neI ixn (ev_c (x := .int 0))) fun _ => evT_bI (g := fun i j => decide (i < j)) (ev_abs ixn) (ev_c (x := .int 10))) (fun hb H4 e4 => ?_) fun _ H4 e4 => ⟨m, _, rfl, t4.ex e4, n4.ex' e4, e4 _ _ d4, di, by omega⟩
        rw [Bool.and_eq_true, decide_eq_true_eq] at hb
        refine (ixn.mono e4).use fun v H5 e5 p5 => ?_
        obtain rfl : v = .int (g j) := p5
        have t5 := (t4.ex e4).ex e5
        have d5 := e5 _ _ (e4 _ _ d4)
        obtain ⟨m', hm1, hm2, hm3, _⟩ := di.put (y := names[j]) (c := g j) (List.getElem_mem hj) (by have := hb.2; split at this <;> omega)
        refine ⟨_, rfl, _, rfl, _, rfl, p, _, (j : Int), _, rfl, rfl, SqL.of t5.la.pt, atI_at (names_at hj), d, _, rfl, DPut.k (k := .inr names[j]) d5 (by show (kTm m).length < sizeLine; unfold kTm; rw [List.length_map]; exact small1000 (by omega)), ?_⟩
        rw [hm1]
        exact ⟨m', _, rfl, t5.dk d5 hd, ((n4.ex' e4).ex' e5).dk d5, upd_same, hm2, by omega⟩
      · rintro σ H3 ⟨m, x7, rfl, t4, n4, d4, di, ml⟩
        refine ⟨_, rfl, fun q hq => ⟨d, q, kTm m, rfl, rfl, (Ex.new hq) _ _ d4, upd_same, _, rfl, ?_⟩⟩
        have t5 := t4.ex (Ex.new (o := .dK []) hq)
        have d5 := Ex.new (o := .dK []) hq _ _ d4
        generalize L2.upd H3 q (.dK []) = H4 at t5 d5 ⊢
        cases decide ((kTm m).length = 0) with
        | true =>
          dsimp only
          rw [if_pos rfl]
          exact ⟨_, rfl, _, rfl, s, l, p, names, rfl, t5.la.st, t5.la.pt, t5.h0, by omega, t5.la.tb, fun z ts H' S' x' T' htm tok => k z ts H' S' ((t2.fr.trans t5.fr).trans x') T' htm tok⟩
        | false =>
          dsimp only
          rw [if_neg Bool.false_ne_true]
          refine ⟨_, rfl, d, kTm m, m.map Prod.fst, rfl, d5, keys_kT m, by rw [List.length_map]; omega, t5.la.tb, fun ys p2 H5 perm eN tb5 hp2 => ?_⟩
          have d6 := eN _ _ d5 (fun _ z => by cases z)
          have S6 := t5.la.st.n eN
          have x6 : Ex H5 (L2.upd H5 p2 (.lst (ys.map V.str))) := Ex.new hp2
          have p6 : L2.upd H5 p2 (.lst (ys.map V.str)) p2 = some (.lst (ys.map V.str)) := upd_same
          generalize L2.upd H5 p2 (.lst (ys.map V.str)) = H6 at x6 p6 ⊢
          have yl : ys.length = (tsOf m ys).length := (List.length_map _).symm
          have hy2 : ys.length ≤ 1000 := by rw [perm.length_eq, List.length_map]; omega
          refine Ev.use (te := tCB (rTupF K) (tCons (tLc (iList K (tC (.ref p2))) (gName 8) tYes (tTup (tCons (tVar 8) (tCons (tDGet (tVar 6) (tVar 8)) tNil))) [8]) tNil)) (P := isTm (tsOf m ys)) (ev_tupF (ev_mapL (K := K) (k := 8) (Pi := fun i => isX (.str (ys.getD i default))) (by rw [← yl]; exact hy2) ?_ (fun _ _ => im_Tp) (fun _ => rfl) fun i x H7 hi e7 hx => ?_)) fun z H7 e7 p7 => k z _ H7 ((S6.ex x6).ex e7) ((t2.fr.trans t5.fr).trans (eN.exx.trans (x6.trans e7).exx)) ((tb5.ext x6).ext e7) p7 (di.tm perm)
          · refine fun H7 e7 Q q => q _ _ (Ex.refl _) ⟨p2, _, rfl, e7 _ _ p6, by rw [List.length_map]; exact yl, fun i hi => ⟨_, by rw [List.getElem?_map, List.getElem?_eq_getElem (by rw [yl]; exact hi)]; rfl, ?_⟩⟩
            show V.str _ = V.str (ys.getD i default)
            rw [List.getD_eq_getElem?_getD, List.getElem?_eq_getElem (by rw [yl]; exact hi)]
            rfl
          · obtain rfl : x = .str (ys.getD i default) := hx
            have hi' : i < ys.length := by rw [yl]; exact hi
            have hmem : ys.getD i default ∈ m.map Prod.fst := by
              rw [← perm.mem_iff, List.getD_eq_getElem?_getD, List.getElem?_eq_getElem hi']
              exact List.getElem_mem hi'
            obtain ⟨c, hc1, hc2⟩ := lookup_in hmem
            have e9 : (tsOf m ys).getD i default = (ys.getD i default, c) := by
              unfold tsOf
              rw [List.getD_eq_getElem?_getD, List.getElem?_map, List.getD_eq_getElem?_getD, List.getElem?_eq_getElem hi'] at *
              show (ys[i], (m.lookup ys[i]).getD 0) = (ys[i], c)
              rw [show m.lookup ys[i] = some c from hc1]
              rfl
            rw [e9]
            exact ev_tup2 (ev_var (i := 8) rfl rfl) (ev_dget (i := 6) (j := 8) rfl rfl (e7 _ _ (x6 _ _ d6)) hc1)
    · refine ⟨_, rfl, by show 0 ≤ sizeLine; decide, fun q hq => ?_⟩
      have t2 := t1.ex (Ex.new (o := .lst []) hq)
      have n2 := n1.ex' (Ex.new (o := .lst []) hq)
      have q2 : L2.upd H1 q (.lst []) q = some (.lst []) := upd_same
      generalize L2.upd H1 q (.lst []) = H2 at t2 n2 q2 ⊢
      obtain ⟨xss, dp, xl⟩ := dp_rows (K := K) rws t2.lr.ints
      refine ⟨_, _, .lst (SqL.of t2.lr.rw) dp, .lst (SqL.of q2) .nil, shaped_ll xss, shaped_ll [], _, rfl, ?_⟩
      have hpos : (!PyData.eqv (.list (xss.map dInts)) (.list [])) = true → 0 < rws.length := fun h => by
        cases xss with
        | nil => simp [PyData.eqv, PyData.eqvAll] at h
        | cons x r => rw [← xl]; exact Nat.succ_pos _
      generalize (!PyData.eqv (.list (xss.map dInts)) (.list [])) = bb at hpos ⊢
      cases bb with
      | false => exact tail _ _ ⟨nl, _, none, none, rfl, t2, n2⟩
      | true =>
        have hp0 := hpos rfl
        dsimp only
        rw [if_pos rfl]
        show tCall spTake [] E0 (tCons (tVar 0) (tCons (tC (.int 2)) tNil)) _ H2 _
        refine take_c (i := 0) rfl t2.la.st (by decide) (by decide) fun e H3 e0 e1 S3 x3 => ?_
        have t3 := t2.sta S3 x3
        have n3 := n2.sta x3
        refine ⟨rfl, _, rfl, ?_⟩
        cases decide (V.int e = V.int 0) with
        | false => exact tail _ _ ⟨nl, _, none, none, rfl, t3, n3⟩
        | true =>
          rw [if_pos rfl]
          show tSeq (tFor _ _ _) _ _ [some (.ref s), some (.ref p), some (.ref lw), some (.ref nl), none, none, none, none, none] H3
          refine for_take1 (i := 0) (n := 2) ev_c rfl t3.la.st (by decide) (by decide) fun d H4 d0 d1 S4 x4 => ?_
          obtain ⟨d, rfl⟩ := Int.eq_ofNat_of_zero_le d0
          have t4 := t3.sta S4 x4
          have n4 := n3.sta x4
          have hd : Ev (tC (.int (1 + (d : Int)))) [some (.ref s), some (.ref p), some (.ref lw), some (.ref nl), none, none, none, none, none] H4 (isX (.int ((1 + d : Nat) : Int))) := by
            rw [show ((1 + d : Nat) : Int) = 1 + (d : Int) by omega]
            exact ev_c
          refine st_forR (n := 1 + d) hd (by omega) (fun i σ H' => ∃ nl g x4 x5, σ = [some (.ref s), some (.ref p), some (.ref lw), some (.ref nl), x4, x5, none, none, none] ∧ TF T C N Rd s l p a lp lr lw names S rws H H' ∧ NL s l nl names g H')
            (fun H5 e5 => ⟨nl, _, none, none, rfl, t4.ex e5, n4.ex' e5⟩) ?_ ?_
          · rintro i σ H5 hi ⟨nl, g, x4, x5, rfl, t5, n5⟩
            refine ⟨_, rfl, ?_⟩
            show tCall spTake [] E0 (tCons (tVar 0) (tCons (tCB (rLen K) (tCons (tVar 2) tNil)) tNil)) _ _ _
            refine take_at (i := 0) (n := (rws.length : Int)) (ev_lenAt (K := K) (i := 2) rfl t5.lr.rw) rfl t5.la.st (by omega) (by have := t5.lr.rl; omega) fun j H6 j0 j1 S6 x6 => ?_
            obtain ⟨j, rfl⟩ := Int.eq_ofNat_of_zero_le j0
            have t6 := t5.sta S6 x6
            have n6 := n5.sta x6
            obtain ⟨v, hv, r, us, ts, rfl, hr1, hr2, hr3, _⟩ := t6.lr.rk j (by have := t6.lr.rl; omega)
            refine ⟨lw, rws, (j : Int), _, rfl, rfl, SqL.of t6.lr.rw, atI_at hv, ?_⟩
            dsimp only [gName]
            refine Ev.use (P := isLsN H6 names.length fun i => isX (.int (g i + coef ts (names.getD i default)))) (ev_mapRN (k := 7) (Pk := fun i => isX (.int (g i + coef ts (names.getD i default)))) (by omega) ?_ (fun _ _ => im_X) (fun _ => rfl) fun i H7 hi e7 => ?_) fun v H7 e7 p7 => ?_
            · have := ev_lenAt (K := K) (σ := [some (.ref s), some (.ref p), some (.ref lw), some (.ref nl), some (.int (i : Int)), some (.ref r), none, none, none]) (i := 1) rfl t6.la.pt
              rwa [List.length_map] at this
            · refine ev_addI (fun H8 e8 Q q => ?_) (fun H8 e8 Q q => ?_)
              · obtain ⟨us, h1, h2, h3⟩ := n6.ex
                exact ⟨_, rfl, _, rfl, nl, us, (i : Int), _, rfl, rfl, SqL.of (e8 _ _ (e7 _ _ h1)), atI_at (h3 i hi), q _ _ (Ex.refl _) rfl⟩
              · exact ⟨_, rfl, _, rfl, r, us, (i : Int), _, rfl, rfl, SqL.of (e8 _ _ (e7 _ _ hr1)), atI_at (hr3 i hi), q _ _ (Ex.refl _) rfl⟩
            · obtain ⟨nl', rfl, n7⟩ := NL.of (g := fun i => g i + coef ts (names.getD i default)) t6.la.st e7 p7
              exact ⟨nl', _, _, _, rfl, t6.ex e7, n7⟩
          · rintro σ H5 ⟨nl, g, x4, x5, rfl, t5, n5⟩
            exact tail _ _ ⟨nl, g, x4, x5, rfl, t5, n5⟩
end
end PW

set_option Elab.async false
set_option linter.all false
set_option maxRecDepth 100000
set_option maxHeartbeats 4000000
/-! PwV: the two tries. -/
namespace PW
open PySem PySem.Spec PyProof.Rows L2 PN
abbrev sIn : Stmt := topS 73
abbrev sVal : Stmt := topS 74
def spIn (C N Rd : Addr) : Sp := fun vs H Q _ => ∃ (a lp lr l : Addr) (names dn : List Str) (S : NS) (pl : Nat → Nat), vs = [.ref a, .ref l] ∧ NetAt C N Rd H a lp lr names S ∧ H l = some (.lst (dn.map V.str)) ∧ dn.Nodup ∧ (∀ j, j < dn.length → pl j < S.n ∧ dn[j]? = names[pl j]?) ∧ dn.length ≤ 300 ∧ S.n ≤ 300 ∧ S.m ≤ 300 ∧ MovOk S ∧ HinOk S pl dn.length ∧ (∀ i, i < S.n → Sm (hin S pl dn.length i)) ∧
  (kern (S.m + dn.length) S.n (wk S pl) = [] → ∀ z H', Ex H H' → (isLs S.n fun i => isPb LIM (hin S pl dn.length i)).p z H' → Q z H') ∧ (kern (S.m + dn.length) S.n (wk S pl) ≠ [] → ∀ H', Ex H H' → Q .non H')
def spVal (C N Rd : Addr) : Sp := fun vs H Q _ => ∃ (a lp lr : Addr) (tv : V) (names : List Str) (S : NS) (ts : List (Str × Int)), vs = [.ref a, tv] ∧ NetAt C N Rd H a lp lr names S ∧ (isTm ts).p tv H ∧ TmOk names ts ∧ FnNum S (rowOf names ts) ∧ Sm (dt S.n (rowOf names ts) (hts S)) ∧ (∀ j, j < (mvs S).length → ∀ i, i < S.n → Sm (mv S j i)) ∧
  ((∀ j, j < (mvs S).length → dt S.n (rowOf names ts) (mv S j) = 0) → ∀ z H', Ex H H' → (isPr (isX (.str "value")) (isPb LIM (dt S.n (rowOf names ts) (hts S)))).p z H' → Q z H') ∧
  ∀ j, j < (mvs S).length → dt S.n (rowOf names ts) (mv S j) ≠ 0 → ∀ z H', Ex H H' → (isPr (isX (.str "moved")) (isLs S.n fun i => isPb LIM (mv S j i))).p z H' → Q z H'
section
variable {P : Program} {w : World} {K : PySem.W.Frag} {mg : Str → Option Value} {base : Heap} {f C N Rd CW CN fH fV fP fPs : Addr} {fd fdH fdV fdP fdPs : FuncData}
theorem scIn : FnScope ["_law_net_here", "_law_names"] ["_law_net_here", "_law_names"] (defScope sIn) := ⟨rfl, rfl, rfl, by decide +kernel, rfl, by decide +kernel, by decide +kernel⟩
theorem scVal : FnScope ["_law_net_here", "_law_terms_here", "e"] ["_law_net_here", "_law_terms_here"] (defScope sVal) := ⟨rfl, rfl, rfl, by decide +kernel, rfl, by decide +kernel, by decide +kernel⟩
theorem ok_in (F : FnP K "_law_in" "_law_in" sIn f fd) (XW : ExCls P w K mg base "WeakDatum" CW) (DH : DefOk P w K mg base (L2.CX P w) "heights_in" 9 ["net", "names"] (spHin C N Rd CW) fH fdH) (DPs : DefOk P w K mg base CX0 "_law_pairs" 1 ["_law_vector"] (spPairs C) fPs fdPs) :
    FnOk P w K mg base CX0 10 f fd ["_law_net_here", "_law_names"] (spIn C N Rd) := by
  refine F.ok scIn (fun vs H Q E h => ?_) (fun cdv A outer s H vs Q E hr h => ?_)
  · obtain ⟨a, lp, lr, l, names, dn, S, pl, rfl, _⟩ := h
    rfl
  · obtain ⟨a, lp, lr, l, names, dn, S, pl, rfl, nat, hl, nd, hpl, hq, hn, hm, mo, ok, sm, k0, k1⟩ := h
    have hr9 : Room 9 _ := hr
    have hr1 : Room 1 _ := hr.mono (by decide)
    refine ⟨_, (pss_one (ps_try_only (tb := fun W => tRet (tCall (spPairs C) [] E0 (tCons (tCallS (spHin C N Rd CW) (WE W) (tCons (tVar 0) (tCons (tVar 1) tNil))) tNil))) (ts := fun _ _ _ => tRet (tC .non)) (Wout := fun _ _ _ _ => False) rfl rfl ⟨rfl, by decide, .inl XW.gl⟩ takes0
      (fun W pn xe tk _ => pss_one (ps_ret (by exact (pe_cd DPs hr1 rfl pass0 (by exact (pa_cons (pe_callS DH.ok hr9 rfl DH.gl DH.kp DH.bd (fun σ => passAt tk σ) (by exact (pa_cons (pv 0) (pa_cons (pv 1) pa_nil)))) pa_nil)))))) (fun a oe cls d pn _ _ => pss_one (ps_ret pe_non)))), ?_⟩
    refine ⟨_, rfl, _, rfl, a, lp, lr, l, names, dn, S, pl, rfl, nat, hl, nd, hpl, hq, hn, hm, mo, ok, fun hk z H' e hz => ?_, fun hk d H' e => ?_⟩
    · exact ⟨z, S.n, _, rfl, hz, by omega, sm, fun z' H2 e2 p => k0 hk z' H2 (e.trans e2) p⟩
    · exact ⟨true, XW.te, fun _ b hb => k1 hk H' e, fun q => nomatch q⟩
end
end PW

set_option Elab.async false
set_option linter.all false
set_option maxRecDepth 100000
set_option maxHeartbeats 4000000
/-! PwHa: walking a tuple while an exception is handled. -/
namespace PW
open PySem PySem.Spec PyProof.Rows HotX
section
variable {prog : Program} {w : World} {A : Around} {E : Value → Shared → Prop} {s : Shared}
theorem next_tuple_end_hot {it t x1 : Addr} {i : Nat} {items} {Q : Option Value → Shared → Prop} (hot : HotAt A x1 s.heap) (hx1 : x1 ≠ it)
    (hit : s.heap.IsTupleIter it t i) (ht : s.heap.IsTuple t items) (hx : items[i]? = none)
    (hQ : ∀ h', Heap.ExtBut it s.heap h' → Q none { s with heap := h' }) : wpAny (model prog w) A (pyNext (.ref it)) Q E s := by
  obtain ⟨o, ho, hc, hd⟩ := id hit
  obtain ⟨ol, hol, _, nl, hdl⟩ := ht
  obtain ⟨hh, o1, vs1, h1, d1, c1⟩ := hot
  unfold pyNext
  refine wpAny_bind (wpAny_attempt (wpAny_callSpecial?_slot (name := Str.ofString "__next__") hit.typeIs F.slot_tuple_iterator_next
    (wpAny_call_entry F.slot_tuple_iterator_next hit.typeIs F.entry_tuple_iterator_next ?_ (F.args_tuple_iterator_next_1 _))))
  show wpAny _ _ (field (.ref it) 0 >>= _) _ _ s
  refine wpAny_bind (wpAny_field ho hd (x := .ref t) rfl ?_)
  show wpAny _ _ (if (Value.ref t == Value.none) = true then _ else _) _ _ s
  rw [if_neg (show ¬ ((Value.ref t == Value.none) = true) from Bool.false_ne_true)]
  show wpAny _ _ (field (.ref it) 1 >>= _) _ _ s
  refine wpAny_bind (wpAny_field ho hd (x := .int i 0) rfl ?_)
  show wpAny _ _ (seqItems? (.ref t) >>= _) _ _ s
  refine wpAny_bind (wpAny_seqItems hol hdl ?_)
  simp only [Int.toNat_natCast, hx]
  refine wpAny_bind (wpAny_rule (wpAny_bind (wpAny_setField ho hd (by simp) ?_)))
  show wpAny _ _ (newExc (.type "StopIteration") [] >>= _) _ _ _
  refine wpAny_bind ?_
  simp only [newExc, newTuple]
  refine wpAny_bind (wpAny_newObj_type ?_ (by size_fits))
  refine wpAny_bind (m := firstArgMember _ _) (wpAny_of_eq (a := Value.none) (by first | rfl | (simp only [firstArgMember]; rfl)) ?_)
  refine wpAny_newObj_type ?_ (by size_fits)
  generalize hK : s.heap.update it _ = K0
  have h1' : K0.get? x1 = some o1 := by rw [← hK]; exact (Heap.get?_update_other s.heap _ (Ne.symm hx1)).trans h1
  have e0 : Heap.ExtBut it s.heap K0 := by rw [← hK]; exact (Heap.SameBut.update ..).extBut
  refine raiseNew_hot ⟨hh, o1, vs1, Heap.get?_push_of_some _ (Heap.get?_push_of_some _ h1'), d1, c1⟩ (Nat.ne_of_lt (Heap.lt_size (Heap.get?_push_of_some _ h1'))) (Heap.get?_push_size _ rfl) rfl (by first | (simp; done) | (simp; omega)) ?_
  refine wpAny_bind (wpAny_isInstance (T := "StopIteration") (b := true) ⟨_, Heap.get?_update_self _ (Heap.get?_push_size _ rfl) rfl, rfl⟩ isSubtype_stop ?_)
  refine wpAny_pure (hQ _ fun b o e n => ?_)
  have e1 : K0.get? b = some o := e0 b o e n
  rw [Heap.get?_update_other _ _ (Nat.ne_of_gt (Heap.lt_size (Heap.get?_push_of_some _ e1)))]
  exact Heap.get?_push_of_some _ (Heap.get?_push_of_some _ e1)
end
section
open L2 L2H
theorem turn_tupH {P : Program} {w : World} {K : PySem.W.Frag} {tg : Expr} (a it : Addr) : TurnH P w K tg (Itt K a) [it] it (fun i h => h.IsTupleIter it a i) where
  mem := by simp
  obj := (turn_tuple (P := P) (w := w) (K := K) (tg := tg) a it).obj
  keep := (turn_tuple (P := P) (w := w) (K := K) (tg := tg) a it).keep
  item := by
    intro X hP hw hK hc i pins s σ H E I hf st hg
    subst hP hw hK
    obtain ⟨xs, x, hq, hx⟩ := hg
    obtain ⟨its, rv, p, hz⟩ := I.tuple hq
    obtain ⟨u, hu, ru⟩ := rv.get hx
    obtain ⟨f0, f1, f2, f3, f4, f5⟩ := hf it (by simp)
    refine wpAny_pyNext_tuple_item st (show s.heap.IsTuple a its.toArray from p) (x := u) (by simpa using hu) fun h' st' sb => ?_
    have I1 : Inv X pins σ H { s with heap := h' } := I.turned (t' := s.toks) (fun b o hb e => (sb.2 b hb).trans e) f0 f1 f3 f4 f5
    obtain ⟨o, e, c, d⟩ := id st'
    exact ⟨u, rfl, go_of (s := { s with heap := h' }) e c d (by decide) ⟨x, H, I1, ru, ⟨rfl, fun ys hy => by rw [I.tuple_inj hy hq]; exact hx⟩, st', fun b hb => (hf b hb).1⟩⟩
  done := by
    intro X hP hw hK hc i pins s σ H E I hf st hg
    subst hP hw hK
    obtain ⟨xs, hq, hx⟩ := hg
    obtain ⟨its, rv, p, hz⟩ := I.tuple hq
    obtain ⟨f0, f1, f2, f3, f4, f5⟩ := hf it (by simp)
    obtain ⟨x1, hot⟩ := hc.at I
    have hne : x1 ≠ it := fun e => by
      obtain ⟨_, o1, vs1, h1, d1, c1⟩ := hot
      obtain ⟨o, h2, c2, d2⟩ := id st
      rw [e, h2] at h1
      cases h1
      rw [d2] at d1
      cases d1
      simp at c1
    have hl := rv.length
    exact next_tuple_end_hot hot hne st (show s.heap.IsTuple a its.toArray from p) (by simp; omega) fun h' eb => ⟨rfl, I.turned (t' := s.toks) (fun b o hb e => eb b o hb e) f0 f1 f3 f4 f5⟩
  self := fun _ _ _ _ _ st h => wpAny_pyIter_tupleiter st h
end
end PW

set_option Elab.async false
set_option linter.all false
set_option maxRecDepth 100000
set_option maxHeartbeats 4000000
/-! PwHb: an error of one's own made where nothing is handled: its context is None. -/
namespace PW
open PySem PySem.Spec PyProof.Rows L2
theorem pmk_oexN {X : Cx} {CX : CXT} {x : Str} {e : Expr} {es : List Expr} {ta : TA} {p pos : Pos} {C fI : Addr} {k : Nat} {fd : FuncData} {ps : List Str} {sp : Sp} (T : OexC X.K C) (iC : PySem.W.findIn X.K (.ref C) "__init__" = some (some (.ref fI))) (tI : PySem.W.typeIn X.K (.ref fI) = some (.type "function"))
    (F1 : FnOk X.prog X.w X.K X.mg X.base CX k fI fd ps sp) (hr : Room (k + 1) X.A) (hb : Binds X.K fd ps []) (hx : Passes CX X (fun _ _ _ => False)) (hg : Gl X x) (hm : X.mg x = some (.ref C)) (ha : PA X (e :: es) ta)
    (hdb : (x == ("__debug__" : Str)) = false := by decide) (he : starEach (e :: es) X.env = (false, eval e X.env) :: starEach es X.env := by rfl) (hpl : (backTo pos (starEach es X.env)).any (·.1) = false := by rfl) :
    L2N.PMk X (.Call (.Name x p) (e :: es) [] pos) (tMkO C sp [] ta) := by
  intro pins s σ H Q I h
  obtain ⟨nm, q, N, bs, bm, sn, sub, ab, col, dd, k0, k1, k2, k3, k5, hC, hbm⟩ := T.cls
  refine wpAny_Call_Name_kw (ld_glob I hg hm ?_ hdb)
  refine PySem.W.callWith_K (h₀ := X.base) I.ok.mod.kin T.kC (thn (ha.run pos pins s σ H _ I h) fun us s1 ⟨vs, H1, I1, r1, hz, q1⟩ => ⟨I1.kIn, ?_⟩) he hpl
  show wpAny _ _ (call (.ref C) us) _ _ _
  obtain ⟨hp, g, dr, tk, os⟩ := s1
  generalize ee : hp.objs.size + 1 = w1
  have hsz : hp.objs.size ≤ w1 := by omega
  have hn : H1 w1 = none := I1.hok.fresh hsz
  have hq := q1 w1 hn
  rw [List.append_nil] at hq
  generalize hh : (hp.push (PySem.W.kdv_tup us)).push (PySem.HandSPX.excO C hp.objs.size) = hp2
  have kk : ∀ b o, hp.get? b = some o → hp2.get? b = some o := fun b o e => by rw [← hh]; exact Heap.get?_push_of_some _ (Heap.get?_push_of_some _ e)
  have hget : hp2.get? w1 = some (PySem.HandSPX.excO C hp.objs.size) := by rw [← hh, ← ee]; heap_get
  have I2 : Inv X pins σ (upd H1 w1 (exo w1 C none)) ⟨hp2, g, dr, tk, os⟩ := I1.laid (t' := tk) (a := w1) (o := exo w1 C none) (h' := hp2) kk hsz (exo_ok hget)
  have r2 : Vals (V.ref w1 :: vs) (Value.ref w1 :: us) := .cons rfl r1
  have hl : (Value.ref w1 :: us ++ []).length = ps.length := by
    have e := r2.length
    rw [F1.len _ _ _ _ hq] at e
    rw [List.append_nil]
    exact e.symm
  have hus : us.length ≤ sizeLine := by
    rw [← Paired.length r1, sizeLine_eq]
    omega
  have b2 := hb _ (Value.ref w1 :: us) I2.kIn hl
  rw [List.append_nil] at b2
  subst ee
  subst hh
  refine wpAny_call (PySem.HandSPX.call_own F.excBase_ValueError (fun Y => PySem.HandSPX.refsVE_contains Y bm hbm) (I1.kIn _ _ hC) (PySem.W.looks_findIn I1.kIn iC) (fun self => PySem.W.bind_fn I1.kIn self tI) hus
    (codeAny_mono (F1.run _ X.stack _ _ ⟨Value.ref (hp.objs.size + 1) :: us, []⟩ (Value.ref (hp.objs.size + 1) :: us) _ _ (fun _ _ _ => False) (hr.make C us []) (I2.env0.make C us []) b2 r2 hq) fun r s' hq' => ?_))
  cases r with
  | error er => exact hx pins σ _ _ er s' I2 hq'
  | ok fl =>
    cases fl with
    | ret u =>
      obtain ⟨v, H2, os2, bare2, un2, hok2, rv, ev, d, fs, ea, ed, hd1, q2⟩ := hq'
      subst ev
      obtain ⟨h2, g2, d2, t2, os'⟩ := s'
      obtain ⟨t0, G, J, kG, ge, hoe, na⟩ := mk_end0 (d2 := d2) (t2 := t2) I1 hsz kk un2 hok2 os2 bare2 ea ed hd1
      refine ⟨rv, hp.objs.size + 1, _, _, ⟨G, g2, d2, t2, os'⟩, _, .ref C, some d, rfl, J, kG, ge, hoe, ⟨rfl, rfl, fun vs hv => ?_⟩, rfl, rfl, na, rfl, bare2, raises_own T.exC T.tyC, q2⟩
      cases hv
      rfl
    | next => exact False.elim hq'
    | brk => exact False.elim hq'
    | cont => exact False.elim hq'
end PW

set_option Elab.async false
set_option linter.all false
set_option maxRecDepth 100000
set_option maxHeartbeats 4000000
/-! PwHc: fixed_row, value_of once more, the error's context told. -/
namespace PW
open PySem PySem.Spec PyProof.Rows L2 PN
section
variable {P : Program} {w : World} {K : PySem.W.Frag} {mg : Str → Option Value} {base : Heap} {f C N Rd CN fCP fRF fMB fMov fHts fD fFR : Addr} {fd fdCP fdRF fdMB fdMov fdHts fdD fdFR : FuncData}
theorem ok_fixedrowN (F : FnP K "fixed_row" "fixed_row" sFixedRow f fd) (NT : NCls K N C Rd) (XN : ExCls P w K mg base "NotEstimable" CN) (DRF : DefOk P w K mg base CX0 "row_of_function" 3 ["net", "terms"] (spRowFn C N Rd) fRF fdRF)
    (DMB : DefOk P w K mg base CX0 "moved_by" 5 ["row", "movements"] (spMovedBy C) fMB fdMB) (DMov : MetOk P w K mg base CX0 N "movements" 8 ["self"] (spMov C N Rd) fMov fdMov) : FnOk P w K mg base (L2N.CX P w) 9 f fd ["net", "terms"] (spFixedRow C N Rd CN) := by
  refine F.ok scFixedRow (fun vs H Q E h => ?_) (fun cdv A outer s H vs Q E hr h => ?_)
  · obtain ⟨a, lp, lr, tv, names, S, ts, rfl, _⟩ := h
    rfl
  · obtain ⟨a, lp, lr, tv, names, S, ts, rfl, nat, htm, tok, num, k0, k1⟩ := h
    have hr8 : Room 8 _ := hr
    have hr5 : Room 5 _ := hr.mono (by decide)
    have hr3 : Room 3 _ := hr.mono (by decide)
    have hr2 : Room 2 _ := hr.mono (by decide)
    refine ⟨_, (pss_cons (ps_set (i := 2) scFixedRow.nd rfl (Or.inl rfl) (pe_cd DRF hr3 rfl pass0 (pa_cons (pv 0) (pa_cons (pv 1) pa_nil)))) (pss_cons (ps_set (i := 3) scFixedRow.nd rfl (Or.inl rfl) (pe_cd DMB hr5 rfl pass0 (pa_cons (pv 2) (pa_cons (pe_meth0 (pv 0) NT.cl DMov.me DMov.ok hr8 DMov.bd .nil pass0) pa_nil)))) (pss_cons (ps_if (pt_cmpR op_notN (pv 3) pe_non (nomark _)) (pss_one (L2N.ps_raise rfl (L2N.takes_of rfl rfl rfl rfl) (pmk_oexN XN.T XN.iC XN.tI XN.F1 hr2 XN.bd pass0 rfl XN.gl (pa_cons (pv 3) pa_nil)))) pss_nil) (pss_one (ps_ret (pv 2)))))), ?_⟩
    refine st_set (ev_rowfn (ev_var rfl rfl) (ev_var (P := isTm ts) rfl htm) nat tok num.n) fun rv H1 e1 p1 => ?_
    refine st_set (ev_movedby (ks := mvs S) (ev_var (P := isV C S.n (rowOf names ts)) rfl p1) (ev_mov rfl (nat.ex e1) num.mv num.n num.m) num.d) fun mv H2 e2 p2 => ?_
    rcases p2 with ⟨rfl, hz⟩ | ⟨j, hj, hne, hv⟩
    · refine st_if (evT_notN (ev_var (P := isX V.non) rfl rfl)) (fun hb => by simp at hb) fun _ H3 e3 => ?_
      exact st_ret (ev_var (P := isV C S.n (rowOf names ts)) rfl (IsV.ex p1 (e2.trans e3))) fun z H4 e4 p4 => k0 hz z H4 (((e1.trans e2).trans e3).trans e4) p4
    · obtain ⟨ma, mus, rfl, hm⟩ := id hv
      refine st_if (evT_notN (ev_var (P := isX (V.ref ma)) rfl rfl)) (fun _ H3 e3 => ?_) (fun hb => by simp at hb)
      refine st_raise XN (ev_var (P := isV C S.n (mv S j)) rfl (IsV.ex hv e3)) fun v d H4 e4 p4 hd => ?_
      have e5 : Ex H4 (upd H4 d (.xd [(("movement" : Str), v)])) := Ex.new hd
      exact k1 j hj hne d v _ ((((e1.trans e2).trans e3).trans e4).trans e5) upd_same (IsV.ex p4 e5)
theorem ok_valueofN (F : FnP K "value_of" "value_of" sValueOf f fd) (NT : NCls K N C Rd) (DFR : DefOk P w K mg base (L2N.CX P w) "fixed_row" 9 ["net", "terms"] (spFixedRow C N Rd CN) fFR fdFR)
    (DD : DefOk P w K mg base CX0 "dot" 4 ["a", "b"] (spDot C) fD fdD) (DHts : MetOk P w K mg base CX0 N "heights" 6 ["self"] (spHts C N Rd) fHts fdHts) : FnOk P w K mg base (L2N.CX P w) 10 f fd ["net", "terms"] (spValueOf C N Rd CN) := by
  refine F.ok scValueOf (fun vs H Q E h => ?_) (fun cdv A outer s H vs Q E hr h => ?_)
  · obtain ⟨a, lp, lr, tv, names, S, ts, rfl, _⟩ := h
    rfl
  · obtain ⟨a, lp, lr, tv, names, S, ts, rfl, nat, htm, tok, num, k0, k1⟩ := h
    have hr9 : Room 9 _ := hr
    have hr6 : Room 6 _ := hr.mono (by decide)
    have hr4 : Room 4 _ := hr.mono (by decide)
    refine ⟨_, (pss_one (ps_ret (pe_cd DD hr4 rfl pass0 (pa_cons (pe_callS DFR.ok hr9 rfl DFR.gl DFR.kp DFR.bd (fun σ => L2N.passAt (L2N.takes_of rfl rfl rfl rfl) σ) (pa_cons (pv 0) (pa_cons (pv 1) pa_nil))) (pa_cons (pe_meth0 (pv 0) NT.cl DHts.me DHts.ok hr6 DHts.bd .nil pass0) pa_nil))))), ?_⟩
    refine ⟨_, rfl, _, rfl, a, lp, lr, tv, names, S, ts, rfl, nat, htm, tok, num, fun hz z H1 e1 p1 => ?_, fun j hj hne d z H1 e1 hd hv => k1 j hj hne d z H1 e1 hd hv⟩
    refine (ev_hts (σ := L2.start ["net", "terms"] [V.ref a, tv]) (i := 0) (E := E0) rfl (nat.ex e1) num.h num.n).use fun h H2 e2 p2 => ?_
    exact ⟨z, h, S.n, rowOf names ts, hts S, rfl, IsV.ex p1 e2, p2, num.v, fun r H3 e3 p3 => k0 hz r H3 ((e1.trans e2).trans e3) p3⟩
end
end PW

set_option Elab.async false
set_option linter.all false
set_option maxRecDepth 100000
set_option maxHeartbeats 4000000
/-! PwHd: [.. for x in t] over a tuple while an exception is handled. -/
namespace PW
open PySem PySem.Spec PyProof.Rows L2 L2H HotX
abbrev withPn (X : Cx) (pn : List (Addr × Obj)) : Cx := { X with pn := pn }
theorem ok_pn {X : Cx} (ok : X.Ok) (pn : List (Addr × Obj)) : (withPn X pn).Ok :=
  ⟨ok.mod, ok.kind, ok.glob, ok.blt, ok.above, ok.inj, ok.has, ok.cab, ok.hd, ok.frames, ok.stk, ok.exf, ok.bs, ok.bsz, ok.noex, ok.exfs, ok.funs, ok.frf⟩
theorem inv_pn {X : Cx} {pins : List (Addr × Obj)} {σ : L2.St} {H : Hp} {s : Shared} {p : Addr × Obj} (I : Inv X pins σ H s) (hpn : X.pn = []) (pf : s.heap.get? p.1 = some p.2 ∧ H p.1 = none ∧ p.1 ≠ X.env.locals ∧ p.1 ∉ X.fs ∧ ∀ v, p.2.data ≠ .cell v) : Inv (withPn X [p]) pins σ H s :=
  ⟨ok_pn I.ok [p], I.os, I.bare, I.base, I.loc, I.cell, I.free, I.freeC, fun q hq => by
    rcases List.mem_append.mp hq with hq | hq
    · rw [List.mem_singleton.mp hq]
      exact pf
    · exact I.pin q (List.mem_append_right _ hq), I.hok, I.len⟩
theorem inv_nopn {X : Cx} {pins : List (Addr × Obj)} {σ : L2.St} {H : Hp} {s : Shared} {p : Addr × Obj} (I : Inv (withPn X [p]) pins σ H s) (ok : X.Ok) (hpn : X.pn = []) : Inv X pins σ H s :=
  ⟨ok, I.os, I.bare, I.base, I.loc, I.cell, I.free, I.freeC, fun q hq => by
    rw [hpn] at hq
    exact I.pin q (List.mem_append_right _ hq), I.hok, I.len⟩
theorem pe_lcH {X : Cx} {elt tg iter : Expr} {scope : Scope} {own : List (Str × Nat)} {pos : Pos} {tl : TE} {g : TG} {te : TE} (hcH : HotC X) (hN : X.N.Nodup) (hl : PE X iter tl) (ok : BlkOk X.N X.env.scope scope own)
    (hg : ∀ (s : Shared) (H : Hp) (C : Addr) (cl : List (Str × Addr)) (fp : List Addr), PG (X.blk s H scope (compEnvC scope cl C X.env) fp) tg g) (he : ∀ (s : Shared) (H : Hp) (C : Addr) (cl : List (Str × Addr)) (fp : List Addr), PE (X.blk s H scope (compEnvC scope cl C X.env) fp) elt te)
    (hs : ∀ x, foldedSetIterable iter X.env x = pure x := by intro _; rfl) : PE X (.ListComp elt [⟨tg, iter, [], 0⟩] scope pos) (tLc (iTup X.K tl) g tYes te (own.map (·.2))) := by
  refine ⟨fun pins s σ H Q I h => ?_⟩
  rw [eval_ListComp]
  have hfree : ∀ y ∈ scope.names, y.2 = .free → ∃ c, X.env.cells.lookup y.1 = some c := fun y hy e => (ok.free y hy e).elim (fun k => I.ok.has _ (.inl k)) fun k => I.ok.has _ (.inr k)
  refine wpAny_comprehension_free (use := none) rfl hs (closure_ok hfree) ok.kind (fun y hy e => by rw [ok.uniq y hy, e]) (thn (hl.run pins s σ H _ I h) fun xv s1 hx => ?_)
  obtain ⟨x1, H1, I1, r1, a, e1, ⟨xs, hq⟩, q⟩ := hx
  subst e1
  cases r1
  obtain ⟨its, rv, pT, hz⟩ := I1.tuple hq
  refine wpAny_pyIter_tuple (show s1.heap.IsTuple a its.toArray from pT) ?_
  generalize hit : s1.heap.objs.size = it
  obtain ⟨pq, hot, hpq⟩ := hcH
  generalize hs2 : ({ s1 with heap := s1.heap.push _ } : Shared) = s2
  have k12 : ∀ b o, s1.heap.get? b = some o → s2.heap.get? b = some o := fun b o e => by rw [← hs2]; exact Heap.get?_push_of_some _ e
  have I2 : Inv X pins σ H1 s2 := by rw [← hs2]; exact I1.kept (t' := s1.toks) fun b o e => Heap.get?_push_of_some _ e
  have st2 : s2.heap.IsTupleIter it a 0 := by rw [← hs2, ← hit]; exact ⟨_, Heap.get?_push_size _ rfl, rfl, rfl⟩
  have f2 : FpOk X pins H1 it := by subst hit; exact I1.fpOk (Nat.le_refl _) (I1.hok.fresh (Nat.le_refl _))
  have T := turn_tupH (P := X.prog) (w := X.w) (K := X.K) (tg := tg) a it
  refine wpAny_newObj_type (newEnv_comp ?_) (by show 0 ≤ sizeLine; decide)
  generalize hD : s2.heap.objs.size = D
  have hDn : H1 D = none := I2.hok.fresh (Nat.le_of_eq hD)
  obtain ⟨W, ⟨m0, w0⟩, turn⟩ := q D hDn
  generalize hs3 : ({ s2 with heap := s2.heap.push { cls := .type "list", data := .seq ([] : List Value).toArray } } : Shared) = s3
  have I3 : Inv X pins σ (upd H1 D (.lst [])) s3 := by
    rw [← hs3]
    refine I2.laid (t' := s2.toks) (fun b o e => Heap.get?_push_of_some _ e) (Nat.le_of_eq hD) ⟨Nat.zero_le _, [], 0, .nil, ?_⟩
    rw [← hD]
    exact Heap.get?_push_size _ rfl
  have h3 : s3.heap = s2.heap.push { cls := .type "list", data := .seq ([] : List Value).toArray } := by rw [← hs3]
  have hlt : it < s2.heap.objs.size := by
    obtain ⟨o, e, _⟩ := id st2
    exact Heap.lt_size e
  have f3 : ∀ b ∈ [it], FpOk X pins (upd H1 D (.lst [])) b ∧ b < s3.heap.objs.size := fun b hb => by
    obtain rfl : b = it := List.mem_singleton.mp hb
    refine ⟨⟨?_, f2.2⟩, by rw [h3, Heap.size_push]; exact Nat.lt_succ_of_lt hlt⟩
    rw [upd_ne (by rw [← hD]; exact Nat.ne_of_lt hlt)]
    exact f2.1
  have st3 : s3.heap.IsTupleIter it a 0 := T.keep _ _ _ st2 fun b _ o e => by rw [h3]; exact Heap.get?_push_of_some _ e
  have I4 := block_start I3 ok hN f3
  have pg := hg s3 (upd H1 D (.lst [])) s3.heap.objs.size (cellsFrom (s3.heap.objs.size + 1) scope.names (cloFrom X.env.cells scope.names [])) [it]
  have pe := he s3 (upd H1 D (.lst [])) s3.heap.objs.size (cellsFrom (s3.heap.objs.size + 1) scope.names (cloFrom X.env.cells scope.names [])) [it]
  have P3 := I3.pin pq (List.mem_append_left _ hpq)
  have pqs : pq.1 ∉ frs X.stack := fun hm => (List.mem_cons.mp (I3.stkSub pq.1 hm)).elim P3.2.2.1 P3.2.2.2.1
  have pqi : pq.1 ≠ it := fun z => f2.2.2.2.2.2 pq (List.mem_append_left _ hpq) z
  have pqc : pq.1 < s3.heap.objs.size := Heap.lt_size P3.1
  show codeAny _ _ (.compStart (.ListComp elt [⟨tg, iter, [], 0⟩] scope pos) 0 (.ref it) (.ref D) (compEnvC scope (cellsFrom (s3.heap.objs.size + 1) scope.names (cloFrom X.env.cells scope.names [])) s3.heap.objs.size X.env)) (compPost (model X.prog X.w) X.A X.xe none (EP X pins σ Q) (.ref D) s3.heap.objs.size) { s3 with heap := pushCells (s3.heap.push { cls := .type "dict", data := .dict #[] }) scope.names }
  have nfp : (upd H1 D (.lst [])) it = none := (f3 it (List.mem_singleton.mpr rfl)).1.1
  generalize hce : compEnvC scope (cellsFrom (s3.heap.objs.size + 1) scope.names (cloFrom X.env.cells scope.names [])) s3.heap.objs.size X.env = ce at I4 pg pe ⊢
  have cL : ce.locals = s3.heap.objs.size := by subst hce; rfl
  generalize hH3 : upd H1 D (.lst []) = H3 at I3 I4 pg pe w0 nfp f3 P3
  generalize hs4 : ({ s3 with heap := pushCells (s3.heap.push { cls := .type "dict", data := .dict #[] }) scope.names } : Shared) = s4 at I4 ⊢
  have st4 : s4.heap.IsTupleIter it a 0 := T.keep _ _ _ st3 fun b _ o e => by rw [← hs4]; exact pushCells_keeps _ _ _ _ (Heap.get?_push_of_some _ e)
  have hb1 : it ∈ [it] := List.mem_singleton.mpr rfl
  have pf : ∀ {σ' : L2.St} {H' : Hp} {s' : Shared}, Inv (X.blk s3 H3 scope ce [it]) [] σ' H' s' → s'.heap.get? pq.1 = some pq.2 ∧ H' pq.1 = none ∧ pq.1 ≠ (X.blk s3 H3 scope ce [it]).env.locals ∧ pq.1 ∉ (X.blk s3 H3 scope ce [it]).fs ∧ ∀ v, pq.2.data ≠ .cell v := fun {σ' H' s'} I' =>
    ⟨I'.base.keep _ _ P3.1 P3.2.1 pqs (fun z => pqi (List.mem_singleton.mp z)), I'.base.free _ _ P3.1 P3.2.1 (fun z => pqi (List.mem_singleton.mp z)), by show pq.1 ≠ ce.locals; rw [cL]; exact Nat.ne_of_lt pqc, pqs, P3.2.2.2.2⟩
  have hcB : HotC (withPn (X.blk s3 H3 scope ce [it]) [pq]) := ⟨pq, hot, List.mem_singleton.mpr rfl⟩
  have stat : ∀ {σ' : L2.St} {H' : Hp} {s' : Shared}, Inv (X.blk s3 H3 scope ce [it]) [] σ' H' s' → H' it = none → ∀ b ∈ [it], FpOk (withPn (X.blk s3 H3 scope ce [it]) [pq]) [] H' b := fun {σ' H' s'} I' hn b hb => by
    obtain rfl : b = it := List.mem_singleton.mp hb
    exact ⟨hn, (I'.ok.exf b hb).1, I'.ok.exfs b hb, .inl hb, fun x c e => (I'.ok.exf b hb).2 x c e, fun p hp => by
      obtain rfl : p = pq := List.mem_singleton.mp (by simpa using hp)
      exact pqi⟩
  have stat0 : ∀ {σ' : L2.St} {H' : Hp} {s' : Shared}, Inv (X.blk s3 H3 scope ce [it]) [] σ' H' s' → H' it = none → ∀ b ∈ [it], FpOk (X.blk s3 H3 scope ce [it]) [] H' b := fun {σ' H' s'} I' hn b hb => by
    obtain rfl : b = it := List.mem_singleton.mp hb
    exact ⟨hn, (I'.ok.exf b hb).1, I'.ok.exfs b hb, .inl hb, fun x c e => (I'.ok.exf b hb).2 x c e, fun p hp => absurd hp (by simp)⟩
  have loop : codeAny (model X.prog X.w) X.A (.compLoop (.ListComp elt [⟨tg, iter, [], 0⟩] scope pos) 0 (.ref it) (.ref D) ce) (compPost (model X.prog X.w) X.A X.xe none (EP X pins σ Q) (.ref D) s3.heap.objs.size) s4 := by
    refine compLoop_any (fun n s' => ∃ i H', Inv (X.blk s3 H3 scope ce [it]) [] (wipe σ (own.map (·.2))) H' s' ∧ s'.heap.IsTupleIter it a i ∧ H' it = none ∧ W i n H') ?_ m0 ⟨0, H3, I4, st4, nfp, w0⟩
    rintro n s5 ⟨i, H5, I5, st5, n5, w5⟩
    rcases turn i n H5 w5 with ⟨stop, qq⟩ | ⟨go, Nx, hNx, step⟩
    · have td := T.done (withPn (X.blk s3 H3 scope ce [it]) [pq]) rfl rfl rfl hcB i [] s5 _ H5 (fun _ _ => False) (inv_pn I5 rfl (pf I5)) (stat I5 n5) st5 stop
      refine thnF td fun r s6 ⟨hr, I6'⟩ => ?_
      subst hr
      have I6 := inv_nopn I6' I5.ok rfl
      have I7 : Inv X pins σ H5 s6 := I3.call' (ch := [it]) I6.os I6.base I6.hok I6.bare fun b hb => ⟨(f3 b hb).1.2.2.2.1, (f3 b hb).1.2.1, (f3 b hb).1.2.2.2.2.1, (f3 b hb).1.2.2.2.2.2⟩
      have nC : H5 s3.heap.objs.size = none := by
        have z : H5 ce.locals = none := I6.free
        rw [cL] at z
        exact z
      obtain ⟨m, hn, _⟩ := I6.loc
      have hn : s6.heap.Ns ce.locals m := hn
      rw [cL] at hn
      obtain ⟨g0, g1, g3, g4, g5, g6⟩ := I3.fpOk (Nat.le_refl _) nC
      exact ⟨m, hn, fun h'' sb => ⟨.ref D, H5, I7.turned (t' := s6.toks) (fun b o hb e => (sb.2 b hb).trans e) g0 g1 g4 g5 g6, rfl, qq⟩⟩
    · have ti := T.item (withPn (X.blk s3 H3 scope ce [it]) [pq]) rfl rfl rfl hcB i [] s5 _ H5 (fun _ _ => False) (inv_pn I5 rfl (pf I5)) (stat I5 n5) st5 go
      refine thnF ti fun r s6 ⟨u, hr, h6⟩ => ?_
      subst hr
      refine thnF h6 fun _ s7 ⟨x, H7, I7', r7, y7, st7, n7⟩ => ?_
      have I7 := inv_nopn I7' I5.ok rfl
      have n7' : H7 it = none := n7 it hb1
      have Ip := I7.pinned (stat0 I7 n7') (T.obj _ _ st7)
      refine thnF (pg.run _ s7 _ H7 x u _ Ip r7 (step x H7 y7)) fun _ s8 ⟨σ8, H8, I8, hw8, q8⟩ => ?_
      have pt : PTs (X.blk s3 H3 scope ce [it]) [] tYes := pts_nil
      refine thnF (pt.run _ s8 σ8 H8 _ I8 q8) fun b s9 ⟨H9, I9, q9⟩ => ?_
      have fin : ∀ {s' : Shared} {H' : Hp}, Inv (X.blk s3 H3 scope ce [it]) ([] ++ pinsAt [it] s7.heap) σ8 H' s' → Nx H' → ∃ m, m < n ∧ ∃ i H', Inv (X.blk s3 H3 scope ce [it]) [] (wipe σ (own.map (·.2))) H' s' ∧ s'.heap.IsTupleIter it a i ∧ H' it = none ∧ W i m H' := fun {s' H'} I' nx => by
        obtain ⟨m', hm, w'⟩ := hNx H' nx
        have pin' : ∀ b ∈ [it], ∀ o, s7.heap.get? b = some o → s'.heap.get? b = some o ∧ H' b = none := fun b hb o e =>
          let z := I'.pin (b, o) (List.mem_append_right _ (List.mem_append_right _ (mem_pinsAt hb e)))
          ⟨z.1, z.2.1⟩
        have hl : (wipe σ (own.map (·.2))).length = σ8.length := by rw [← hw8, wipe_length]
        refine ⟨m', hm, i + 1, H', (I'.unpinned (pins := [])).weak hl (fun j v e => ?_), T.keep _ _ _ st7 fun b hb o e => (pin' b hb o e).1, ?_, w'⟩
        · rw [← hw8] at e
          exact (wipe_some e).1
        · obtain ⟨o, e, _⟩ := id st7
          exact (pin' it hb1 o e).2
      cases b with
      | false =>
        simp only [Bool.false_eq_true, if_false] at q9 ⊢
        exact fin I9 q9
      | true =>
        simp only [if_true] at q9 ⊢
        refine thnF (pe.run _ s9 σ8 H9 _ I9 q9) fun z s10 ⟨yv, H10, I10, r10, acc, hD10, hz10, nx⟩ => ?_
        exact app_ok (X := X.blk s3 H3 scope ce [it]) I10 hD10 hz10 r10 fun s11 I11 => fin I11 nx
  exact codeAny_compStart_list loop (T.self X.A 0 _ _ _ st4 loop)
end PW

set_option Elab.async false
set_option linter.all false
set_option maxRecDepth 100000
set_option maxHeartbeats 4000000
/-! PwHe: _law_pairs while an exception is handled. -/
namespace PW
open PySem PySem.Spec PyProof.Rows L2 PN L2H
section
variable {P : Program} {w : World} {K : PySem.W.Frag} {mg : Str → Option Value} {base : Heap} {f C : Addr} {fd : FuncData}
theorem ok_pairsH (F : FnP K "_law_pairs" "_law_pairs" sPairs f fd) (R : RK P w K mg base C) : FnH P w K mg base CX0 1 f fd ["_law_vector"] (spPairs C) := by
  obtain ⟨oc, od, dV, kV, doc, pm, an, cdv, ct, osl, rfl, lk, hcd, _, _⟩ := F.ex
  refine fn_ofH lk hcd scPairs (fun vs H Q E h => ?_) (fun A outer s H vs Q E p hot hr h => ?_)
  · obtain ⟨x, n, y, rfl, _⟩ := h
    rfl
  · obtain ⟨x, n, y, rfl, hq, hn, sq, k⟩ := h
    refine ⟨_, pss_one (ps_ret (pe_lcH (own := [("_law_ratio_here", 1)]) (g := (gName 1)) ⟨p, hot, List.mem_singleton.mpr rfl⟩ scPairs.nd (pv 0) (blkOk_by (N := ["_law_vector", "_law_ratio_here"]) (sc := defScope sPairs) (by decide +kernel)) (fun _ _ _ _ _ => (pg_name (i := 1) scPairs.nd rfl (Or.inl rfl))) (fun _ _ _ _ _ => (pe_tup (pa_cons (pe_fldK (K := K) rfl (pv 1) rfl) (pa_cons (pe_fldK (K := K) rfl (pv 1) rfl) pa_nil)))))), ?_⟩
    refine st_ret (P := isLs n fun i => isPb LIM (y i)) (ev_mapT (K := K) (j := 1) (Pk := fun i => isPb LIM (y i)) hn (ev_var (P := isV C n y) rfl hq).isTs_V (fun _ _ => im_Pb) (fun _ => rfl) fun i z H1 hi e1 p => (ev_tup2 (ev_top R.T (ev_var (i := 1) (P := isQ C (y i)) rfl p)) (ev_bot R.T (ev_var (i := 1) (P := isQ C (y i)) rfl p))).imp fun v H' _ p => ?_) fun z H' e p => k z H' e p
    obtain ⟨T, a, b, rfl, hT, rfl, rfl⟩ := p
    exact ⟨T, (y i).num, (y i).den, rfl, hT, den0 _, qd_self _, (sq i hi).1, by rw [Int.natAbs_natCast]; exact (sq i hi).2⟩
end
end PW

set_option Elab.async false
set_option linter.all false
set_option maxRecDepth 100000
set_option maxHeartbeats 4000000
/-! PwHf: _law_value. -/
namespace PW
open PySem PySem.Spec PyProof.Rows L2 PN L2H
theorem hot_of {X : Cx} {a : Addr} {oe : Obj} {cls : Value} {d : Option Addr} {pn : List (Addr × Obj)} (hz : L2N.Zn cls d oe) (hf : ∃ vs, oe.data = .fields vs) : HotC (X.suite a ((a, oe) :: pn)) := by
  obtain ⟨vs, hv⟩ := hf
  exact ⟨(a, oe), ⟨rfl, vs, hv, hz.2.2 vs hv⟩, List.mem_cons_self⟩
theorem takes0N {X : Cx} : L2N.Takes X (fun _ _ _ _ => False) := fun _ _ x => by
  obtain ⟨_, _, _, _, _, _, _, _, _, _, _, _, _, _, _, _, h⟩ := x
  exact h.elim
theorem pass0At {X : Cx} {σ : L2.St} : PassesAt CX0 X σ E0 := fun _ _ _ _ _ _ c => c.elim
section
variable {P : Program} {w : World} {K : PySem.W.Frag} {mg : Str → Option Value} {base : Heap} {f C N Rd CN fV fP fPs : Addr} {fd fdV fdP fdPs : FuncData}
theorem ok_val (F : FnP K "_law_value" "_law_value" sVal f fd) (XN : ExCls P w K mg base "NotEstimable" CN) (DV : DefOk P w K mg base (L2N.CX P w) "value_of" 10 ["net", "terms"] (spValueOf C N Rd CN) fV fdV) (DPs : DefOk P w K mg base CX0 "_law_pairs" 1 ["_law_vector"] (spPairs C) fPs fdPs) (HPs : FnH P w K mg base CX0 1 fPs fdPs ["_law_vector"] (spPairs C)) (DP : DefOk P w K mg base CX0 "_law_pair" 1 ["_law_ratio_here"] (spPair C) fP fdP) :
    FnOk P w K mg base CX0 11 f fd ["_law_net_here", "_law_terms_here"] (spVal C N Rd) := by
  refine F.ok scVal (fun vs H Q E h => ?_) (fun cdv A outer s H vs Q E hr h => ?_)
  · obtain ⟨a, lp, lr, tv, names, S, ts, rfl, _⟩ := h
    rfl
  · obtain ⟨a, lp, lr, tv, names, S, ts, rfl, nat, htm, tok, fn, sv, sm, k0, k1⟩ := h
    have hr10 : Room 10 _ := hr
    have hr1 : Room 1 _ := hr.mono (by decide)
    refine ⟨_, (pss_one (L2N.ps_try_as (i := 2) (tb := fun W => tRet (tTup (tCons (tC (.str "value")) (tCons (tCall (spPair C) [] E0 (tCons (tCallS (spValueOf C N Rd CN) (WE W) (tCons (tVar 0) (tCons (tVar 1) tNil))) tNil)) tNil)))) (ts := fun a cls d => tRet (tTup (tCons (tC (.str "moved")) (tCons (tCallS (spPairs C) (fun _ => E0) (tCons (tXf a cls d CN "movement" (tVar 2)) tNil)) tNil)))) (Wout := fun _ _ _ _ => False) rfl rfl scVal.nd rfl rfl ⟨rfl, by decide, .inl XN.gl⟩ takes0N
      (fun W pn xe tk _ => pss_one (ps_ret (by exact (pe_tup (by exact (pa_cons pe_str (pa_cons (pe_cd DP hr1 rfl pass0 (by exact (pa_cons (pe_callS DV.ok hr10 rfl DV.gl DV.kp DV.bd (fun σ => L2N.passAt tk σ) (by exact (pa_cons (pv 0) (pa_cons (pv 1) pa_nil)))) pa_nil))) pa_nil)))))))
      (fun a oe cls d pn hz hf => pss_one (ps_ret (by exact (pe_tup (by exact (pa_cons pe_str (pa_cons (pe_callH HPs (roomH_mark hr1 _) (hot_of hz hf) rfl DPs.gl DPs.kp DPs.bd (fun _ => pass0At) (by exact (pa_cons (pe_xf XN.xf XN.no hz.zc hf (pv 2)) pa_nil))) pa_nil))))))))), ?_⟩
    refine ⟨_, rfl, _, rfl, a, lp, lr, tv, names, S, ts, rfl, nat, htm, tok, fn, fun h z H' e hz => ?_, fun j hj hne d z H' e hd hz => ?_⟩
    · refine ⟨z, _, rfl, hz, sv, fun z' H2 e2 p => ⟨by show 2 ≤ sizeLine; decide, fun T hT => k0 h (.ref T) _ ((e.trans e2).trans (Ex.new hT)) ⟨T, _, _, rfl, upd_same, rfl, (isPb LIM _).mono _ _ _ (Ex.new hT) p⟩⟩⟩
    · refine ⟨true, XN.te, fun _ b hb => ?_, fun q => nomatch q⟩
      refine ⟨_, rfl, rfl, rfl, d, _, z, rfl, hd, rfl, z, S.n, _, rfl, hz, by have := fn.n; omega, sm j hj, fun z' H2 e2 p => ⟨by show 2 ≤ sizeLine; decide, fun T hT => k1 j hj hne (.ref T) _ ((e.trans e2).trans (Ex.new hT)) ⟨T, _, _, rfl, upd_same, rfl, (isLs S.n _).mono _ _ _ (Ex.new hT) p⟩⟩⟩
end
end PW

set_option Elab.async false
set_option linter.all false
set_option maxHeartbeats 4000000
/-! PwX: what a function's terms want of the numbers. -/
namespace PW
open PySem PySem.Spec PyProof.Rows L2 PN
theorem lim80 : LIM = 4480 := rfl
theorem fnnum {S : NS} (K : NOk S) {a : Nat → Rat} (ha : ∀ i, i < S.n → Dn 1 4 (a i)) : FnNum S a ∧ Sm (dt S.n a (hts S)) := by
  obtain ⟨hh, D, hD, hd, hb⟩ := K.hb
  obtain ⟨r, hr, Dk, hDk, hdk, hk⟩ := K.mvb
  have n5 := K.n5
  have l := lim80
  have r5 : r ≤ 5 := by omega
  have p5 : 2 ^ r * 5 ≤ 160 := by
    have : 2 ^ r ≤ 2 ^ 5 := Nat.pow_le_pow_right (by decide) r5
    omega
  refine ⟨⟨by omega, by have := K.m7; omega, K.mov, fun j hj => ⟨?_, ?_⟩, hh, ?_⟩, ?_⟩
  · exact dotOk (d := 1) (by omega) (by decide) hDk (by decide) hdk ha (hk j hj) (by omega) (by omega)
  · exact (Dn.dot (n := S.n) (by omega) ha (hk j hj)).small (by rw [Int.one_mul]; exact hDk) (by rw [Int.one_mul]; exact hdk) (by omega) (by omega)
  · exact dotOk (d := 1) (by omega) (by decide) hD (by decide) hd ha (fun i hi => (hb i hi).1) (by omega) (by omega)
  · exact (Dn.dot (n := S.n) (by omega) ha (fun i hi => (hb i hi).1)).small (by rw [Int.one_mul]; exact hD) (by rw [Int.one_mul]; exact hd) (by omega) (by omega)
theorem pbs_exx {n k : Nat} {y : Nat → Rat} {v : V} {H H' : Hp} {s l : Addr} (h : (isLs n fun i => isPb k (y i)).p v H) (hS : StAt H s l) (h0 : 0 < n) (e : ExX (slB s l) H H') : (isLs n fun i => isPb k (y i)).p v H' := by
  obtain ⟨q, us, rfl, hq, hl, hu⟩ := h
  have nq : ¬ slB s l q := by
    obtain ⟨u, h1, T, t, b, rfl, hT, _⟩ := hu 0 h0
    obtain ⟨_, d, vs, _, g1, g2⟩ := hS
    rintro (rfl | rfl)
    · rw [g1] at hq
      cases hq
      cases (show some (V.ref l) = some (V.ref T) from h1)
      rw [g2] at hT
      cases hT
    · rw [g2] at hq
      cases hq
      cases vs with
      | nil => cases h1
      | cons x r => cases h1
  refine ⟨q, us, rfl, e _ _ nq (fun _ z => by cases z) hq, hl, fun i hi => ?_⟩
  obtain ⟨u, h1, T, t, b, rfl, hT, h2⟩ := hu i hi
  exact ⟨_, h1, T, t, b, rfl, e _ _ (hS.nb hT (fun _ z => by cases z)) (fun _ z => by cases z) hT, h2⟩
end PW

set_option Elab.async false
set_option linter.all false
set_option maxRecDepth 100000
set_option maxHeartbeats 4000000
/-! PwY: what the law's own body wants: tests, picks, what is kept. -/
namespace PW
open PySem PySem.Spec PyProof.Rows L2 PN LamX
/-- two lists of texts, are they the same? -/
def rEqS : R2 := fun x y H Q => ∃ (a b : Addr) (xs ys : List Str), x = .ref a ∧ y = .ref b ∧ H a = some (.lst (xs.map V.str)) ∧ H b = some (.lst (ys.map V.str)) ∧ Q (.bl (decide (xs = ys))) H
theorem dp_strs {K : PySem.W.Frag} {H : Hp} : ∀ xs : List Str, DpAll K H (xs.map V.str) (xs.map PyData.str)
  | [] => .nil
  | x :: r => .cons (.str x) (dp_strs r)
theorem op_eqS {X : Cx} (hu : X.A.units + 64 < cLine) : OpR X (compareOp .Eq) rEqS := by
  intro pins s σ H x y v u Q I rx ry h
  obtain ⟨a, b, xs, ys, rfl, rfl, ha, hb, q⟩ := h
  obtain ⟨as, r1⟩ := Dp.reads I (.list (xs.map PyData.str)) _ v (.lst (SqL.of ha) (dp_strs xs)) rx
  obtain ⟨bs, r2⟩ := Dp.reads I (.list (ys.map PyData.str)) _ u (.lst (SqL.of hb) (dp_strs ys)) ry
  have e1 := PySem.W.Datum.plain (α := List Str) xs
  have e2 := PySem.W.Datum.plain (α := List Str) ys
  have e3 := PySem.W.Datum.eqv (α := List Str) xs ys
  have e4 := PySem.W.Datum.depth_le (α := List Str) xs
  have d4 : PySem.W.Datum.depth (List Str) = 1 := rfl
  have m4 : min (PyData.depth (.list (xs.map PyData.str))) (PyData.depth (.list (ys.map PyData.str))) ≤ PyData.depth (.list (xs.map PyData.str)) := Nat.min_le_left _ _
  have e5 : PyData.depth (.list (xs.map PyData.str)) ≤ 1 := e4
  refine PySem.SeqAt.eq_plain r1 r2 e1 e2 (by omega) ⟨.bl _, H, I, ?_, q⟩
  rw [show PyData.eqv (.list (xs.map PyData.str)) (.list (ys.map PyData.str)) = decide (xs = ys) from e3]
  rfl
section
variable {K : PySem.W.Frag} {σ : L2.St} {H H' : Hp} {ta tb te : TE} {tt : TT} {E : XK} {n k j : Nat} {p q : Rat} {b : Bool} {c : Nat → Int} {y : Nat → Rat}
theorem ev_dotl (ha : Ev ta σ H (isLs n fun i => isX (.int (c i)))) (hc : ∀ i, i < n → (c i).natAbs ≤ 10) (hb : Ev tb σ H (isLs n fun i => isPb k (y i))) (hn : n ≤ 50) (k0 : 0 < k) (k8 : k ≤ 8000) : Ev (tCall spDotL [] E (tCons ta (tCons tb tNil))) σ H (isPb (1 + n * (k + 5)) (sm n fun i => ((c i : Int) : Rat) * y i)) :=
  ev_call2 ha hb fun u v H1 _ p1 p2 H2 e2 Q q => ⟨u, v, n, k, c, y, rfl, (isLs n _).mono _ _ _ e2 p1, hc, (isLs n _).mono _ _ _ e2 p2, hn, k0, k8, q⟩
theorem ev_equal (ha : Ev ta σ H (isPb k p)) (hb : Ev tb σ H (isPb j q)) (k0 : 0 < k) (j0 : 0 < j) (kj : k + j ≤ 900000) : Ev (tCall spEqual [] E (tCons ta (tCons tb tNil))) σ H (isX (.bl (decide (p = q)))) :=
  ev_call2 ha hb fun u v H1 _ p1 p2 H2 e2 Q q' => ⟨u, v, k, j, p, q, rfl, (isPb k p).mono _ _ _ e2 p1, (isPb j q).mono _ _ _ e2 p2, k0, j0, kj, fun H' e => q' _ _ e rfl⟩
theorem evT_B (h : Ev te σ H (isX (.bl b))) : EvT (tB te) σ H b := fun H1 e Q q => h H1 e _ fun v H2 e2 p => by
  obtain rfl : v = .bl b := p
  exact ⟨b, rfl, q H2 e2⟩
theorem evT_not (h : EvT tt σ H b) : EvT (tNot tt) σ H (!b) := fun H1 e Q q => h H1 e _ fun H2 e2 => q H2 e2
theorem ev_eqT {x z : Str} (ha : Ev ta σ H (isX (.str x))) (hb : Ev tb σ H (isX (.str z))) : Ev (tOp rEq ta tb) σ H (isX (.bl (decide (x = z)))) := fun H1 e Q q =>
  ha H1 e _ fun u H2 e2 p => hb H2 (e.trans e2) _ fun v H3 e3 p3 => by
    obtain rfl : u = .str x := p
    obtain rfl : v = .str z := p3
    refine ⟨rfl, ?_⟩
    have e0 : decide (V.str x = V.str z) = decide (x = z) := by
      by_cases h : x = z
      · rw [h]; simp
      · rw [decide_eq_false h, decide_eq_false fun z => h (V.str.inj z)]
    rw [e0]
    exact q _ H3 (e2.trans e3) rfl
theorem evT_eqT {x z : Str} (ha : Ev ta σ H (isX (.str x))) (hb : Ev tb σ H (isX (.str z))) : EvT (tTest (tOp rEq ta tb)) σ H (decide (x = z)) := fun H1 e Q q =>
  ev_eqT ha hb H1 e _ fun v H2 e2 p => ⟨_, p, q H2 e2⟩
theorem evT_neB {c d : Bool} (ha : Ev ta σ H (isX (.bl c))) (hb : Ev tb σ H (isX (.bl d))) : EvT (tTest (tOp rNe ta tb)) σ H (!decide (c = d)) := fun H1 e Q q =>
  ha H1 e _ fun u H2 e2 p => hb H2 (e.trans e2) _ fun v H3 e3 p3 => by
    obtain rfl : u = .bl c := p
    obtain rfl : v = .bl d := p3
    refine ⟨rfl, _, rfl, ?_⟩
    have e0 : decide (V.bl c = V.bl d) = decide (c = d) := by
      by_cases h : c = d
      · rw [h]; simp
      · rw [decide_eq_false h, decide_eq_false fun z => h (V.bl.inj z)]
    rw [e0]
    exact q H3 (e2.trans e3)
theorem top0 {t b : Int} (hb : b ≠ 0) : decide (V.int t = V.int 0) = decide (qd t b = 0) := by
  have h := qd_eq (t := t) (t' := 0) (b := b) (b' := 1) hb (by decide)
  have z : qd 0 1 = 0 := by rw [qd_one]; rfl
  rw [z] at h
  by_cases e : t = 0
  · rw [e] at h ⊢
    rw [decide_eq_true rfl, decide_eq_true (h.mp (by omega))]
  · rw [decide_eq_false fun z => e (V.int.inj z), decide_eq_false fun z => e (by have := h.mpr z; omega)]
theorem evT_top (ha : Ev ta σ H (isPb k q)) : EvT (tTest (tOp rEq (tOp (rIxT K) ta (tC (.int 0))) (tC (.int 0)))) σ H (decide (q = 0)) := fun H1 e Q cont =>
  ha H1 e _ fun v H2 e2 p => by
    obtain ⟨T, t, b, rfl, hT, b0, rfl, _, _⟩ := p
    refine ⟨T, _, 0, .int t, rfl, rfl, SqT.of hT, rfl, rfl, _, rfl, ?_⟩
    rw [top0 b0]
    exact cont H2 e2
theorem evT_topN (ha : Ev ta σ H (isPb k q)) : EvT (tTest (tOp rNe (tOp (rIxT K) ta (tC (.int 0))) (tC (.int 0)))) σ H (!decide (q = 0)) := fun H1 e Q cont =>
  ha H1 e _ fun v H2 e2 p => by
    obtain ⟨T, t, b, rfl, hT, b0, rfl, _, _⟩ := p
    refine ⟨T, _, 0, .int t, rfl, rfl, SqT.of hT, rfl, rfl, _, rfl, ?_⟩
    rw [top0 b0]
    exact cont H2 e2
end
section
variable {σ : L2.St} {H : Hp} {tt : TT} {t u rest : TS} {b : Bool} {D : Ends}
theorem st_skip (ht : EvT tt σ H b) (hb : b = false) (q : ∀ H2, Ex H H2 → rest D σ H2) : tSeq (tIfS tt t tNext) rest D σ H :=
  st_if (D := { D with nx := rest D }) ht (fun h => by rw [hb] at h; cases h) fun _ H2 e => q H2 e
theorem st_skip1 (ht : EvT tt σ H b) (hb : b = false) (q : ∀ H2, Ex H H2 → u D σ H2) : tIfS tt t u D σ H :=
  st_if ht (fun h => by rw [hb] at h; cases h) fun _ H2 e => q H2 e
theorem st_take1 (ht : EvT tt σ H b) (hb : b = true) (q : ∀ H2, Ex H H2 → t D σ H2) : tIfS tt t u D σ H :=
  st_if ht (fun _ H2 e => q H2 e) fun h => by rw [hb] at h; cases h
theorem st_else1 (ht : EvT tt σ H b) (hb : b = false) (q : ∀ H2, Ex H H2 → u D σ H2) : tIfS tt t u D σ H := st_skip1 ht hb q
theorem evT_cast {c : Bool} (ht : EvT tt σ H b) (e : b = c) : EvT tt σ H c := e ▸ ht
theorem evT_of {te : TE} (h : Ev te σ H (isX (.bl b))) : EvT (tTest te) σ H b := fun H1 e Q q => h H1 e _ fun v H2 e2 p => ⟨b, p, q H2 e2⟩
theorem evT_eqL {ta tb : TE} {p q : Addr} {xs ys : List Str} (ha : Ev ta σ H (isX (.ref p))) (hb : Ev tb σ H (isX (.ref q))) (h1 : H p = some (.lst (xs.map V.str))) (h2 : H q = some (.lst (ys.map V.str))) : EvT (tTest (tOp rEqS ta tb)) σ H (decide (xs = ys)) := fun H1 e Q cont =>
  ha H1 e _ fun u H2 e2 p1 => hb H2 (e.trans e2) _ fun v H3 e3 p3 => by
    obtain rfl : u = .ref p := p1
    obtain rfl : v = .ref q := p3
    exact ⟨p, q, xs, ys, rfl, rfl, e3 _ _ (e2 _ _ (e _ _ h1)), e3 _ _ (e2 _ _ (e _ _ h2)), _, rfl, cont H3 (e2.trans e3)⟩
theorem evT_nil {K : PySem.W.Frag} {ta : TE} (ha : Ev ta σ H (isL [])) : EvT (tTest (tOp (rNeD K) ta (tLst tNil))) σ H false := fun H1 e Q q => ha H1 e _ fun v H2 e2 p => by
  obtain ⟨D, rfl, hD⟩ := p
  refine ⟨by show 0 ≤ sizeLine; decide, fun z hz => ⟨_, _, .lst (SqL.of (Ex.new hz _ _ hD)) .nil, .lst (SqL.of upd_same) .nil, shaped_ll [], shaped_ll [], _, rfl, ?_⟩⟩
  rw [show (!PyData.eqv (.list []) (.list [])) = false by simp [PyData.eqv, PyData.eqvAll]]
  exact q _ (e2.trans (Ex.new hz))
end
theorem places {dn names : List Str} (hs : dn.Sublist names) (nd : names.Nodup) : ∃ pl : Nat → Nat, (∀ j, j < dn.length → pl j < names.length ∧ dn[j]? = names[pl j]?) ∧ (dn = names → ∀ j, j < names.length → pl j = j) := by
  have main : ∀ j, j < dn.length → names.idxOf (dn.getD j default) < names.length ∧ dn[j]? = names[names.idxOf (dn.getD j default)]? := fun j hj => by
    have e1 : dn.getD j default = dn[j] := by rw [List.getD_eq_getElem?_getD, List.getElem?_eq_getElem hj]; rfl
    have hm : dn[j] ∈ names := hs.subset (List.getElem_mem hj)
    rw [e1]
    have hlt : names.idxOf dn[j] < names.length := List.idxOf_lt_length_iff.mpr hm
    refine ⟨hlt, ?_⟩
    rw [List.getElem?_eq_getElem hj, List.getElem?_eq_getElem hlt, List.getElem_idxOf hlt]
  refine ⟨fun j => names.idxOf (dn.getD j default), main, fun e j hj => ?_⟩
  obtain ⟨h1, h2⟩ := main j (by rw [e]; exact hj)
  refine ((List.getElem?_inj (j := j) h1 nd).mp ?_)
  rw [← h2, e]
/-! ### what is kept -/
theorem coef_le {names : List Str} {ts : List (Str × Int)} (h : TmOk names ts) (y : Str) : (coef ts y).natAbs ≤ 10 := by
  unfold coef
  cases e : ts.lookup y with
  | none => decide
  | some c =>
    have : (y, c) ∈ ts := by
      by_cases hh : y ∈ ts.map Prod.fst
      · obtain ⟨c', h1, h2⟩ := lookup_in hh
        rw [h1] at e
        cases e
        exact h2
      · rw [lookup_no hh] at e
        cases e
    exact h.le _ this
section
variable {T : List (Addr × Str)} {C N Rd s l p a lp lr lw r : Addr} {names : List Str} {S : NS} {rws : List V} {ts : List (Str × Int)} {H H' : Hp} {told kd val : V} {A : Nat → Rat} {n k : Nat}
theorem LA.net_ex (h : LA T C N Rd s l p a lp lr names names S H) (h0 : 0 < names.length) (e : Ex H H') : NetAt C N Rd H' a lp lr names S := (h.ex h0 e).net
theorem RowAt.ls {v : V} (h : RowAt s l a lp lr lw names H v A) (hn : names.length = n) : ∃ c : Nat → Int, (isLs n fun i => isX (.int (c i))).p v H ∧ (∀ i, (c i).natAbs ≤ 10) ∧ ∀ y, (sm n fun i => ((c i : Int) : Rat) * y i) = dt n A y := by
  obtain ⟨r, us, ts, rfl, h2, h3, h4, tok, rfl, _⟩ := h
  exact ⟨fun i => coef ts (names.getD i default), ⟨r, us, rfl, h2, by rw [h3, hn], fun i hi => ⟨_, h4 i (by omega), rfl⟩⟩, fun i => coef_le tok _, fun y => rfl⟩
theorem pb_sta {q : Rat} {v : V} (h : (isPb k q).p v H) (hS : StAt H s l) (e : ExX (slB s l) H H') : (isPb k q).p v H' := by
  obtain ⟨T, t, b, rfl, hT, h2⟩ := h
  exact ⟨T, t, b, rfl, e _ _ (hS.nb hT fun _ z => by cases z) (fun _ z => by cases z) hT, h2⟩
structure LF (T : List (Addr × Str)) (C N Rd s l p a lp lr lw r : Addr) (names : List Str) (S : NS) (rws : List V) (ts : List (Str × Int)) (told kd val : V) (H : Hp) : Prop where
  la : LA T C N Rd s l p a lp lr names names S H
  lr : LR s l p a lp lr lw names S rws H
  h0 : 0 < names.length
  told : (isLs S.n fun i => isPb LIM (hts S i)).p told H
  nr : ¬ slB s l r
  row : ∃ us, H r = some (.lst us) ∧ us.length = names.length ∧ ∀ i, i < names.length → us[i]? = some (.int (coef ts (names.getD i default)))
  val : (kd = .str "value" ∧ (∀ j, j < (mvs S).length → dt S.n (rowOf names ts) (mv S j) = 0) ∧ (isPb LIM (dt S.n (rowOf names ts) (hts S))).p val H) ∨ kd = .str "moved"
theorem LF.nlen (h : LF T C N Rd s l p a lp lr lw r names S rws ts told kd val H) : names.length = S.n := by
  obtain ⟨dx, va, vm, vi, vr, vt, us, nv⟩ := h.la.net
  exact nv.len
theorem LF.ex (h : LF T C N Rd s l p a lp lr lw r names S rws ts told kd val H) (e : Ex H H') : LF T C N Rd s l p a lp lr lw r names S rws ts told kd val H' :=
  ⟨h.la.ex h.h0 e, h.lr.ex e, h.h0, (isLs S.n _).mono _ _ _ e h.told, h.nr, let ⟨us, h1, h2⟩ := h.row; ⟨us, e _ _ h1, h2⟩, h.val.imp (fun ⟨h1, h2, h3⟩ => ⟨h1, h2, (isPb LIM _).mono _ _ _ e h3⟩) id⟩
theorem LF.sta (h : LF T C N Rd s l p a lp lr lw r names S rws ts told kd val H) (S' : StAt H' s l) (e : ExE (slB s l) H H') : LF T C N Rd s l p a lp lr lw r names S rws ts told kd val H' :=
  ⟨h.la.sta h.h0 S' e, h.lr.exx e.exx, h.h0, pbs_exx h.told h.la.st (by have := h.nlen; have := h.h0; omega) e.exx, h.nr, let ⟨us, h1, h2⟩ := h.row; ⟨us, e _ _ h.nr h1, h2⟩, h.val.imp (fun ⟨h1, h2, h3⟩ => ⟨h1, h2, pb_sta h3 h.la.st e.exx⟩) id⟩
theorem LF.rowLs (h : LF T C N Rd s l p a lp lr lw r names S rws ts told kd val H) : (isLs S.n fun i => isX (.int (coef ts (names.getD i default)))).p (.ref r) H := by
  obtain ⟨us, h1, h2, h3⟩ := h.row
  exact ⟨r, us, rfl, h1, by rw [h2, h.nlen], fun i hi => ⟨_, h3 i (by rw [h.nlen]; exact hi), rfl⟩⟩
/-- the datums drawn so far -/
def DL (s l dd : Addr) (names : List Str) (us : List V) (H : Hp) : Prop := ∀ u ∈ us, ∃ (q : Addr) (dn : List Str), u = .ref q ∧ H q = some (.lst (dn.map V.str)) ∧ dn.Sublist names ∧ ¬ slB s l q ∧ q ≠ dd
theorem DL.exe {dd : Addr} {us : List V} (h : DL s l dd names us H) (e : ExE (slB s l) H H') : DL s l dd names us H' := fun u hu => let ⟨q, dn, h1, h2, h3, h4, h5⟩ := h u hu; ⟨q, dn, h1, e _ _ h4 h2, h3, h4, h5⟩
theorem DL.upd {dd : Addr} {us : List V} {o : HO} (h : DL s l dd names us H) : DL s l dd names us (L2.upd H dd o) := fun u hu => let ⟨q, dn, h1, h2, h3, h4, h5⟩ := h u hu; ⟨q, dn, h1, by rw [upd_ne h5]; exact h2, h3, h4, h5⟩
theorem StAt.nn (h : StAt H s l) {q : Addr} (hq : H q = none) : ¬ slB s l q := by
  obtain ⟨_, d, vs, _, g1, g2⟩ := h
  rintro (rfl | rfl)
  · rw [g1] at hq; cases hq
  · rw [g2] at hq; cases hq
theorem ExE.mutN {B : Addr → Prop} {H H' : Hp} {p : Addr} {o : HO} (e : ExE B H H') (h : H p = none) : ExE B H (L2.upd H' p o) := fun a u n ha => by
  rw [upd_ne fun q => by rw [q, h] at ha; cases ha]
  exact e a u n ha
theorem StAt.updN {q : Addr} {o : HO} (h : StAt H s l) (hq : ¬ slB s l q) : StAt (L2.upd H q o) s l := by
  obtain ⟨n, d, us, h0, h1, h2⟩ := h
  exact ⟨n, d, us, h0, by rw [upd_ne fun e => hq (Or.inl e.symm)]; exact h1, by rw [upd_ne fun e => hq (Or.inr e.symm)]; exact h2⟩
end
section
variable {K : PySem.W.Frag} {s l p : Addr} {names : List Str} {H : Hp} {Q : VK}
/-- a datum drawn -/
theorem ev_pick {x0 x2 x4 x5 x6 x7 x8 x9 x10 x11 x12 x13 x14 x15 : Option V} (hS : StAt H s l) (hp : H p = some (.lst (names.map V.str))) (h0 : 0 < names.length) (h5 : names.length ≤ 5)
    (q : ∀ (D : Addr) (dn : List Str) H', H D = none → StAt H' s l → ExE (slB s l) H H' → H' D = some (.lst (dn.map V.str)) → dn.Sublist names → Q (.ref D) H') :
    tLc (iList K (tVar 3)) (gName 15) (tTest (tOp rEq (tCall spTake [] E0 (tCons (tVar 1) (tCons (tC (.int 2)) tNil))) (tC (.int 0)))) (tVar 15) [15] [x0, some (.ref s), x2, some (.ref p), x4, x5, x6, x7, x8, x9, x10, x11, x12, x13, x14, x15] H Q := by
  refine ⟨_, rfl, p, rfl, ⟨_, SqL.of hp⟩, fun D hD => ?_⟩
  have nD := hS.nn hD
  have np := hS.nl h0 hp
  refine lc_it (walk_list (K := K) (a := p) (xs := names.map V.str)) (fun i H' => StAt H' s l ∧ ExE (slB s l) H H' ∧ ∃ dn : List Str, H' D = some (.lst (dn.map V.str)) ∧ dn.Sublist (names.take i) ∧ dn.length ≤ i) ⟨hS.ex (Ex.new hD), Ex.exe (Ex.new hD), [], upd_same, List.nil_sublist _, Nat.le_refl _⟩ (fun i H' _ h => SqL.of (h.2.1 _ _ np hp)) ?_ ?_
  · rintro i x H1 H2 hi ⟨S1, e1, dn, hd, hs, hl⟩ ⟨rfl, hx⟩
    rw [List.length_map] at hi
    rw [List.getElem?_map] at hx
    obtain ⟨y, hy, rfl⟩ : ∃ y, names[i]? = some y ∧ x = .str y := by
      cases e : names[i]? with
      | none => rw [e] at hx; cases hx
      | some y => rw [e] at hx; exact ⟨y, rfl, (Option.some.inj hx).symm⟩
    have etake : names.take (i + 1) = names.take i ++ [y] := by rw [List.take_succ, hy]; rfl
    refine ⟨rfl, ?_⟩
    refine take_c (i := 1) rfl S1 (by decide) (by decide) fun d H3 _ _ S3 e3 => ?_
    have hd3 := e3 _ _ nD hd
    refine ⟨rfl, _, rfl, ?_⟩
    cases decide (V.int d = V.int 0) with
    | true =>
      rw [if_pos rfl]
      refine ⟨_, rfl, _, hd3, by rw [List.length_map]; exact sz1000 (by omega), S3.updN nD, (e1.trans e3).mutN hD, dn ++ [y], ?_, ?_, ?_⟩
      · rw [upd_same, List.map_append]
        rfl
      · rw [etake]
        exact hs.append (List.Sublist.refl _)
      · rw [List.length_append, List.length_singleton]
        omega
    | false =>
      rw [if_neg Bool.false_ne_true]
      exact ⟨S3, e1.trans e3, dn, hd3, by rw [etake]; exact hs.trans (List.sublist_append_left _ _), by omega⟩
  · rintro H1 ⟨S1, e1, dn, hd, hs, hl⟩
    rw [List.length_map, List.take_length] at hs
    exact q D dn H1 hD S1 e1 hd hs
/-- nothing passes the test -/
theorem ev_none {σ : L2.St} {n k : Nat} {ta te : TE} {tt : TT} (hn : n ≤ 1000) (hl : Ev ta σ H (isX (.int (n : Int)))) (hw : ∀ x, wipe ((wipe σ [k]).set k (some x)) [k] = wipe σ [k])
    (ht : ∀ i H1, i < n → Ex H H1 → EvT tt ((wipe σ [k]).set k (some (.int (i : Int)))) H1 false) : Ev (tLc (iRng1 (tCons ta tNil)) (gName k) tt te [k]) σ H (isL []) := fun H1 e Q q => hl H1 e _ fun v H2 e2 p => by
  obtain rfl : v = .int (n : Int) := p
  have e0 : ((n : Int)).toNat = n := Int.toNat_natCast n
  refine ⟨(n : Int), rfl, by omega, by omega, ?_⟩
  rw [e0]
  intro D hD
  refine lc_it (walk_range (lo := 0) (n := n)) (fun i H' => Ex H2 H' ∧ H' D = some (.lst [])) ⟨Ex.new hD, upd_same⟩ (fun _ _ _ _ => trivial) ?_ ?_
  · rintro i x H3 H4 hi ⟨e3, hd⟩ ⟨rfl, rfl⟩
    refine ⟨hw _, ?_⟩
    dsimp only
    rw [Int.zero_add]
    refine ht i H4 hi ((e.trans e2).trans e3) H4 (Ex.refl H4) _ fun H5 e5 => ?_
    rw [if_neg Bool.false_ne_true]
    exact ⟨e3.trans e5, e5 _ _ hd⟩
  · rintro H3 ⟨e3, hd⟩
    exact q _ _ (e2.trans e3) ⟨D, rfl, hd⟩
end
end PW

set_option Elab.async false
set_option linter.all false
set_option maxRecDepth 100000
set_option maxHeartbeats 4000000
/-! PwW: the law. -/
namespace PW
open PySem PySem.Spec PyProof.Rows L2 PN LamX
abbrev sLaw : Stmt := topS 75
def spLaw (K : PySem.W.Frag) (T : List (Addr × Str)) : Sp := fun vs H Q _ => ∃ (a : Addr) (us : List Int), vs = [.ref a] ∧ SqL K H a (us.map V.int) ∧ Tabs T H ∧ ∀ H', Q (.bl true) H'
section
variable {P : Program} {w : World} {K : PySem.W.Frag} {mg : Str → Option Value} {base : Heap} {f C N Rd CN fSt fNe fPs fFu fRo fVa fEs fDo fT fIn fEq fHts : Addr} {fd fdSt fdNe fdPs fdFu fdRo fdVa fdEs fdDo fdT fdIn fdEq fdHts : FuncData} {T : List (Addr × Str)}
theorem scLaw : FnScope ["_law_script", "_law_state_here", "_law_net_here", "_law_points_here", "_law_rows", "_law_told", "_law_terms_here", "_law_row_here", "_law_kind", "_law_value_here", "_law_other", "_law_datums", "_law_k", "_law_names", "_law_heights", "_law_name"] ["_law_script"] (defScope sLaw) := ⟨rfl, rfl, rfl, by decide +kernel, rfl, by decide +kernel, by decide +kernel⟩
theorem ok_law (F : FnP K "law" "law" sLaw f fd) (NT : NCls K N C Rd) (ml : mg "list" = none) (mr : mg "range" = none) (mn : mg "len" = none)
    (DSt : DefOk P w K mg base CX0 "_law_state" 1 ["_law_script"] (spState K) fSt fdSt) (DNe : DefOk P w K mg base CX0 "_law_net" 10 ["_law_state_here", "_law_most"] (spNet T C N Rd) fNe fdNe)
    (DPs : DefOk P w K mg base CX0 "_law_pairs" 1 ["_law_vector"] (spPairs C) fPs fdPs) (DFu : DefOk P w K mg base CX0 "_law_function" 4 ["_law_state_here", "_law_points_here", "_law_rows"] (spFunc T C N Rd) fFu fdFu)
    (DRo : DefOk P w K mg base CX0 "_law_row" 2 ["_law_points_here", "_law_terms_here"] spRowL fRo fdRo) (DVa : DefOk P w K mg base CX0 "_law_value" 11 ["_law_net_here", "_law_terms_here"] (spVal C N Rd) fVa fdVa)
    (DEs : DefOk P w K mg base CX0 "estimable" 9 ["net", "terms"] (spEstimable C N Rd) fEs fdEs) (DDo : DefOk P w K mg base CX0 "_law_dot" 2 ["_law_row_here", "_law_pairs_here"] spDotL fDo fdDo)
    (DT : DefOk P w K mg base CX0 "_law_take" 2 ["_law_state_here", "_law_limit"] spTake fT fdT) (DIn : DefOk P w K mg base CX0 "_law_in" 10 ["_law_net_here", "_law_names"] (spIn C N Rd) fIn fdIn)
    (DEq : DefOk P w K mg base CX0 "_law_equal" 1 ["_law_one", "_law_two"] spEqual fEq fdEq) (DHts : MetOk P w K mg base CX0 N "heights" 6 ["self"] (spHts C N Rd) fHts fdHts) :
    FnOk P w K mg base CX0 12 f fd ["_law_script"] (spLaw K T) := by
  refine F.ok scLaw (fun vs H Q E h => ?_) (fun cdv A outer s₀ H vs Q E hr h => ?_)
  · obtain ⟨a, us, rfl, _⟩ := h
    rfl
  · obtain ⟨a, us, rfl, ha, hT, k⟩ := h
    have hr11 : Room 11 _ := hr
    have hr10 : Room 10 _ := hr.mono (by decide)
    have hr9 : Room 9 _ := hr.mono (by decide)
    have hr6 : Room 6 _ := hr.mono (by decide)
    have hr4 : Room 4 _ := hr.mono (by decide)
    have hr2 : Room 2 _ := hr.mono (by decide)
    have hr1 : Room 1 _ := hr.mono (by decide)
    refine ⟨_, PSs.nox (pss_cons (ps_set (i := 1) scLaw.nd rfl (Or.inr rfl) (pe_cd DSt hr1 rfl pass0 (pa_cons (pv 0) pa_nil))) (pss_cons (ps_asg (pe_cd DNe hr10 rfl pass0 (pa_cons (pv 1) (pa_cons pe_int pa_nil))) (pg_tup rfl (pgs_cons (pg_name (i := 2) scLaw.nd rfl (Or.inl rfl)) (pgs_cons (pg_name (i := 3) scLaw.nd rfl (Or.inl rfl)) (pgs_cons (pg_name (i := 4) scLaw.nd rfl (Or.inl rfl)) pgs_nil))))) (pss_cons (ps_set (i := 5) scLaw.nd rfl (Or.inr rfl) (pe_cd DPs hr1 rfl pass0 (pa_cons (pe_meth0 (pv 2) NT.cl DHts.me DHts.ok hr6 DHts.bd .nil pass0) pa_nil))) (pss_cons (ps_set (i := 6) scLaw.nd rfl (Or.inl rfl) (pe_cd DFu hr4 rfl pass0 (pa_cons (pv 1) (pa_cons (pv 3) (pa_cons (pv 4) pa_nil))))) (pss_cons (ps_set (i := 7) scLaw.nd rfl (Or.inl rfl) (pe_cd DRo hr2 rfl pass0 (pa_cons (pv 3) (pa_cons (pv 6) pa_nil)))) (pss_cons (ps_asg (pe_cd DVa hr11 rfl pass0 (pa_cons (pv 2) (pa_cons (pv 6) pa_nil))) (pg_tup rfl (pgs_cons (pg_name (i := 8) scLaw.nd rfl (Or.inl rfl)) (pgs_cons (pg_name (i := 9) scLaw.nd rfl (Or.inl rfl)) pgs_nil)))) (pss_cons (ps_if (pt_cmpR op_ne (pe_cd DEs hr9 rfl pass0 (pa_cons (pv 2) (pa_cons (pv 6) pa_nil))) (pe_cmpR op_eq (pv 8) pe_str (nomark _)) (nomark _)) (pss_one (ps_ret pe_bl)) pss_nil) (pss_cons (ps_if (pt_cmpR op_eq (pv 8) pe_str (nomark _)) (pss_cons (ps_if (pt_cmpR op_eq (pe_ix ix_tup (pe_cd DDo hr2 rfl pass0 (pa_cons (pv 7) (pa_cons (pv 9) pa_nil))) pe_int (fun _ _ => rfl)) pe_int (nomark _)) (pss_one (ps_ret pe_bl)) pss_nil) (pss_one (ps_for PassesOwn.never rfl (pi_list (pv 4)) (pg_name (i := 10) scLaw.nd rfl (Or.inl rfl)) (pss_one (ps_if (pt_cmpR op_ne (pe_ix ix_tup (pe_cd DDo hr2 rfl pass0 (pa_cons (pv 10) (pa_cons (pv 9) pa_nil))) pe_int (fun _ _ => rfl)) pe_int (nomark _)) (pss_one (ps_ret pe_bl)) pss_nil))))) pss_nil) (pss_cons (ps_set (i := 11) scLaw.nd rfl (Or.inl rfl) (pe_lst (pa_cons (pe_callTy (r := rLst K) call_list_of (by rfl) ml (by decide +kernel) (pa_cons (pv 3) pa_nil)) pa_nil))) (pss_cons (ps_for PassesOwn.never rfl (pi_range1 rfl mr (pa_cons pe_int pa_nil)) (pg_name (i := 12) scLaw.nd rfl (Or.inl rfl)) (pss_one (ps_expr (pe_bm PySem.F.plainAttrs_list PySem.F.slot_list_append PySem.F.type_list_append mt_append (pv 11) (pa_cons (pe_lc (own := [("_law_name", 15)]) (g := (gName 15)) (tt := _) rfl scLaw.nd (pi_list (pv 3)) (blkOk_by (N := ["_law_script", "_law_state_here", "_law_net_here", "_law_points_here", "_law_rows", "_law_told", "_law_terms_here", "_law_row_here", "_law_kind", "_law_value_here", "_law_other", "_law_datums", "_law_k", "_law_names", "_law_heights", "_law_name"]) (sc := defScope sLaw) (by decide +kernel)) (fun _ _ _ _ _ => (pg_name (i := 15) scLaw.nd rfl (Or.inl rfl))) (fun _ _ _ _ _ => (pts_one (pt_cmpR op_eq (pe_cd DT hr2 rfl pass0 (pa_cons (pv 1) (pa_cons pe_int pa_nil))) pe_int (nomark _)))) (fun _ _ _ _ _ => (pv 15))) pa_nil))))) (pss_cons (ps_for PassesOwn.never rfl (pi_list (pv 11)) (pg_name (i := 13) scLaw.nd rfl (Or.inl rfl)) (pss_cons (ps_set (i := 14) scLaw.nd rfl (Or.inr rfl) (pe_cd DIn hr10 rfl pass0 (pa_cons (pv 2) (pa_cons (pv 13) pa_nil)))) (pss_one (ps_if (pt_cmpR op_isN (pv 14) pe_non (nomark _)) (pss_one (ps_if (pt_cmpR (op_eqS hr1.units) (pv 13) (pv 3) (nomark _)) (pss_one (ps_ret pe_bl)) pss_nil)) (pss_cons (ps_for PassesOwn.never rfl (pi_list (pv 4)) (pg_name (i := 10) scLaw.nd rfl (Or.inl rfl)) (pss_one (ps_if (pt_not (pt_val (pe_cd DEq hr1 rfl pass0 (pa_cons (pe_cd DDo hr2 rfl pass0 (pa_cons (pv 10) (pa_cons (pv 14) pa_nil))) (pa_cons (pe_cd DDo hr2 rfl pass0 (pa_cons (pv 10) (pa_cons (pv 5) pa_nil))) pa_nil))))) (pss_one (ps_ret pe_bl)) pss_nil))) (pss_cons (ps_if (PW.pt (pw_and (pt_cmpR op_eq (pv 8) pe_str (nomark _)) (pw_and1 (pt_not (pt_val (pe_cd DEq hr1 rfl pass0 (pa_cons (pe_cd DDo hr2 rfl pass0 (pa_cons (pv 7) (pa_cons (pv 14) pa_nil))) (pa_cons (pv 9) pa_nil)))))))) (pss_one (ps_ret pe_bl)) pss_nil) (pss_one (ps_if (PW.pt (pw_and (pt_cmpR (op_eqS hr1.units) (pv 13) (pv 3) (nomark _)) (pw_and1 (pt_cmpR (op_neD hr1.units) (pe_lc (own := [("_law_k", 12)]) (g := (gName 12)) (tt := _) rfl scLaw.nd (pi_range1 rfl mr (pa_cons (pe_callB call_len_seq (by rfl) mn PySem.boot_len (pa_cons (pv 3) pa_nil)) pa_nil)) (blkOk_by (N := ["_law_script", "_law_state_here", "_law_net_here", "_law_points_here", "_law_rows", "_law_told", "_law_terms_here", "_law_row_here", "_law_kind", "_law_value_here", "_law_other", "_law_datums", "_law_k", "_law_names", "_law_heights", "_law_name"]) (sc := defScope sLaw) (by decide +kernel)) (fun _ _ _ _ _ => (pg_name (i := 12) scLaw.nd rfl (Or.inl rfl))) (fun _ _ _ _ _ => (pts_one (pt_not (pt_val (pe_cd DEq hr1 rfl pass0 (pa_cons (pe_ix (r := rIxL K) ix_list (pv 14) (pv 12) (fun _ _ => rfl)) (pa_cons (pe_ix (r := rIxL K) ix_list (pv 5) (pv 12) (fun _ _ => rfl)) pa_nil))))))) (fun _ _ _ _ _ => (pv 12))) (pe_lst pa_nil) (nomark _))))) (pss_one (ps_ret pe_bl)) pss_nil)))))))) (pss_one (ps_ret pe_bl))))))))))))), ?_⟩
    refine ⟨_, rfl, a, us, rfl, ha, fun s l H1 S1 e1 => ?_⟩
    have T1 := hT.ext e1
    dsimp only [gName]
    refine ⟨_, rfl, s, l, rfl, S1, T1, fun z p b lp lr lw names S rws H2 hz nd h0 h5 la ok lrr => ?_⟩
    refine ⟨z, _, rfl, SqT.of hz, rfl, .ref b, _, rfl, .ref p, _, rfl, .ref lw, _, rfl, rfl, ?_⟩
    have nlen : names.length = S.n := by obtain ⟨dx, va, vm, vi, vr, vt, us, nv⟩ := la.net; exact nv.len
    have n5 := ok.n5
    have m7 := ok.m7
    have t2 : TF T C N Rd s l p b lp lr lw names S rws H2 H2 := ⟨la, lrr, ExX.refl _, h0⟩
    have smh : ∀ i, i < S.n → Sm (hts S i) := fun i hi => by
      obtain ⟨_, D, hD, hd, hb⟩ := ok.hb
      have l80 : LIM = 4480 := rfl
      exact (hb i hi).1.small hD hd (by omega) (by omega)
    have fnr : ∀ ts, TmOk names ts → FnNum S (rowOf names ts) ∧ Sm (dt S.n (rowOf names ts) (hts S)) := fun ts h => fnnum ok fun i _ => row_dn h i
    have smv : ∀ j, j < (mvs S).length → ∀ i, i < S.n → Sm (mv S j i) := (ok.hin (pl := fun _ => 0) (q := 0) (by omega) (fun j hj => absurd hj (Nat.not_lt_zero j))).mv
    have l80 : LIM = 4480 := rfl
    dsimp only
    show tSeq (tAsg _ _) _ _ [some (.ref a), some (.ref s), some (.ref b), some (.ref p), some (.ref lw), none, none, none, none, none, none, none, none, none, none, none] H2
    refine st_set (P := isLs S.n fun i => isPb LIM (hts S i)) (ev_call1 (ev_hts (i := 2) rfl la.net ok.hb.1 (by omega)) fun x H1 _ p1 H2 e2 Q q => ⟨x, S.n, hts S, rfl, IsV.ex p1 e2, by omega, smh, q⟩) fun told H3 e3 htold => ?_
    have t3 := t2.ex e3
    refine ⟨_, rfl, _, rfl, _, rfl, s, l, p, b, lp, lr, lw, names, S, rws, rfl, ⟨t3.la, t3.lr, ExX.refl _, h0⟩, h5, nd, m7, fun tv ts H4 S4 x4 T4 htm tok => ?_⟩
    have la4 := t3.la.gen h0 S4 T4 x4
    have lr4 := t3.lr.exx x4
    have to4 := pbs_exx htold t3.la.st (by omega) x4
    dsimp only [gName]
    refine ⟨_, rfl, _, rfl, p, tv, names, ts, rfl, la4.pt, by omega, htm, tok.nd, fun r us H5 e5 hr0 hr1 hul hus => ?_⟩
    have nr := S4.nn hr0
    have htm5 := (isTm ts).mono _ _ _ e5 htm
    have base : ∀ {kd val : V} {H' : Hp}, Ex H5 H' → ((kd = .str "value" ∧ (∀ j, j < (mvs S).length → dt S.n (rowOf names ts) (mv S j) = 0) ∧ (isPb LIM (dt S.n (rowOf names ts) (hts S))).p val H') ∨ kd = .str "moved") → LF T C N Rd s l p b lp lr lw r names S rws ts told kd val H' := fun {kd val H'} e hv =>
      ⟨la4.ex h0 (e5.trans e), lr4.ex (e5.trans e), h0, (isLs S.n _).mono _ _ _ (e5.trans e) to4, nr, ⟨us, e _ _ hr1, hul, hus⟩, hv⟩
    dsimp only [gName]
    show tSeq (tAsg _ _) _ _ [some (.ref a), some (.ref s), some (.ref b), some (.ref p), some (.ref lw), some told, some tv, some (.ref r), none, none, none, none, none, none, none, none] H5
    -- the value
    refine use_tail (fun σ' H' => ∃ (kt : Str) (val : V), σ' = [some (.ref a), some (.ref s), some (.ref b), some (.ref p), some (.ref lw), some told, some tv, some (.ref r), some (.str kt), some val, none, none, none, none, none, none] ∧ LF T C N Rd s l p b lp lr lw r names S rws ts told (.str kt) val H' ∧ (isTm ts).p tv H' ∧ ((kt = "value" ∧ ∀ j, j < (mvs S).length → dt S.n (rowOf names ts) (mv S j) = 0) ∨ (kt = "moved" ∧ ∃ j, j < (mvs S).length ∧ dt S.n (rowOf names ts) (mv S j) ≠ 0 ∧ (isLs S.n fun i => isPb LIM (mv S j i)).p val H'))) ?_ fun tail => ?_
    · rintro σ' H6 ⟨kt, val, rfl, lf, htm6, hk⟩
      -- estimable says the same
      refine st_skip (b := !decide (decide (kt = "value") = decide (kt = "value"))) (evT_neB (fun H7 e7 Q q => ?_) (ev_eqT (ev_var rfl rfl) ev_c)) (by simp) fun H7 e7 => ?_
      · refine ⟨_, rfl, _, rfl, b, lp, lr, tv, names, S, ts, rfl, (lf.ex e7).la.net, (isTm ts).mono _ _ _ e7 htm6, tok, (fnr ts tok).1, fun h H8 e8 => ?_, fun h H8 e8 => ?_⟩
        · have : decide (kt = "value") = true := by
            rcases hk with ⟨rfl, _⟩ | ⟨_, j, hj, hne, _⟩
            · exact decide_eq_true rfl
            · exact absurd (h j hj) hne
          exact q _ _ e8 (by rw [this]; rfl)
        · have : decide (kt = "value") = false := by
            rcases hk with ⟨_, hE⟩ | ⟨rfl, _⟩
            · exact absurd hE h
            · decide +kernel
          exact q _ _ e8 (by rw [this]; rfl)
      have lf7 := lf.ex e7
      have hk7 : kt = "value" ∨ (kt = "moved" ∧ ∃ j, j < (mvs S).length ∧ dt S.n (rowOf names ts) (mv S j) ≠ 0 ∧ (isLs S.n fun i => isPb LIM (mv S j i)).p val H7) := hk.imp And.left fun ⟨h1, j, h2, h3, h4⟩ => ⟨h1, j, h2, h3, (isLs S.n _).mono _ _ _ e7 h4⟩
      clear hk htm6 lf
      -- the movement
      refine use_tail (fun σ' H' => ∃ x10, σ' = [some (.ref a), some (.ref s), some (.ref b), some (.ref p), some (.ref lw), some told, some tv, some (.ref r), some (.str kt), some val, x10, none, none, none, none, none] ∧ LF T C N Rd s l p b lp lr lw r names S rws ts told (.str kt) val H') ?_ fun tail2 => ?_
      · rintro σ' H8 ⟨x10, rfl, lf8⟩
        have S8 := lf8.la.st
        have mn : S.n * (LIM + 5) ≤ 5 * (LIM + 5) := Nat.mul_le_mul_right _ (by omega)
        -- the datums
        refine ⟨_, rfl, p, _, rfl, .inl (SqL.of lf8.la.pt), fun l0 hl0 => ⟨by show 1 ≤ sizeLine; decide, fun dd hdd => ?_⟩⟩
        have lfb := lf8.ex (Ex.new (o := .lst (names.map V.str)) hl0)
        have hb0 : L2.upd H8 l0 (.lst (names.map V.str)) l0 = some (.lst (names.map V.str)) := upd_same
        have nl0 := S8.nn hl0
        generalize L2.upd H8 l0 (.lst (names.map V.str)) = Hb at lfb hb0 hdd ⊢
        have ndd := lfb.la.st.nn hdd
        have l0d : l0 ≠ dd := fun e => by rw [e, hdd] at hb0; cases hb0
        dsimp only [gName]
        show tSeq (tFor _ _ _) _ _ [some (.ref a), some (.ref s), some (.ref b), some (.ref p), some (.ref lw), some told, some tv, some (.ref r), some (.str kt), some val, x10, some (.ref dd), none, none, none, none] _
        refine st_forR (n := 2) ev_c (by decide) (fun i σ' H' => ∃ x12 us, σ' = [some (.ref a), some (.ref s), some (.ref b), some (.ref p), some (.ref lw), some told, some tv, some (.ref r), some (.str kt), some val, x10, some (.ref dd), x12, none, none, none] ∧ StAt H' s l ∧ ExE (slB s l) Hb H' ∧ H' dd = some (.lst us) ∧ us.length ≤ i + 1 ∧ DL s l dd names us H')
          (fun H9 e9 => ⟨none, [.ref l0], rfl, (lfb.la.st.ex (Ex.new hdd)).ex e9, Ex.exe ((Ex.new hdd).trans e9), e9 _ _ upd_same, Nat.le_refl _, fun u hu => by
            obtain rfl : u = .ref l0 := by simpa using hu
            exact ⟨l0, names, rfl, e9 _ _ (Ex.new hdd _ _ hb0), List.Sublist.refl _, nl0, l0d⟩⟩) ?_ ?_
        · rintro i σ' H9 hi ⟨x12, us, rfl, S9, e9, hd9, ul, dl⟩
          have lf9 := lfb.sta S9 e9
          dsimp only [gName]
          refine ⟨_, rfl, .inl ⟨rfl, _, SqL.of hd9⟩, ?_⟩
          show tLc _ _ _ _ _ [some (.ref a), some (.ref s), some (.ref b), some (.ref p), some (.ref lw), some told, some tv, some (.ref r), some (.str kt), some val, x10, some (.ref dd), some (.int i), none, none, none] H9 _
          refine ev_pick S9 lf9.la.pt h0 h5 fun Dd dn HA hDn SA eA hDA hsub => ?_
          have ddA := eA _ _ ndd hd9
          have nDn := S9.nn hDn
          have Dnd : Dd ≠ dd := fun e => by rw [e, hd9] at hDn; cases hDn
          refine ⟨dd, us, .ref Dd, rfl, rfl, ddA, sz1000 (by omega), _, _, rfl, SA.updN ndd, (e9.trans eA).mutN hdd, upd_same, by rw [List.length_append, List.length_singleton]; omega, fun u hu => ?_⟩
          rcases List.mem_append.mp hu with h | h
          · exact (dl.exe eA).upd u h
          · obtain rfl : u = .ref Dd := by simpa using h
            exact ⟨Dd, dn, rfl, by rw [upd_ne Dnd]; exact hDA, hsub, nDn, Dnd⟩
        · rintro σ' H9 ⟨x12, us, rfl, S9, e9, hd9, ul, dl⟩
          have lf9 := lfb.sta S9 e9
          show tSeq (tFor _ _ _) _ _ [some (.ref a), some (.ref s), some (.ref b), some (.ref p), some (.ref lw), some told, some tv, some (.ref r), some (.str kt), some val, x10, some (.ref dd), x12, none, none, none] H9
          refine st_forL (K := K) (a := dd) (us := us) (ev_var (i := 11) rfl rfl) hd9 (fun i σ' H' => ∃ x10 x13 x14, σ' = [some (.ref a), some (.ref s), some (.ref b), some (.ref p), some (.ref lw), some told, some tv, some (.ref r), some (.str kt), some val, x10, some (.ref dd), x12, x13, x14, none] ∧ Ex H9 H') (fun H' e => ⟨x10, none, none, rfl, e⟩) (fun i σ' H' ⟨_, _, _, _, e⟩ => e _ _ hd9) ?_ fun σ' H' ⟨_, _, _, hs, _⟩ => k _
          rintro i x σ' HA hx ⟨x10, x13, x14, rfl, eA⟩
          obtain ⟨q, dn, rfl, hq9, hsub, _, _⟩ := dl x (List.mem_of_getElem? hx)
          have lfA := lf9.ex eA
          have hq := eA _ _ hq9
          have dlen := hsub.length_le
          have ndn : dn.Nodup := List.Nodup.sublist hsub nd
          obtain ⟨pl, hpl, plid⟩ := places hsub nd
          have hpl' : ∀ j, j < dn.length → pl j < S.n ∧ dn[j]? = names[pl j]? := fun j hj => by rw [← nlen]; exact hpl j hj
          have hok := ok.hin (pl := pl) (q := dn.length) (by omega) fun j hj => (hpl' j hj).1
          dsimp only [gName]
          refine ⟨_, rfl, _, rfl, b, lp, lr, q, names, dn, S, pl, rfl, lfA.la.net, hq, ndn, hpl', by omega, by omega, by omega, ok.mov, hok, fun i hi => hok.u _ (Nat.le_refl _) i hi, fun hk z HB eB hz => ?_, fun hk HB eB => ?_⟩
          · obtain ⟨zq, zs, rfl, _⟩ := id hz
            have lfB := lfA.ex eB
            dsimp only [gName]
            show tIfS _ _ _ _ [some (.ref a), some (.ref s), some (.ref b), some (.ref p), some (.ref lw), some told, some tv, some (.ref r), some (.str kt), some val, x10, some (.ref dd), x12, some (.ref q), some (.ref zq), none] HB
            refine st_else1 (evT_of (ev_isN (v := .ref zq) (ev_var rfl rfl))) (decide_eq_false fun h => by cases h) fun HC eC => ?_
            have lfC := lfB.ex eC
            have hzC := (isLs S.n _).mono _ _ _ eC hz
            show tSeq (tFor _ _ _) _ _ [some (.ref a), some (.ref s), some (.ref b), some (.ref p), some (.ref lw), some told, some tv, some (.ref r), some (.str kt), some val, x10, some (.ref dd), x12, some (.ref q), some (.ref zq), none] HC
            refine st_forL (K := K) (a := lw) (us := rws) (ev_var (i := 4) rfl rfl) lfC.lr.rw (fun i σ' H' => ∃ x10, σ' = [some (.ref a), some (.ref s), some (.ref b), some (.ref p), some (.ref lw), some told, some tv, some (.ref r), some (.str kt), some val, x10, some (.ref dd), x12, some (.ref q), some (.ref zq), none] ∧ Ex HC H') (fun H' e => ⟨x10, rfl, e⟩) (fun i σ' H' ⟨_, _, e⟩ => e _ _ lfC.lr.rw) ?_ ?_
            · rintro i x σ' H' hx ⟨x10, rfl, e⟩
              have lfD := lfC.ex e
              have hi : i < S.m := by rw [← lfC.lr.rl]; exact (List.getElem?_eq_some_iff.mp hx).1
              obtain ⟨v, hv, hrow⟩ := lfD.lr.rk i hi
              rw [hx] at hv
              cases hv
              obtain ⟨c, hc1, hc2, hc3⟩ := hrow.ls lfD.nlen
              dsimp only [gName]
              refine st_skip1 (evT_not (evT_B (ev_equal (k := 1 + S.n * (LIM + 5)) (j := 1 + S.n * (LIM + 5)) (ev_dotl (c := c) (y := PN.hin S pl dn.length) (ev_var (i := 10) rfl hc1) (fun i _ => hc2 i) (ev_var (i := 14) rfl ((isLs S.n _).mono _ _ _ e hzC)) (by omega) (by omega) (by omega)) (ev_dotl (c := c) (y := hts S) (ev_var (i := 10) rfl hc1) (fun i _ => hc2 i) (ev_var (i := 5) rfl lfD.told) (by omega) (by omega) (by omega)) (by omega) (by omega) (by omega)))) ?_ fun HE eE => ⟨_, rfl, e.trans eE⟩
              rw [hc3, hc3, hin_read hi, decide_eq_true rfl]
              rfl
            · rintro σ' HD ⟨x10, rfl, eD⟩
              have lfD := lfC.ex eD
              have hzD := (isLs S.n _).mono _ _ _ eD hzC
              refine st_skip (b := false) ?_ rfl fun HE eE => ?_
              · rcases lfD.val with ⟨hv1, hE, hv⟩ | hv1
                · refine evT_cast (evT_and (evT_eqT (x := kt) (z := "value") (ev_var rfl rfl) ev_c) fun _ => evT_not (evT_B (ev_equal (k := 1 + S.n * (LIM + 5)) (j := LIM) (ev_dotl (c := fun i => coef ts (names.getD i default)) (y := PN.hin S pl dn.length) (ev_var (i := 7) rfl lfD.rowLs) (fun i _ => coef_le tok _) (ev_var (i := 14) rfl hzD) (by omega) (by omega) (by omega)) (ev_var (i := 9) rfl hv) (by omega) (by omega) (by omega)))) ?_
                  have e1 : (sm S.n fun i => ((coef ts (names.getD i default) : Int) : Rat) * PN.hin S pl dn.length i) = dt S.n (rowOf names ts) (hts S) := hin_row (a := rowOf names ts) hE
                  rw [e1, decide_eq_true (p := dt S.n (rowOf names ts) (hts S) = dt S.n (rowOf names ts) (hts S)) rfl, Bool.not_true, Bool.and_false]
                · obtain rfl : kt = "moved" := V.str.inj hv1
                  exact evT_and (b := false) (c := false) (evT_cast (evT_eqT (x := "moved") (z := "value") (ev_var rfl rfl) ev_c) (by decide +kernel)) fun h => by cases h
              · have lfE := lfD.ex eE
                have hzE := (isLs S.n _).mono _ _ _ eE hzD
                have hqE := eE _ _ (eD _ _ (eC _ _ (eB _ _ hq)))
                refine st_skip1 (b := false) ?_ rfl fun HF eF => ⟨x10, _, _, rfl, ((((eA.trans eB).trans eC).trans eD).trans eE).trans eF⟩
                by_cases hdn : dn = names
                · refine evT_cast (evT_and (evT_eqL (ev_var (i := 13) rfl rfl) (ev_var (i := 3) rfl rfl) hqE lfE.la.pt) fun _ => evT_nil (ev_none (n := S.n) (by omega) (nlen ▸ (by have := ev_lenAt (K := K) (σ := [some (.ref a), some (.ref s), some (.ref b), some (.ref p), some (.ref lw), some told, some tv, some (.ref r), some (.str kt), some val, x10, some (.ref dd), x12, some (.ref q), some (.ref zq), none]) (i := 3) rfl lfE.la.pt; rwa [List.length_map] at this)) (fun _ => rfl) fun i HF hi eF => evT_cast (evT_not (evT_B (ev_equal (k := LIM) (j := LIM) (ev_ixL (i := i) (Pi := fun i => isPb LIM (PN.hin S pl dn.length i)) (ev_var (i := 14) rfl ((isLs S.n _).mono _ _ _ eF hzE)) (ev_var (i := 12) rfl rfl) hi) (ev_ixL (i := i) (Pi := fun i => isPb LIM (hts S i)) (ev_var (i := 5) rfl (lfE.ex eF).told) (ev_var (i := 12) rfl rfl) hi) (by omega) (by omega) (by omega)))) ?_)) (Bool.and_false _)
                  have e2 : PN.hin S pl dn.length i = hts S i := by
                    rw [hdn, nlen]
                    exact hin_all ok (fun j hj => plid hdn j (by omega)) i hi
                  rw [e2, decide_eq_true (p := hts S i = hts S i) rfl]
                  rfl
                · exact evT_and (b := false) (c := false) (evT_cast (evT_eqL (ev_var (i := 13) rfl rfl) (ev_var (i := 3) rfl rfl) hqE lfE.la.pt) (decide_eq_false hdn)) fun h => by cases h
          · have lfB := lfA.ex eB
            dsimp only [gName]
            show tIfS _ _ _ _ [some (.ref a), some (.ref s), some (.ref b), some (.ref p), some (.ref lw), some told, some tv, some (.ref r), some (.str kt), some val, x10, some (.ref dd), x12, some (.ref q), some .non, none] HB
            refine st_take1 (evT_of (ev_isN (v := .non) (ev_var rfl rfl))) (decide_eq_true rfl) fun HC eC => ?_
            refine st_skip1 (evT_eqL (xs := dn) (ys := names) (ev_var (i := 13) rfl rfl) (ev_var (i := 3) rfl rfl) (eC _ _ (eB _ _ hq)) (lfB.ex eC).la.pt) (decide_eq_false fun e => hk ?_) fun HD eD => ⟨x10, _, _, rfl, ((eA.trans eB).trans eC).trans eD⟩
            exact wk_full fun j hj => ⟨j, by rw [e]; omega, plid e j (by omega)⟩
      · rcases hk7 with rfl | ⟨rfl, j, hj, hne, hm⟩
        · refine st_skip1 (evT_eqT (x := "value") (z := "moved") (ev_var rfl rfl) ev_c) (by decide +kernel) fun H8 e8 => tail2 _ _ ⟨none, rfl, lf7.ex e8⟩
        · refine st_take1 (evT_eqT (x := "moved") (z := "moved") (ev_var rfl rfl) ev_c) (by decide +kernel) fun H8 e8 => ?_
          have lf8 := lf7.ex e8
          have hm8 := (isLs S.n _).mono _ _ _ e8 hm
          refine st_skip (evT_top (k := 1 + S.n * (LIM + 5)) (q := dt S.n (rowOf names ts) (mv S j)) (ev_dotl (c := fun i => coef ts (names.getD i default)) (ev_var rfl lf8.rowLs) (fun i _ => coef_le tok _) (ev_var rfl hm8) (by omega) (by omega) (by omega))) (decide_eq_false hne) fun H9 e9 => ?_
          have lf9 := lf8.ex e9
          have hm9 := (isLs S.n _).mono _ _ _ e9 hm8
          show tSeq (tFor _ _ _) _ _ [some (.ref a), some (.ref s), some (.ref b), some (.ref p), some (.ref lw), some told, some tv, some (.ref r), some (.str "moved"), some val, none, none, none, none, none, none] H9
          refine st_forL (K := K) (a := lw) (us := rws) (ev_var (i := 4) rfl rfl) lf9.lr.rw (fun i σ' H' => ∃ x10, σ' = [some (.ref a), some (.ref s), some (.ref b), some (.ref p), some (.ref lw), some told, some tv, some (.ref r), some (.str "moved"), some val, x10, none, none, none, none, none] ∧ Ex H9 H') (fun H' e => ⟨none, rfl, e⟩) (fun i σ' H' ⟨_, _, e⟩ => e _ _ lf9.lr.rw) ?_ ?_
          · rintro i x σ' H' hx ⟨x10, rfl, e⟩
            have lfA := lf9.ex e
            have hi : i < S.m := by rw [← lf9.lr.rl]; exact (List.getElem?_eq_some_iff.mp hx).1
            obtain ⟨v, hv, hrow⟩ := lfA.lr.rk i hi
            rw [hx] at hv
            cases hv
            obtain ⟨c, hc1, hc2, hc3⟩ := hrow.ls lfA.nlen
            dsimp only [gName]
            refine st_skip1 (evT_topN (k := 1 + S.n * (LIM + 5)) (q := sm S.n fun i => ((c i : Int) : Rat) * mv S j i) (ev_dotl (c := c) (ev_var rfl hc1) (fun i _ => hc2 i) (ev_var rfl ((isLs S.n _).mono _ _ _ e hm9)) (by omega) (by omega) (by omega))) (by rw [hc3, mv_orth hj i hi]; rfl) fun HB eB => ?_
            exact ⟨_, rfl, e.trans eB⟩
          · rintro σ' H' ⟨x10, rfl, e⟩
            exact tail2 _ _ ⟨x10, rfl, lf9.ex e⟩
    · -- the value's two ends
      obtain ⟨f1, f2⟩ := fnr ts tok
      refine ⟨_, rfl, _, rfl, b, lp, lr, tv, names, S, ts, rfl, la4.net_ex h0 e5, htm5, tok, f1, f2, smv, fun hE z H6 e6 hz => ?_, fun j hj hne z H6 e6 hz => ?_⟩
      · obtain ⟨T6, kd, val, rfl, hT, rfl, hv⟩ := hz
        exact pair_tgt hT (tail _ _ ⟨"value", val, rfl, base e6 (.inl ⟨rfl, hE, hv⟩), (isTm ts).mono _ _ _ e6 htm5, .inl ⟨rfl, hE⟩⟩)
      · obtain ⟨T6, kd, val, rfl, hT, rfl, hv⟩ := hz
        exact pair_tgt hT (tail _ _ ⟨"moved", val, rfl, base e6 (.inr rfl), (isTm ts).mono _ _ _ e6 htm5, .inr ⟨rfl, j, hj, hne, hv⟩⟩)
end
end PW

set_option Elab.async false
set_option linter.all false
set_option maxRecDepth 100000
set_option maxHeartbeats 0
/-! Hd: the head: what is told, the run. -/
namespace PW
open PySem PySem.Spec PyProof.Rows L2 PN LamX
abbrev e0 : He.DefD := ⟨("Ratio", some "__init__"), "__init__", "Ratio.__init__", defArgs sRInit, defBody sRInit, defScope sRInit, [.int 1], []⟩
abbrev e1 : He.DefD := ⟨("Ratio", some "__add__"), "__add__", "Ratio.__add__", defArgs sRAdd, defBody sRAdd, defScope sRAdd, [], []⟩
abbrev e2 : He.DefD := ⟨("Ratio", some "__sub__"), "__sub__", "Ratio.__sub__", defArgs sRSub, defBody sRSub, defScope sRSub, [], []⟩
abbrev e3 : He.DefD := ⟨("Ratio", some "__mul__"), "__mul__", "Ratio.__mul__", defArgs sRMul, defBody sRMul, defScope sRMul, [], []⟩
abbrev e4 : He.DefD := ⟨("Ratio", some "__neg__"), "__neg__", "Ratio.__neg__", defArgs sRNeg, defBody sRNeg, defScope sRNeg, [], []⟩
abbrev e5 : He.DefD := ⟨("Ratio", some "over"), "over", "Ratio.over", defArgs sROver, defBody sROver, defScope sROver, [], []⟩
abbrev e6 : He.DefD := ⟨("Ratio", some "__eq__"), "__eq__", "Ratio.__eq__", defArgs sREq, defBody sREq, defScope sREq, [], []⟩
abbrev e7 : He.DefD := ⟨("dot", none), "dot", "dot", defArgs sDot, defBody sDot, defScope sDot, [], []⟩
abbrev e8 : He.DefD := ⟨("scale", none), "scale", "scale", defArgs sScale, defBody sScale, defScope sScale, [], []⟩
abbrev e9 : He.DefD := ⟨("plus", none), "plus", "plus", defArgs sPlus, defBody sPlus, defScope sPlus, [], []⟩
abbrev e10 : He.DefD := ⟨("minus", none), "minus", "minus", defArgs sMinus, defBody sMinus, defScope sMinus, [], []⟩
abbrev e11 : He.DefD := ⟨("unit", none), "unit", "unit", defArgs sUnit, defBody sUnit, defScope sUnit, [], []⟩
abbrev e12 : He.DefD := ⟨("is_zero", none), "is_zero", "is_zero", defArgs sIsZero, defBody sIsZero, defScope sIsZero, [], []⟩
abbrev e13 : He.DefD := ⟨("apply", none), "apply", "apply", defArgs sApply, defBody sApply, defScope sApply, [], []⟩
abbrev e14 : He.DefD := ⟨("outer", none), "outer", "outer", defArgs sOuter, defBody sOuter, defScope sOuter, [], []⟩
abbrev e15 : He.DefD := ⟨("sum_of", none), "sum_of", "sum_of", defArgs sSumOf, defBody sSumOf, defScope sSumOf, [], []⟩
abbrev e16 : He.DefD := ⟨("scaled", none), "scaled", "scaled", defArgs sScaled, defBody sScaled, defScope sScaled, [], []⟩
abbrev e17 : He.DefD := ⟨("add_term", none), "add_term", "add_term", defArgs sAddTerm, defBody sAddTerm, defScope sAddTerm, [], []⟩
abbrev e18 : He.DefD := ⟨("with_added", none), "with_added", "with_added", defArgs sWithAdded, defBody sWithAdded, defScope sWithAdded, [], []⟩
abbrev e19 : He.DefD := ⟨("pivot_row", none), "pivot_row", "pivot_row", defArgs sPivot, defBody sPivot, defScope sPivot, [], []⟩
abbrev e20 : He.DefD := ⟨("cleared", none), "cleared", "cleared", defArgs sCleared, defBody sCleared, defScope sCleared, [], []⟩
abbrev e21 : He.DefD := ⟨("reduced", none), "reduced", "reduced", defArgs sReduced, defBody sReduced, defScope sReduced, [], []⟩
abbrev e22 : He.DefD := ⟨("kernel", none), "kernel", "kernel", defArgs sKernel, defBody sKernel, defScope sKernel, [], []⟩
abbrev e23 : He.DefD := ⟨("solve", none), "solve", "solve", defArgs sSolve, defBody sSolve, defScope sSolve, [], []⟩
abbrev e24 : He.DefD := ⟨("widened", none), "widened", "widened", defArgs sWidened, defBody sWidened, defScope sWidened, [], []⟩
abbrev e25 : He.DefD := ⟨("Reading", some "__init__"), "__init__", "Reading.__init__", defArgs sRdInit, defBody sRdInit, defScope sRdInit, [], []⟩
abbrev e26 : He.DefD := ⟨("Net", some "row"), "row", "Net.row", defArgs sNetRow, defBody sNetRow, defScope sNetRow, [], []⟩
abbrev e27 : He.DefD := ⟨("Net", some "__init__"), "__init__", "Net.__init__", defArgs sNetInit, defBody sNetInit, defScope sNetInit, [], []⟩
abbrev e28 : He.DefD := ⟨("Net", some "rows"), "rows", "Net.rows", defArgs sRows, defBody sRows, defScope sRows, [], []⟩
abbrev e29 : He.DefD := ⟨("Net", some "movements"), "movements", "Net.movements", defArgs sMov, defBody sMov, defScope sMov, [], []⟩
abbrev e30 : He.DefD := ⟨("Net", some "heights"), "heights", "Net.heights", defArgs sHts, defBody sHts, defScope sHts, [], []⟩
abbrev e31 : He.DefD := ⟨("Net", some "add_point"), "add_point", "Net.add_point", defArgs sAddPoint, defBody sAddPoint, defScope sAddPoint, [], []⟩
abbrev e32 : He.DefD := ⟨("Net", some "tally"), "tally", "Net.tally", defArgs sTally, defBody sTally, defScope sTally, [], []⟩
abbrev e33 : He.DefD := ⟨("Net", some "put"), "put", "Net.put", defArgs sPut, defBody sPut, defScope sPut, [], []⟩
abbrev e34 : He.DefD := ⟨("Net", some "add"), "add", "Net.add", defArgs sAdd, defBody sAdd, defScope sAdd, [], []⟩
abbrev e35 : He.DefD := ⟨("WeakDatum", some "__init__"), "__init__", "WeakDatum.__init__", defArgs sWeakInit, defBody sWeakInit, defScope sWeakInit, [], []⟩
abbrev e36 : He.DefD := ⟨("NotEstimable", some "__init__"), "__init__", "NotEstimable.__init__", defArgs sNotEstInit, defBody sNotEstInit, defScope sNotEstInit, [], []⟩
abbrev e37 : He.DefD := ⟨("check_points", none), "check_points", "check_points", defArgs sCheckPoints, defBody sCheckPoints, defScope sCheckPoints, [], []⟩
abbrev e38 : He.DefD := ⟨("row_of_function", none), "row_of_function", "row_of_function", defArgs sRowFn, defBody sRowFn, defScope sRowFn, [], []⟩
abbrev e39 : He.DefD := ⟨("moved_by", none), "moved_by", "moved_by", defArgs sMovedBy, defBody sMovedBy, defScope sMovedBy, [], []⟩
abbrev e40 : He.DefD := ⟨("estimable", none), "estimable", "estimable", defArgs sEstimable, defBody sEstimable, defScope sEstimable, [], []⟩
abbrev e41 : He.DefD := ⟨("check_datum", none), "check_datum", "check_datum", defArgs sCheckDatum, defBody sCheckDatum, defScope sCheckDatum, [], []⟩
abbrev e42 : He.DefD := ⟨("heights_in", none), "heights_in", "heights_in", defArgs sHin, defBody sHin, defScope sHin, [], []⟩
abbrev e43 : He.DefD := ⟨("_law_mixed", none), "_law_mixed", "_law_mixed", defArgs sMixed, defBody sMixed, defScope sMixed, [], []⟩
abbrev e44 : He.DefD := ⟨("_law_take", none), "_law_take", "_law_take", defArgs sTake, defBody sTake, defScope sTake, [], []⟩
abbrev e45 : He.DefD := ⟨("_law_state", none), "_law_state", "_law_state", defArgs sState, defBody sState, defScope sState, [], []⟩
abbrev e46 : He.DefD := ⟨("_law_ratio", none), "_law_ratio", "_law_ratio", defArgs sRatioL, defBody sRatioL, defScope sRatioL, [], []⟩
abbrev e47 : He.DefD := ⟨("_law_weight", none), "_law_weight", "_law_weight", defArgs sWeightL, defBody sWeightL, defScope sWeightL, [], []⟩
abbrev e48 : He.DefD := ⟨("_law_pair", none), "_law_pair", "_law_pair", defArgs sPair, defBody sPair, defScope sPair, [], []⟩
abbrev e49 : He.DefD := ⟨("_law_pairs", none), "_law_pairs", "_law_pairs", defArgs sPairs, defBody sPairs, defScope sPairs, [], []⟩
abbrev e50 : He.DefD := ⟨("_law_equal", none), "_law_equal", "_law_equal", defArgs sEqual, defBody sEqual, defScope sEqual, [], []⟩
abbrev e51 : He.DefD := ⟨("_law_sum", none), "_law_sum", "_law_sum", defArgs sSum, defBody sSum, defScope sSum, [], []⟩
abbrev e52 : He.DefD := ⟨("_law_dot", none), "_law_dot", "_law_dot", defArgs sDotL, defBody sDotL, defScope sDotL, [], []⟩
abbrev e53 : He.DefD := ⟨("_law_row", none), "_law_row", "_law_row", defArgs sRowL, defBody sRowL, defScope sRowL, [], []⟩
abbrev e54 : He.DefD := ⟨("_law_points", none), "_law_points", "_law_points", defArgs sPoints, defBody sPoints, defScope sPoints, [], []⟩
abbrev e55 : He.DefD := ⟨("_law_terms", none), "_law_terms", "_law_terms", defArgs sTerms, defBody sTerms, defScope sTerms, [], []⟩
abbrev e56 : He.DefD := ⟨("_law_net", none), "_law_net", "_law_net", defArgs sNet, defBody sNet, defScope sNet, [], []⟩
abbrev e57 : He.DefD := ⟨("_law_function", none), "_law_function", "_law_function", defArgs sFunc, defBody sFunc, defScope sFunc, [], []⟩
abbrev e58 : He.DefD := ⟨("_law_in", none), "_law_in", "_law_in", defArgs sIn, defBody sIn, defScope sIn, [], []⟩
abbrev e59 : He.DefD := ⟨("fixed_row", none), "fixed_row", "fixed_row", defArgs sFixedRow, defBody sFixedRow, defScope sFixedRow, [], []⟩
abbrev e60 : He.DefD := ⟨("value_of", none), "value_of", "value_of", defArgs sValueOf, defBody sValueOf, defScope sValueOf, [], []⟩
abbrev e61 : He.DefD := ⟨("_law_value", none), "_law_value", "_law_value", defArgs sVal, defBody sVal, defScope sVal, [], []⟩
abbrev e62 : He.DefD := ⟨("law", none), "law", "law", defArgs sLaw, defBody sLaw, defScope sLaw, [], []⟩
abbrev fa0 : List He.Fa := [.cls "Ratio", .noat "Ratio" "top", .noat "Ratio" "bottom", .glo "Ratio", .free "isinstance", .mkr "Ratio", .meth "Ratio" "__add__", .meth "Ratio" "__sub__", .meth "Ratio" "__mul__", .meth "Ratio" "__neg__", .meth "Ratio" "over", .meth "Ratio" "__eq__", .cls "Net", .noat "Net" "points", .noat "Net" "approximations", .noat "Net" "readings", .noat "Net" "normal", .noat "Net" "inverse", .noat "Net" "right", .noat "Net" "total", .cls "Reading", .noat "Reading" "name", .noat "Reading" "terms", .noat "Reading" "value", .noat "Reading" "weight", .int "MOST_POINTS" 12, .int "MOST_READINGS" 24, .glo "WeakDatum", .glo "NotEstimable", .free "zip"]
abbrev fa1 : List He.Fa := [.glo "dot", .free "tuple", .glo "scale", .glo "plus", .glo "minus", .free "range", .glo "unit", .glo "is_zero", .glo "apply", .glo "outer", .glo "sum_of", .glo "scaled", .glo "add_term", .glo "with_added", .free "len", .glo "pivot_row", .free "enumerate", .glo "cleared", .free "list", .glo "reduced", .glo "kernel", .glo "solve", .glo "widened", .meth "Net" "row", .meth "Net" "rows", .meth "Net" "movements", .meth "Net" "heights", .meth "Net" "add_point", .meth "Net" "tally", .meth "Net" "put"]
abbrev fa2 : List He.Fa := [.meth "Net" "add", .glo "check_points", .free "dict", .glo "row_of_function", .glo "moved_by", .glo "estimable", .glo "check_datum", .glo "heights_in", .free "int", .glo "_law_mixed", .free "abs", .glo "_law_take", .glo "_law_state", .glo "_law_ratio", .glo "_law_weight", .glo "_law_pair", .glo "_law_pairs", .glo "_law_equal", .glo "_law_sum", .glo "_law_dot", .glo "_law_row", .glo "_law_points", .free "sorted", .free "str", .glo "_law_terms", .mkr "Net", .glo "Net", .mkr "Reading", .glo "Reading", .glo "_law_net"]
abbrev fa3 : List He.Fa := [.glo "_law_function", .glo "_law_in", .glo "fixed_row", .glo "value_of", .glo "_law_value", .glo "law"]
abbrev fa : List He.Fa := fa0 ++ fa1 ++ fa2 ++ fa3
abbrev fn0 : List He.DefD := [e0, e1, e2, e3, e4, e5, e6, e7, e8, e9, e10, e11, e12, e13, e14, e15, e16, e17, e18, e19, e20, e21, e22, e23, e24, e25, e26, e27, e28, e29]
abbrev fn1 : List He.DefD := [e30, e31, e32, e33, e34, e35, e36, e37, e38, e39, e40, e41, e42, e43, e44, e45, e46, e47, e48, e49, e50, e51, e52, e53, e54, e55, e56, e57, e58, e59]
abbrev fn2 : List He.DefD := [e60, e61, e62]
abbrev fn : List He.DefD := fn0 ++ fn1 ++ fn2
def oexB (K : PySem.W.Frag) (C : Addr) : Bool := match K.lookup C with
  | some ⟨.type "type", _, .cls cd, sl⟩ => (match cd.mro, sl.toList with
    | .ref C' :: bm, [_, _, _, _, some (.builtin n), _] => C' == C && (n == "ValueError.__new__" && (!cd.hasDel && (cd.hasDict && PySem.HandSPX.refsVE bm)))
    | _, _ => false)
  | _ => false
def okR (K : PySem.W.Frag) : Bool := PySem.W.selfFirst K (He.ga K "Ratio") && (He.eqO (PySem.W.nsIn K mainGlobals "gcd") (some (some (.builtin "math.gcd"))) && (He.eqO (PySem.W.findIn K (.ref (He.ga K "Ratio")) "__ne__") (some (some (.builtin "object.__ne__"))) && (He.eqO (PySem.W.findIn K (.ref (He.ga K "Ratio")) "__class__") (some (some (.builtin "object.__class__"))) && (He.eqO (PySem.W.specialIn K (.builtin "object.__class__") "__get__") (some (some (.builtin "getset_descriptor.__get__"))) && (decide (PySem.W.takesIn K (.builtin "object.__class__") = some true) && decide (PySem.W.mroIn K (He.ga K "Ratio") (.type "object") = some true))))))
def okN (K : PySem.W.Frag) : Bool := decide (He.ga K "Net" ≠ He.ga K "Ratio") && (decide (He.ga K "Net" ≠ He.ga K "Reading") && decide ((He.cT K ("_law_terms", none)).2 ≠ (He.cT K ("_law_function", none)).2))
def okX (x : Str) (K : PySem.W.Frag) : Bool := oexB K (He.ga K x) && (He.eqO (PySem.W.findIn K (.ref (He.ga K x)) "__setattr__") (some (some (.builtin "object.__setattr__"))) && (decide (PySem.W.subIn K (.ref (He.ga K x)) (.type "BaseException") = some true) && (decide (PySem.W.typeIn K (.ref (He.ga K x)) = some (.type "type")) && (PySem.W.keepIn K (.ref (He.ga K x)) && (He.eqO (PySem.W.findIn K (.ref (He.ga K x)) "__init__") (some (some (.ref (He.ma K (He.ga K x) "__init__")))) && (decide (PySem.W.typeIn K (.ref (He.ma K (He.ga K x) "__init__")) = some (.type "function")) && (He.eqO (PySem.W.findIn K (.ref (He.ga K x)) "movement") (some none) && (decide (PySem.W.exmOne K (.ref (He.ga K x)) (.ref (He.ga K x)) = some true) && xfB K (He.ga K x)))))))))
def exB (K : PySem.W.Frag) : Bool := okR K && (okN K && (okX "WeakDatum" K && okX "NotEstimable" K))
def tf : List He.Defn := [("_law_terms", none), ("_law_function", none)]
abbrev R0 : PySem.W.OpenRow := PySem.W.OpenLaw.row PySem.Challenge.rw_plumbnet_k43_whole_datums_and_functions
def rf (o : Obj) : List Addr := match o.data with
  | .dict es _ => es.toList.flatMap fun e => He.refV e.val
  | .func fd => He.refV fd.code ++ He.refV fd.defaults
  | .cls cd => [cd.ns]
  | _ => []
def nx (g : Addr → Option Obj) (as : List Addr) : List Addr := as.flatMap fun a => match g a with
  | some o => rf o
  | none => []
def asL (g : Addr → Option Obj) : List Addr := mainGlobals :: (nx g [mainGlobals] ++ (nx g (nx g [mainGlobals]) ++ (nx g (nx g (nx g [mainGlobals])) ++ nx g (nx g (nx g (nx g [mainGlobals]))))))
abbrev KO (g : Addr → Option Obj) : PySem.W.Frag := He.frT g (asL g)
abbrev AlL : Type := He.AlD × Bool
def obL (g : Addr → Option Obj) : AlL := (He.obsD fa fn (KO g), exB (KO g) && He.tabsB g tf (KO g))
theorem tab_mem {g : Addr → Option Obj} {K : PySem.W.Frag} {p : He.Defn} (h : He.tabsB g tf K = true) (hp : p ∈ tf) : PySem.W.codeHdIn K (He.cT K p).1 (He.cT K p).2 = true ∧ ∃ o, g (He.cT K p).2 = some o ∧ He.emptyTab o = true := by
  have h1 := List.all_eq_true.mp h p hp
  rw [Bool.and_eq_true] at h1
  refine ⟨h1.1, ?_⟩
  have h2 := h1.2
  revert h2
  cases g (He.cT K p).2 with
  | none => intro h2; exact absurd h2 Bool.false_ne_true
  | some o => exact fun h2 => ⟨o, rfl, h2⟩
theorem told_of {w : World} {h : Heap} (e : obL h.get? = (He.valD fn, true)) : He.SaysX fa fn [] tf exB w h (KO h.get?) := by
  have e1 : He.obsD fa fn (KO h.get?) = He.valD fn := congrArg Prod.fst e
  have e2 : (exB (KO h.get?) && He.tabsB h.get? tf (KO h.get?)) = true := congrArg Prod.snd e
  rw [Bool.and_eq_true] at e2
  exact {
    t := Prod.ext e1 rfl
    more := e2.1
    hd := fun p hp => (tab_mem e2.2 hp).1
    out := fun p hp => by
      obtain ⟨o, h1, h2⟩ := (tab_mem e2.2 hp).2
      exact He.frT_none h1 h2
    empty := fun p hp => by
      obtain ⟨o, h1, h2⟩ := (tab_mem e2.2 hp).2
      exact h1.trans (congrArg some (He.emptyTab_eq h2)) }
abbrev hk : PySem.W.Hook where
  α := AlL
  obs := fun s => obL s.heap.get?
  val := fun _ => (He.valD fn, true)
  says := fun w h => ∃ K : PySem.W.Frag, K.In h ∧ He.SaysX fa fn [] tf exB w h K
  of := fun _ _ e => ⟨KO _, He.frT_in, told_of e⟩
  keeps := fun _ _ _ ⟨K, hK, c⟩ k => ⟨K, hK.keeps k, { t := c.t, more := c.more, hd := c.hd, out := c.out, empty := fun p hp => k _ _ (c.empty p hp) }⟩
def ob (s : PySem.W.SharedT) : AlL := obL (HandSHeadRun.getT s)
theorem ob_eq (s : PySem.W.SharedT) : ob s = hk.obs s.abs := by
  show obL (HandSHeadRun.getT s) = obL s.abs.heap.get?
  rw [show HandSHeadRun.getT s = s.abs.heap.get? from funext (HandSHeadRun.getT_eq s)]
def names0 : List Str := ["_wall", "SurveyError", "BadNumber", "ZeroDivisor", "UnknownPoint", "DuplicateName", "LimitReached", "WeakDatum", "NotEstimable", "MOST_DIGITS", "DIGITS", "read_digits", "Ratio", "dot", "scale"]
def names1 : List Str := ["plus", "minus", "unit", "is_zero", "apply", "outer", "sum_of", "scaled", "pivot_row", "cleared", "reduced", "kernel", "solve", "check_datum", "heights_in", "Reading"]
def names2 : List Str := ["add_term", "with_added", "MOST_POINTS", "MOST_READINGS", "widened", "Net", "check_points", "row_of_function", "moved_by", "fixed_row", "estimable", "value_of", "_law_mixed", "_law_take", "_law_state", "_law_pair"]
def names3 : List Str := ["_law_pairs", "_law_sum", "_law_times", "_law_dot", "_law_minus", "_law_equal", "_law_is_vector", "_law_ratio", "_law_weight", "_law_points", "_law_terms", "_law_row", "_law_net", "_law_function", "_law_in", "_law_value"]
abbrev NM : List Str := names0 ++ names1 ++ names2 ++ names3
abbrev VW : Program := PySem.W.view R0.prog [0, 75]
theorem map3 {α β γ δ : Type} {x : Option α} {f : α → β} {g : α → γ} {k : α → δ} {b : β} {c : γ} {d : δ} (h1 : x.map f = some b) (h2 : x.map g = some c) (h3 : x.map k = some d) : x.map (fun s => (f s, g s, k s)) = some (b, c, d) := by
  cases x with
  | none => cases h1
  | some a =>
    cases h1
    cases h2
    cases h3
    rfl
theorem r1 (w : World) : (HandSHeadRun.wholeF (fun p => HandSHeadRun.stepQ (HandSHeadRun.denQ HandSHeadRun.tabQ) p w) HandSHeadRun.fenceQ 8000 R0.prog).map (fun x => HandSHeadRun.looksF R0.prog x.1.heap x.2.abs) = some true := by
  kernel_rfl
theorem r2 (w : World) : (HandSHeadRun.wholeF (fun p => HandSHeadRun.stepQ (HandSHeadRun.denQ HandSHeadRun.tabQ) p w) HandSHeadRun.fenceQ 8000 R0.prog).map (fun x => HandSHeadRun.seenQ VW NM (PySem.importedModules R0.prog.main.body) (fun s => PySem.W.xlAt VW [] s && PySem.W.recOk R0.toRowW.records s) x.2.abs) = some (PySem.W.openGood VW NM) := by
  kernel_rfl
theorem r3 (w : World) : (HandSHeadRun.wholeF (fun p => HandSHeadRun.stepQ (HandSHeadRun.denQ HandSHeadRun.tabQ) p w) HandSHeadRun.fenceQ 8000 R0.prog).map (fun x => ob x.2) = some (hk.val w) := by
  kernel_rfl
theorem run (w : World) : HandSHeadRun.RunEqI R0 VW hk ob 8000 NM w := map3 (r1 w) (r2 w) (r3 w)
end PW

set_option Elab.async false
set_option linter.all false
set_option maxRecDepth 100000
set_option maxHeartbeats 0
/-! HdF: all put together. -/
namespace PW
open PySem PySem.Spec PyProof.Rows L2 PN LamX

theorem rcls_of {K : PySem.W.Frag} {mg : Str → Option Value} (x : okR K = true) (c : Cls K (He.ga K "Ratio")) (a : NoAttr K (He.ga K "Ratio") "top") (b : NoAttr K (He.ga K "Ratio") "bottom") (g : mg "Ratio" = some (.ref (He.ga K "Ratio"))) (d : mg "gcd" = some (.builtin "math.gcd")) (i : mg "isinstance" = none) : RCls K mg (He.ga K "Ratio") := by
  unfold okR at x
  simp only [Bool.and_eq_true, decide_eq_true_eq] at x
  obtain ⟨y1, _, y3, y4, y5, y6, y7⟩ := x
  exact { cl := c, nT := a, nB := b, sf := y1, mgC := g, gcd := d, ne := He.eqO_ok y3, isi := i, ca := He.eqO_ok y4, cn := He.eqO_ok y5, ct := y6, cm := y7 }
theorem mg_gcd {K : PySem.W.Frag} {h : Heap} {mg : Str → Option Value} (X : K.In h) (G : h.Ns mainGlobals mg) (x : okR K = true) : mg "gcd" = some (.builtin "math.gcd") := by
  unfold okR at x
  simp only [Bool.and_eq_true] at x
  exact PySem.W.mg_of X G (He.eqO_ok x.2.1)
theorem nc_of {K : PySem.W.Frag} (x : okN K = true) : He.ga K "Net" ≠ He.ga K "Ratio" := by
  unfold okN at x
  simp only [Bool.and_eq_true, decide_eq_true_eq] at x
  exact x.1
theorem nr_of {K : PySem.W.Frag} (x : okN K = true) : He.ga K "Net" ≠ He.ga K "Reading" := by
  unfold okN at x
  simp only [Bool.and_eq_true, decide_eq_true_eq] at x
  exact x.2.1
def TT (K : PySem.W.Frag) : List (Addr × Str) := [((He.cT K ("_law_terms", none)).2, qTerms), ((He.cT K ("_law_function", none)).2, qFunc)]
theorem nt_of {K : PySem.W.Frag} (x : okN K = true) : (He.cT K ("_law_terms", none)).2 ≠ (He.cT K ("_law_function", none)).2 := by
  unfold okN at x
  simp only [Bool.and_eq_true, decide_eq_true_eq] at x
  exact x.2.2
theorem hT_terms {K : PySem.W.Frag} (x : okN K = true) : ∀ p ∈ TT K, p.1 = (He.cT K ("_law_terms", none)).2 → p.2 = qTerms := fun p hp e => by
  rcases List.mem_cons.mp hp with rfl | hp
  · rfl
  · rcases List.mem_cons.mp hp with rfl | hp
    · exact absurd e.symm (nt_of x)
    · cases hp
theorem hT_func {K : PySem.W.Frag} (x : okN K = true) : ∀ p ∈ TT K, p.1 = (He.cT K ("_law_function", none)).2 → p.2 = qFunc := fun p hp e => by
  rcases List.mem_cons.mp hp with rfl | hp
  · exact absurd e (nt_of x)
  · rcases List.mem_cons.mp hp with rfl | hp
    · rfl
    · cases hp
theorem m_terms {K : PySem.W.Frag} : He.cT K ("_law_terms", none) ∈ tf.map (He.cT K) := List.mem_map.mpr ⟨_, List.mem_cons_self, rfl⟩
theorem m_func {K : PySem.W.Frag} : He.cT K ("_law_function", none) ∈ tf.map (He.cT K) := List.mem_map.mpr ⟨_, List.mem_cons_of_mem _ List.mem_cons_self, rfl⟩
theorem tabs_of {K : PySem.W.Frag} {H : Hp} (hT : ∀ p ∈ tf.map (He.cT K), H p.2 = some (.tbl #[])) : Tabs (TT K) H := fun p hp => by
  rcases List.mem_cons.mp hp with rfl | hp
  · exact .nil (hT _ m_terms)
  · rcases List.mem_cons.mp hp with rfl | hp
    · exact .nil (hT _ m_func)
    · cases hp
theorem code_of {K : PySem.W.Frag} {p : He.Defn} {x q : Str} {ag : Arguments} {bo : List Stmt} {sc : Scope} {dv : List V} {kw : List (Str × V)} {fd : FuncData} (F : FunD K x q ag bo sc dv kw (He.fAd K p) fd) : fd.code = .ref (He.cT K p).1 := by
  obtain ⟨oc, od, dV, kV, doc, pm, an, cdv, ct, osl, rfl, lk, hcd, _⟩ := F.ex
  obtain ⟨c, rfl⟩ := He.codeIn_ref hcd
  have e := He.codeOf_eq (p := p) lk (c := c) rfl
  show Value.ref c = Value.ref (He.codeOf K p)
  rw [e]
theorem oexB_ok {K : PySem.W.Frag} {C : Addr} (h : oexB K C = true) : ∃ nm q N bs bm sn sub ab col dd k0 k1 k2 k3 k5, K.lookup C = some (excClassObj nm q C N bs bm true sn sub ab col dd k0 k1 k2 k3 k5 "ValueError.__new__") ∧ PySem.HandSPX.refsVE bm = true := by
  unfold oexB at h
  split at h
  · rename_i dd cd sl hk
    split at h
    · rename_i C' bm k0 k1 k2 k3 n k5 hm hs
      obtain ⟨h1, h⟩ := Bool.and_eq_true_iff.mp h
      obtain ⟨h2, h⟩ := Bool.and_eq_true_iff.mp h
      obtain ⟨h3, h⟩ := Bool.and_eq_true_iff.mp h
      obtain ⟨h4, h5⟩ := Bool.and_eq_true_iff.mp h
      obtain rfl := beq_iff_eq.mp h1
      obtain rfl := beq_iff_eq.mp h2
      obtain ⟨nm, bs, mro, ns, qn, hd, sn, sub, ab, col, del⟩ := cd
      have h3 : (!del) = true := h3
      obtain rfl : del = false := by cases del <;> first | rfl | cases h3
      obtain rfl : hd = true := h4
      obtain rfl : mro = .ref C' :: bm := hm
      obtain ⟨ls⟩ := sl
      obtain rfl : ls = [k0, k1, k2, k3, some (.builtin "ValueError.__new__"), k5] := hs
      exact ⟨nm, qn, ns, bs, bm, sn, sub, ab, col, dd, k0, k1, k2, k3, k5, hk, h5⟩
    · cases h
  · cases h
theorem oex_of {K : PySem.W.Frag} {x : Str} (h : okX x K = true) : OexC K (He.ga K x) := by
  unfold okX at h
  simp only [Bool.and_eq_true, decide_eq_true_eq] at h
  obtain ⟨h1, h2, h3, h4, h5, _⟩ := h
  exact ⟨oexB_ok h1, He.eqO_ok h2, h3, h4, h5⟩
theorem no_of {K : PySem.W.Frag} {x : Str} (h : okX x K = true) : PySem.W.findIn K (.ref (He.ga K x)) "movement" = some none := by
  unfold okX at h
  simp only [Bool.and_eq_true] at h
  exact He.eqO_ok h.2.2.2.2.2.2.2.1
theorem okX_ok {K : PySem.W.Frag} {x : Str} (h : okX x K = true) : PySem.W.findIn K (.ref (He.ga K x)) "__init__" = some (some (.ref (He.ma K (He.ga K x) "__init__"))) ∧ PySem.W.typeIn K (.ref (He.ma K (He.ga K x) "__init__")) = some (.type "function") ∧ PySem.W.exmOne K (.ref (He.ga K x)) (.ref (He.ga K x)) = some true ∧ XfC K (He.ga K x) := by
  unfold okX at h
  simp only [Bool.and_eq_true, decide_eq_true_eq] at h
  obtain ⟨_, _, _, _, _, h6, h7, _, h9, h10⟩ := h
  exact ⟨He.eqO_ok h6, h7, h9, xfB_ok h10⟩
def excls_of {P : Program} {w : World} {K : PySem.W.Frag} {mg : Str → Option Value} {base : Heap} {x : Str} {fdI : FuncData} (h : okX x K = true) (gl : mg x = some (.ref (He.ga K x))) (F1 : FnOk P w K mg base CX0 1 (He.ma K (He.ga K x) "__init__") fdI ["self", "movement"] (spEx (He.ga K x))) (bd : Binds K fdI ["self", "movement"] []) : ExCls P w K mg base x (He.ga K x) :=
  { T := oex_of h, fI := _, fdI := fdI, iC := (okX_ok h).1, tI := (okX_ok h).2.1, no := no_of h, F1 := F1, bd := bd, gl := gl, te := (okX_ok h).2.2.1, xf := (okX_ok h).2.2.2 }
theorem facts {w : World} {K : PySem.W.Frag} {h : Heap} {mg : Str → Option Value} {fA : Addr} (X : K.In h) (G : h.Ns mainGlobals mg) (hfa : mg ("law" : Str) = some (.ref fA)) (c : He.SaysX fa fn [] tf exB w h K) :
    LawAtS PySem.Challenge.rw_plumbnet_k43_whole_datums_and_functions w K CX0 12 63 "_law_script" mg fA h := by
  obtain ⟨fd0, F0⟩ := c.t.d.def_ 0 (d := e0) rfl
  obtain ⟨fd1, F1⟩ := c.t.d.def_ 1 (d := e1) rfl
  obtain ⟨fd2, F2⟩ := c.t.d.def_ 2 (d := e2) rfl
  obtain ⟨fd3, F3⟩ := c.t.d.def_ 3 (d := e3) rfl
  obtain ⟨fd4, F4⟩ := c.t.d.def_ 4 (d := e4) rfl
  obtain ⟨fd5, F5⟩ := c.t.d.def_ 5 (d := e5) rfl
  obtain ⟨fd6, F6⟩ := c.t.d.def_ 6 (d := e6) rfl
  obtain ⟨fd7, F7⟩ := c.t.d.def_ 7 (d := e7) rfl
  obtain ⟨fd8, F8⟩ := c.t.d.def_ 8 (d := e8) rfl
  obtain ⟨fd9, F9⟩ := c.t.d.def_ 9 (d := e9) rfl
  obtain ⟨fd10, F10⟩ := c.t.d.def_ 10 (d := e10) rfl
  obtain ⟨fd11, F11⟩ := c.t.d.def_ 11 (d := e11) rfl
  obtain ⟨fd12, F12⟩ := c.t.d.def_ 12 (d := e12) rfl
  obtain ⟨fd13, F13⟩ := c.t.d.def_ 13 (d := e13) rfl
  obtain ⟨fd14, F14⟩ := c.t.d.def_ 14 (d := e14) rfl
  obtain ⟨fd15, F15⟩ := c.t.d.def_ 15 (d := e15) rfl
  obtain ⟨fd16, F16⟩ := c.t.d.def_ 16 (d := e16) rfl
  obtain ⟨fd17, F17⟩ := c.t.d.def_ 17 (d := e17) rfl
  obtain ⟨fd18, F18⟩ := c.t.d.def_ 18 (d := e18) rfl
  obtain ⟨fd19, F19⟩ := c.t.d.def_ 19 (d := e19) rfl
  obtain ⟨fd20, F20⟩ := c.t.d.def_ 20 (d := e20) rfl
  obtain ⟨fd21, F21⟩ := c.t.d.def_ 21 (d := e21) rfl
  obtain ⟨fd22, F22⟩ := c.t.d.def_ 22 (d := e22) rfl
  obtain ⟨fd23, F23⟩ := c.t.d.def_ 23 (d := e23) rfl
  obtain ⟨fd24, F24⟩ := c.t.d.def_ 24 (d := e24) rfl
  obtain ⟨fd25, F25⟩ := c.t.d.def_ 25 (d := e25) rfl
  obtain ⟨fd26, F26⟩ := c.t.d.def_ 26 (d := e26) rfl
  obtain ⟨fd27, F27⟩ := c.t.d.def_ 27 (d := e27) rfl
  obtain ⟨fd28, F28⟩ := c.t.d.def_ 28 (d := e28) rfl
  obtain ⟨fd29, F29⟩ := c.t.d.def_ 29 (d := e29) rfl
  obtain ⟨fd30, F30⟩ := c.t.d.def_ 30 (d := e30) rfl
  obtain ⟨fd31, F31⟩ := c.t.d.def_ 31 (d := e31) rfl
  obtain ⟨fd32, F32⟩ := c.t.d.def_ 32 (d := e32) rfl
  obtain ⟨fd33, F33⟩ := c.t.d.def_ 33 (d := e33) rfl
  obtain ⟨fd34, F34⟩ := c.t.d.def_ 34 (d := e34) rfl
  obtain ⟨fd35, F35⟩ := c.t.d.def_ 35 (d := e35) rfl
  obtain ⟨fd36, F36⟩ := c.t.d.def_ 36 (d := e36) rfl
  obtain ⟨fd37, F37⟩ := c.t.d.def_ 37 (d := e37) rfl
  obtain ⟨fd38, F38⟩ := c.t.d.def_ 38 (d := e38) rfl
  obtain ⟨fd39, F39⟩ := c.t.d.def_ 39 (d := e39) rfl
  obtain ⟨fd40, F40⟩ := c.t.d.def_ 40 (d := e40) rfl
  obtain ⟨fd41, F41⟩ := c.t.d.def_ 41 (d := e41) rfl
  obtain ⟨fd42, F42⟩ := c.t.d.def_ 42 (d := e42) rfl
  obtain ⟨fd43, F43⟩ := c.t.d.def_ 43 (d := e43) rfl
  obtain ⟨fd44, F44⟩ := c.t.d.def_ 44 (d := e44) rfl
  obtain ⟨fd45, F45⟩ := c.t.d.def_ 45 (d := e45) rfl
  obtain ⟨fd46, F46⟩ := c.t.d.def_ 46 (d := e46) rfl
  obtain ⟨fd47, F47⟩ := c.t.d.def_ 47 (d := e47) rfl
  obtain ⟨fd48, F48⟩ := c.t.d.def_ 48 (d := e48) rfl
  obtain ⟨fd49, F49⟩ := c.t.d.def_ 49 (d := e49) rfl
  obtain ⟨fd50, F50⟩ := c.t.d.def_ 50 (d := e50) rfl
  obtain ⟨fd51, F51⟩ := c.t.d.def_ 51 (d := e51) rfl
  obtain ⟨fd52, F52⟩ := c.t.d.def_ 52 (d := e52) rfl
  obtain ⟨fd53, F53⟩ := c.t.d.def_ 53 (d := e53) rfl
  obtain ⟨fd54, F54⟩ := c.t.d.def_ 54 (d := e54) rfl
  obtain ⟨fd55, F55⟩ := c.t.d.def_ 55 (d := e55) rfl
  obtain ⟨fd56, F56⟩ := c.t.d.def_ 56 (d := e56) rfl
  obtain ⟨fd57, F57⟩ := c.t.d.def_ 57 (d := e57) rfl
  obtain ⟨fd58, F58⟩ := c.t.d.def_ 58 (d := e58) rfl
  obtain ⟨fd59, F59⟩ := c.t.d.def_ 59 (d := e59) rfl
  obtain ⟨fd60, F60⟩ := c.t.d.def_ 60 (d := e60) rfl
  obtain ⟨fd61, F61⟩ := c.t.d.def_ 61 (d := e61) rfl
  obtain ⟨fd62, F62⟩ := c.t.d.def_ 62 (d := e62) rfl
  have eA := hfa.symm.trans (He.glo_ok X G (c.t.d.fact 95 (f := .glo "law") rfl))
  cases eA
  refine ⟨fd62, tf.map (He.cT K), spLaw K (TT K), fun p hp => ?_, fun p hp => ?_, fun p hp => ?_, fun s v => FunD.bindsA (ps := ["_law_script"]) F62 (fun _ _ _ _ _ _ us hl => match us, hl with | [_], _ => rfl) s [v] rfl, fun H a ns _ _ hT hS => ⟨a, ns, rfl, hS, tabs_of hT, fun _ => rfl⟩, fun base _ _ TB => ?_⟩
  · obtain ⟨q, hq, rfl⟩ := List.mem_map.mp hp
    exact c.empty q hq
  · obtain ⟨q, hq, rfl⟩ := List.mem_map.mp hp
    exact c.out q hq
  · obtain ⟨q, hq, rfl⟩ := List.mem_map.mp hp
    exact PySem.W.codeHd_of_K X (c.hd q hq)
  generalize PySem.W.OpenLaw.prog PySem.Challenge.rw_plumbnet_k43_whole_datums_and_functions = P
  obtain ⟨x1, x2⟩ := He.ba c.more
  obtain ⟨x2, x3⟩ := He.ba x2
  obtain ⟨x3, x4⟩ := He.ba x3
  have T0 : RCls K mg (He.ga K "Ratio") := rcls_of x1 (He.cls_ok (c.t.d.fact 0 (f := .cls "Ratio") rfl)) (He.noat_ok (c.t.d.fact 1 (f := .noat "Ratio" "top") rfl)) (He.noat_ok (c.t.d.fact 2 (f := .noat "Ratio" "bottom") rfl)) (He.glo_ok X G (c.t.d.fact 3 (f := .glo "Ratio") rfl)) (mg_gcd X G x1) (He.free_ok X G (c.t.d.fact 4 (f := .free "isinstance") rfl))
  have M0 : Mk K (He.ga K "Ratio") _ := (He.mkr_ok (c.t.d.fact 5 (f := .mkr "Ratio") rfl))
  obtain ⟨ds2, vd2, b2⟩ := FunD.binds1 (ps := ["self", "top", "bottom"]) F0 3 1 (by intro z; cases z) rfl fun _ _ _ _ _ _ _ us its h1 h2 => match us, its, h1, h2 with | [_, _, _], [_], _, _ => ⟨_, rfl, rfl⟩
  cases vd2
  obtain ⟨ds, vd, b1⟩ := FunD.binds1 (ps := ["self", "top", "bottom"]) F0 2 0 (by intro z; cases z) rfl fun _ _ _ _ _ _ _ us its h1 h2 => match us, its, h1, h2 with | [_, _], [_], _, _ => ⟨_, rfl, rfl⟩
  have I0 : FnOk P w K mg base CX0 1 _ fd0 ["self", "top", "bottom"] (spRInit (He.ga K "Ratio")) := ok_rinit F0 T0
  have R : RK P w K mg base (He.ga K "Ratio") := {
    T := T0
    fI := _
    fdI := _
    M := M0
    I := I0
    b2 := b2
    ds := ds
    vd := vd
    b1 := b1
    fA := _
    fdA := _
    A := ⟨ok_radd F1 T0 M0 I0 b2, (He.meth_ok (c.t.d.fact 6 (f := .meth "Ratio" "__add__") rfl)), (FunD.bindsN F1 fun _ _ _ _ _ _ us hl => match us, hl with | [_, _], _ => rfl)⟩
    fS := _
    fdS := _
    S := ⟨ok_rsub F2 T0 M0 I0 b2, (He.meth_ok (c.t.d.fact 7 (f := .meth "Ratio" "__sub__") rfl)), (FunD.bindsN F2 fun _ _ _ _ _ _ us hl => match us, hl with | [_, _], _ => rfl)⟩
    fU := _
    fdU := _
    U := ⟨ok_rmul F3 T0 M0 I0 b2, (He.meth_ok (c.t.d.fact 8 (f := .meth "Ratio" "__mul__") rfl)), (FunD.bindsN F3 fun _ _ _ _ _ _ us hl => match us, hl with | [_, _], _ => rfl)⟩
    fN := _
    fdN := _
    N := ⟨ok_rneg F4 T0 M0 I0 b2, (He.meth_ok (c.t.d.fact 9 (f := .meth "Ratio" "__neg__") rfl)), (FunD.bindsN F4 fun _ _ _ _ _ _ us hl => match us, hl with | [_], _ => rfl)⟩
    fO := _
    fdO := _
    O := ⟨ok_rover F5 T0 M0 I0 b2, (He.meth_ok (c.t.d.fact 10 (f := .meth "Ratio" "over") rfl)), (FunD.bindsN F5 fun _ _ _ _ _ _ us hl => match us, hl with | [_, _], _ => rfl)⟩
    fE := _
    fdE := _
    E := ⟨ok_req F6 T0, (He.meth_ok (c.t.d.fact 11 (f := .meth "Ratio" "__eq__") rfl)), (FunD.bindsN F6 fun _ _ _ _ _ _ us hl => match us, hl with | [_, _], _ => rfl)⟩ }
  have NT : NCls K (He.ga K "Net") (He.ga K "Ratio") (He.ga K "Reading") := ⟨(He.cls_ok (c.t.d.fact 12 (f := .cls "Net") rfl)), (He.noat_ok (c.t.d.fact 13 (f := .noat "Net" "points") rfl)), (He.noat_ok (c.t.d.fact 14 (f := .noat "Net" "approximations") rfl)), (He.noat_ok (c.t.d.fact 15 (f := .noat "Net" "readings") rfl)), (He.noat_ok (c.t.d.fact 16 (f := .noat "Net" "normal") rfl)), (He.noat_ok (c.t.d.fact 17 (f := .noat "Net" "inverse") rfl)), (He.noat_ok (c.t.d.fact 18 (f := .noat "Net" "right") rfl)), (He.noat_ok (c.t.d.fact 19 (f := .noat "Net" "total") rfl)), (He.cls_ok (c.t.d.fact 20 (f := .cls "Reading") rfl)), (He.noat_ok (c.t.d.fact 21 (f := .noat "Reading" "name") rfl)), (He.noat_ok (c.t.d.fact 22 (f := .noat "Reading" "terms") rfl)), (He.noat_ok (c.t.d.fact 23 (f := .noat "Reading" "value") rfl)), (He.noat_ok (c.t.d.fact 24 (f := .noat "Reading" "weight") rfl)), nc_of x2, nr_of x2⟩
  obtain ⟨t12, m12⟩ := He.int_ok X G (c.t.d.fact 25 (f := .int "MOST_POINTS" 12) rfl)
  obtain ⟨t24, m24⟩ := He.int_ok X G (c.t.d.fact 26 (f := .int "MOST_READINGS" 24) rfl)
  have XWeakDatum : ExCls P w K mg base "WeakDatum" (He.ga K "WeakDatum") := excls_of x3 (He.glo_ok X G (c.t.d.fact 27 (f := .glo "WeakDatum") rfl)) (ok_weakinit F35 (oex_of x3) (no_of x3)) (FunD.bindsN F35 fun _ _ _ _ _ _ us hl => match us, hl with | [_, _], _ => rfl)
  have XNotEstimable : ExCls P w K mg base "NotEstimable" (He.ga K "NotEstimable") := excls_of x4 (He.glo_ok X G (c.t.d.fact 28 (f := .glo "NotEstimable") rfl)) (ok_notestinit F36 (oex_of x4) (no_of x4)) (FunD.bindsN F36 fun _ _ _ _ _ _ us hl => match us, hl with | [_, _], _ => rfl)
  have D_dot : DefOk P w K mg base CX0 "dot" 4 ["a", "b"] _ _ fd7 := ⟨ok_dot F7 R (He.free_ok X G (c.t.d.fact 29 (f := .free "zip") rfl)), (He.glo_ok X G (c.t.d.fact 30 (f := .glo "dot") rfl)), F7.kp, (FunD.bindsN F7 fun _ _ _ _ _ _ us hl => match us, hl with | [_, _], _ => rfl)⟩
  have D_scale : DefOk P w K mg base CX0 "scale" 4 ["factor", "a"] _ _ fd8 := ⟨ok_scale F8 R (He.free_ok X G (c.t.d.fact 31 (f := .free "tuple") rfl)), (He.glo_ok X G (c.t.d.fact 32 (f := .glo "scale") rfl)), F8.kp, (FunD.bindsN F8 fun _ _ _ _ _ _ us hl => match us, hl with | [_, _], _ => rfl)⟩
  have D_plus : DefOk P w K mg base CX0 "plus" 4 ["a", "b"] _ _ fd9 := ⟨ok_plus F9 R (He.free_ok X G (c.t.d.fact 31 (f := .free "tuple") rfl)) (He.free_ok X G (c.t.d.fact 29 (f := .free "zip") rfl)), (He.glo_ok X G (c.t.d.fact 33 (f := .glo "plus") rfl)), F9.kp, (FunD.bindsN F9 fun _ _ _ _ _ _ us hl => match us, hl with | [_, _], _ => rfl)⟩
  have D_minus : DefOk P w K mg base CX0 "minus" 4 ["a", "b"] _ _ fd10 := ⟨ok_minus F10 R (He.free_ok X G (c.t.d.fact 31 (f := .free "tuple") rfl)) (He.free_ok X G (c.t.d.fact 29 (f := .free "zip") rfl)), (He.glo_ok X G (c.t.d.fact 34 (f := .glo "minus") rfl)), F10.kp, (FunD.bindsN F10 fun _ _ _ _ _ _ us hl => match us, hl with | [_, _], _ => rfl)⟩
  have D_unit : DefOk P w K mg base CX0 "unit" 3 ["width", "index"] _ _ fd11 := ⟨ok_unit F11 R (He.free_ok X G (c.t.d.fact 31 (f := .free "tuple") rfl)) (He.free_ok X G (c.t.d.fact 35 (f := .free "range") rfl)), (He.glo_ok X G (c.t.d.fact 36 (f := .glo "unit") rfl)), F11.kp, (FunD.bindsN F11 fun _ _ _ _ _ _ us hl => match us, hl with | [_, _], _ => rfl)⟩
  have D_is_zero : DefOk P w K mg base CX0 "is_zero" 1 ["a"] _ _ fd12 := ⟨ok_iszero F12 R, (He.glo_ok X G (c.t.d.fact 37 (f := .glo "is_zero") rfl)), F12.kp, (FunD.bindsN F12 fun _ _ _ _ _ _ us hl => match us, hl with | [_], _ => rfl)⟩
  have D_apply : DefOk P w K mg base CX0 "apply" 5 ["matrix", "vector"] _ _ fd13 := ⟨ok_apply F13 (He.free_ok X G (c.t.d.fact 31 (f := .free "tuple") rfl)) D_dot, (He.glo_ok X G (c.t.d.fact 38 (f := .glo "apply") rfl)), F13.kp, (FunD.bindsN F13 fun _ _ _ _ _ _ us hl => match us, hl with | [_, _], _ => rfl)⟩
  have D_outer : DefOk P w K mg base CX0 "outer" 5 ["a", "b"] _ _ fd14 := ⟨ok_outer F14 (He.free_ok X G (c.t.d.fact 31 (f := .free "tuple") rfl)) D_scale, (He.glo_ok X G (c.t.d.fact 39 (f := .glo "outer") rfl)), F14.kp, (FunD.bindsN F14 fun _ _ _ _ _ _ us hl => match us, hl with | [_, _], _ => rfl)⟩
  have D_sum_of : DefOk P w K mg base CX0 "sum_of" 5 ["first", "second"] _ _ fd15 := ⟨ok_sumof F15 (He.free_ok X G (c.t.d.fact 31 (f := .free "tuple") rfl)) (He.free_ok X G (c.t.d.fact 29 (f := .free "zip") rfl)) D_plus, (He.glo_ok X G (c.t.d.fact 40 (f := .glo "sum_of") rfl)), F15.kp, (FunD.bindsN F15 fun _ _ _ _ _ _ us hl => match us, hl with | [_, _], _ => rfl)⟩
  have D_scaled : DefOk P w K mg base CX0 "scaled" 5 ["factor", "matrix"] _ _ fd16 := ⟨ok_scaled F16 (He.free_ok X G (c.t.d.fact 31 (f := .free "tuple") rfl)) D_scale, (He.glo_ok X G (c.t.d.fact 41 (f := .glo "scaled") rfl)), F16.kp, (FunD.bindsN F16 fun _ _ _ _ _ _ us hl => match us, hl with | [_, _], _ => rfl)⟩
  have D_add_term : DefOk P w K mg base CX0 "add_term" 6 ["matrix", "row", "weight"] _ _ fd17 := ⟨ok_addterm F17 D_sum_of D_scaled D_outer, (He.glo_ok X G (c.t.d.fact 42 (f := .glo "add_term") rfl)), F17.kp, (FunD.bindsN F17 fun _ _ _ _ _ _ us hl => match us, hl with | [_, _, _], _ => rfl)⟩
  have D_with_added : DefOk P w K mg base CX0 "with_added" 6 ["matrix", "inverse", "row", "weight"] _ _ fd18 := ⟨ok_withadded F18 R D_apply D_minus D_dot D_is_zero D_scale D_sum_of D_scaled D_outer, (He.glo_ok X G (c.t.d.fact 43 (f := .glo "with_added") rfl)), F18.kp, (FunD.bindsN F18 fun _ _ _ _ _ _ us hl => match us, hl with | [_, _, _, _], _ => rfl)⟩
  have D_pivot_row : DefOk P w K mg base CX0 "pivot_row" 1 ["rows", "start", "column"] _ _ fd19 := ⟨ok_pivot F19 R (He.free_ok X G (c.t.d.fact 35 (f := .free "range") rfl)) (He.free_ok X G (c.t.d.fact 44 (f := .free "len") rfl)), (He.glo_ok X G (c.t.d.fact 45 (f := .glo "pivot_row") rfl)), F19.kp, (FunD.bindsN F19 fun _ _ _ _ _ _ us hl => match us, hl with | [_, _, _], _ => rfl)⟩
  have D_cleared : DefOk P w K mg base CX0 "cleared" 5 ["rows", "place", "column"] _ _ fd20 := ⟨ok_cleared F20 R (He.free_ok X G (c.t.d.fact 46 (f := .free "enumerate") rfl)) D_scale D_minus, (He.glo_ok X G (c.t.d.fact 47 (f := .glo "cleared") rfl)), F20.kp, (FunD.bindsN F20 fun _ _ _ _ _ _ us hl => match us, hl with | [_, _, _], _ => rfl)⟩
  have D_reduced : DefOk P w K mg base CX0 "reduced" 6 ["matrix", "width"] _ _ fd21 := ⟨ok_reduced F21 R (He.free_ok X G (c.t.d.fact 35 (f := .free "range") rfl)) (He.free_ok X G (c.t.d.fact 44 (f := .free "len") rfl)) (He.free_ok X G (c.t.d.fact 48 (f := .free "list") rfl)) (He.free_ok X G (c.t.d.fact 31 (f := .free "tuple") rfl)) D_pivot_row D_cleared, (He.glo_ok X G (c.t.d.fact 49 (f := .glo "reduced") rfl)), F21.kp, (FunD.bindsN F21 fun _ _ _ _ _ _ us hl => match us, hl with | [_, _], _ => rfl)⟩
  have D_kernel : DefOk P w K mg base CX0 "kernel" 7 ["matrix", "width"] _ _ fd22 := ⟨ok_kernel F22 R (He.free_ok X G (c.t.d.fact 35 (f := .free "range") rfl)) (He.free_ok X G (c.t.d.fact 46 (f := .free "enumerate") rfl)) (He.free_ok X G (c.t.d.fact 31 (f := .free "tuple") rfl)) D_reduced, (He.glo_ok X G (c.t.d.fact 50 (f := .glo "kernel") rfl)), F22.kp, (FunD.bindsN F22 fun _ _ _ _ _ _ us hl => match us, hl with | [_, _], _ => rfl)⟩
  have D_solve : DefOk P w K mg base CX0 "solve" 7 ["matrix", "width", "vector"] _ _ fd23 := ⟨ok_solve F23 R (He.free_ok X G (c.t.d.fact 35 (f := .free "range") rfl)) (He.free_ok X G (c.t.d.fact 46 (f := .free "enumerate") rfl)) (He.free_ok X G (c.t.d.fact 31 (f := .free "tuple") rfl)) (He.free_ok X G (c.t.d.fact 29 (f := .free "zip") rfl)) D_reduced, (He.glo_ok X G (c.t.d.fact 51 (f := .glo "solve") rfl)), F23.kp, (FunD.bindsN F23 fun _ _ _ _ _ _ us hl => match us, hl with | [_, _, _], _ => rfl)⟩
  have D_widened : DefOk P w K mg base CX0 "widened" 3 ["matrix"] _ _ fd24 := ⟨ok_widened F24 R (He.free_ok X G (c.t.d.fact 35 (f := .free "range") rfl)) (He.free_ok X G (c.t.d.fact 44 (f := .free "len") rfl)) (He.free_ok X G (c.t.d.fact 31 (f := .free "tuple") rfl)), (He.glo_ok X G (c.t.d.fact 52 (f := .glo "widened") rfl)), F24.kp, (FunD.bindsN F24 fun _ _ _ _ _ _ us hl => match us, hl with | [_], _ => rfl)⟩
  have I_Reading : FnOk P w K mg base CX0 1 _ fd25 ["self", "name", "terms", "value", "weight"] (spRdInit (He.ga K "Reading")) := ok_rdinit F25 NT
  have M_row : MetOk P w K mg base CX0 (He.ga K "Net") "row" 3 ["self", "reading"] _ _ fd26 := ⟨ok_netrow F26 R NT (He.free_ok X G (c.t.d.fact 31 (f := .free "tuple") rfl)), (He.meth_ok (c.t.d.fact 53 (f := .meth "Net" "row") rfl)), (FunD.bindsN F26 fun _ _ _ _ _ _ us hl => match us, hl with | [_, _], _ => rfl)⟩
  have I_Net : FnOk P w K mg base CX0 3 _ fd27 ["self"] (spNetInit (He.ga K "Ratio") (He.ga K "Net") (He.ga K "Reading")) := ok_netinit F27 R NT
  have M_rows : MetOk P w K mg base CX0 (He.ga K "Net") "rows" 4 ["self"] _ _ fd28 := ⟨ok_rows F28 NT (He.free_ok X G (c.t.d.fact 31 (f := .free "tuple") rfl)) M_row, (He.meth_ok (c.t.d.fact 54 (f := .meth "Net" "rows") rfl)), (FunD.bindsN F28 fun _ _ _ _ _ _ us hl => match us, hl with | [_], _ => rfl)⟩
  have M_movements : MetOk P w K mg base CX0 (He.ga K "Net") "movements" 8 ["self"] _ _ fd29 := ⟨ok_mov F29 NT (He.free_ok X G (c.t.d.fact 44 (f := .free "len") rfl)) M_rows D_kernel, (He.meth_ok (c.t.d.fact 55 (f := .meth "Net" "movements") rfl)), (FunD.bindsN F29 fun _ _ _ _ _ _ us hl => match us, hl with | [_], _ => rfl)⟩
  have M_heights : MetOk P w K mg base CX0 (He.ga K "Net") "heights" 6 ["self"] _ _ fd30 := ⟨ok_hts F30 NT D_plus D_apply, (He.meth_ok (c.t.d.fact 56 (f := .meth "Net" "heights") rfl)), (FunD.bindsN F30 fun _ _ _ _ _ _ us hl => match us, hl with | [_], _ => rfl)⟩
  have M_add_point : MetOk P w K mg base CX0 (He.ga K "Net") "add_point" 4 ["self", "name", "approximation"] _ _ fd31 := ⟨ok_addpoint F31 R NT (He.free_ok X G (c.t.d.fact 44 (f := .free "len") rfl)) m12 D_widened, (He.meth_ok (c.t.d.fact 57 (f := .meth "Net" "add_point") rfl)), (FunD.bindsN F31 fun _ _ _ _ _ _ us hl => match us, hl with | [_, _, _], _ => rfl)⟩
  have M_tally : MetOk P w K mg base CX0 (He.ga K "Net") "tally" 7 ["self", "reading", "weight"] _ _ fd32 := ⟨ok_tally F32 R NT M_row D_add_term D_plus D_dot D_scale, (He.meth_ok (c.t.d.fact 58 (f := .meth "Net" "tally") rfl)), (FunD.bindsN F32 fun _ _ _ _ _ _ us hl => match us, hl with | [_, _, _], _ => rfl)⟩
  have M_put : MetOk P w K mg base CX0 (He.ga K "Net") "put" 8 ["self", "reading"] _ _ fd33 := ⟨ok_put F33 NT M_row D_with_added M_tally, (He.meth_ok (c.t.d.fact 59 (f := .meth "Net" "put") rfl)), (FunD.bindsN F33 fun _ _ _ _ _ _ us hl => match us, hl with | [_, _], _ => rfl)⟩
  have M_add : MetOk P w K mg base CX0 (He.ga K "Net") "add" 9 ["self", "reading"] _ _ fd34 := ⟨ok_add F34 NT (He.free_ok X G (c.t.d.fact 44 (f := .free "len") rfl)) m24 M_put, (He.meth_ok (c.t.d.fact 60 (f := .meth "Net" "add") rfl)), (FunD.bindsN F34 fun _ _ _ _ _ _ us hl => match us, hl with | [_, _], _ => rfl)⟩
  have D_check_points : DefOk P w K mg base CX0 "check_points" 1 ["net", "terms"] _ _ fd37 := ⟨ok_checkpoints F37 NT, (He.glo_ok X G (c.t.d.fact 61 (f := .glo "check_points") rfl)), F37.kp, (FunD.bindsN F37 fun _ _ _ _ _ _ us hl => match us, hl with | [_, _], _ => rfl)⟩
  have D_row_of_function : DefOk P w K mg base CX0 "row_of_function" 3 ["net", "terms"] _ _ fd38 := ⟨ok_rowfn F38 R NT (He.free_ok X G (c.t.d.fact 31 (f := .free "tuple") rfl)) (He.free_ok X G (c.t.d.fact 62 (f := .free "dict") rfl)) D_check_points, (He.glo_ok X G (c.t.d.fact 63 (f := .glo "row_of_function") rfl)), F38.kp, (FunD.bindsN F38 fun _ _ _ _ _ _ us hl => match us, hl with | [_, _], _ => rfl)⟩
  have D_moved_by : DefOk P w K mg base CX0 "moved_by" 5 ["row", "movements"] _ _ fd39 := ⟨ok_movedby F39 R D_dot, (He.glo_ok X G (c.t.d.fact 64 (f := .glo "moved_by") rfl)), F39.kp, (FunD.bindsN F39 fun _ _ _ _ _ _ us hl => match us, hl with | [_, _], _ => rfl)⟩
  have D_estimable : DefOk P w K mg base CX0 "estimable" 9 ["net", "terms"] _ _ fd40 := ⟨ok_estimable F40 NT D_row_of_function D_moved_by M_movements, (He.glo_ok X G (c.t.d.fact 65 (f := .glo "estimable") rfl)), F40.kp, (FunD.bindsN F40 fun _ _ _ _ _ _ us hl => match us, hl with | [_, _], _ => rfl)⟩
  have D_check_datum : DefOk P w K mg base CX0 "check_datum" 1 ["net", "names"] _ _ fd41 := ⟨ok_checkdatum F41 NT (He.free_ok X G (c.t.d.fact 46 (f := .free "enumerate") rfl)), (He.glo_ok X G (c.t.d.fact 66 (f := .glo "check_datum") rfl)), F41.kp, (FunD.bindsN F41 fun _ _ _ _ _ _ us hl => match us, hl with | [_, _], _ => rfl)⟩
  have D_heights_in : DefOk P w K mg base (L2.CX P w) "heights_in" 9 ["net", "names"] _ _ fd42 := ⟨ok_hin F42 R NT XWeakDatum (He.free_ok X G (c.t.d.fact 44 (f := .free "len") rfl)) (He.free_ok X G (c.t.d.fact 31 (f := .free "tuple") rfl)) (He.free_ok X G (c.t.d.fact 29 (f := .free "zip") rfl)) D_check_datum M_row D_kernel D_unit M_movements M_heights D_minus D_dot D_solve D_plus D_scale, (He.glo_ok X G (c.t.d.fact 67 (f := .glo "heights_in") rfl)), F42.kp, (FunD.bindsN F42 fun _ _ _ _ _ _ us hl => match us, hl with | [_, _], _ => rfl)⟩
  have D__law_mixed : DefOk P w K mg base CX0 "_law_mixed" 1 ["_law_cell"] _ _ fd43 := ⟨ok_mixed F43 (He.free_ok X G (c.t.d.fact 68 (f := .free "int") rfl)) (He.free_ok X G (c.t.d.fact 35 (f := .free "range") rfl)), (He.glo_ok X G (c.t.d.fact 69 (f := .glo "_law_mixed") rfl)), F43.kp, (FunD.bindsN F43 fun _ _ _ _ _ _ us hl => match us, hl with | [_], _ => rfl)⟩
  have D__law_take : DefOk P w K mg base CX0 "_law_take" 2 ["_law_state_here", "_law_limit"] _ _ fd44 := ⟨ok_take F44 (He.free_ok X G (c.t.d.fact 68 (f := .free "int") rfl)) (He.free_ok X G (c.t.d.fact 70 (f := .free "abs") rfl)) (He.free_ok X G (c.t.d.fact 44 (f := .free "len") rfl)) D__law_mixed, (He.glo_ok X G (c.t.d.fact 71 (f := .glo "_law_take") rfl)), F44.kp, (FunD.bindsN F44 fun _ _ _ _ _ _ us hl => match us, hl with | [_, _], _ => rfl)⟩
  have D__law_state : DefOk P w K mg base CX0 "_law_state" 1 ["_law_script"] _ _ fd45 := ⟨ok_state F45 (He.free_ok X G (c.t.d.fact 68 (f := .free "int") rfl)), (He.glo_ok X G (c.t.d.fact 72 (f := .glo "_law_state") rfl)), F45.kp, (FunD.bindsN F45 fun _ _ _ _ _ _ us hl => match us, hl with | [_], _ => rfl)⟩
  have D__law_ratio : DefOk P w K mg base CX0 "_law_ratio" 3 ["_law_state_here"] _ _ fd46 := ⟨ok_ratiol F46 R D__law_take, (He.glo_ok X G (c.t.d.fact 73 (f := .glo "_law_ratio") rfl)), F46.kp, (FunD.bindsN F46 fun _ _ _ _ _ _ us hl => match us, hl with | [_], _ => rfl)⟩
  have D__law_weight : DefOk P w K mg base CX0 "_law_weight" 3 ["_law_state_here"] _ _ fd47 := ⟨ok_weightl F47 R D__law_take, (He.glo_ok X G (c.t.d.fact 74 (f := .glo "_law_weight") rfl)), F47.kp, (FunD.bindsN F47 fun _ _ _ _ _ _ us hl => match us, hl with | [_], _ => rfl)⟩
  have D__law_pair : DefOk P w K mg base CX0 "_law_pair" 1 ["_law_ratio_here"] _ _ fd48 := ⟨ok_pair F48 R, (He.glo_ok X G (c.t.d.fact 75 (f := .glo "_law_pair") rfl)), F48.kp, (FunD.bindsN F48 fun _ _ _ _ _ _ us hl => match us, hl with | [_], _ => rfl)⟩
  have D__law_pairs : DefOk P w K mg base CX0 "_law_pairs" 1 ["_law_vector"] _ _ fd49 := ⟨ok_pairs F49 R, (He.glo_ok X G (c.t.d.fact 76 (f := .glo "_law_pairs") rfl)), F49.kp, (FunD.bindsN F49 fun _ _ _ _ _ _ us hl => match us, hl with | [_], _ => rfl)⟩
  have D__law_equal : DefOk P w K mg base CX0 "_law_equal" 1 ["_law_one", "_law_two"] _ _ fd50 := ⟨ok_equal F50, (He.glo_ok X G (c.t.d.fact 77 (f := .glo "_law_equal") rfl)), F50.kp, (FunD.bindsN F50 fun _ _ _ _ _ _ us hl => match us, hl with | [_, _], _ => rfl)⟩
  have D__law_sum : DefOk P w K mg base CX0 "_law_sum" 1 ["_law_pairs_here"] _ _ fd51 := ⟨ok_sum F51, (He.glo_ok X G (c.t.d.fact 78 (f := .glo "_law_sum") rfl)), F51.kp, (FunD.bindsN F51 fun _ _ _ _ _ _ us hl => match us, hl with | [_], _ => rfl)⟩
  have D__law_dot : DefOk P w K mg base CX0 "_law_dot" 2 ["_law_row_here", "_law_pairs_here"] _ _ fd52 := ⟨ok_dotl F52 (He.free_ok X G (c.t.d.fact 35 (f := .free "range") rfl)) (He.free_ok X G (c.t.d.fact 44 (f := .free "len") rfl)) D__law_sum, (He.glo_ok X G (c.t.d.fact 79 (f := .glo "_law_dot") rfl)), F52.kp, (FunD.bindsN F52 fun _ _ _ _ _ _ us hl => match us, hl with | [_, _], _ => rfl)⟩
  have D__law_row : DefOk P w K mg base CX0 "_law_row" 2 ["_law_points_here", "_law_terms_here"] _ _ fd53 := ⟨ok_rowl F53 (He.free_ok X G (c.t.d.fact 62 (f := .free "dict") rfl)), (He.glo_ok X G (c.t.d.fact 80 (f := .glo "_law_row") rfl)), F53.kp, (FunD.bindsN F53 fun _ _ _ _ _ _ us hl => match us, hl with | [_, _], _ => rfl)⟩
  have D__law_points : DefOk P w K mg base CX0 "_law_points" 3 ["_law_state_here", "_law_most"] _ _ fd54 := ⟨ok_points F54 (He.free_ok X G (c.t.d.fact 44 (f := .free "len") rfl)) D__law_take, (He.glo_ok X G (c.t.d.fact 81 (f := .glo "_law_points") rfl)), F54.kp, (FunD.bindsN F54 fun _ _ _ _ _ _ us hl => match us, hl with | [_, _], _ => rfl)⟩
  have D__law_terms : DefOk P w K mg base CX0 "_law_terms" 3 ["_law_state_here", "_law_points_here"] (spTerms (TT K)) _ fd55 := ⟨ok_terms F55 (code_of (p := ("_law_terms", none)) F55) (TB _ m_terms) List.mem_cons_self (hT_terms x2) (He.free_ok X G (c.t.d.fact 68 (f := .free "int") rfl)) (He.free_ok X G (c.t.d.fact 44 (f := .free "len") rfl)) (He.free_ok X G (c.t.d.fact 35 (f := .free "range") rfl)) (He.free_ok X G (c.t.d.fact 31 (f := .free "tuple") rfl)) (He.free_ok X G (c.t.d.fact 82 (f := .free "sorted") rfl)) (He.free_ok X G (c.t.d.fact 83 (f := .free "str") rfl)) D__law_take, (He.glo_ok X G (c.t.d.fact 84 (f := .glo "_law_terms") rfl)), F55.kp, (FunD.bindsN F55 fun _ _ _ _ _ _ us hl => match us, hl with | [_, _], _ => rfl)⟩
  have D__law_net : DefOk P w K mg base CX0 "_law_net" 10 ["_law_state_here", "_law_most"] (spNet (TT K) (He.ga K "Ratio") (He.ga K "Net") (He.ga K "Reading")) _ fd56 := ⟨ok_net F56 NT (He.free_ok X G (c.t.d.fact 35 (f := .free "range") rfl)) (He.free_ok X G (c.t.d.fact 83 (f := .free "str") rfl)) (He.mkr_ok (c.t.d.fact 85 (f := .mkr "Net") rfl)) I_Net (FunD.bindsN F27 fun _ _ _ _ _ _ us hl => match us, hl with | [_], _ => rfl) (He.glo_ok X G (c.t.d.fact 86 (f := .glo "Net") rfl)) (He.mkr_ok (c.t.d.fact 87 (f := .mkr "Reading") rfl)) I_Reading (FunD.bindsN F25 fun _ _ _ _ _ _ us hl => match us, hl with | [_, _, _, _, _], _ => rfl) (He.glo_ok X G (c.t.d.fact 88 (f := .glo "Reading") rfl)) D__law_points M_add_point M_add D__law_take D__law_ratio D__law_weight D__law_terms D__law_row, (He.glo_ok X G (c.t.d.fact 89 (f := .glo "_law_net") rfl)), F56.kp, (FunD.bindsN F56 fun _ _ _ _ _ _ us hl => match us, hl with | [_, _], _ => rfl)⟩
  have D__law_function : DefOk P w K mg base CX0 "_law_function" 4 ["_law_state_here", "_law_points_here", "_law_rows"] (spFunc (TT K) (He.ga K "Ratio") (He.ga K "Net") (He.ga K "Reading")) _ fd57 := ⟨ok_func F57 (code_of (p := ("_law_function", none)) F57) (TB _ m_func) (List.mem_cons_of_mem _ List.mem_cons_self) (hT_func x2) (He.free_ok X G (c.t.d.fact 70 (f := .free "abs") rfl)) (He.free_ok X G (c.t.d.fact 44 (f := .free "len") rfl)) (He.free_ok X G (c.t.d.fact 35 (f := .free "range") rfl)) (He.free_ok X G (c.t.d.fact 31 (f := .free "tuple") rfl)) (He.free_ok X G (c.t.d.fact 82 (f := .free "sorted") rfl)) (He.free_ok X G (c.t.d.fact 83 (f := .free "str") rfl)) D__law_take D__law_terms, (He.glo_ok X G (c.t.d.fact 90 (f := .glo "_law_function") rfl)), F57.kp, (FunD.bindsN F57 fun _ _ _ _ _ _ us hl => match us, hl with | [_, _, _], _ => rfl)⟩
  have D__law_in : DefOk P w K mg base CX0 "_law_in" 10 ["_law_net_here", "_law_names"] _ _ fd58 := ⟨ok_in F58 XWeakDatum D_heights_in D__law_pairs, (He.glo_ok X G (c.t.d.fact 91 (f := .glo "_law_in") rfl)), F58.kp, (FunD.bindsN F58 fun _ _ _ _ _ _ us hl => match us, hl with | [_, _], _ => rfl)⟩
  have D_fixed_row : DefOk P w K mg base (L2N.CX P w) "fixed_row" 9 ["net", "terms"] _ _ fd59 := ⟨ok_fixedrowN F59 NT XNotEstimable D_row_of_function D_moved_by M_movements, (He.glo_ok X G (c.t.d.fact 92 (f := .glo "fixed_row") rfl)), F59.kp, (FunD.bindsN F59 fun _ _ _ _ _ _ us hl => match us, hl with | [_, _], _ => rfl)⟩
  have D_value_of : DefOk P w K mg base (L2N.CX P w) "value_of" 10 ["net", "terms"] _ _ fd60 := ⟨ok_valueofN F60 NT D_fixed_row D_dot M_heights, (He.glo_ok X G (c.t.d.fact 93 (f := .glo "value_of") rfl)), F60.kp, (FunD.bindsN F60 fun _ _ _ _ _ _ us hl => match us, hl with | [_, _], _ => rfl)⟩
  have H_pairs := ok_pairsH (P := P) (w := w) (base := base) F49 R
  have D__law_value : DefOk P w K mg base CX0 "_law_value" 11 ["_law_net_here", "_law_terms_here"] _ _ fd61 := ⟨ok_val F61 XNotEstimable D_value_of D__law_pairs H_pairs D__law_pair, (He.glo_ok X G (c.t.d.fact 94 (f := .glo "_law_value") rfl)), F61.kp, (FunD.bindsN F61 fun _ _ _ _ _ _ us hl => match us, hl with | [_, _], _ => rfl)⟩
  exact ok_law F62 NT (He.free_ok X G (c.t.d.fact 48 (f := .free "list") rfl)) (He.free_ok X G (c.t.d.fact 35 (f := .free "range") rfl)) (He.free_ok X G (c.t.d.fact 44 (f := .free "len") rfl)) D__law_state D__law_net D__law_pairs D__law_function D__law_row D__law_value D_estimable D__law_dot D__law_take D__law_in D__law_equal M_heights
end PW

set_option Elab.async false
set_option linter.all false
open PySem PySem.W PySem.Calls PyProof.Rows
set_option maxRecDepth 100000 in
set_option maxHeartbeats 0 in
theorem PySem.Challenge.cw_plumbnet_k43_whole_datums_and_functions_holds : PySem.Challenge.rw_plumbnet_k43_whole_datums_and_functions.Holds := by
  w_on; o_law
  refine HandSHeadRun.head_imp (r := OpenLaw.row PySem.Challenge.rw_plumbnet_k43_whole_datums_and_functions) (q := PW.VW) (H := PW.hk) (ob := PW.ob) (M := 8000) (loose := PW.NM) (d := HandSHeadRun.topDef (OpenLaw.row PySem.Challenge.rw_plumbnet_k43_whole_datums_and_functions).prog 75) (kwd := []) PW.ob_eq PW.run
    (by kernel_rfl) (by kernel_rfl) (by kernel_rfl) (by rfl) (by first | assumption | decide +kernel) (by decide +kernel) ⟨rfl, rfl, rfl, rfl, rfl, by decide +kernel⟩ ?hw ?hc
  case hw => w_witness2
  case hc =>
    refine LamX.walk_ofTsE (l := PySem.Challenge.rw_plumbnet_k43_whole_datums_and_functions) (n := 63) (k := 12) (x := "_law_script") (CX := fun _ => L2.CX0) rfl (by decide) (by kernel_rfl) ⟨rfl, by decide, by decide⟩ ?F (fun _ _ _ _ _ z => z)
    intro w mg fa h Y G hmg0
    obtain ⟨K, KX, c⟩ := Y
    have hmg : mg ("law" : PySem.Str) = some (.ref fa) := by
      have e : (HandSHeadRun.topDef (OpenLaw.row PySem.Challenge.rw_plumbnet_k43_whole_datums_and_functions).prog 75).name = ("law" : PySem.Str) := by kernel_rfl
      rw [← e]
      exact hmg0
    exact ⟨K, KX, PW.facts KX G hmg c⟩

