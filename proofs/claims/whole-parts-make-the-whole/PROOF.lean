import PyProof.Rows.All
import Wide.All
import OpenK.AllK
import Wide.FinOn
import KE.KStateDown
import HandS.ForMost
import HandS.Defaults
import HandS.WordsExc
import HandS.More
import HandS.Head0
import HandS.Head1
import HandS.Head2
import HandS.Head3
import HandS.HeadEnd
import HandS.HeadHook1
import HandS.HeadHook2
import HandS.HeadHook3
import HandS.HeadHook4
import PySem.Challenge.RW_plumbnet_k62_whole_parts_make_the_whole
import HandS.Lambda
import HandS.OwnEq
import PyProof.InstNe
import HandS.Evl
import HandS.Walk
import HandS.Zip
import HandS.Gcd
import HandS.WideBits
import HandS.IsInst
import HandS.TupAny
import KE.GoesEnum
import HandS.Strs
import KE.KDictPairs
import HandS.WordsDict
import KE.KSortKey
import KE.SortKeyHeap
import HandS.RaiseMore
import HandS.DictComp
import HandS.DictEq
import HandS.HeadWalk
import KE.KNestM
set_option Elab.async false
set_option linter.all false
set_option maxRecDepth 100000
set_option maxHeartbeats 8000000

/-! Sums over the first n, vectors and matrices as functions. -/
namespace Pb
/-- the sum of f over 0 .. n - 1 -/
def S : Nat → (Nat → Rat) → Rat
  | 0, _ => 0
  | n + 1, f => S n f + f n
theorem S_zero (f : Nat → Rat) : S 0 f = 0 := rfl
theorem S_succ (n : Nat) (f : Nat → Rat) : S (n + 1) f = S n f + f n := rfl
theorem S_congr : ∀ {n : Nat} {f g : Nat → Rat}, (∀ i, i < n → f i = g i) → S n f = S n g
  | 0, _, _, _ => rfl
  | n + 1, f, g, h => by
    rw [S_succ, S_succ, S_congr (n := n) fun i hi => h i (by omega), h n (by omega)]
theorem S_const0 (n : Nat) : S n (fun _ => 0) = 0 := by
  induction n with
  | zero => rfl
  | succ n ih => rw [S_succ, ih]; grind
theorem S_all0 {n : Nat} {f : Nat → Rat} (h : ∀ i, i < n → f i = 0) : S n f = 0 := by
  rw [S_congr (g := fun _ => 0) h, S_const0]
theorem S_add (n : Nat) (f g : Nat → Rat) : S n (fun i => f i + g i) = S n f + S n g := by
  induction n with
  | zero => rw [S_zero, S_zero, S_zero]; grind
  | succ n ih => rw [S_succ, S_succ, S_succ, ih]; grind
theorem S_sub (n : Nat) (f g : Nat → Rat) : S n (fun i => f i - g i) = S n f - S n g := by
  induction n with
  | zero => rw [S_zero, S_zero, S_zero]; grind
  | succ n ih => rw [S_succ, S_succ, S_succ, ih]; grind
theorem S_mul (n : Nat) (c : Rat) (f : Nat → Rat) : S n (fun i => c * f i) = c * S n f := by
  induction n with
  | zero => rw [S_zero, S_zero]; grind
  | succ n ih => rw [S_succ, S_succ, ih]; grind
theorem S_mulr (n : Nat) (c : Rat) (f : Nat → Rat) : S n (fun i => f i * c) = S n f * c := by
  induction n with
  | zero => rw [S_zero, S_zero]; grind
  | succ n ih => rw [S_succ, S_succ, ih]; grind
theorem S_swap (n m : Nat) (f : Nat → Nat → Rat) : S n (fun i => S m (fun j => f i j)) = S m (fun j => S n (fun i => f i j)) := by
  induction n with
  | zero => rw [S_zero, S_all0]; intro i _; rfl
  | succ n ih =>
    rw [S_succ, ih, ← S_add]
    exact S_congr fun j _ => (S_succ n fun i => f i j).symm
/-- one index alone -/
theorem S_one {n k : Nat} {f : Nat → Rat} (hk : k < n) (h : ∀ i, i < n → i ≠ k → f i = 0) : S n f = f k := by
  induction n with
  | zero => omega
  | succ n ih =>
    rw [S_succ]
    by_cases e : n = k
    · subst e
      rw [S_all0 fun i hi => h i (by omega) (by omega)]; grind
    · rw [ih (by omega) fun i hi => h i (by omega), h n (by omega) e]; grind
theorem S_nonneg {n : Nat} {f : Nat → Rat} (h : ∀ i, i < n → 0 ≤ f i) : 0 ≤ S n f := by
  induction n with
  | zero => rw [S_zero]; grind
  | succ n ih =>
    have a := ih fun i hi => h i (by omega)
    have b := h n (by omega)
    rw [S_succ]; grind
theorem S_nonneg0 {n : Nat} {f : Nat → Rat} (h : ∀ i, i < n → 0 ≤ f i) (e : S n f = 0) : ∀ i, i < n → f i = 0 := by
  induction n with
  | zero => intro i hi; omega
  | succ n ih =>
    have a := S_nonneg fun i (hi : i < n) => h i (by omega)
    have b := h n (by omega)
    rw [S_succ] at e
    have a0 : S n f = 0 := by grind
    have b0 : f n = 0 := by grind
    intro i hi
    by_cases q : i = n
    · subst q; exact b0
    · exact ih (fun i hi => h i (by omega)) a0 i (by omega)
theorem sq_nonneg (a : Rat) : 0 ≤ a * a := by
  rcases Rat.le_total (a := 0) (b := a) with h | h
  · exact Rat.mul_nonneg h h
  · have q := Rat.mul_nonneg (a := -a) (b := -a) (by grind) (by grind)
    have e : -a * -a = a * a := by grind
    rw [e] at q
    exact q
theorem sq_zero {a : Rat} (h : a * a = 0) : a = 0 := by
  rcases Rat.mul_eq_zero.mp h with h | h <;> exact h

/-! ### the product of two vectors; matrix by vector -/
def dot (n : Nat) (x y : Nat → Rat) : Rat := S n fun i => x i * y i
def mv (n : Nat) (M : Nat → Nat → Rat) (x : Nat → Rat) : Nat → Rat := fun i => dot n (M i) x
theorem dot_congr {n : Nat} {x x' y y' : Nat → Rat} (h : ∀ i, i < n → x i = x' i) (h' : ∀ i, i < n → y i = y' i) : dot n x y = dot n x' y' :=
  S_congr fun i hi => by rw [h i hi, h' i hi]
theorem dot_comm (n : Nat) (x y : Nat → Rat) : dot n x y = dot n y x := S_congr fun i _ => Rat.mul_comm _ _
theorem dot_add (n : Nat) (x y z : Nat → Rat) : dot n x (fun i => y i + z i) = dot n x y + dot n x z := by
  unfold dot; rw [← S_add]; exact S_congr fun i _ => by grind
theorem dot_sub (n : Nat) (x y z : Nat → Rat) : dot n x (fun i => y i - z i) = dot n x y - dot n x z := by
  unfold dot; rw [← S_sub]; exact S_congr fun i _ => by grind
theorem dot_mul (n : Nat) (c : Rat) (x y : Nat → Rat) : dot n x (fun i => c * y i) = c * dot n x y := by
  unfold dot; rw [← S_mul]; exact S_congr fun i _ => by grind
theorem dot_addl (n : Nat) (x y z : Nat → Rat) : dot n (fun i => y i + z i) x = dot n y x + dot n z x := by
  rw [dot_comm, dot_add, dot_comm n x, dot_comm n x]
theorem dot_subl (n : Nat) (x y z : Nat → Rat) : dot n (fun i => y i - z i) x = dot n y x - dot n z x := by
  rw [dot_comm, dot_sub, dot_comm n x, dot_comm n x]
theorem dot_mull (n : Nat) (c : Rat) (x y : Nat → Rat) : dot n (fun i => c * y i) x = c * dot n y x := by
  rw [dot_comm, dot_mul, dot_comm n x]
/-- the unit vector -/
def e_ (k : Nat) : Nat → Rat := fun i => if i = k then 1 else 0
theorem dot_e {n k : Nat} (hk : k < n) (x : Nat → Rat) : dot n x (e_ k) = x k := by
  unfold dot
  rw [S_one hk fun i _ hne => by simp only [e_, if_neg hne]; grind]
  simp only [e_, if_true]; grind
theorem dot_el {n k : Nat} (hk : k < n) (x : Nat → Rat) : dot n (e_ k) x = x k := by rw [dot_comm, dot_e hk]
theorem dot_eout {n k : Nat} (hk : n ≤ k) (x : Nat → Rat) : dot n x (e_ k) = 0 :=
  S_all0 fun i hi => by simp only [e_, if_neg (show ¬ i = k by omega)]; grind
theorem dot_self_nonneg (n : Nat) (x : Nat → Rat) : 0 ≤ dot n x x := S_nonneg fun i _ => sq_nonneg _
theorem dot_self_zero {n : Nat} {x : Nat → Rat} (h : dot n x x = 0) : ∀ i, i < n → x i = 0 := fun i hi =>
  sq_zero (S_nonneg0 (fun i _ => sq_nonneg (x i)) h i hi)
/-- vectors that no product tells apart are one -/
theorem dot_ext {n : Nat} {x y : Nat → Rat} (h : ∀ z, dot n z x = dot n z y) : ∀ i, i < n → x i = y i := fun i hi => by
  have q := h (e_ i)
  rwa [dot_el hi, dot_el hi] at q
theorem mv_congr {n : Nat} {M : Nat → Nat → Rat} {x y : Nat → Rat} (h : ∀ i, i < n → x i = y i) : mv n M x = mv n M y :=
  funext fun _ => dot_congr (fun _ _ => rfl) h
theorem mv_add (n : Nat) (M : Nat → Nat → Rat) (x y : Nat → Rat) : mv n M (fun i => x i + y i) = fun i => mv n M x i + mv n M y i := funext fun _ => dot_add _ _ _ _
theorem mv_sub (n : Nat) (M : Nat → Nat → Rat) (x y : Nat → Rat) : mv n M (fun i => x i - y i) = fun i => mv n M x i - mv n M y i := funext fun _ => dot_sub _ _ _ _
theorem mv_mul (n : Nat) (M : Nat → Nat → Rat) (c : Rat) (x : Nat → Rat) : mv n M (fun i => c * x i) = fun i => c * mv n M x i := funext fun _ => dot_mul _ _ _ _
/-- the product of two matrices, m the inner width -/
def mm (m : Nat) (A B : Nat → Nat → Rat) : Nat → Nat → Rat := fun i j => S m fun t => A i t * B t j
def tr (A : Nat → Nat → Rat) : Nat → Nat → Rat := fun i j => A j i
theorem mv_mm (n m : Nat) (A B : Nat → Nat → Rat) (x : Nat → Rat) : mv n (mm m A B) x = mv m A (mv n B x) := by
  funext i
  show S n (fun j => S m (fun t => A i t * B t j) * x j) = S m fun t => A i t * S n fun j => B t j * x j
  rw [S_congr (g := fun j => S m fun t => A i t * B t j * x j) fun j _ => (S_mulr m (x j) _).symm, S_swap]
  exact S_congr fun t _ => by rw [← S_mul]; exact S_congr fun j _ => by grind
/-- x' (A y) is (A' x)' y -/
theorem dot_mv (h w : Nat) (A : Nat → Nat → Rat) (x y : Nat → Rat) : dot h x (mv w A y) = dot w (mv h (tr A) x) y := by
  show S h (fun i => x i * S w fun j => A i j * y j) = S w fun j => (S h fun i => A i j * x i) * y j
  rw [S_congr (g := fun i => S w fun j => x i * (A i j * y j)) fun i _ => (S_mul w (x i) _).symm, S_swap]
  exact S_congr fun j _ => by rw [← S_mulr]; exact S_congr fun i _ => by grind
theorem mv_e {n k : Nat} (hk : k < n) (M : Nat → Nat → Rat) (i : Nat) : mv n M (e_ k) i = M i k := dot_e hk _
def Sym (n : Nat) (M : Nat → Nat → Rat) : Prop := ∀ i j, i < n → j < n → M i j = M j i
theorem Sym.dot {n : Nat} {M : Nat → Nat → Rat} (h : Sym n M) (x y : Nat → Rat) : dot n x (mv n M y) = Pb.dot n (mv n M x) y := by
  rw [dot_mv]
  refine S_congr fun j hj => ?_
  have q : mv n (tr M) x j = mv n M x j := S_congr fun i hi => by show M i j * x i = M j i * x i; rw [h i j hi hj]
  rw [q]
end Pb

/-! Pseudo-inverses: one only; kept when a term is added. -/
namespace Pb
structure Pen (n : Nat) (M P : Nat → Nat → Rat) : Prop where
  a : ∀ x i, i < n → mv n M (mv n P (mv n M x)) i = mv n M x i
  b : ∀ x i, i < n → mv n P (mv n M (mv n P x)) i = mv n P x i
  c : ∀ x y, dot n x (mv n M (mv n P y)) = dot n (mv n M (mv n P x)) y
  d : ∀ x y, dot n x (mv n P (mv n M y)) = dot n (mv n P (mv n M x)) y
section
variable {n : Nat} {M P R : Nat → Nat → Rat}
theorem Pen.left (p : Pen n M P) (q : Pen n M R) (x : Nat → Rat) : ∀ i, i < n → mv n M (mv n P x) i = mv n M (mv n R x) i := dot_ext fun y => by
  rw [dot_congr (x := y) (fun _ _ => rfl) (fun i hi => (q.a (mv n P x) i hi).symm), q.c, p.c, dot_congr (fun i hi => p.a (mv n R y) i hi) (fun _ _ => rfl), q.c]
theorem Pen.right (p : Pen n M P) (q : Pen n M R) (x : Nat → Rat) : ∀ i, i < n → mv n P (mv n M x) i = mv n R (mv n M x) i := dot_ext fun y => by
  have e : mv n P (mv n M x) = mv n P (mv n M (mv n R (mv n M x))) := mv_congr fun i hi => (q.a x i hi).symm
  rw [e, p.d, q.d]
  have e2 : mv n R (mv n M (mv n P (mv n M y))) = mv n R (mv n M y) := mv_congr fun i hi => p.a y i hi
  rw [e2, ← q.d]
/-- there is one pseudo-inverse only -/
theorem Pen.one (p : Pen n M P) (q : Pen n M R) (x : Nat → Rat) : ∀ i, i < n → mv n P x i = mv n R x i := fun i hi => by
  rw [← p.b x i hi, p.right q (mv n P x) i hi, mv_congr (fun j hj => p.left q x j hj), q.b x i hi]
theorem Pen.ent (p : Pen n M P) (q : Pen n M R) : ∀ i j, i < n → j < n → P i j = R i j := fun i j hi hj => by
  have h := p.one q (e_ j) i hi
  rwa [mv_e hj, mv_e hj] at h
theorem mv_ent {M' : Nat → Nat → Rat} (h : ∀ i j, i < n → j < n → M i j = M' i j) (x : Nat → Rat) : ∀ i, i < n → mv n M x i = mv n M' x i := fun i hi => dot_congr (fun j hj => h i j hi hj) fun _ _ => rfl
/-- the same where the entries are the same -/
theorem Pen.cg {M' P' : Nat → Nat → Rat} (p : Pen n M P) (h : ∀ i j, i < n → j < n → M i j = M' i j) (h' : ∀ i j, i < n → j < n → P i j = P' i j) : Pen n M' P' := by
  have m := fun x => mv_ent h x
  have r := fun x => mv_ent h' x
  refine ⟨fun x i hi => ?_, fun x i hi => ?_, fun x y => ?_, fun x y => ?_⟩
  · rw [← m x i hi, ← m _ i hi, ← p.a x i hi]
    exact congrFun (mv_congr fun j hj => by rw [← r _ j hj, mv_congr fun k hk => (m x k hk).symm]) i
  · rw [← r x i hi, ← r _ i hi, ← p.b x i hi]
    exact congrFun (mv_congr fun j hj => by rw [← m _ j hj, mv_congr fun k hk => (r x k hk).symm]) i
  · have e : ∀ z j, j < n → mv n M' (mv n P' z) j = mv n M (mv n P z) j := fun z j hj => by rw [← m _ j hj, mv_congr fun k hk => (r z k hk).symm]
    rw [dot_congr (x := x) (fun _ _ => rfl) (e y), dot_congr (e x) (fun _ _ => rfl)]
    exact p.c x y
  · have e : ∀ z j, j < n → mv n P' (mv n M' z) j = mv n P (mv n M z) j := fun z j hj => by rw [← r _ j hj, mv_congr fun k hk => (m z k hk).symm]
    rw [dot_congr (x := x) (fun _ _ => rfl) (e y), dot_congr (e x) (fun _ _ => rfl)]
    exact p.d x y
theorem mv_tr (x y : Nat → Rat) (A : Nat → Nat → Rat) : dot n x (mv n (tr A) y) = dot n (mv n A x) y := by
  rw [dot_mv]
  rfl
theorem mv_trl (x y : Nat → Rat) (A : Nat → Nat → Rat) : dot n (mv n (tr A) x) y = dot n x (mv n A y) := by
  rw [dot_mv]
theorem mv_sym (h : Sym n M) (x : Nat → Rat) : ∀ i, i < n → mv n (tr M) x i = mv n M x i := fun i hi => dot_congr (fun j hj => (h j i hj hi)) fun _ _ => rfl
/-- the pseudo-inverse of a symmetric matrix is symmetric -/
theorem Pen.sym (p : Pen n M P) (h : Sym n M) : Sym n P := by
  have hd := fun x y => Sym.dot h x y
  have q : Pen n M (tr P) := by
    refine ⟨fun x => dot_ext fun z => ?_, fun x => dot_ext fun z => ?_, fun x y => ?_, fun x y => ?_⟩
    · rw [hd, mv_tr, hd, dot_congr (p.a z) (fun _ _ => rfl), hd]
    · rw [mv_tr, hd, mv_tr, dot_congr (p.b z) (fun _ _ => rfl), mv_tr]
    · rw [hd, mv_tr, ← hd, mv_trl]
      exact (p.d x y).symm
    · rw [mv_tr, hd, mv_trl]
      exact (p.c x y).symm.trans (hd _ _)
  intro i j hi hj
  exact p.ent q i j hi hj
end
end Pb

/-! The pseudo-inverse behind adding a term. -/
namespace Pb
theorem mv_addA (n : Nat) (M : Nat → Nat → Rat) (x y : Nat → Rat) (i : Nat) : mv n M (fun i => x i + y i) i = mv n M x i + mv n M y i := dot_add _ _ _ _
theorem mv_subA (n : Nat) (M : Nat → Nat → Rat) (x y : Nat → Rat) (i : Nat) : mv n M (fun i => x i - y i) i = mv n M x i - mv n M y i := dot_sub _ _ _ _
theorem mv_mulA (n : Nat) (M : Nat → Nat → Rat) (c : Rat) (x : Nat → Rat) (i : Nat) : mv n M (fun i => c * x i) i = c * mv n M x i := dot_mul _ _ _ _
theorem Pen.of {n : Nat} {M P : Nat → Nat → Rat} (sm : Sym n M) (sp : Sym n P) (T : (Nat → Rat) → Nat → Rat) (key : ∀ x i, i < n → mv n M (mv n P x) i = T x i) (hT : ∀ x y, dot n x (T y) = dot n (T x) y)
    (ha : ∀ x i, i < n → T (mv n M x) i = mv n M x i) (hb : ∀ x i, i < n → mv n P (T x) i = mv n P x i) : Pen n M P := by
  have hc : ∀ x y, dot n x (mv n M (mv n P y)) = dot n (mv n M (mv n P x)) y := fun x y => by
    rw [dot_congr (x := x) (fun _ _ => rfl) (key y), dot_congr (key x) (fun _ _ => rfl), hT]
  refine ⟨fun x i hi => (key _ i hi).trans (ha x i hi), fun x i hi => ?_, hc, fun x y => ?_⟩
  · rw [mv_congr (key x), hb x i hi]
  · rw [sp.dot, sm.dot, ← hc, sm.dot, sp.dot]
section
variable {n : Nat} {M P : Nat → Nat → Rat} {a : Nat → Rat} {w : Rat}
/-- M + w a a' -/
def plusT (M : Nat → Nat → Rat) (a : Nat → Rat) (w : Rat) : Nat → Nat → Rat := fun i j => M i j + w * (a i * a j)
theorem mv_plusT (x : Nat → Rat) (i : Nat) : mv n (plusT M a w) x i = mv n M x i + w * dot n a x * a i := by
  show S n (fun j => (M i j + w * (a i * a j)) * x j) = S n (fun j => M i j * x j) + (w * S n fun j => a j * x j) * a i
  rw [← S_mul, ← S_mulr, ← S_add]
  exact S_congr fun j _ => by grind
theorem sym_plusT (h : Sym n M) : Sym n (plusT M a w) := fun i j hi hj => by
  show M i j + w * (a i * a j) = M j i + w * (a j * a i)
  rw [h i j hi hj]; grind
/-- the first case: a is within -/
theorem pen_add0 (p : Pen n M P) (sm : Sym n M) (pos : ∀ x, 0 ≤ dot n x (mv n M x)) (hw : 0 < w) (h0 : ∀ i, i < n → a i = mv n M (mv n P a) i) :
    1 + w * dot n a (mv n P a) ≠ 0 ∧ Pen n (plusT M a w) (plusT P (mv n P a) (-(w / (1 + w * dot n a (mv n P a))))) := by
  have sp := p.sym sm
  generalize hg : mv n P a = g at h0
  generalize hs : dot n a g = s
  have s0 : 0 ≤ s := by
    rw [← hs, dot_congr (y := g) h0 (fun _ _ => rfl), dot_comm]
    exact pos g
  have d0 : 1 + w * s ≠ 0 := by
    have q := Rat.mul_nonneg (Rat.le_of_lt hw) s0
    grind
  refine ⟨d0, ?_⟩
  generalize hf : w / (1 + w * s) = f
  have ef : f * (1 + w * s) = w := by rw [← hf]; grind
  have gx : ∀ x, dot n g x = dot n a (mv n P x) := fun x => by rw [← hg, ← sp.dot]
  have eP : ∀ x i, mv n (plusT P g (-f)) x i = mv n P x i - f * dot n g x * g i := fun x i => by rw [mv_plusT]; grind
  have eM : ∀ x i, mv n (plusT M a w) x i = mv n M x i + w * dot n a x * a i := fun x i => mv_plusT x i
  refine Pen.of (sym_plusT sm) (sym_plusT sp) (fun x => mv n M (mv n P x)) (fun x i hi => ?_) (fun x y => p.c x y) (fun x i hi => ?_) (fun x i hi => ?_)
  · rw [eM, funext (eP x), mv_subA, dot_sub, mv_mulA, dot_mul, hs, ← h0 i hi, gx]
    grind
  · have e1 : ∀ j, mv n P (mv n (plusT M a w) x) j = mv n P (mv n M x) j + w * dot n a x * g j := fun j => by
      rw [funext (eM x), mv_addA, mv_mulA, hg]
    rw [funext e1, mv_addA, mv_mulA, p.a x i hi, ← h0 i hi, eM]
  · have e2 : dot n g (mv n M (mv n P x)) = dot n g x := by
      rw [sm.dot, dot_congr (fun i hi => (h0 i hi).symm) (fun _ _ => rfl), gx]
    rw [eP, eP, p.b x i hi, e2]
/-- the second case: the rest u is not zero; c is u by u'u, g is P a -/
def growP (P : Nat → Nat → Rat) (c g : Nat → Rat) (k : Rat) : Nat → Nat → Rat := fun i j => P i j + -1 * (c i * g j) + -1 * (g i * c j) + k * (c i * c j)
theorem mv_growP {c g : Nat → Rat} {k : Rat} (x : Nat → Rat) (i : Nat) : mv n (growP P c g k) x i = mv n P x i - dot n g x * c i - dot n c x * g i + k * dot n c x * c i := by
  show S n (fun j => (P i j + -1 * (c i * g j) + -1 * (g i * c j) + k * (c i * c j)) * x j) = S n (fun j => P i j * x j) - (S n fun j => g j * x j) * c i - (S n fun j => c j * x j) * g i + (k * S n fun j => c j * x j) * c i
  rw [← S_mul, ← S_mulr, ← S_mulr, ← S_mulr, ← S_sub, ← S_sub, ← S_add]
  exact S_congr fun j _ => by grind
theorem pen_add1 (p : Pen n M P) (sm : Sym n M) (hw : 0 < w) {u c : Nat → Rat} (hu : ∀ i, i < n → u i = a i - mv n M (mv n P a) i) (hne : ¬ ∀ i, i < n → u i = 0)
    (hc : ∀ i, i < n → c i = 1 / dot n u u * u i) :
    dot n u u ≠ 0 ∧ Pen n (plusT M a w) (growP P c (mv n P a) (1 / w + dot n a (mv n P a))) := by
  have sp := p.sym sm
  have nz : dot n u u ≠ 0 := fun q => hne (dot_self_zero q)
  refine ⟨nz, ?_⟩
  generalize hd : dot n u u = d at hc nz
  generalize hg : mv n P a = g at hu
  generalize hs : dot n a g = s
  generalize hk : 1 / w + s = k
  have gx : ∀ x, dot n g x = dot n a (mv n P x) := fun x => by rw [← hg, ← sp.dot]
  have Mu : ∀ i, i < n → mv n M u i = 0 := fun i hi => by
    rw [mv_congr hu, mv_subA]
    have q : mv n M a i = mv n M (mv n M g) i := dot_ext (fun z => by
      rw [sm.dot, sm.dot, ← hg, p.c, dot_congr (p.a z) (fun _ _ => rfl)]) i hi
    rw [q]; grind
  have Pu : ∀ i, i < n → mv n P u i = 0 := fun i hi => by
    rw [mv_congr hu, mv_subA, ← hg, p.b a i hi]; grind
  have Mc : ∀ x, dot n c (mv n M x) = 0 := fun x => by
    rw [dot_congr hc (fun _ _ => rfl), dot_mull, sm.dot, dot_congr Mu (y := x) (fun _ _ => rfl)]
    unfold dot
    rw [S_all0 fun i _ => by grind]; grind
  have cu : dot n c u = 1 := by
    rw [dot_congr hc (fun _ _ => rfl), dot_mull, hd]; grind
  have ea : ∀ i, i < n → a i = u i + mv n M g i := fun i hi => by rw [hu i hi]; grind
  have ca : dot n c a = 1 := by
    rw [dot_congr (x := c) (fun _ _ => rfl) ea, dot_add, Mc, cu]; grind
  have gu : dot n g u = 0 := by
    rw [gx, dot_congr (x := a) (fun _ _ => rfl) Pu]
    exact S_all0 fun i _ => by grind
  have eM : ∀ x i, mv n (plusT M a w) x i = mv n M x i + w * dot n a x * a i := fun x i => mv_plusT x i
  have eP : ∀ x i, mv n (growP P c g k) x i = mv n P x i - dot n g x * c i - dot n c x * g i + k * dot n c x * c i := fun x i => mv_growP x i
  have Mci : ∀ i, i < n → mv n M c i = 0 := fun i hi => by
    rw [mv_congr hc, mv_mulA, Mu i hi]; grind
  have wk : w * (k - s) = 1 := by rw [← hk]; grind
  have sG : Sym n (growP P c g k) := fun i j hi hj => by
    show P i j + -1 * (c i * g j) + -1 * (g i * c j) + k * (c i * c j) = P j i + -1 * (c j * g i) + -1 * (g j * c i) + k * (c j * c i)
    rw [sp i j hi hj]; grind
  refine Pen.of (sym_plusT sm) sG (fun x i => mv n M (mv n P x) i + dot n c x * u i) (fun x i hi => ?_) (fun x y => ?_) (fun x i hi => ?_) (fun x i hi => ?_)
  · have e1 : mv n M (mv n (growP P c g k) x) i = mv n M (mv n P x) i - dot n c x * mv n M g i := by
      rw [funext (eP x), mv_addA, mv_subA, mv_subA, mv_mulA, mv_mulA, mv_mulA, Mci i hi]; grind
    have e2 : dot n a (mv n (growP P c g k) x) = dot n c x * (k - s) := by
      rw [funext (eP x), dot_add, dot_sub, dot_sub, dot_mul, dot_mul, dot_mul, hs, dot_comm n a c, ca, gx]; grind
    rw [eM, e1, e2]
    have e3 := hu i hi
    have e4 : w * (dot n c x * (k - s)) = dot n c x := by grind
    rw [e4, e3]; grind
  · rw [dot_add, dot_addl, dot_mul, dot_mull, p.c, dot_congr (y := y) hc (fun _ _ => rfl), dot_congr (y := x) hc (fun _ _ => rfl), dot_mull, dot_mull, dot_comm n x u]
    grind
  · have e1 : dot n c (mv n (plusT M a w) x) = w * dot n a x := by
      rw [funext (eM x), dot_add, dot_mul, Mc, ca]; grind
    have e2 : ∀ j, mv n P (mv n (plusT M a w) x) j = mv n P (mv n M x) j + w * dot n a x * g j := fun j => by
      rw [funext (eM x), mv_addA, mv_mulA, hg]
    rw [e1, funext e2, mv_addA, mv_mulA, p.a x i hi, eM]
    have e3 := hu i hi
    rw [e3]; grind
  · have e1 : mv n P (fun i => mv n M (mv n P x) i + dot n c x * u i) i = mv n P x i := by
      rw [mv_addA, mv_mulA, Pu i hi, p.b x i hi]; grind
    have e2 : dot n g (fun i => mv n M (mv n P x) i + dot n c x * u i) = dot n g x := by
      rw [dot_add, dot_mul, gu, gx, gx, dot_congr (x := a) (fun _ _ => rfl) (p.b x)]
      grind
    have e3 : dot n c (fun i => mv n M (mv n P x) i + dot n c x * u i) = dot n c x := by
      rw [dot_add, dot_mul, cu, Mc]; grind
    rw [eP, eP, e1, e2, e3]
end
end Pb

/-! Reduced rows, by kernels alone. -/
namespace Pb
/-- the state of the elimination: columns below c are done, k pivots p -/
structure Ech (h w : Nat) (M R : Nat → Nat → Rat) (c k : Nat) (p : Nat → Nat) : Prop where
  kh : k ≤ h
  pc : ∀ t, t < k → p t < c
  asc : ∀ s t, s < t → t < k → p s < p t
  one : ∀ t, t < k → ∀ i, i < h → R i (p t) = if i = t then 1 else 0
  low : ∀ i, k ≤ i → i < h → ∀ j, j < c → R i j = 0
  ech : ∀ t, t < k → ∀ j, j < p t → R t j = 0
  ker : ∀ x, (∀ i, i < h → dot w (M i) x = 0) ↔ ∀ i, i < h → dot w (R i) x = 0
theorem Ech.start (h w : Nat) (M : Nat → Nat → Rat) (p : Nat → Nat) : Ech h w M M 0 0 p :=
  ⟨Nat.zero_le _, fun t ht => by omega, fun s t _ ht => by omega, fun t ht => by omega, fun i _ _ j hj => by omega, fun t ht => by omega, fun _ => Iff.rfl⟩
section
variable {h w : Nat} {M R : Nat → Nat → Rat} {c k : Nat} {p : Nat → Nat}
theorem Ech.cg (e : Ech h w M R c k p) {R' : Nat → Nat → Rat} (hw : c ≤ w) (q : ∀ i j, i < h → j < w → R' i j = R i j) : Ech h w M R' c k p where
  kh := e.kh
  pc := e.pc
  asc := e.asc
  one := fun t ht i hi => by rw [q i _ hi (by have := e.pc t ht; omega)]; exact e.one t ht i hi
  low := fun i hi hh j hj => by rw [q i j hh (by omega)]; exact e.low i hi hh j hj
  ech := fun t ht j hj => by
    have := e.pc t ht
    have := e.kh
    rw [q t j (by omega) (by omega)]; exact e.ech t ht j hj
  ker := fun x => (e.ker x).trans ⟨fun z i hi => by rw [dot_congr (fun j hj => q i j hi hj) (fun _ _ => rfl)]; exact z i hi, fun z i hi => by rw [← dot_congr (fun j hj => q i j hi hj) (fun _ _ => rfl)]; exact z i hi⟩
/-- a column without a pivot -/
theorem Ech.skip (e : Ech h w M R c k p) (z : ∀ i, k ≤ i → i < h → R i c = 0) : Ech h w M R (c + 1) k p where
  kh := e.kh
  pc := fun t ht => by have := e.pc t ht; omega
  asc := e.asc
  one := e.one
  low := fun i hi hh j hj => by
    by_cases q : j = c
    · subst q; exact z i hi hh
    · exact e.low i hi hh j (by omega)
  ech := e.ech
  ker := e.ker
/-- rows k and f change places -/
def swp (k f : Nat) (R : Nat → Nat → Rat) : Nat → Nat → Rat := fun i => if i = k then R f else if i = f then R k else R i
theorem Ech.swap (e : Ech h w M R c k p) {f : Nat} (hk : k ≤ f) (hf : f < h) : Ech h w M (swp k f R) c k p := by
  have low' : ∀ i, k ≤ i → i < h → ∃ i', k ≤ i' ∧ i' < h ∧ swp k f R i = R i' := fun i hi hh => by
    unfold swp
    by_cases a : i = k
    · exact ⟨f, hk, hf, by rw [if_pos a]⟩
    · by_cases b : i = f
      · exact ⟨k, Nat.le_refl _, by omega, by rw [if_neg a, if_pos b]⟩
      · exact ⟨i, hi, hh, by rw [if_neg a, if_neg b]⟩
  have top : ∀ i, i < k → swp k f R i = R i := fun i hi => by
    unfold swp
    rw [if_neg (by omega), if_neg (by omega)]
  refine ⟨e.kh, e.pc, e.asc, fun t ht i hi => ?_, fun i hi hh j hj => ?_, fun t ht j hj => ?_, fun x => (e.ker x).trans ⟨fun z i hi => ?_, fun z i hi => ?_⟩⟩
  · by_cases q : i < k
    · rw [top i q]; exact e.one t ht i hi
    · obtain ⟨i', h1, h2, h3⟩ := low' i (by omega) hi
      rw [h3, e.one t ht i' h2, if_neg (by omega), if_neg (by omega)]
  · obtain ⟨i', h1, h2, h3⟩ := low' i hi hh
    rw [h3]; exact e.low i' h1 h2 j hj
  · rw [top t ht]; exact e.ech t ht j hj
  · by_cases q : i < k
    · rw [top i q]; exact z i hi
    · obtain ⟨i', h1, h2, h3⟩ := low' i (by omega) hi
      rw [h3]; exact z i' h2
  · by_cases q : i < k
    · rw [← top i q]; exact z i hi
    · by_cases a : i = k
      · have q := z f hf
        unfold swp at q
        by_cases b : f = k
        · rw [if_pos b] at q; rw [a, ← b]; exact q
        · rw [if_neg b, if_pos rfl] at q; rw [a]; exact q
      · by_cases b : i = f
        · have q := z k (by omega)
          unfold swp at q
          rw [if_pos rfl] at q; rw [b]; exact q
        · have q := z i hi
          unfold swp at q
          rw [if_neg a, if_neg b] at q; exact q
/-- the row k is divided by its number in column c, and taken from the others -/
def clr (k c : Nat) (R : Nat → Nat → Rat) : Nat → Nat → Rat := fun i j => if i = k then 1 / R k c * R k j else R i j - R i c * (1 / R k c * R k j)
theorem Ech.clear (e : Ech h w M R c k p) (hk : k < h) (nz : R k c ≠ 0) : Ech h w M (clr k c R) (c + 1) (k + 1) (fun t => if t = k then c else p t) := by
  have uc : 1 / R k c * R k c = 1 := by grind
  have u0 : ∀ j, j < c → 1 / R k c * R k j = 0 := fun j hj => by rw [e.low k (Nat.le_refl _) hk j hj]; grind
  have other : ∀ i j, i ≠ k → clr k c R i j = R i j - R i c * (1 / R k c * R k j) := fun i j hi => by unfold clr; rw [if_neg hi]
  have same : ∀ j, clr k c R k j = 1 / R k c * R k j := fun j => by unfold clr; rw [if_pos rfl]
  refine ⟨hk, fun t ht => ?_, fun s t hs ht => ?_, fun t ht i hi => ?_, fun i hi hh j hj => ?_, fun t ht j hj => ?_, fun x => (e.ker x).trans ?_⟩
  · by_cases q : t = k
    · rw [if_pos q]; omega
    · rw [if_neg q]; have := e.pc t (by omega); omega
  · by_cases q : t = k
    · rw [if_pos q, if_neg (by omega)]; exact e.pc s (by omega)
    · rw [if_neg q, if_neg (by omega)]; exact e.asc s t hs (by omega)
  · by_cases q : t = k
    · subst q
      rw [if_pos rfl]
      by_cases a : i = t
      · rw [a, same, if_pos rfl]; exact uc
      · rw [other i _ a, if_neg a, uc]; grind
    · rw [if_neg q]
      have hp := e.pc t (by omega)
      by_cases a : i = k
      · rw [a, same, u0 _ hp, if_neg (by omega)]
      · rw [other i _ a, u0 _ hp, e.one t (by omega) i hi]; grind
  · rw [other i j (by omega)]
    by_cases a : j = c
    · rw [a, uc]; grind
    · rw [u0 j (by omega), e.low i (by omega) hh j (by omega)]; grind
  · by_cases q : t = k
    · subst q
      rw [if_pos rfl] at hj
      rw [same]; exact u0 j hj
    · rw [if_neg q] at hj
      have hp := e.pc t (by omega)
      rw [other t j q, u0 j (by omega), e.ech t (by omega) j hj]; grind
  · have dk : dot w (clr k c R k) x = 1 / R k c * dot w (R k) x := by
      rw [← dot_mull]; exact dot_congr (fun j _ => same j) fun _ _ => rfl
    have di : ∀ i, i ≠ k → dot w (clr k c R i) x = dot w (R i) x - R i c * (1 / R k c * dot w (R k) x) := fun i hi => by
      rw [← dot_mull, ← dot_mull, ← dot_subl]; exact dot_congr (fun j _ => other i j hi) fun _ _ => rfl
    constructor
    · intro z i hi
      by_cases a : i = k
      · rw [a, dk, z k hk]; grind
      · rw [di i a, z i hi, z k hk]; grind
    · intro z i hi
      have zk : dot w (R k) x = 0 := by
        have q := z k hk
        rw [dk] at q
        grind
      by_cases a : i = k
      · rw [a]; exact zk
      · have q := z i hi
        rw [di i a, zk] at q
        grind
end
/-- the reduced form -/
structure Red (h w : Nat) (M : Nat → Nat → Rat) (k : Nat) (p : Nat → Nat) (F : Nat → Nat → Rat) : Prop where
  kh : k ≤ h
  lt : ∀ t, t < k → p t < w
  asc : ∀ s t, s < t → t < k → p s < p t
  one : ∀ s t, s < k → t < k → F s (p t) = if s = t then 1 else 0
  ech : ∀ t, t < k → ∀ j, j < p t → F t j = 0
  ker : ∀ x, (∀ i, i < h → dot w (M i) x = 0) ↔ ∀ s, s < k → dot w (F s) x = 0
theorem Ech.red {h w : Nat} {M R : Nat → Nat → Rat} {k : Nat} {p : Nat → Nat} (e : Ech h w M R w k p) : Red h w M k p R :=
  ⟨e.kh, e.pc, e.asc, fun s t hs ht => e.one t ht s (by have := e.kh; omega), e.ech, fun x => (e.ker x).trans ⟨fun z s hs => z s (by have := e.kh; omega), fun z i hi => by
    by_cases q : i < k
    · exact z i q
    · exact S_all0 fun j hj => by rw [e.low i (by omega) hi j hj]; grind⟩⟩
section
variable {h w : Nat} {M : Nat → Nat → Rat} {k : Nat} {p : Nat → Nat} {F : Nat → Nat → Rat}
theorem dot_pick {v : Nat → Rat} {y : Nat → Rat} (hp : ∀ t, t < k → p t < w) : dot w v (fun l => S k fun t => y t * e_ (p t) l) = S k fun t => y t * v (p t) := by
  show S w (fun l => v l * S k fun t => y t * e_ (p t) l) = _
  rw [S_congr (g := fun l => S k fun t => v l * (y t * e_ (p t) l)) fun l _ => (S_mul _ _ _).symm, S_swap]
  refine S_congr fun t ht => ?_
  rw [← dot_e (hp t ht) v, ← dot_mul]
  exact S_congr fun l _ => by grind
theorem Red.row (r : Red h w M k p F) {y : Nat → Rat} {s : Nat} (hs : s < k) : (S k fun t => y t * F s (p t)) = y s := by
  rw [S_one hs fun t ht hne => by rw [r.one s t hs ht, if_neg (by omega)]; grind]
  rw [r.one s s hs hs, if_pos rfl]; grind
/-- M is its pivot columns by the reduced form -/
theorem Red.cf (r : Red h w M k p F) {i j : Nat} (hi : i < h) (hj : j < w) : M i j = S k fun t => M i (p t) * F t j := by
  have z := (r.ker (fun l => e_ j l - S k fun t => F t j * e_ (p t) l)).mpr (fun s hs => by
    rw [dot_sub, dot_e hj, dot_pick r.lt, r.row hs]; grind) i hi
  rw [dot_sub, dot_e hj, dot_pick r.lt] at z
  have e : (S k fun t => F t j * M i (p t)) = S k fun t => M i (p t) * F t j := S_congr fun t _ => Rat.mul_comm _ _
  rw [e] at z
  grind
/-- the pivot columns are independent -/
theorem Red.cols (r : Red h w M k p F) {y : Nat → Rat} (z : ∀ i, i < h → (S k fun t => M i (p t) * y t) = 0) : ∀ t, t < k → y t = 0 := fun s hs => by
  have q := (r.ker (fun l => S k fun t => y t * e_ (p t) l)).mp (fun i hi => by
    rw [dot_pick r.lt, ← z i hi]; exact S_congr fun t _ => Rat.mul_comm _ _) s hs
  rwa [dot_pick r.lt, r.row hs] at q
/-- the rows are independent -/
theorem Red.rows (r : Red h w M k p F) {y : Nat → Rat} (z : ∀ j, j < w → (S k fun t => F t j * y t) = 0) : ∀ t, t < k → y t = 0 := fun s hs => by
  have q := z (p s) (r.lt s hs)
  rw [S_one hs fun t ht hne => by rw [r.one t s ht hs, if_neg hne]; grind] at q
  rw [r.one s s hs hs, if_pos rfl] at q
  grind
end
/-! ### the inverse -/
/-- A and the unit matrix beside it -/
def beside (n : Nat) (A : Nat → Nat → Rat) : Nat → Nat → Rat := fun i j => if j < n then A i j else e_ (j - n) i
def Inj (n : Nat) (A : Nat → Nat → Rat) : Prop := ∀ x, (∀ i, i < n → mv n A x i = 0) → ∀ i, i < n → x i = 0
section
variable {n k : Nat} {A : Nat → Nat → Rat} {p : Nat → Nat} {F : Nat → Nat → Rat}
theorem dot_beside {x : Nat → Rat} (hx : ∀ j, n ≤ j → x j = 0) (i : Nat) : dot (n + n) (beside n A i) x = mv n A x i := by
  have g : ∀ m, S (n + m) (fun j => beside n A i j * x j) = S n fun j => A i j * x j := fun m => by
    induction m with
    | zero => exact S_congr fun j (hj : j < n) => by unfold beside; rw [if_pos hj]
    | succ m ih =>
      show S (n + m + 1) _ = _
      rw [S_succ, ih, hx (n + m) (by omega)]; grind
  exact g n
theorem Red.inv (r : Red n (n + n) (beside n A) k p F) (inj : Inj n A) : k = n ∧ (∀ t, t < n → p t = t) ∧ ∀ i j, i < n → j < n → mm n A (fun i j => F i (n + j)) i j = if i = j then 1 else 0 := by
  -- every one of the first n columns is a pivot
  have all : ∀ j, j < n → j < k ∧ ∀ t, t ≤ j → p t = t := fun j => by
    induction j using Nat.strongRecOn with
    | ind j ih =>
    intro hj
    have below : ∀ t, t < j → t < k ∧ p t = t := fun t ht => ⟨(ih t ht (by omega)).1, (ih t ht (by omega)).2 t (Nat.le_refl _)⟩
    have pj : j < k ∧ p j = j := by
      refine Decidable.byContradiction fun no => ?_
      -- then the rows from j on have 0 at j
      have z : ∀ s, s < k → j ≤ s → F s j = 0 := fun s hs hjs => r.ech s hs j (by
        have a : ∀ s, j ≤ s → s < k → j ≤ p s := fun s h1 h2 => by
          cases j with
          | zero => omega
          | succ i =>
            have q := r.asc i s (by omega) h2
            rw [(below i (by omega)).2] at q
            omega
        have b := a s hjs hs
        by_cases e : s = j
        · subst e
          have : p s ≠ s := fun q => no ⟨hs, q⟩
          omega
        · have b2 := r.asc j s (by omega) hs
          have b3 := a j (Nat.le_refl _) (by omega)
          omega)
      let x : Nat → Rat := fun l => e_ j l - if l < j then F l j else 0
      have hx : ∀ l, n ≤ l → x l = 0 := fun l hl => by
        show (e_ j l - if l < j then F l j else 0) = 0
        unfold e_
        rw [if_neg (by omega), if_neg (by omega)]; grind
      have jk : j ≤ k := by
        cases j with
        | zero => omega
        | succ i => have := (below i (by omega)).1; omega
      have q := (r.ker x).mpr fun s hs => by
        show dot (n + n) (F s) (fun l => e_ j l - if l < j then F l j else 0) = 0
        rw [dot_sub, dot_e (by omega)]
        by_cases hsj : s < j
        · have e : dot (n + n) (F s) (fun l => if l < j then F l j else 0) = F s j := by
            unfold dot
            rw [S_one (k := s) (by omega) fun l hl hne => ?_]
            · show F s s * (if s < j then F s j else 0) = F s j
              rw [if_pos hsj]
              have q := r.one s s hs hs
              rw [(below s hsj).2, if_pos rfl] at q
              rw [q]; grind
            · show F s l * (if l < j then F l j else 0) = 0
              by_cases hlj : l < j
              · have q := r.one s l hs (by omega)
                rw [(below l hlj).2, if_neg (by omega)] at q
                rw [q]; grind
              · rw [if_neg hlj]; grind
          rw [e]; grind
        · have e : dot (n + n) (F s) (fun l => if l < j then F l j else 0) = 0 := S_all0 fun l _ => by
            show F s l * (if l < j then F l j else 0) = 0
            by_cases hlj : l < j
            · have q := r.one s l hs (by omega)
              rw [(below l hlj).2, if_neg (by omega)] at q
              rw [q]; grind
            · rw [if_neg hlj]; grind
          rw [e, z s hs (by omega)]; grind
      have q2 := inj x (fun i hi => by rw [← dot_beside hx]; exact q i hi) j hj
      have q3 : (e_ j j - if j < j then F j j else 0) = 0 := q2
      unfold e_ at q3
      rw [if_pos rfl, if_neg (by omega)] at q3
      grind
    refine ⟨pj.1, fun t ht => ?_⟩
    by_cases e : t = j
    · rw [e]; exact pj.2
    · exact (below t (by omega)).2
  have kn : k = n := by
    have := r.kh
    cases n with
    | zero => omega
    | succ m => have := (all m (by omega)).1; omega
  have pt : ∀ t, t < n → p t = t := fun t ht => (all t ht).2 t (Nat.le_refl _)
  refine ⟨kn, pt, fun i j hi hj => ?_⟩
  have q := r.cf (i := i) (j := n + j) hi (by omega)
  rw [kn] at q
  have e1 : beside n A i (n + j) = if i = j then 1 else 0 := by
    unfold beside e_
    rw [if_neg (by omega), show n + j - n = j by omega]
  rw [e1] at q
  rw [q]
  exact S_congr fun t ht => by
    rw [pt t ht]
    unfold beside
    rw [if_pos ht]
end
end Pb

/-! Sizes by a common denominator; every symmetric matrix has a pseudo-inverse, of a bounded size. -/
namespace Pb
/-- D is a denominator of all of X, the numerators are at most B -/
def HtD (D B : Nat) (X : Rat → Prop) : Prop := ∀ q, X q → ∃ z : Int, q * (D : Rat) = (z : Rat) ∧ z.natAbs ≤ B
/-- b bits are enough -/
def Ht (b : Nat) (X : Rat → Prop) : Prop := ∃ D B : Nat, 0 < D ∧ D < 2 ^ b ∧ B < 2 ^ b ∧ HtD D B X
def entM (h w : Nat) (R : Nat → Nat → Rat) : Rat → Prop := fun q => ∃ i j, i < h ∧ j < w ∧ R i j = q
def entV (n : Nat) (x : Nat → Rat) : Rat → Prop := fun q => ∃ i, i < n ∧ x i = q
theorem HtD.sub {D B : Nat} {X Y : Rat → Prop} (h : HtD D B X) (s : ∀ q, Y q → X q) : HtD D B Y := fun q hq => h q (s q hq)
theorem Ht.sub {b : Nat} {X Y : Rat → Prop} (h : Ht b X) (s : ∀ q, Y q → X q) : Ht b Y := by
  obtain ⟨D, B, h1, h2, h3, h4⟩ := h
  exact ⟨D, B, h1, h2, h3, h4.sub s⟩
theorem Ht.mono {b c : Nat} {X : Rat → Prop} (h : Ht b X) (l : b ≤ c) : Ht c X := by
  obtain ⟨D, B, h1, h2, h3, h4⟩ := h
  have q := Nat.pow_le_pow_right (n := 2) (by decide) l
  exact ⟨D, B, h1, by omega, by omega, h4⟩
theorem Ht.empty {b : Nat} {X : Rat → Prop} (hb : 1 ≤ b) (h : ∀ q, ¬ X q) : Ht b X := by
  have q := Nat.pow_le_pow_right (n := 2) (by decide) hb
  exact ⟨1, 0, by decide, by omega, by omega, fun q hq => absurd hq (h q)⟩
theorem lt2 {x y b c : Nat} (h : x < 2 ^ b) (h' : y < 2 ^ c) : x * y < 2 ^ (b + c) := by
  rw [Nat.pow_add]
  exact Nat.mul_lt_mul'' h h'
theorem castNI (n : Nat) : ((n : Int) : Rat) = (n : Rat) := rfl
theorem castMul (m n : Nat) : ((m * n : Nat) : Rat) = (m : Rat) * (n : Rat) := Rat.natCast_mul m n
theorem castIMul (m n : Int) : ((m * n : Int) : Rat) = (m : Rat) * (n : Rat) := Rat.intCast_mul m n
theorem castIAdd (m n : Int) : ((m + n : Int) : Rat) = (m : Rat) + (n : Rat) := Rat.intCast_add m n
theorem castINeg (m : Int) : ((-m : Int) : Rat) = -(m : Rat) := Rat.intCast_neg m
/-- products -/
theorem HtD.mul {D B E C : Nat} {X Y : Rat → Prop} (h : HtD D B X) (h' : HtD E C Y) : HtD (D * E) (B * C) (fun q => ∃ x y, X x ∧ Y y ∧ x * y = q) := by
  rintro q ⟨x, y, hx, hy, rfl⟩
  obtain ⟨z, e1, l1⟩ := h x hx
  obtain ⟨z', e2, l2⟩ := h' y hy
  refine ⟨z * z', ?_, ?_⟩
  · rw [castMul, castIMul, ← e1, ← e2]; grind
  · rw [Int.natAbs_mul]; exact Nat.mul_le_mul l1 l2
theorem HtD.add {D B C : Nat} {X Y : Rat → Prop} (h : HtD D B X) (h' : HtD D C Y) : HtD D (B + C) (fun q => ∃ x y, X x ∧ Y y ∧ x + y = q) := by
  rintro q ⟨x, y, hx, hy, rfl⟩
  obtain ⟨z, e1, l1⟩ := h x hx
  obtain ⟨z', e2, l2⟩ := h' y hy
  refine ⟨z + z', ?_, ?_⟩
  · rw [castIAdd, ← e1, ← e2]; grind
  · have := Int.natAbs_add_le z z'; omega
theorem HtD.neg {D B : Nat} {X : Rat → Prop} (h : HtD D B X) : HtD D B (fun q => X (-q)) := by
  rintro q hx
  obtain ⟨z, e1, l1⟩ := h _ hx
  refine ⟨-z, ?_, by rw [Int.natAbs_neg]; exact l1⟩
  rw [castINeg, ← e1]; grind
/-- another denominator -/
theorem HtD.by {D B E : Nat} {X : Rat → Prop} (h : HtD D B X) : HtD (D * E) (B * E) X := by
  rintro q hx
  obtain ⟨z, e1, l1⟩ := h _ hx
  refine ⟨z * E, ?_, by rw [Int.natAbs_mul, Int.natAbs_natCast]; exact Nat.mul_le_mul_right _ l1⟩
  rw [castMul, castIMul, ← e1]
  show q * ((D : Rat) * (E : Rat)) = q * (D : Rat) * ((E : Int) : Rat)
  rw [castNI]; grind
theorem Ht.mul {b c : Nat} {X Y Z : Rat → Prop} (h : Ht b X) (h' : Ht c Y) (s : ∀ q, Z q → ∃ x y, X x ∧ Y y ∧ x * y = q) : Ht (b + c) Z := by
  obtain ⟨D, B, h1, h2, h3, h4⟩ := h
  obtain ⟨E, C, k1, k2, k3, k4⟩ := h'
  exact ⟨D * E, B * C, Nat.mul_pos h1 k1, lt2 h2 k2, lt2 h3 k3, (h4.mul k4).sub s⟩
theorem Ht.neg {b : Nat} {X Z : Rat → Prop} (h : Ht b X) (s : ∀ q, Z q → X (-q)) : Ht b Z := by
  obtain ⟨D, B, h1, h2, h3, h4⟩ := h
  exact ⟨D, B, h1, h2, h3, h4.neg.sub s⟩
/-- both within one denominator -/
theorem Ht.both {b c : Nat} {X Y Z : Rat → Prop} (h : Ht b X) (h' : Ht c Y) (s : ∀ q, Z q → X q ∨ Y q) : Ht (b + c) Z := by
  obtain ⟨D, B, h1, h2, h3, h4⟩ := h
  obtain ⟨E, C, k1, k2, k3, k4⟩ := h'
  have g1 : HtD (D * E) (B * E) X := h4.by
  have g2 : HtD (D * E) (C * D) Y := by rw [Nat.mul_comm D E]; exact k4.by
  have a1 := lt2 h3 k2
  have a2 := lt2 k3 h2
  rw [Nat.add_comm c b] at a2
  refine ⟨D * E, max (B * E) (C * D), Nat.mul_pos h1 k1, lt2 h2 k2, by omega, fun q hq => ?_⟩
  rcases s q hq with z | z
  · obtain ⟨z, e, l⟩ := g1 q z; exact ⟨z, e, by omega⟩
  · obtain ⟨z, e, l⟩ := g2 q z; exact ⟨z, e, by omega⟩
theorem Ht.add {b c : Nat} {X Y Z : Rat → Prop} (h : Ht b X) (h' : Ht c Y) (s : ∀ q, Z q → ∃ x y, X x ∧ Y y ∧ x + y = q) : Ht (b + c + 1) Z := by
  obtain ⟨D, B, h1, h2, h3, h4⟩ := h
  obtain ⟨E, C, k1, k2, k3, k4⟩ := h'
  have g1 : HtD (D * E) (B * E) X := h4.by
  have g2 : HtD (D * E) (C * D) Y := by rw [Nat.mul_comm D E]; exact k4.by
  have a1 := lt2 h3 k2
  have a2 := lt2 k3 h2
  rw [Nat.add_comm c b] at a2
  have a3 := lt2 h2 k2
  refine ⟨D * E, B * E + C * D, Nat.mul_pos h1 k1, by rw [Nat.pow_succ]; omega, by rw [Nat.pow_succ]; omega, (g1.add g2).sub s⟩
theorem Ht.minus {b c : Nat} {X Y Z : Rat → Prop} (h : Ht b X) (h' : Ht c Y) (s : ∀ q, Z q → ∃ x y, X x ∧ Y y ∧ x - y = q) : Ht (b + c + 1) Z :=
  h.add (Y := fun q => Y (-q)) (h'.neg fun q hq => hq) fun q hq => by
    obtain ⟨x, y, hx, hy, e⟩ := s q hq
    exact ⟨x, -y, hx, by rw [show - -y = y by grind]; exact hy, by rw [← e]; grind⟩
/-- sums of fewer than sixteen -/
theorem HtD.sum {D B : Nat} {f : Nat → Rat} : ∀ {n : Nat}, HtD D B (entV n f) → ∃ z : Int, S n f * (D : Rat) = (z : Rat) ∧ z.natAbs ≤ n * B
  | 0, _ => ⟨0, by rw [S_zero]; show (0 : Rat) * _ = 0; grind, by omega⟩
  | n + 1, h => by
    obtain ⟨z, e, l⟩ := HtD.sum (n := n) (h.sub fun q ⟨i, hi, e⟩ => ⟨i, by omega, e⟩)
    obtain ⟨z', e', l'⟩ := h (f n) ⟨n, by omega, rfl⟩
    refine ⟨z + z', ?_, ?_⟩
    · rw [S_succ, castIAdd, ← e, ← e']; grind
    · have := Int.natAbs_add_le z z'
      rw [Nat.succ_mul]; omega
/-- products of vectors out of X and Y, all of length n -/
theorem Ht.dots {b c n : Nat} {X Y Z : Rat → Prop} (hn : n < 16) (h : Ht b X) (h' : Ht c Y) (s : ∀ q, Z q → ∃ x y m, m ≤ n ∧ (∀ i, i < m → X (x i)) ∧ (∀ i, i < m → Y (y i)) ∧ dot m x y = q) : Ht (b + c + 4) Z := by
  obtain ⟨D, B, h1, h2, h3, h4⟩ := h
  obtain ⟨E, C, k1, k2, k3, k4⟩ := h'
  have a1 := lt2 h2 k2
  have a2 := lt2 h3 k3
  have e16 : 2 ^ (b + c + 4) = 2 ^ (b + c) * 16 := by rw [Nat.pow_add]
  have hp : 0 < 2 ^ (b + c) := Nat.pow_pos (by decide)
  refine ⟨D * E, 15 * (B * C), Nat.mul_pos h1 k1, by omega, by omega, fun q hq => ?_⟩
  obtain ⟨x, y, m, hm, hx, hy, rfl⟩ := s q hq
  obtain ⟨z, e, l⟩ := HtD.sum (n := m) (f := fun i => x i * y i) ((h4.mul k4).sub fun q ⟨i, hi, e⟩ => ⟨x i, y i, hx i hi, hy i hi, e⟩)
  exact ⟨z, e, Nat.le_trans l (Nat.mul_le_mul_right _ (by omega))⟩
theorem Ht.mm {b c h w k : Nat} {A B : Nat → Nat → Rat} (hk : k < 16) (ha : Ht b (entM h k A)) (hb : Ht c (entM k w B)) : Ht (b + c + 4) (entM h w (mm k A B)) :=
  ha.dots hk hb fun _ ⟨i, j, hi, hj, e⟩ => ⟨A i, fun t => B t j, k, Nat.le_refl _, fun t ht => ⟨i, t, hi, ht, rfl⟩, fun t ht => ⟨t, j, ht, hj, rfl⟩, e⟩
theorem Ht.mv {b c h w : Nat} {A : Nat → Nat → Rat} {x : Nat → Rat} (hk : w < 16) (ha : Ht b (entM h w A)) (hb : Ht c (entV w x)) : Ht (b + c + 4) (entV h (mv w A x)) :=
  ha.dots hk hb fun _ ⟨i, hi, e⟩ => ⟨A i, x, w, Nat.le_refl _, fun t ht => ⟨i, t, hi, ht, rfl⟩, fun t ht => ⟨t, ht, rfl⟩, e⟩
theorem Ht.tr {b h w : Nat} {A : Nat → Nat → Rat} (ha : Ht b (entM h w A)) : Ht b (entM w h (tr A)) := ha.sub fun _ ⟨i, j, hi, hj, e⟩ => ⟨j, i, hj, hi, e⟩
theorem Ht.cgM {b h w : Nat} {A B : Nat → Nat → Rat} (ha : Ht b (entM h w A)) (e : ∀ i j, i < h → j < w → B i j = A i j) : Ht b (entM h w B) := ha.sub fun _ ⟨i, j, hi, hj, z⟩ => ⟨i, j, hi, hj, by rw [← e i j hi hj]; exact z⟩
theorem Ht.cgV {b n : Nat} {x y : Nat → Rat} (ha : Ht b (entV n x)) (e : ∀ i, i < n → y i = x i) : Ht b (entV n y) := ha.sub fun _ ⟨i, hi, z⟩ => ⟨i, hi, by rw [← e i hi]; exact z⟩
/-- one step of the elimination -/
theorem Ht.swp {b h w k f : Nat} {R : Nat → Nat → Rat} (hk : k < h) (hf : f < h) (r : Ht b (entM h w R)) : Ht b (entM h w (swp k f R)) := r.sub fun _ ⟨i, j, hi, hj, e⟩ => by
  unfold Pb.swp at e
  by_cases a : i = k
  · rw [if_pos a] at e; exact ⟨f, j, hf, hj, e⟩
  · by_cases b : i = f
    · rw [if_neg a, if_pos b] at e; exact ⟨k, j, hk, hj, e⟩
    · rw [if_neg a, if_neg b] at e; exact ⟨i, j, hi, hj, e⟩
theorem Ht.clr {b h w k c : Nat} {R : Nat → Nat → Rat} (hk : k < h) (hc : c < w) (nz : R k c ≠ 0) (r : Ht b (entM h w R)) : Ht (2 * b + 1) (entM h w (clr k c R)) := by
  obtain ⟨D, B, h1, h2, h3, h4⟩ := r
  obtain ⟨l, el, ll⟩ := h4 (R k c) ⟨k, c, hk, hc, rfl⟩
  have hD : (D : Rat) ≠ 0 := fun q => by
    have q2 : ((D : Nat) : Rat) = ((0 : Nat) : Rat) := q
    have := Rat.natCast_inj.mp q2
    omega
  have lnz : l ≠ 0 := fun q => by
    rw [q] at el
    have : R k c * (D : Rat) = 0 := el
    rcases Rat.mul_eq_zero.mp this with z | z
    · exact nz z
    · exact hD z
  -- the sign of l
  have sg : ∃ s : Int, (s = 1 ∨ s = -1) ∧ l * s = (l.natAbs : Int) := by
    rcases Int.natAbs_eq l with q | q
    · exact ⟨1, .inl rfl, by omega⟩
    · exact ⟨-1, .inr rfl, by omega⟩
  obtain ⟨s, hs, es⟩ := sg
  have es2 : (l : Rat) * (s : Rat) = ((l.natAbs : Nat) : Rat) := by rw [← castIMul, es]; rfl
  have lp : 0 < l.natAbs := by omega
  have e2 : 2 ^ (2 * b + 1) = 2 * (2 ^ b * 2 ^ b) := by rw [Nat.pow_succ, Nat.two_mul, Nat.pow_add]; omega
  have a1 := lt2 (Nat.lt_of_le_of_lt ll h3) h2
  rw [Nat.pow_add] at a1
  have a2 := Nat.mul_lt_mul'' h3 h3
  have a3 := Nat.mul_lt_mul'' h3 h2
  have bl : B * l.natAbs ≤ B * B := Nat.mul_le_mul_left _ ll
  have key : HtD (l.natAbs * D) (max (B * B + B * B) (B * D)) (entM h w (Pb.clr k c R)) := by
    rintro q ⟨i, j, hi, hj, rfl⟩
    obtain ⟨z, e, lz⟩ := h4 (R k j) ⟨k, j, hk, hj, rfl⟩
    have sn : s.natAbs = 1 := by rcases hs with q | q <;> rw [q] <;> rfl
    unfold Pb.clr
    by_cases a : i = k
    · rw [if_pos a]
      refine ⟨s * ((D : Int) * z), ?_, ?_⟩
      · rw [castMul, ← es2, castIMul, castIMul, ← e, ← el, castNI]; grind
      · have q : B * D = D * B := Nat.mul_comm _ _
        have r : D * z.natAbs ≤ D * B := Nat.mul_le_mul_left _ lz
        rw [Int.natAbs_mul, Int.natAbs_mul, sn, Int.natAbs_natCast]; omega
    · rw [if_neg a]
      obtain ⟨z1, e1, l1⟩ := h4 (R i j) ⟨i, j, hi, hj, rfl⟩
      obtain ⟨z2, e2, l2⟩ := h4 (R i c) ⟨i, c, hi, hc, rfl⟩
      refine ⟨s * (l * z1 + -(z2 * z)), ?_, ?_⟩
      · rw [castMul, ← es2, castIMul, castIAdd, castINeg, castIMul, castIMul, ← e, ← e1, ← e2, ← el]; grind
      · have r1 : l.natAbs * z1.natAbs ≤ B * B := Nat.mul_le_mul ll l1
        have r2 : z2.natAbs * z.natAbs ≤ B * B := Nat.mul_le_mul l2 lz
        have r3 := Int.natAbs_add_le (l * z1) (-(z2 * z))
        rw [Int.natAbs_neg, Int.natAbs_mul, Int.natAbs_mul] at r3
        rw [Int.natAbs_mul, sn]; omega
  refine ⟨l.natAbs * D, max (B * B + B * B) (B * D), Nat.mul_pos lp h1, by omega, by omega, key⟩
end Pb

/-! The formula of the pseudo-inverse; there is one, of a bounded size. -/
namespace Pb
/-- the elimination comes to its end, with sizes -/
theorem red_ex {h w b : Nat} {M : Nat → Nat → Rat} (hb : Ht b (entM h w M)) : ∀ c, c ≤ w → ∃ k p R, Ech h w M R c k p ∧ ∃ b', b' + 1 ≤ 2 ^ k * (b + 1) ∧ Ht b' (entM h w R)
  | 0, _ => ⟨0, fun _ => 0, M, Ech.start h w M _, b, by omega, hb⟩
  | c + 1, hc => by
    obtain ⟨k, p, R, e, b', l, hR⟩ := red_ex hb c (by omega)
    by_cases q : ∃ f, k ≤ f ∧ f < h ∧ R f c ≠ 0
    · obtain ⟨f, h1, h2, h3⟩ := q
      have nz : swp k f R k c ≠ 0 := by unfold swp; rw [if_pos rfl]; exact h3
      have hk : k < h := by omega
      refine ⟨k + 1, _, _, (e.swap h1 h2).clear hk nz, 2 * b' + 1, ?_, (hR.swp hk h2).clr hk (by omega) nz⟩
      rw [Nat.pow_succ]
      have : 2 * (b' + 1) ≤ 2 * (2 ^ k * (b + 1)) := Nat.mul_le_mul_left _ l
      have e2 : 2 ^ k * 2 * (b + 1) = 2 * (2 ^ k * (b + 1)) := by rw [Nat.mul_comm (2 ^ k) 2, Nat.mul_assoc]
      omega
    · exact ⟨k, p, R, e.skip fun i h1 h2 => Decidable.byContradiction fun nz => q ⟨i, h1, h2, nz⟩, b', l, hR⟩
/-- what reduced gives -/
structure RedB (h w b : Nat) (M : Nat → Nat → Rat) (k : Nat) (p : Nat → Nat) (F : Nat → Nat → Rat) : Prop where
  red : Red h w M k p F
  kw : k ≤ w
  ht : Ht (2 ^ k * (b + 1)) (entM k w F)
theorem asc_le {k w : Nat} {p : Nat → Nat} (lt : ∀ t, t < k → p t < w) (asc : ∀ s t, s < t → t < k → p s < p t) : k ≤ w := by
  have g : ∀ t, t < k → t ≤ p t := fun t => by
    induction t with
    | zero => omega
    | succ t ih => intro ht; have := ih (by omega); have := asc t (t + 1) (by omega) ht; omega
  cases k with
  | zero => omega
  | succ k => have := g k (by omega); have := lt k (by omega); omega
theorem Ech.redB {h w b : Nat} {M R : Nat → Nat → Rat} {k : Nat} {p : Nat → Nat} (e : Ech h w M R w k p) {b' : Nat} (l : b' + 1 ≤ 2 ^ k * (b + 1)) (hR : Ht b' (entM h w R)) : RedB h w b M k p R :=
  ⟨e.red, asc_le e.red.lt e.red.asc, (hR.mono (by omega)).sub fun _ ⟨i, j, hi, hj, z⟩ => ⟨i, j, by have := e.kh; omega, hj, z⟩⟩
theorem redB_ex {h w b : Nat} {M : Nat → Nat → Rat} (hb : Ht b (entM h w M)) : ∃ k p F, RedB h w b M k p F := by
  obtain ⟨k, p, R, e, b', l, hR⟩ := red_ex hb w (Nat.le_refl _)
  exact ⟨k, p, R, e.redB l hR⟩
/-! ### inverses -/
/-- X is a right inverse of A -/
def RInv (n : Nat) (A X : Nat → Nat → Rat) : Prop := ∀ i j, i < n → j < n → mm n A X i j = if i = j then 1 else 0
structure InvB (n b : Nat) (A X : Nat → Nat → Rat) : Prop where
  inv : RInv n A X
  ht : Ht (2 ^ n * (b + 1)) (entM n n X)
theorem Ht.beside {n b : Nat} {A : Nat → Nat → Rat} (ha : Ht b (entM n n A)) : Ht b (entM n (n + n) (Pb.beside n A)) := by
  obtain ⟨D, B, h1, h2, h3, h4⟩ := ha
  refine ⟨D, max B D, h1, h2, by omega, ?_⟩
  rintro q ⟨i, j, hi, hj, rfl⟩
  unfold Pb.beside
  by_cases a : j < n
  · rw [if_pos a]
    obtain ⟨z, e, l⟩ := h4 _ ⟨i, j, hi, a, rfl⟩
    exact ⟨z, e, by omega⟩
  · rw [if_neg a]
    unfold e_
    by_cases c : i = j - n
    · rw [if_pos c]; exact ⟨(D : Int), by show (1 : Rat) * _ = _; rw [castNI]; grind, by omega⟩
    · rw [if_neg c]; exact ⟨0, by show (0 : Rat) * _ = 0; grind, by omega⟩
theorem RedB.invB {n b k : Nat} {A F : Nat → Nat → Rat} {p : Nat → Nat} (r : RedB n (n + n) b (Pb.beside n A) k p F) (inj : Inj n A) : k = n ∧ InvB n b A (fun i j => F i (n + j)) := by
  obtain ⟨e, _, q⟩ := r.red.inv inj
  have ht := r.ht
  rw [e] at ht
  exact ⟨e, q, ht.sub fun _ ⟨i, j, hi, hj, z⟩ => ⟨i, n + j, hi, by omega, z⟩⟩
theorem invB_ex {n b : Nat} {A : Nat → Nat → Rat} (ha : Ht b (entM n n A)) (inj : Inj n A) : ∃ X, InvB n b A X := by
  obtain ⟨k, p, F, r⟩ := redB_ex ha.beside
  exact ⟨_, (r.invB inj).2⟩
section
variable {n : Nat} {A X : Nat → Nat → Rat}
theorem RInv.on (h : RInv n A X) (x : Nat → Rat) : ∀ i, i < n → mv n A (mv n X x) i = x i := fun i hi => by
  rw [← mv_mm]
  have e : mv n (mm n A X) x i = dot n (e_ i) x := dot_congr (fun j hj => by rw [h i j hi hj]; unfold e_; by_cases q : i = j <;> simp [q, eq_comm]) fun _ _ => rfl
  rw [e, dot_el hi]
theorem RInv.off (h : RInv n A X) (inj : Inj n A) (x : Nat → Rat) : ∀ i, i < n → mv n X (mv n A x) i = x i := fun i hi => by
  have q := inj (fun j => mv n X (mv n A x) j - x j) (fun j hj => by rw [mv_subA, h.on _ j hj]; grind) i hi
  grind
theorem RInv.sym (h : RInv n A X) (s : Sym n A) (x y : Nat → Rat) : dot n x (mv n X y) = dot n (mv n X x) y := by
  rw [dot_congr (fun i hi => (h.on x i hi).symm) (fun _ _ => rfl), ← s.dot, dot_congr (x := mv n X x) (fun _ _ => rfl) (h.on y)]
end
/-! ### the formula -/
/-- F F' of the rows F (k by w), C' C of the columns C (h by k) -/
def gr (w : Nat) (F : Nat → Nat → Rat) : Nat → Nat → Rat := fun s t => S w fun j => F s j * F t j
def gc (h : Nat) (C : Nat → Nat → Rat) : Nat → Nat → Rat := fun s t => S h fun i => C i s * C i t
theorem gr_sym (k w : Nat) (F : Nat → Nat → Rat) : Sym k (gr w F) := fun _ _ _ _ => S_congr fun _ _ => Rat.mul_comm _ _
theorem gc_sym (k h : Nat) (C : Nat → Nat → Rat) : Sym k (gc h C) := fun _ _ _ _ => S_congr fun _ _ => Rat.mul_comm _ _
theorem gr_mv (k w : Nat) (F : Nat → Nat → Rat) (x : Nat → Rat) : mv k (gr w F) x = mv w F (mv k (tr F) x) := by rw [← mv_mm]; rfl
theorem gc_mv (k h : Nat) (C : Nat → Nat → Rat) (x : Nat → Rat) : mv k (gc h C) x = mv h (tr C) (mv k C x) := by rw [← mv_mm]; rfl
theorem dot_tr (h w : Nat) (A : Nat → Nat → Rat) (x y : Nat → Rat) : dot w x (mv h (tr A) y) = dot h (mv w A x) y := by rw [dot_mv]; rfl
section
variable {n k b : Nat} {M F X Y : Nat → Nat → Rat} {p : Nat → Nat}
def pcol (M : Nat → Nat → Rat) (p : Nat → Nat) : Nat → Nat → Rat := fun i t => M i (p t)
theorem Red.gr_inj {h w : Nat} (r : Red h w M k p F) : Inj k (gr w F) := fun x z t ht => by
  refine r.rows (y := x) (fun j hj => ?_) t ht
  have q : dot w (mv k (tr F) x) (mv k (tr F) x) = 0 := by
    rw [dot_tr, dot_comm, ← gr_mv]
    exact S_all0 fun i hi => by rw [z i hi]; grind
  have q2 := dot_self_zero q j hj
  exact q2
theorem Red.gc_inj {h w : Nat} (r : Red h w M k p F) : Inj k (gc h (pcol M p)) := fun x z t ht => by
  refine r.cols (y := x) (fun i hi => ?_) t ht
  have q : dot h (mv k (pcol M p) x) (mv k (pcol M p) x) = 0 := by
    rw [dot_mv, ← gc_mv]
    exact S_all0 fun i hi => by rw [z i hi]; grind
  exact dot_self_zero q i hi
/-- P: F' (X (Y C')) -/
def pinvF (k : Nat) (M : Nat → Nat → Rat) (p : Nat → Nat) (F X Y : Nat → Nat → Rat) : Nat → Nat → Rat := mm k (tr F) (mm k (mm k X Y) (tr (pcol M p)))
theorem pen_formula (r : Red n n M k p F) (hX : RInv k (gr n F) X) (hY : RInv k (gc n (pcol M p)) Y) : Pen n M (pinvF k M p F X Y) := by
  have iX := r.gr_inj
  have iY := r.gc_inj
  have eM : ∀ x i, i < n → mv n M x i = mv k (pcol M p) (mv n F x) i := fun x i hi => by
    rw [← mv_mm]; exact dot_congr (fun j hj => r.cf hi hj) fun _ _ => rfl
  have eP : ∀ x, mv n (pinvF k M p F X Y) x = mv k (tr F) (mv k X (mv k Y (mv n (tr (pcol M p)) x))) := fun x => by
    unfold pinvF; rw [mv_mm, mv_mm, mv_mm]
  -- M P, P M
  have MP : ∀ x i, i < n → mv n M (mv n (pinvF k M p F X Y) x) i = mv k (pcol M p) (mv k Y (mv n (tr (pcol M p)) x)) i := fun x i hi => by
    rw [eM _ i hi, eP, ← gr_mv, mv_congr (hX.on _)]
  have PM : ∀ x, mv n (pinvF k M p F X Y) (mv n M x) = mv k (tr F) (mv k X (mv n F x)) := fun x => by
    rw [eP, mv_congr (M := tr (pcol M p)) (eM x), ← gc_mv]
    exact mv_congr fun i hi => congrFun (mv_congr (hY.off iY _)) i
  refine ⟨fun x i hi => ?_, fun x i hi => ?_, fun x y => ?_, fun x y => ?_⟩
  · rw [PM, eM _ i hi, ← gr_mv, mv_congr (hX.on _), ← eM x i hi]
  · rw [PM, eP x, ← gr_mv]
    exact congrFun (mv_congr fun i hi => congrFun (mv_congr (hX.on _)) i) i
  · rw [dot_congr (x := x) (fun _ _ => rfl) (MP y), dot_congr (MP x) (fun _ _ => rfl), dot_mv, hY.sym (gc_sym k n _), dot_comm n _ y, dot_mv, dot_comm]
    rfl
  · rw [PM, PM, dot_tr, hX.sym (gr_sym k n _), dot_comm n _ y, dot_tr, dot_comm]
/-- the size of what the formula gives -/
def pinvBits (n b : Nat) : Nat := 2 ^ n * (b + 1) + (2 ^ n * (2 * (2 ^ n * (b + 1)) + 5) + 2 ^ n * (2 * b + 5) + 4 + b + 4) + 4
theorem Ht.gr {h w : Nat} (hw : w < 16) (hF : Ht b (entM h w F)) : Ht (2 * b + 4) (entM h h (Pb.gr w F)) := by
  have q := Ht.mm (k := w) hw hF hF.tr
  rw [show 2 * b + 4 = b + b + 4 by omega]
  exact q
theorem Ht.gc {h w : Nat} (hh : h < 16) (hF : Ht b (entM h w F)) : Ht (2 * b + 4) (entM w w (Pb.gc h F)) := by
  have q := Ht.mm (k := h) hh hF.tr hF
  rw [show 2 * b + 4 = b + b + 4 by omega]
  exact q
theorem Ht.cols {h w : Nat} (hp : ∀ t, t < k → p t < w) (hM : Ht b (entM h w M)) : Ht b (entM h k (Pb.pcol M p)) := hM.sub fun _ ⟨i, t, hi, ht, e⟩ => ⟨i, p t, hi, hp t ht, e⟩
theorem pinvB {b : Nat} (hn : n < 16) (hM : Ht b (entM n n M)) (r : RedB n n b M k p F) (hX : InvB k (2 * (2 ^ k * (b + 1)) + 4) (gr n F) X) (hY : InvB k (2 * b + 4) (gc n (pcol M p)) Y) :
    Pen n M (pinvF k M p F X Y) ∧ Ht (pinvBits n b) (entM n n (pinvF k M p F X Y)) := by
  refine ⟨pen_formula r.red hX.inv hY.inv, ?_⟩
  have kn := r.red.kh
  have h1 := Ht.mm (k := k) (by omega) hX.ht hY.ht
  have h2 := Ht.mm (k := k) (by omega) h1 (Ht.tr (hM.cols r.red.lt))
  have h3 := Ht.mm (k := k) (by omega) r.ht.tr h2
  refine h3.mono ?_
  have m : 2 ^ k ≤ 2 ^ n := Nat.pow_le_pow_right (by decide) kn
  have m1 : 2 ^ k * (b + 1) ≤ 2 ^ n * (b + 1) := Nat.mul_le_mul_right _ m
  have m2 : 2 ^ k * (2 * (2 ^ k * (b + 1)) + 4 + 1) ≤ 2 ^ n * (2 * (2 ^ n * (b + 1)) + 5) := Nat.mul_le_mul m (by omega)
  have m3 : 2 ^ k * (2 * b + 4 + 1) ≤ 2 ^ n * (2 * b + 5) := Nat.mul_le_mul_right _ m
  unfold pinvBits
  omega
/-- there is a pseudo-inverse, of this size -/
theorem pen_ex {b : Nat} (hn : n < 16) (hM : Ht b (entM n n M)) : ∃ P, Pen n M P ∧ Ht (pinvBits n b) (entM n n P) := by
  obtain ⟨k, p, F, r⟩ := redB_ex hM
  have kn := r.red.kh
  obtain ⟨X, hX⟩ := invB_ex (Ht.gr hn r.ht) r.red.gr_inj
  obtain ⟨Y, hY⟩ := invB_ex (Ht.gc hn (hM.cols r.red.lt)) r.red.gc_inj
  exact ⟨_, pinvB hn hM r hX hY⟩
/-- so every one is of this size -/
theorem Pen.ht {b : Nat} {P : Nat → Nat → Rat} (p : Pen n M P) (hn : n < 16) (hM : Ht b (entM n n M)) : Ht (pinvBits n b) (entM n n P) := by
  obtain ⟨R, q, hR⟩ := pen_ex hn hM
  exact hR.cgM fun i j hi hj => p.ent q i j hi hj
end
end Pb

/-! Least squares; a part's form. -/
namespace Pb
theorem S_split (n m : Nat) (f : Nat → Rat) : S (n + m) f = S n f + S m fun i => f (n + i) := by
  induction m with
  | zero => rw [S_zero]; show S n f = _; grind
  | succ m ih => show S (n + m + 1) f = _; rw [S_succ, S_succ, ih]; grind
def glue (nb : Nat) (x y : Nat → Rat) : Nat → Rat := fun i => if i < nb then x i else y (i - nb)
theorem dot_glue (nb ni : Nat) (r x y : Nat → Rat) : dot (nb + ni) r (glue nb x y) = dot nb r x + dot ni (fun i => r (nb + i)) y := by
  unfold dot
  rw [S_split]
  have e1 : S nb (fun i => r i * glue nb x y i) = S nb fun i => r i * x i := S_congr fun i hi => by unfold glue; rw [if_pos hi]
  have e2 : S ni (fun i => r (nb + i) * glue nb x y (nb + i)) = S ni fun i => r (nb + i) * y i := S_congr fun i hi => by
    unfold glue; rw [if_neg (by omega), show nb + i - nb = i by omega]
  rw [e1, e2]
section
variable {n m nb ni : Nat} {a : Nat → Nat → Rat} {w v : Nat → Rat} {P : Nat → Nat → Rat}
/-- the sum of w a a', of w v a, of w v v; the squares at x -/
def gN (m : Nat) (a : Nat → Nat → Rat) (w : Nat → Rat) : Nat → Nat → Rat := fun i j => S m fun k => w k * (a k i * a k j)
def gR (m : Nat) (a : Nat → Nat → Rat) (w v : Nat → Rat) : Nat → Rat := fun i => S m fun k => w k * v k * a k i
def gT (m : Nat) (w v : Nat → Rat) : Rat := S m fun k => w k * v k * v k
def Qs (n m : Nat) (a : Nat → Nat → Rat) (w v x : Nat → Rat) : Rat := S m fun k => w k * ((dot n (a k) x - v k) * (dot n (a k) x - v k))
def Ds (n m : Nat) (a : Nat → Nat → Rat) (w v x y : Nat → Rat) : Rat := S m fun k => w k * ((dot n (a k) x - v k) * dot n (a k) y)
theorem gN_sym : Sym n (gN m a w) := fun _ _ _ _ => S_congr fun _ _ => by grind
theorem gN_mv (x : Nat → Rat) (i : Nat) : mv n (gN m a w) x i = S m fun k => w k * (a k i * dot n (a k) x) := by
  show S n (fun j => (S m fun k => w k * (a k i * a k j)) * x j) = _
  rw [S_congr (g := fun j => S m fun k => w k * (a k i * a k j) * x j) fun j _ => (S_mulr _ _ _).symm, S_swap]
  refine S_congr fun k _ => ?_
  unfold dot
  rw [← S_mul, ← S_mul]
  exact S_congr fun j _ => by grind
theorem gN_dot (x y : Nat → Rat) : dot n y (mv n (gN m a w) x) = S m fun k => w k * (dot n (a k) x * dot n (a k) y) := by
  unfold dot
  rw [S_congr (g := fun i => S m fun k => y i * (w k * (a k i * dot n (a k) x))) fun i _ => by rw [gN_mv, ← S_mul], S_swap]
  refine S_congr fun k _ => ?_
  have e : ∀ c : Rat, S n (fun i => y i * (w k * (a k i * c))) = w k * (c * S n fun i => a k i * y i) := fun c => by
    rw [← S_mul, ← S_mul]; exact S_congr fun j _ => by grind
  exact e _
theorem gR_dot (y : Nat → Rat) : dot n y (gR m a w v) = S m fun k => w k * v k * dot n (a k) y := by
  unfold dot gR
  rw [S_congr (g := fun i => S m fun k => y i * (w k * v k * a k i)) fun i _ => by rw [← S_mul], S_swap]
  refine S_congr fun k _ => ?_
  rw [← S_mul]; exact S_congr fun j _ => by grind
theorem gN_pos (hw : ∀ k, k < m → 0 < w k) (x : Nat → Rat) : 0 ≤ dot n x (mv n (gN m a w) x) := by
  rw [gN_dot]
  exact S_nonneg fun k hk => Rat.mul_nonneg (Rat.le_of_lt (hw k hk)) (sq_nonneg _)
theorem wsq0 (hw : ∀ k, k < m → 0 < w k) {f : Nat → Rat} (h : S m (fun k => w k * (f k * f k)) = 0) : ∀ k, k < m → f k = 0 := fun k hk => by
  have q := S_nonneg0 (fun k hk => Rat.mul_nonneg (Rat.le_of_lt (hw k hk)) (sq_nonneg (f k))) h k hk
  have p := hw k hk
  rcases Rat.mul_eq_zero.mp q with z | z
  · rw [z] at p; exact absurd p (by decide)
  · exact sq_zero z
/-- what the normal matrix does not see no row sees -/
theorem gN_ker (hw : ∀ k, k < m → 0 < w k) {d : Nat → Rat} (h : ∀ i, i < n → mv n (gN m a w) d i = 0) : ∀ k, k < m → dot n (a k) d = 0 :=
  wsq0 hw (by rw [← gN_dot]; exact S_all0 fun i hi => by rw [h i hi]; grind)
theorem Qs_eq (x : Nat → Rat) : Qs n m a w v x = dot n x (mv n (gN m a w) x) - 2 * dot n x (gR m a w v) + gT m w v := by
  rw [gN_dot, gR_dot, ← S_mul, ← S_sub]
  unfold gT
  rw [← S_add]
  exact S_congr fun k _ => by grind
theorem Ds_eq (x y : Nat → Rat) : Ds n m a w v x y = dot n y (fun i => mv n (gN m a w) x i - gR m a w v i) := by
  rw [dot_sub, gN_dot, gR_dot, ← S_sub]
  exact S_congr fun k _ => by grind
theorem Qs_nonneg (hw : ∀ k, k < m → 0 < w k) (x : Nat → Rat) : 0 ≤ Qs n m a w v x := S_nonneg fun k hk => Rat.mul_nonneg (Rat.le_of_lt (hw k hk)) (sq_nonneg _)
/-- M M P is M P M, read as M -/
theorem Pen.mmp {M : Nat → Nat → Rat} (p : Pen n M P) (sm : Sym n M) (x : Nat → Rat) : ∀ i, i < n → mv n M (mv n M (mv n P x)) i = mv n M x i := dot_ext fun z => by
  rw [sm.dot, p.c, dot_congr (p.a z) (fun _ _ => rfl), sm.dot]
/-- the right side of a system of readings is within -/
theorem gN_rng (hw : ∀ k, k < m → 0 < w k) (p : Pen n (gN m a w) P) (u : Nat → Rat) : ∀ i, i < n → mv n (gN m a w) (mv n P (gR m a w u)) i = gR m a w u i := dot_ext fun z => by
  rw [p.c, gR_dot, gR_dot]
  refine S_congr fun k hk => ?_
  have q := gN_ker hw (d := fun i => mv n (gN m a w) (mv n P z) i - z i) (fun i hi => by rw [mv_subA, p.mmp gN_sym z i hi]; grind) k hk
  rw [dot_sub] at q
  grind
/-! ### two stationary points of one system -/
theorem Qs_two (hw : ∀ k, k < m → 0 < w k) {x y : Nat → Rat} (hx : ∀ d, Ds n m a w v x d = 0) (hy : ∀ d, Ds n m a w v y d = 0) : Qs n m a w v x = Qs n m a w v y ∧ ∀ k, k < m → dot n (a k) x = dot n (a k) y := by
  have q : S m (fun k => w k * ((dot n (a k) x - dot n (a k) y) * (dot n (a k) x - dot n (a k) y))) = 0 := by
    have h1 := hx fun i => x i - y i
    have h2 := hy fun i => x i - y i
    unfold Ds at h1 h2
    have e : S m (fun k => w k * ((dot n (a k) x - dot n (a k) y) * (dot n (a k) x - dot n (a k) y))) = Ds n m a w v x (fun i => x i - y i) - Ds n m a w v y (fun i => x i - y i) := by
      unfold Ds
      rw [← S_sub]
      exact S_congr fun k _ => by rw [dot_sub]; grind
    rw [e]
    unfold Ds
    rw [h1, h2]; grind
  have z : ∀ k, k < m → dot n (a k) x = dot n (a k) y := fun k hk => by
    have := wsq0 hw q k hk
    grind
  exact ⟨S_congr fun k hk => by rw [z k hk], z⟩
/-! ### a part: the border ahead of the inner points -/
section
/-- the inner rows -/
def inn (nb : Nat) (a : Nat → Nat → Rat) : Nat → Nat → Rat := fun k i => a k (nb + i)
def acr (nb m : Nat) (a : Nat → Nat → Rat) (w : Nat → Rat) : Nat → Nat → Rat := fun i j => gN m a w i (nb + j)
def formA (nb ni m : Nat) (a : Nat → Nat → Rat) (w : Nat → Rat) (P : Nat → Nat → Rat) : Nat → Nat → Rat := fun i j => gN m a w i j + -1 * mm ni (mm ni (acr nb m a w) P) (tr (acr nb m a w)) i j
def formB (nb ni m : Nat) (a : Nat → Nat → Rat) (w v : Nat → Rat) (P : Nat → Nat → Rat) : Nat → Rat := fun i => gR m a w v i - mv ni (acr nb m a w) (mv ni P (gR m (inn nb a) w v)) i
def formC (nb ni m : Nat) (a : Nat → Nat → Rat) (w v : Nat → Rat) (P : Nat → Nat → Rat) : Rat := gT m w v - dot ni (gR m (inn nb a) w v) (mv ni P (gR m (inn nb a) w v))
/-- what is wanted of the inner heights at border heights x -/
def want (nb m : Nat) (a : Nat → Nat → Rat) (w v x : Nat → Rat) : Nat → Rat := fun i => gR m (inn nb a) w v i - mv nb (tr (acr nb m a w)) x i
theorem acr_mv (y : Nat → Rat) (i : Nat) : mv ni (acr nb m a w) y i = S m fun k => w k * (a k i * dot ni (inn nb a k) y) := by
  show S ni (fun j => (S m fun k => w k * (a k i * a k (nb + j))) * y j) = _
  rw [S_congr (g := fun j => S m fun k => w k * (a k i * a k (nb + j)) * y j) fun j _ => (S_mulr _ _ _).symm, S_swap]
  refine S_congr fun k _ => ?_
  unfold dot
  rw [← S_mul, ← S_mul]
  exact S_congr fun j _ => by unfold inn; grind
theorem acr_mvt (x : Nat → Rat) (i : Nat) : mv nb (tr (acr nb m a w)) x i = S m fun k => w k * (dot nb (a k) x * inn nb a k i) := by
  show S nb (fun j => (S m fun k => w k * (a k j * a k (nb + i))) * x j) = _
  rw [S_congr (g := fun j => S m fun k => w k * (a k j * a k (nb + i)) * x j) fun j _ => (S_mulr _ _ _).symm, S_swap]
  refine S_congr fun k _ => ?_
  have e : ∀ c : Rat, w k * (dot nb (a k) x * c) = c * w k * dot nb (a k) x := fun c => by grind
  rw [e]
  unfold dot
  rw [← S_mul]
  exact S_congr fun j _ => by unfold inn; grind
/-- the wanted is a right side of the inner readings -/
theorem want_eq (x : Nat → Rat) : want nb m a w v x = gR m (inn nb a) w (fun k => v k - dot nb (a k) x) := funext fun i => by
  unfold want
  rw [acr_mvt]
  unfold gR
  rw [← S_sub]
  exact S_congr fun k _ => by grind
variable (hw : ∀ k, k < m → 0 < w k) (p : Pen ni (gN m (inn nb a) w) P)
include hw p
/-- the inner heights that are told are such as are wanted -/
theorem inner_ok (x s : Nat → Rat) : ∀ i, i < ni → mv ni (gN m (inn nb a) w) (fun i => s i + mv ni P (fun i => want nb m a w v x i - mv ni (gN m (inn nb a) w) s i) i) i = want nb m a w v x i := fun i hi => by
  have e : mv ni P (fun i => want nb m a w v x i - mv ni (gN m (inn nb a) w) s i) = fun i => mv ni P (want nb m a w v x) i - mv ni P (mv ni (gN m (inn nb a) w) s) i := funext fun i => mv_subA _ _ _ _ _
  rw [mv_addA, e, mv_subA, p.a s i hi, want_eq, gN_rng hw p _ i hi]; grind
/-- what the rows see of inner heights as wanted -/
theorem inner_row {x y : Nat → Rat} (hy : ∀ i, i < ni → mv ni (gN m (inn nb a) w) y i = want nb m a w v x i) : ∀ k, k < m → dot ni (inn nb a k) y = dot ni (inn nb a k) (mv ni P (want nb m a w v x)) := fun k hk => by
  have q := gN_ker hw (d := fun i => y i - mv ni P (want nb m a w v x) i) (fun i hi => by rw [mv_subA, hy i hi, want_eq, gN_rng hw p _ i hi]; grind) k hk
  rw [dot_sub] at q
  grind
omit hw p in
theorem formA_mv (x : Nat → Rat) (i : Nat) : mv nb (formA nb ni m a w P) x i = mv nb (gN m a w) x i - mv ni (acr nb m a w) (mv ni P (mv nb (tr (acr nb m a w)) x)) i := by
  rw [← mv_mm, ← mv_mm]
  show S nb (fun j => (gN m a w i j + -1 * mm ni (mm ni (acr nb m a w) P) (tr (acr nb m a w)) i j) * x j) = S nb (fun j => gN m a w i j * x j) - S nb fun j => mm ni (mm ni (acr nb m a w) P) (tr (acr nb m a w)) i j * x j
  rw [← S_sub]
  exact S_congr fun j _ => by grind
/-- the form's gradient is the squares' gradient at the border -/
theorem form_grad {x y : Nat → Rat} (hy : ∀ i, i < ni → mv ni (gN m (inn nb a) w) y i = want nb m a w v x i) (d e : Nat → Rat) :
    Ds (nb + ni) m a w v (glue nb x y) (glue nb d e) = dot nb d (fun i => mv nb (formA nb ni m a w P) x i - formB nb ni m a w v P i) := by
  have r := inner_row hw p hy
  -- along the inner points there is none
  have z : S m (fun k => w k * ((dot nb (a k) x + dot ni (inn nb a k) y - v k) * dot ni (inn nb a k) e)) = 0 := by
    have q : dot ni e (fun i => mv ni (gN m (inn nb a) w) y i - gR m (inn nb a) w (fun k => v k - dot nb (a k) x) i) = 0 := S_all0 fun i hi => by
      show e i * (mv ni (gN m (inn nb a) w) y i - gR m (inn nb a) w (fun k => v k - dot nb (a k) x) i) = 0
      rw [hy i hi, want_eq]; grind
    rw [dot_sub, gN_dot, gR_dot, ← S_sub] at q
    rw [← q]
    exact S_congr fun k _ => by grind
  have e1 : Ds (nb + ni) m a w v (glue nb x y) (glue nb d e) = S m fun k => w k * ((dot nb (a k) x + dot ni (inn nb a k) y - v k) * dot nb (a k) d) := by
    have q : Ds (nb + ni) m a w v (glue nb x y) (glue nb d e) = S m (fun k => w k * ((dot nb (a k) x + dot ni (inn nb a k) y - v k) * dot nb (a k) d)) + S m (fun k => w k * ((dot nb (a k) x + dot ni (inn nb a k) y - v k) * dot ni (inn nb a k) e)) := by
      rw [← S_add]
      refine S_congr fun k _ => ?_
      rw [dot_glue, dot_glue]
      show w k * ((dot nb (a k) x + dot ni (inn nb a k) y - v k) * (dot nb (a k) d + dot ni (inn nb a k) e)) = _
      grind
    rw [q, z]; grind
  rw [e1]
  have e2 : ∀ i, mv nb (formA nb ni m a w P) x i - formB nb ni m a w v P i = (mv nb (gN m a w) x i - gR m a w v i) + mv ni (acr nb m a w) (mv ni P (want nb m a w v x)) i := fun i => by
    rw [formA_mv]
    unfold formB
    have q : mv ni P (want nb m a w v x) = fun i => mv ni P (gR m (inn nb a) w v) i - mv ni P (mv nb (tr (acr nb m a w)) x) i := funext fun i => mv_subA _ _ _ _ _
    rw [q, mv_subA]; grind
  rw [dot_congr (x := d) (fun _ _ => rfl) (fun i _ => e2 i), dot_add, dot_sub, gN_dot, gR_dot]
  have e3 : dot nb d (mv ni (acr nb m a w) (mv ni P (want nb m a w v x))) = S m fun k => w k * (dot ni (inn nb a k) y * dot nb (a k) d) := by
    unfold dot
    rw [S_congr (g := fun i => S m fun k => d i * (w k * (a k i * dot ni (inn nb a k) y))) fun i _ => by rw [acr_mv, ← S_mul]; exact S_congr fun k hk => by rw [r k hk], S_swap]
    refine S_congr fun k _ => ?_
    have g : ∀ c : Rat, S nb (fun i => d i * (w k * (a k i * c))) = w k * (c * S nb fun i => a k i * d i) := fun c => by
      rw [← S_mul, ← S_mul]; exact S_congr fun j _ => by grind
    exact g _
  rw [e3, ← S_sub, ← S_add]
  exact S_congr fun k _ => by grind
/-- the form's value is the squares -/
theorem form_val {x y : Nat → Rat} (hy : ∀ i, i < ni → mv ni (gN m (inn nb a) w) y i = want nb m a w v x i) :
    Qs (nb + ni) m a w v (glue nb x y) = dot nb x (mv nb (formA nb ni m a w P) x) - 2 * dot nb (formB nb ni m a w v P) x + formC nb ni m a w v P := by
  have sp := p.sym gN_sym
  have r := inner_row hw p hy
  have g := form_grad hw p hy x y
  -- Q is half the gradient along itself and what is left
  have e1 : Qs (nb + ni) m a w v (glue nb x y) = Ds (nb + ni) m a w v (glue nb x y) (glue nb x y) - S m (fun k => w k * v k * dot (nb + ni) (a k) (glue nb x y)) + gT m w v := by
    unfold Qs Ds gT
    rw [← S_sub, ← S_add]
    exact S_congr fun k _ => by grind
  have e2 : S m (fun k => w k * v k * dot (nb + ni) (a k) (glue nb x y)) = dot nb x (gR m a w v) + dot ni (gR m (inn nb a) w v) (mv ni P (want nb m a w v x)) := by
    rw [dot_comm ni, gR_dot, gR_dot, ← S_add]
    refine S_congr fun k hk => ?_
    rw [dot_glue]
    show w k * v k * (dot nb (a k) x + dot ni (inn nb a k) y) = _
    rw [r k hk]; grind
  have e3 : dot ni (gR m (inn nb a) w v) (mv ni P (want nb m a w v x)) = dot ni (gR m (inn nb a) w v) (mv ni P (gR m (inn nb a) w v)) - dot nb x (mv ni (acr nb m a w) (mv ni P (gR m (inn nb a) w v))) := by
    have q : mv ni P (want nb m a w v x) = fun i => mv ni P (gR m (inn nb a) w v) i - mv ni P (mv nb (tr (acr nb m a w)) x) i := funext fun i => mv_subA _ _ _ _ _
    rw [q, dot_sub, sp.dot (gR m (inn nb a) w v) (mv nb (tr (acr nb m a w)) x), dot_tr, dot_comm nb x]
  rw [e1, g, e2, e3]
  unfold formC
  have e4 : dot nb (formB nb ni m a w v P) x = dot nb x (gR m a w v) - dot nb x (mv ni (acr nb m a w) (mv ni P (gR m (inn nb a) w v))) := by
    rw [dot_comm]; unfold formB; rw [dot_sub]
  rw [dot_sub, dot_comm nb x (formB nb ni m a w v P), e4]; grind
omit hw in
theorem formA_sym : Sym nb (formA nb ni m a w P) := fun i j hi hj => by
  have sp := p.sym gN_sym
  have e : ∀ i j, mm ni (mm ni (acr nb m a w) P) (tr (acr nb m a w)) i j = dot ni (acr nb m a w i) (mv ni P (acr nb m a w j)) := fun i j => by
    show dot ni (mm ni (acr nb m a w) P i) (acr nb m a w j) = _
    rw [show dot ni (mm ni (acr nb m a w) P i) (acr nb m a w j) = mv ni (mm ni (acr nb m a w) P) (acr nb m a w j) i from rfl, mv_mm]; rfl
  unfold formA
  rw [e, e, sp.dot, dot_comm, gN_sym (n := nb) i j hi hj]
end
end
end Pb

/-! Fractions in lowest terms, and their sizes. -/
namespace Pb
/-- the fraction top by bottom -/
def fr (t b : Int) : Rat := Rat.divInt t b
theorem fr_eq (t b : Int) : fr t b = (t : Rat) / (b : Rat) := Rat.divInt_eq_div t b
theorem fr_parts (t : Int) {b : Int} (hb : b ≠ 0) : t.fdiv (if b < 0 then -((Nat.gcd t.natAbs b.natAbs : Nat) : Int) else ((Nat.gcd t.natAbs b.natAbs : Nat) : Int)) = (fr t b).num ∧
    b.fdiv (if b < 0 then -((Nat.gcd t.natAbs b.natAbs : Nat) : Int) else ((Nat.gcd t.natAbs b.natAbs : Nat) : Int)) = ((fr t b).den : Int) ∧
    (if b < 0 then -((Nat.gcd t.natAbs b.natAbs : Nat) : Int) else ((Nat.gcd t.natAbs b.natAbs : Nat) : Int)) ≠ 0 := by
  have hg : Nat.gcd t.natAbs b.natAbs ≠ 0 := fun q => hb (by have := Nat.eq_zero_of_gcd_eq_zero_right q; omega)
  have en : (fr t b).num = b.sign * t / ((Nat.gcd t.natAbs b.natAbs : Nat) : Int) := by
    unfold fr; rw [Rat.num_divInt]; show _ / ((Nat.gcd b.natAbs t.natAbs : Nat) : Int) = _; rw [Nat.gcd_comm]
  have ed : (fr t b).den = b.natAbs / Nat.gcd t.natAbs b.natAbs := by
    unfold fr; rw [Rat.den_divInt, if_neg hb]; show _ / Nat.gcd b.natAbs t.natAbs = _; rw [Nat.gcd_comm]
  rw [en, ed]
  obtain ⟨t', e1⟩ : ((Nat.gcd t.natAbs b.natAbs : Nat) : Int) ∣ t := Int.ofNat_dvd_left.mpr (Nat.gcd_dvd_left _ _)
  obtain ⟨b', e2⟩ := Nat.gcd_dvd_right t.natAbs b.natAbs
  generalize Nat.gcd t.natAbs b.natAbs = g at *
  have gp : (g : Int) ≠ 0 := by omega
  have gp2 : 0 < g := by omega
  have bq : b.natAbs / g = b' := by rw [e2]; exact Nat.mul_div_cancel_left _ gp2
  rw [bq]
  by_cases h : b < 0
  · have eb : b = -(g : Int) * (b' : Int) := by
      have : (b.natAbs : Int) = (g : Int) * (b' : Int) := by rw [e2]; exact Int.natCast_mul _ _
      rw [Int.neg_mul, ← this]; omega
    have gn : -(g : Int) ≠ 0 := by omega
    rw [if_pos h, Int.sign_eq_neg_one_of_neg h]
    refine ⟨?_, ?_, gn⟩
    · rw [e1, show (g : Int) * t' = -(g : Int) * -t' by rw [Int.neg_mul_neg], Int.mul_fdiv_cancel_left _ gn, show -1 * (-(g : Int) * -t') = (g : Int) * -t' by rw [Int.neg_mul_neg]; rw [Int.mul_neg]; omega, Int.mul_ediv_cancel_left _ gp]
    · conv => lhs; rw [eb]
      exact Int.mul_fdiv_cancel_left _ gn
  · have hp : 0 < b := by omega
    have eb : b = (g : Int) * (b' : Int) := by
      have : (b.natAbs : Int) = (g : Int) * (b' : Int) := by rw [e2]; exact Int.natCast_mul _ _
      rw [← this]; omega
    rw [if_neg h, Int.sign_eq_one_of_pos hp]
    refine ⟨?_, ?_, gp⟩
    · rw [e1, Int.mul_fdiv_cancel_left _ gp, Int.one_mul, Int.mul_ediv_cancel_left _ gp]
    · conv => lhs; rw [eb]
      exact Int.mul_fdiv_cancel_left _ gp
theorem fr_self (q : Rat) : fr q.num q.den = q := Rat.num_divInt_den q
theorem den_pos (q : Rat) : (0 : Int) < (q.den : Int) := by have := q.den_nz; omega
theorem castI0 {i : Int} (h : i ≠ 0) : (i : Rat) ≠ 0 := fun q => h (Rat.intCast_inj.mp q)
theorem num_den (q : Rat) : q * (q.den : Rat) = (q.num : Rat) := by
  have e := fr_self q
  have h := castI0 (Int.ne_of_gt (den_pos q))
  rw [fr_eq, show ((q.den : Int) : Rat) = (q.den : Rat) from rfl] at *
  conv => lhs; rw [← e]
  grind
theorem fr_add (p q : Rat) : fr (p.num * q.den + q.num * p.den) ((p.den : Int) * q.den) = p + q := by
  rw [fr_eq, Rat.intCast_add, Rat.intCast_mul, Rat.intCast_mul, Rat.intCast_mul, ← num_den p, ← num_den q]
  have h1 := castI0 (Int.ne_of_gt (den_pos p))
  have h2 := castI0 (Int.ne_of_gt (den_pos q))
  rw [show ((p.den : Int) : Rat) = (p.den : Rat) from rfl, show ((q.den : Int) : Rat) = (q.den : Rat) from rfl] at *
  grind
theorem fr_sub (p q : Rat) : fr (p.num * q.den - q.num * p.den) ((p.den : Int) * q.den) = p - q := by
  rw [fr_eq, Rat.intCast_sub, Rat.intCast_mul, Rat.intCast_mul, Rat.intCast_mul, ← num_den p, ← num_den q]
  have h1 := castI0 (Int.ne_of_gt (den_pos p))
  have h2 := castI0 (Int.ne_of_gt (den_pos q))
  rw [show ((p.den : Int) : Rat) = (p.den : Rat) from rfl, show ((q.den : Int) : Rat) = (q.den : Rat) from rfl] at *
  grind
theorem fr_mul (p q : Rat) : fr (p.num * q.num) ((p.den : Int) * q.den) = p * q := by
  rw [fr_eq, Rat.intCast_mul, Rat.intCast_mul, ← num_den p, ← num_den q]
  have h1 := castI0 (Int.ne_of_gt (den_pos p))
  have h2 := castI0 (Int.ne_of_gt (den_pos q))
  rw [show ((p.den : Int) : Rat) = (p.den : Rat) from rfl, show ((q.den : Int) : Rat) = (q.den : Rat) from rfl] at *
  grind
theorem fr_neg (p : Rat) : fr (-p.num) p.den = -p := by
  rw [fr_eq, Rat.intCast_neg, ← num_den p]
  have h1 := castI0 (Int.ne_of_gt (den_pos p))
  rw [show ((p.den : Int) : Rat) = (p.den : Rat) from rfl] at *
  grind
theorem num_nz {q : Rat} (h : q ≠ 0) : q.num ≠ 0 := fun e => h (Rat.num_eq_zero.mp e)
theorem fr_over {p q : Rat} (hq : q ≠ 0) : (p.den : Int) * q.num ≠ 0 ∧ fr (p.num * q.den) ((p.den : Int) * q.num) = p / q := by
  have h0 := num_nz hq
  refine ⟨Int.mul_ne_zero (Int.ne_of_gt (den_pos p)) h0, ?_⟩
  rw [fr_eq, Rat.intCast_mul, Rat.intCast_mul, ← num_den p, ← num_den q]
  have h1 := castI0 (Int.ne_of_gt (den_pos p))
  have h2 := castI0 (Int.ne_of_gt (den_pos q))
  rw [show ((p.den : Int) : Rat) = (p.den : Rat) from rfl, show ((q.den : Int) : Rat) = (q.den : Rat) from rfl] at *
  grind
theorem fr_int (i : Int) : fr i 1 = (i : Rat) := by rw [fr_eq]; have : ((1 : Int) : Rat) = 1 := rfl; rw [this]; grind
/-! ### sizes -/
/-- top and bottom below 2 ^ b -/
def Sz (b : Nat) (q : Rat) : Prop := q.num.natAbs < 2 ^ b ∧ q.den < 2 ^ b
theorem Sz.mono {b c : Nat} {q : Rat} (h : Sz b q) (l : b ≤ c) : Sz c q := by
  have := Nat.pow_le_pow_right (n := 2) (by decide) l
  exact ⟨by have := h.1; omega, by have := h.2; omega⟩
/-- a fraction is no larger in lowest terms -/
theorem fr_le {t b : Int} (hb : b ≠ 0) : (fr t b).num.natAbs ≤ t.natAbs ∧ (fr t b).den ≤ b.natAbs := by
  have hg : Nat.gcd t.natAbs b.natAbs ≠ 0 := fun q => hb (by have := Nat.eq_zero_of_gcd_eq_zero_right q; omega)
  obtain ⟨e1, e2, e3⟩ := fr_parts t hb
  obtain ⟨t', d1⟩ : (if b < 0 then -((Nat.gcd t.natAbs b.natAbs : Nat) : Int) else ((Nat.gcd t.natAbs b.natAbs : Nat) : Int)) ∣ t := by
    split
    · exact Int.neg_dvd.mpr (Int.ofNat_dvd_left.mpr (Nat.gcd_dvd_left _ _))
    · exact Int.ofNat_dvd_left.mpr (Nat.gcd_dvd_left _ _)
  obtain ⟨b', d2⟩ : (if b < 0 then -((Nat.gcd t.natAbs b.natAbs : Nat) : Int) else ((Nat.gcd t.natAbs b.natAbs : Nat) : Int)) ∣ b := by
    split
    · exact Int.neg_dvd.mpr (Int.ofNat_dvd_left.mpr (Nat.gcd_dvd_right _ _))
    · exact Int.ofNat_dvd_left.mpr (Nat.gcd_dvd_right _ _)
  rw [← e1]
  have e2' : (fr t b).den = (b.fdiv (if b < 0 then -((Nat.gcd t.natAbs b.natAbs : Nat) : Int) else ((Nat.gcd t.natAbs b.natAbs : Nat) : Int))).natAbs := by rw [e2]; rfl
  rw [e2']
  generalize (if b < 0 then -((Nat.gcd t.natAbs b.natAbs : Nat) : Int) else ((Nat.gcd t.natAbs b.natAbs : Nat) : Int)) = c at *
  have cp : 0 < c.natAbs := by omega
  constructor
  · conv => lhs; rw [d1]
    rw [Int.mul_fdiv_cancel_left _ e3]
    conv => rhs; rw [d1, Int.natAbs_mul]
    exact Nat.le_mul_of_pos_left _ cp
  · conv => lhs; rw [d2]
    rw [Int.mul_fdiv_cancel_left _ e3]
    conv => rhs; rw [d2, Int.natAbs_mul]
    exact Nat.le_mul_of_pos_left _ cp
theorem Ht.sz {b : Nat} {X : Rat → Prop} (h : Ht b X) {q : Rat} (hq : X q) : Sz b q := by
  obtain ⟨D, B, h1, h2, h3, h4⟩ := h
  obtain ⟨z, e, l⟩ := h4 q hq
  have hD : (D : Int) ≠ 0 := by omega
  have eq : q = fr z D := by
    rw [fr_eq, ← e]
    have h1 := castI0 hD
    rw [show ((D : Int) : Rat) = (D : Rat) from rfl] at *
    grind
  obtain ⟨a1, a2⟩ := fr_le (t := z) hD
  rw [← eq] at a1 a2
  exact ⟨by omega, by rw [Int.natAbs_natCast] at a2; omega⟩
theorem Sz.ht {b : Nat} {q : Rat} (h : Sz b q) : Ht b (fun x => x = q) :=
  ⟨q.den, q.num.natAbs, by have := q.den_nz; omega, h.2, h.1, fun x e => ⟨q.num, by rw [e]; exact num_den q, Nat.le_refl _⟩⟩
end Pb

/-! Readings by names; the sizes of their sums. -/
namespace Pb
/-- q is a whole number of at most B over D -/
def IntD (D B : Nat) (q : Rat) : Prop := ∃ z : Int, q * (D : Rat) = (z : Rat) ∧ z.natAbs ≤ B
theorem IntD.mul {D B E C : Nat} {p q : Rat} (hp : IntD D B p) (hq : IntD E C q) : IntD (D * E) (B * C) (p * q) := by
  obtain ⟨x, e1, l1⟩ := hp
  obtain ⟨y, e2, l2⟩ := hq
  refine ⟨x * y, ?_, by rw [Int.natAbs_mul]; exact Nat.mul_le_mul l1 l2⟩
  rw [castMul, castIMul, ← e1, ← e2]
  grind
theorem IntD.add {D B C : Nat} {p q : Rat} (hp : IntD D B p) (hq : IntD D C q) : IntD D (B + C) (p + q) := by
  obtain ⟨x, e1, l1⟩ := hp
  obtain ⟨y, e2, l2⟩ := hq
  refine ⟨x + y, ?_, by omega⟩
  rw [castIAdd, ← e1, ← e2]
  grind
theorem IntD.sub {D B C : Nat} {p q : Rat} (hp : IntD D B p) (hq : IntD D C q) : IntD D (B + C) (p - q) := by
  obtain ⟨x, e1, l1⟩ := hp
  obtain ⟨y, e2, l2⟩ := hq
  refine ⟨x - y, ?_, by omega⟩
  rw [Int.sub_eq_add_neg, castIAdd, castINeg, ← e1, ← e2]
  grind
theorem IntD.mono {D B C : Nat} {p : Rat} (hp : IntD D B p) (h : B ≤ C) : IntD D C p := let ⟨x, e, l⟩ := hp; ⟨x, e, by omega⟩
theorem IntD.int (i : Int) : IntD 1 i.natAbs (i : Rat) := ⟨i, by show (i : Rat) * 1 = _; grind, Nat.le_refl _⟩
theorem IntD.sum {D B m : Nat} {f : Nat → Rat} (h : ∀ k, k < m → IntD D B (f k)) : IntD D (m * B) (S m f) := by
  have q : HtD D B (entV m f) := fun q ⟨k, hk, e⟩ => by rw [← e]; exact h k hk
  exact q.sum
theorem IntD.ht {D B b : Nat} {X : Rat → Prop} (hD : 0 < D) (h1 : D < 2 ^ b) (h2 : B < 2 ^ b) (h : ∀ q, X q → IntD D B q) : Ht b X := ⟨D, B, hD, h1, h2, h⟩
/-- coefficients of at most 3, weights of halves of at most 4, values of sixths of at most 6 -/
structure RowsOk (n m : Nat) (a : Nat → Nat → Rat) (w v : Nat → Rat) : Prop where
  m16 : m < 16
  ha : ∀ k i, k < m → i < n → IntD 1 3 (a k i)
  hw : ∀ k, k < m → IntD 2 8 (w k)
  hv : ∀ k, k < m → IntD 6 36 (v k)
  pos : ∀ k, k < m → 0 < w k
theorem RowsOk.less {n m l : Nat} {a : Nat → Nat → Rat} {w v : Nat → Rat} (h : RowsOk n m a w v) (hl : l ≤ m) : RowsOk n l a w v :=
  ⟨by have := h.m16; omega, fun k i hk hi => h.ha k i (by omega) hi, fun k hk => h.hw k (by omega), fun k hk => h.hv k (by omega), fun k hk => h.pos k (by omega)⟩
section
variable {n m : Nat} {a : Nat → Nat → Rat} {w v : Nat → Rat}
theorem RowsOk.gN (h : RowsOk n m a w v) : Ht 11 (entM n n (gN m a w)) := IntD.ht (D := 2) (B := 1080) (by decide) (by decide) (by decide) fun q ⟨i, j, hi, hj, e⟩ => by
  rw [← e]
  have s := IntD.sum (m := m) (f := fun k => w k * (a k i * a k j)) (D := 2) (B := 72) fun k hk => (h.hw k hk).mul ((h.ha k i hk hi).mul (h.ha k j hk hj))
  exact s.mono (by have := h.m16; omega)
theorem RowsOk.gR (h : RowsOk n m a w v) : Ht 14 (entV n (gR m a w v)) := IntD.ht (D := 12) (B := 12960) (by decide) (by decide) (by decide) fun q ⟨i, hi, e⟩ => by
  rw [← e]
  have s := IntD.sum (m := m) (f := fun k => w k * v k * a k i) (D := 12) (B := 864) fun k hk => ((h.hw k hk).mul (h.hv k hk)).mul (h.ha k i hk hi)
  exact s.mono (by have := h.m16; omega)
theorem RowsOk.gT (h : RowsOk n m a w v) : Ht 18 (fun q => gT m w v = q) := IntD.ht (D := 72) (B := 155520) (by decide) (by decide) (by decide) fun q e => by
  rw [← e]
  have s := IntD.sum (m := m) (f := fun k => w k * v k * v k) (D := 72) (B := 10368) fun k hk => ((h.hw k hk).mul (h.hv k hk)).mul (h.hv k hk)
  exact s.mono (by have := h.m16; omega)
theorem RowsOk.row (h : RowsOk n m a w v) {k : Nat} (hk : k < m) : Ht 2 (entV n (a k)) := IntD.ht (D := 1) (B := 3) (by decide) (by decide) (by decide) fun q ⟨i, hi, e⟩ => by
  rw [← e]; exact h.ha k i hk hi
end
end Pb

/-! The sizes of a part's form. -/
namespace Pb
section
variable {nb ni m : Nat} {a : Nat → Nat → Rat} {w v : Nat → Rat} {P : Nat → Nat → Rat}
theorem RowsOk.inn (h : RowsOk (nb + ni) m a w v) : RowsOk ni m (Pb.inn nb a) w v := ⟨h.m16, fun k i hk hi => h.ha k (nb + i) hk (by omega), h.hw, h.hv, h.pos⟩
theorem RowsOk.out (h : RowsOk (nb + ni) m a w v) : RowsOk nb m a w v := ⟨h.m16, fun k i hk hi => h.ha k i hk (by omega), h.hw, h.hv, h.pos⟩
theorem RowsOk.acr (h : RowsOk (nb + ni) m a w v) : Ht 11 (entM nb ni (Pb.acr nb m a w)) := h.gN.sub fun q ⟨i, j, hi, hj, e⟩ => ⟨i, nb + j, by omega, by omega, e⟩
theorem pb2 {n : Nat} (h : n ≤ 2) : pinvBits n 11 ≤ 583 := by
  have : n = 0 ∨ n = 1 ∨ n = 2 := by omega
  rcases this with rfl | rfl | rfl <;> decide
structure FormHt (nb ni m : Nat) (a : Nat → Nat → Rat) (w v : Nat → Rat) (P : Nat → Nat → Rat) : Prop where
  hP : Ht 583 (entM ni ni P)
  h1 : Ht 598 (entM nb ni (mm ni (acr nb m a w) P))
  h2 : Ht 613 (entM nb nb (mm ni (mm ni (acr nb m a w) P) (tr (acr nb m a w))))
  h3 : Ht 614 (entM nb nb fun i j => -1 * mm ni (mm ni (acr nb m a w) P) (tr (acr nb m a w)) i j)
  hA : Ht 640 (entM nb nb (formA nb ni m a w P))
  h4 : Ht 601 (entV ni (mv ni P (gR m (inn nb a) w v)))
  h5 : Ht 616 (entV nb (mv ni (acr nb m a w) (mv ni P (gR m (inn nb a) w v))))
  hB : Ht 640 (entV nb (formB nb ni m a w v P))
  h6 : Ht 619 (fun q => dot ni (gR m (inn nb a) w v) (mv ni P (gR m (inn nb a) w v)) = q)
  hC : Ht 640 (fun q => formC nb ni m a w v P = q)
theorem RowsOk.form (h : RowsOk (nb + ni) m a w v) (hn : ni ≤ 2) (hb : nb < 14) (p : Pen ni (Pb.gN m (Pb.inn nb a) w) P) : FormHt nb ni m a w v P := by
  have hi := h.inn
  have ho := h.out
  have hP : Ht 583 (entM ni ni P) := (p.ht (by omega) hi.gN).mono (pb2 hn)
  have h1 := Ht.mm (h := nb) (k := ni) (w := ni) (by omega) h.acr hP
  have h2 := Ht.mm (h := nb) (k := ni) (w := nb) (by omega) h1 h.acr.tr
  have h0 : Ht 1 (fun q : Rat => q = -1) := ⟨1, 1, by decide, by decide, by decide, fun q e => ⟨-1, by rw [e, show ((1 : Nat) : Rat) = 1 from rfl, Rat.mul_one]; rfl, by decide⟩⟩
  have h3 := h0.mul (Z := entM nb nb fun i j => -1 * mm ni (mm ni (Pb.acr nb m a w) P) (tr (Pb.acr nb m a w)) i j) h2 fun q ⟨i, j, hi, hj, e⟩ => ⟨-1, _, rfl, ⟨i, j, hi, hj, rfl⟩, e⟩
  have h4 := Ht.mv (h := ni) (w := ni) (by omega) hP hi.gR
  have h5 := Ht.mv (h := nb) (w := ni) (by omega) h.acr h4
  have h6 := hi.gR.dots (n := ni) (Z := fun q => dot ni (Pb.gR m (Pb.inn nb a) w v) (mv ni P (Pb.gR m (Pb.inn nb a) w v)) = q) (by omega) h4 fun q e => ⟨_, _, ni, Nat.le_refl _, fun i hi => ⟨i, hi, rfl⟩, fun i hi => ⟨i, hi, rfl⟩, e⟩
  refine ⟨hP, h1.mono (by omega), h2.mono (by omega), h3.mono (by omega), ?_, h4.mono (by omega), h5.mono (by omega), ?_, h6.mono (by omega), ?_⟩
  · exact (ho.gN.add h3 fun q ⟨i, j, hi, hj, e⟩ => ⟨_, _, ⟨i, j, hi, hj, rfl⟩, ⟨i, j, hi, hj, rfl⟩, e⟩).mono (by omega)
  · exact (ho.gR.minus h5 fun q ⟨i, hi, e⟩ => ⟨_, _, ⟨i, hi, rfl⟩, ⟨i, hi, rfl⟩, e⟩).mono (by omega)
  · exact (h.gT.minus h6 fun q e => ⟨_, _, rfl, rfl, e⟩).mono (by omega)
end
end Pb

/-! The sizes of a net's sums. -/
namespace Pb
section
variable {n m : Nat} {a : Nat → Nat → Rat} {w v x s : Nat → Rat}
theorem RowsOk.sh (h : RowsOk n m a w v) (hn : n ≤ 8) (hx : ∀ i, i < n → IntD 6 36 (x i)) : ∀ k, k < m → IntD 6 900 (v k - dot n (a k) x) := fun k hk => by
  have q := IntD.sum (m := n) (f := fun i => a k i * x i) (D := 6) (B := 108) fun i hi => (h.ha k i hk hi).mul (hx i hi)
  exact ((h.hv k hk).sub q).mono (by omega)
theorem RowsOk.gRs (h : RowsOk n m a w v) (hs : ∀ k, k < m → IntD 6 900 (s k)) : Ht 19 (entV n (Pb.gR m a w s)) := IntD.ht (D := 12) (B := 324000) (by decide) (by decide) (by decide) fun q ⟨i, hi, e⟩ => by
  rw [← e]
  have s := IntD.sum (m := m) (f := fun k => w k * s k * a k i) (D := 12) (B := 21600) fun k hk => ((h.hw k hk).mul (hs k hk)).mul (h.ha k i hk hi)
  exact s.mono (by have := h.m16; omega)
theorem RowsOk.gTs (h : RowsOk n m a w v) (hs : ∀ k, k < m → IntD 6 900 (s k)) : Ht 27 (fun q => Pb.gT m w s = q) := IntD.ht (D := 72) (B := 97200000) (by decide) (by decide) (by decide) fun q e => by
  rw [← e]
  have s := IntD.sum (m := m) (f := fun k => w k * s k * s k) (D := 72) (B := 6480000) fun k hk => ((h.hw k hk).mul (hs k hk)).mul (hs k hk)
  exact s.mono (by have := h.m16; omega)
theorem pb8 (h : n ≤ 8) : pinvBits n 11 ≤ 1600000 := by
  have m : 2 ^ n ≤ 256 := Nat.le_trans (Nat.pow_le_pow_right (n := 2) (by decide) h) (by decide)
  have a1 : 2 ^ n * (11 + 1) ≤ 256 * 12 := Nat.mul_le_mul m (by omega)
  have a2 : 2 ^ n * (2 * (2 ^ n * (11 + 1)) + 5) ≤ 256 * (2 * (256 * 12) + 5) := Nat.mul_le_mul m (by omega)
  have a3 : 2 ^ n * (2 * 11 + 5) ≤ 256 * 27 := Nat.mul_le_mul m (by omega)
  unfold pinvBits
  omega
end
end Pb
namespace Pb
theorem mv_zero (n : Nat) (x : Nat → Rat) : mv n (fun _ _ => 0) x = fun _ => 0 := funext fun i => S_all0 fun j _ => by grind
theorem pen_zero (n : Nat) : Pen n (fun _ _ => 0) (fun _ _ => 0) := by
  refine ⟨fun x i hi => ?_, fun x i hi => ?_, fun x y => ?_, fun x y => ?_⟩
  · rw [mv_zero, mv_zero]
  · rw [mv_zero, mv_zero]
  · rw [mv_zero, mv_zero]
    exact (S_all0 fun i _ => by grind).trans (S_all0 fun i _ => by grind).symm
  · rw [mv_zero, mv_zero]
    exact (S_all0 fun i _ => by grind).trans (S_all0 fun i _ => by grind).symm
end Pb

/-! Euclid's turns. -/
namespace Pb
/-- what is kept turn by turn -/
def Euc (t b n : Nat) (i : Nat) (x y : Nat) : Prop := Nat.gcd x y = Nat.gcd t b ∧ ((i = 0 ∧ x = t ∧ y = b ∧ b < 2 ^ n) ∨ (0 < i ∧ y < x ∧ x * y * 2 ^ (i - 1) < 2 ^ (2 * n)))
theorem Euc.start {t b n : Nat} (h : b < 2 ^ n) : Euc t b n 0 t b := ⟨rfl, .inl ⟨rfl, rfl, rfl, h⟩⟩
theorem Euc.step {t b n i x y : Nat} (h : Euc t b n i x y) (hy : y ≠ 0) : Euc t b n (i + 1) y (x % y) := by
  obtain ⟨g, h⟩ := h
  have lt : x % y < y := Nat.mod_lt _ (Nat.pos_of_ne_zero hy)
  refine ⟨?_, .inr ⟨Nat.succ_pos _, lt, ?_⟩⟩
  · rw [← g, Nat.gcd_comm y, Nat.gcd_comm x, ← Nat.gcd_rec]
  · show y * (x % y) * 2 ^ i < _
    rcases h with ⟨i0, hx, hyb, hb⟩ | ⟨ip, hxy, hp⟩
    · subst i0 hyb
      have e : (2 : Nat) ^ (2 * n) = 2 ^ n * 2 ^ n := by rw [← Nat.pow_add]; congr 1; omega
      rw [e, Nat.pow_zero, Nat.mul_one]
      exact Nat.mul_lt_mul'' hb (Nat.lt_trans lt hb)
    · obtain ⟨k, rfl⟩ : ∃ k, i = k + 1 := ⟨i - 1, by omega⟩
      have h2 : 2 * (x % y) ≤ x := by
        have h1 := Nat.div_add_mod x y
        have h3 : 1 ≤ x / y := (Nat.one_le_div_iff (Nat.pos_of_ne_zero hy)).mpr (Nat.le_of_lt hxy)
        have h4 : y ≤ y * (x / y) := Nat.le_mul_of_pos_right y h3
        omega
      have e : y * (x % y) * 2 ^ (k + 1) = y * (2 * (x % y)) * 2 ^ k := by rw [Nat.pow_succ]; generalize x % y = r; generalize 2 ^ k = p; grind
      rw [e]
      refine Nat.lt_of_le_of_lt ?_ hp
      rw [Nat.mul_comm x y]
      exact Nat.mul_le_mul_right _ (Nat.mul_le_mul_left _ h2)
theorem Euc.zero {t b n i x y : Nat} (h : Euc t b n i x y) (hy : y = 0) : x = Nat.gcd t b := by rw [← h.1, hy, Nat.gcd_zero_right]
theorem Euc.stop {t b n x y : Nat} (h : Euc t b n (2 * n + 3) x y) : y = 0 := by
  obtain ⟨_, h⟩ := h
  rcases h with ⟨h, _⟩ | ⟨_, hxy, hp⟩
  · omega
  · rcases Nat.eq_zero_or_pos y with z | z
    · exact z
    · exfalso
      have hx : 1 ≤ x * y := Nat.mul_pos (Nat.lt_trans z hxy) z
      have h1 : 1 * 2 ^ (2 * n + 3 - 1) ≤ x * y * 2 ^ (2 * n + 3 - 1) := Nat.mul_le_mul_right _ hx
      have h2 : (2 : Nat) ^ (2 * n) < 2 ^ (2 * n + 3 - 1) := Nat.pow_lt_pow_right (by decide) (by omega)
      omega
/-- a fraction by its parts, below a positive bottom -/
theorem fr_pos (t : Int) {b : Nat} (hb : 0 < b) : t.fdiv ((Nat.gcd t.natAbs b : Nat) : Int) = (fr t b).num ∧ ((b : Int)).fdiv ((Nat.gcd t.natAbs b : Nat) : Int) = ((fr t b).den : Int) ∧ Nat.gcd t.natAbs b ≠ 0 := by
  have h := fr_parts t (b := (b : Int)) (by omega)
  rw [if_neg (by omega)] at h
  exact ⟨h.1, h.2.1, fun z => Nat.ne_of_gt hb (Nat.eq_zero_of_gcd_eq_zero_right z)⟩
end Pb

/-! The text by places, the defs' data, the facts. Printed by gen_head.py. -/
namespace Pn
open PySem PySem.Spec PyProof.Rows L2
def top (i : Nat) : Stmt := PySem.Challenge.pw_plumbnet_k62_whole_parts_make_the_whole.main.body.getD i (.Pass ⟨0, 0, 0, 0⟩)
abbrev sm_Ratio_init : Stmt := inClass (top 15) 0
abbrev sm_Ratio_add : Stmt := inClass (top 15) 1
abbrev sm_Ratio_sub : Stmt := inClass (top 15) 2
abbrev sm_Ratio_mul : Stmt := inClass (top 15) 3
abbrev sm_Ratio_neg : Stmt := inClass (top 15) 4
abbrev sm_Ratio_eq : Stmt := inClass (top 15) 6
abbrev sm_Ratio_over : Stmt := inClass (top 15) 12
abbrev sm_Reading_init : Stmt := inClass (top 20) 0
abbrev sf_terms_fit : Stmt := top 21
abbrev sm_Book_init : Stmt := inClass (top 22) 0
abbrev sm_Book_require_point : Stmt := inClass (top 22) 2
abbrev sm_Book_add_point : Stmt := inClass (top 22) 3
abbrev sm_Book_add_reading : Stmt := inClass (top 22) 4
abbrev sf_row_of : Stmt := top 23
abbrev sf_dot : Stmt := top 25
abbrev sf_scale : Stmt := top 26
abbrev sf_plus : Stmt := top 27
abbrev sf_minus : Stmt := top 28
abbrev sf_zero : Stmt := top 29
abbrev sf_unit : Stmt := top 30
abbrev sf_is_zero : Stmt := top 31
abbrev sf_transpose : Stmt := top 33
abbrev sf_apply : Stmt := top 34
abbrev sf_product : Stmt := top 35
abbrev sf_identity : Stmt := top 36
abbrev sf_zeros : Stmt := top 37
abbrev sf_outer : Stmt := top 38
abbrev sf_sum_of : Stmt := top 39
abbrev sf_scaled : Stmt := top 40
abbrev sf_pivot_row : Stmt := top 42
abbrev sf_cleared : Stmt := top 43
abbrev sf_reduced : Stmt := top 44
abbrev sf_kernel : Stmt := top 45
abbrev sf_inverse_of : Stmt := top 47
abbrev sf_pseudo_inverse : Stmt := top 48
abbrev sf_add_term : Stmt := top 49
abbrev sf_with_added : Stmt := top 50
abbrev sm_Form_init : Stmt := inClass (top 52) 0
abbrev sf_require_points : Stmt := top 53
abbrev sf_sums_of : Stmt := top 54
abbrev sf_block : Stmt := top 55
abbrev sf_pick : Stmt := top 56
abbrev sf_places_of : Stmt := top 57
abbrev sf_border_form : Stmt := top 58
abbrev sf_spread : Stmt := top 59
abbrev sf_entry : Stmt := top 60
abbrev sf_join : Stmt := top 61
abbrev sf_value_at : Stmt := top 62
abbrev sf_nearest : Stmt := top 63
abbrev sf_least_of : Stmt := top 64
abbrev sf_inner_heights : Stmt := top 65
abbrev sf_widened : Stmt := top 69
abbrev sm_Net_init : Stmt := inClass (top 70) 0
abbrev sm_Net_add_point : Stmt := inClass (top 70) 1
abbrev sm_Net_row : Stmt := inClass (top 70) 2
abbrev sm_Net_tally : Stmt := inClass (top 70) 4
abbrev sm_Net_put : Stmt := inClass (top 70) 5
abbrev sm_Net_add : Stmt := inClass (top 70) 7
abbrev sm_Net_rows : Stmt := inClass (top 70) 11
abbrev sm_Net_heights : Stmt := inClass (top 70) 12
abbrev sm_Net_squares : Stmt := inClass (top 70) 14
abbrev sm_Net_movements : Stmt := inClass (top 70) 16
abbrev sf_net_of : Stmt := top 71
abbrev sf_law_tape : Stmt := top 73
abbrev sf_law_draw : Stmt := top 74
abbrev sf_law_take : Stmt := top 75
abbrev sf_law_common : Stmt := top 76
abbrev sf_law_pair : Stmt := top 77
abbrev sf_law_number : Stmt := top 78
abbrev sf_law_plus : Stmt := top 79
abbrev sf_law_times : Stmt := top 80
abbrev sf_law_made : Stmt := top 81
abbrev sf_law_is : Stmt := top 82
abbrev sf_law_terms : Stmt := top 83
abbrev sf_law_survey : Stmt := top 84
abbrev sf_law_book : Stmt := top 85
abbrev sf_law_misfit : Stmt := top 86
abbrev sf_law_squares : Stmt := top 87
abbrev sf_law_pairs : Stmt := top 88
abbrev sf_law_heights : Stmt := top 90
abbrev sf_law_joined : Stmt := top 91
abbrev sf_law_parts : Stmt := top 92
abbrev sf_law : Stmt := top 93
def dm_Ratio_init : He.DefD := ⟨("Ratio", some "__init__"), "__init__", "Ratio.__init__", defArgs sm_Ratio_init, defBody sm_Ratio_init, defScope sm_Ratio_init, [.int 1], []⟩
def dm_Ratio_add : He.DefD := ⟨("Ratio", some "__add__"), "__add__", "Ratio.__add__", defArgs sm_Ratio_add, defBody sm_Ratio_add, defScope sm_Ratio_add, [], []⟩
def dm_Ratio_sub : He.DefD := ⟨("Ratio", some "__sub__"), "__sub__", "Ratio.__sub__", defArgs sm_Ratio_sub, defBody sm_Ratio_sub, defScope sm_Ratio_sub, [], []⟩
def dm_Ratio_mul : He.DefD := ⟨("Ratio", some "__mul__"), "__mul__", "Ratio.__mul__", defArgs sm_Ratio_mul, defBody sm_Ratio_mul, defScope sm_Ratio_mul, [], []⟩
def dm_Ratio_neg : He.DefD := ⟨("Ratio", some "__neg__"), "__neg__", "Ratio.__neg__", defArgs sm_Ratio_neg, defBody sm_Ratio_neg, defScope sm_Ratio_neg, [], []⟩
def dm_Ratio_eq : He.DefD := ⟨("Ratio", some "__eq__"), "__eq__", "Ratio.__eq__", defArgs sm_Ratio_eq, defBody sm_Ratio_eq, defScope sm_Ratio_eq, [], []⟩
def dm_Ratio_over : He.DefD := ⟨("Ratio", some "over"), "over", "Ratio.over", defArgs sm_Ratio_over, defBody sm_Ratio_over, defScope sm_Ratio_over, [], []⟩
def dm_Reading_init : He.DefD := ⟨("Reading", some "__init__"), "__init__", "Reading.__init__", defArgs sm_Reading_init, defBody sm_Reading_init, defScope sm_Reading_init, [], []⟩
def df_terms_fit : He.DefD := ⟨("terms_fit", none), "terms_fit", "terms_fit", defArgs sf_terms_fit, defBody sf_terms_fit, defScope sf_terms_fit, [], []⟩
def dm_Book_init : He.DefD := ⟨("Book", some "__init__"), "__init__", "Book.__init__", defArgs sm_Book_init, defBody sm_Book_init, defScope sm_Book_init, [], []⟩
def dm_Book_require_point : He.DefD := ⟨("Book", some "require_point"), "require_point", "Book.require_point", defArgs sm_Book_require_point, defBody sm_Book_require_point, defScope sm_Book_require_point, [], []⟩
def dm_Book_add_point : He.DefD := ⟨("Book", some "add_point"), "add_point", "Book.add_point", defArgs sm_Book_add_point, defBody sm_Book_add_point, defScope sm_Book_add_point, [], []⟩
def dm_Book_add_reading : He.DefD := ⟨("Book", some "add_reading"), "add_reading", "Book.add_reading", defArgs sm_Book_add_reading, defBody sm_Book_add_reading, defScope sm_Book_add_reading, [], []⟩
def df_row_of : He.DefD := ⟨("row_of", none), "row_of", "row_of", defArgs sf_row_of, defBody sf_row_of, defScope sf_row_of, [], []⟩
def df_dot : He.DefD := ⟨("dot", none), "dot", "dot", defArgs sf_dot, defBody sf_dot, defScope sf_dot, [], []⟩
def df_scale : He.DefD := ⟨("scale", none), "scale", "scale", defArgs sf_scale, defBody sf_scale, defScope sf_scale, [], []⟩
def df_plus : He.DefD := ⟨("plus", none), "plus", "plus", defArgs sf_plus, defBody sf_plus, defScope sf_plus, [], []⟩
def df_minus : He.DefD := ⟨("minus", none), "minus", "minus", defArgs sf_minus, defBody sf_minus, defScope sf_minus, [], []⟩
def df_zero : He.DefD := ⟨("zero", none), "zero", "zero", defArgs sf_zero, defBody sf_zero, defScope sf_zero, [], []⟩
def df_unit : He.DefD := ⟨("unit", none), "unit", "unit", defArgs sf_unit, defBody sf_unit, defScope sf_unit, [], []⟩
def df_is_zero : He.DefD := ⟨("is_zero", none), "is_zero", "is_zero", defArgs sf_is_zero, defBody sf_is_zero, defScope sf_is_zero, [], []⟩
def df_transpose : He.DefD := ⟨("transpose", none), "transpose", "transpose", defArgs sf_transpose, defBody sf_transpose, defScope sf_transpose, [], []⟩
def df_apply : He.DefD := ⟨("apply", none), "apply", "apply", defArgs sf_apply, defBody sf_apply, defScope sf_apply, [], []⟩
def df_product : He.DefD := ⟨("product", none), "product", "product", defArgs sf_product, defBody sf_product, defScope sf_product, [], []⟩
def df_identity : He.DefD := ⟨("identity", none), "identity", "identity", defArgs sf_identity, defBody sf_identity, defScope sf_identity, [], []⟩
def df_zeros : He.DefD := ⟨("zeros", none), "zeros", "zeros", defArgs sf_zeros, defBody sf_zeros, defScope sf_zeros, [], []⟩
def df_outer : He.DefD := ⟨("outer", none), "outer", "outer", defArgs sf_outer, defBody sf_outer, defScope sf_outer, [], []⟩
def df_sum_of : He.DefD := ⟨("sum_of", none), "sum_of", "sum_of", defArgs sf_sum_of, defBody sf_sum_of, defScope sf_sum_of, [], []⟩
def df_scaled : He.DefD := ⟨("scaled", none), "scaled", "scaled", defArgs sf_scaled, defBody sf_scaled, defScope sf_scaled, [], []⟩
def df_pivot_row : He.DefD := ⟨("pivot_row", none), "pivot_row", "pivot_row", defArgs sf_pivot_row, defBody sf_pivot_row, defScope sf_pivot_row, [], []⟩
def df_cleared : He.DefD := ⟨("cleared", none), "cleared", "cleared", defArgs sf_cleared, defBody sf_cleared, defScope sf_cleared, [], []⟩
def df_reduced : He.DefD := ⟨("reduced", none), "reduced", "reduced", defArgs sf_reduced, defBody sf_reduced, defScope sf_reduced, [], []⟩
def df_kernel : He.DefD := ⟨("kernel", none), "kernel", "kernel", defArgs sf_kernel, defBody sf_kernel, defScope sf_kernel, [], []⟩
def df_inverse_of : He.DefD := ⟨("inverse_of", none), "inverse_of", "inverse_of", defArgs sf_inverse_of, defBody sf_inverse_of, defScope sf_inverse_of, [], []⟩
def df_pseudo_inverse : He.DefD := ⟨("pseudo_inverse", none), "pseudo_inverse", "pseudo_inverse", defArgs sf_pseudo_inverse, defBody sf_pseudo_inverse, defScope sf_pseudo_inverse, [], []⟩
def df_add_term : He.DefD := ⟨("add_term", none), "add_term", "add_term", defArgs sf_add_term, defBody sf_add_term, defScope sf_add_term, [], []⟩
def df_with_added : He.DefD := ⟨("with_added", none), "with_added", "with_added", defArgs sf_with_added, defBody sf_with_added, defScope sf_with_added, [], []⟩
def dm_Form_init : He.DefD := ⟨("Form", some "__init__"), "__init__", "Form.__init__", defArgs sm_Form_init, defBody sm_Form_init, defScope sm_Form_init, [], []⟩
def df_require_points : He.DefD := ⟨("require_points", none), "require_points", "require_points", defArgs sf_require_points, defBody sf_require_points, defScope sf_require_points, [], []⟩
def df_sums_of : He.DefD := ⟨("sums_of", none), "sums_of", "sums_of", defArgs sf_sums_of, defBody sf_sums_of, defScope sf_sums_of, [], []⟩
def df_block : He.DefD := ⟨("block", none), "block", "block", defArgs sf_block, defBody sf_block, defScope sf_block, [], []⟩
def df_pick : He.DefD := ⟨("pick", none), "pick", "pick", defArgs sf_pick, defBody sf_pick, defScope sf_pick, [], []⟩
def df_places_of : He.DefD := ⟨("places_of", none), "places_of", "places_of", defArgs sf_places_of, defBody sf_places_of, defScope sf_places_of, [], []⟩
def df_border_form : He.DefD := ⟨("border_form", none), "border_form", "border_form", defArgs sf_border_form, defBody sf_border_form, defScope sf_border_form, [], []⟩
def df_spread : He.DefD := ⟨("spread", none), "spread", "spread", defArgs sf_spread, defBody sf_spread, defScope sf_spread, [], []⟩
def df_entry : He.DefD := ⟨("entry", none), "entry", "entry", defArgs sf_entry, defBody sf_entry, defScope sf_entry, [], []⟩
def df_join : He.DefD := ⟨("join", none), "join", "join", defArgs sf_join, defBody sf_join, defScope sf_join, [], []⟩
def df_value_at : He.DefD := ⟨("value_at", none), "value_at", "value_at", defArgs sf_value_at, defBody sf_value_at, defScope sf_value_at, [], []⟩
def df_nearest : He.DefD := ⟨("nearest", none), "nearest", "nearest", defArgs sf_nearest, defBody sf_nearest, defScope sf_nearest, [], []⟩
def df_least_of : He.DefD := ⟨("least_of", none), "least_of", "least_of", defArgs sf_least_of, defBody sf_least_of, defScope sf_least_of, [], []⟩
def df_inner_heights : He.DefD := ⟨("inner_heights", none), "inner_heights", "inner_heights", defArgs sf_inner_heights, defBody sf_inner_heights, defScope sf_inner_heights, [], []⟩
def df_widened : He.DefD := ⟨("widened", none), "widened", "widened", defArgs sf_widened, defBody sf_widened, defScope sf_widened, [], []⟩
def dm_Net_init : He.DefD := ⟨("Net", some "__init__"), "__init__", "Net.__init__", defArgs sm_Net_init, defBody sm_Net_init, defScope sm_Net_init, [], []⟩
def dm_Net_add_point : He.DefD := ⟨("Net", some "add_point"), "add_point", "Net.add_point", defArgs sm_Net_add_point, defBody sm_Net_add_point, defScope sm_Net_add_point, [], []⟩
def dm_Net_row : He.DefD := ⟨("Net", some "row"), "row", "Net.row", defArgs sm_Net_row, defBody sm_Net_row, defScope sm_Net_row, [], []⟩
def dm_Net_tally : He.DefD := ⟨("Net", some "tally"), "tally", "Net.tally", defArgs sm_Net_tally, defBody sm_Net_tally, defScope sm_Net_tally, [], []⟩
def dm_Net_put : He.DefD := ⟨("Net", some "put"), "put", "Net.put", defArgs sm_Net_put, defBody sm_Net_put, defScope sm_Net_put, [], []⟩
def dm_Net_add : He.DefD := ⟨("Net", some "add"), "add", "Net.add", defArgs sm_Net_add, defBody sm_Net_add, defScope sm_Net_add, [], []⟩
def dm_Net_rows : He.DefD := ⟨("Net", some "rows"), "rows", "Net.rows", defArgs sm_Net_rows, defBody sm_Net_rows, defScope sm_Net_rows, [], []⟩
def dm_Net_heights : He.DefD := ⟨("Net", some "heights"), "heights", "Net.heights", defArgs sm_Net_heights, defBody sm_Net_heights, defScope sm_Net_heights, [], []⟩
def dm_Net_squares : He.DefD := ⟨("Net", some "squares"), "squares", "Net.squares", defArgs sm_Net_squares, defBody sm_Net_squares, defScope sm_Net_squares, [], []⟩
def dm_Net_movements : He.DefD := ⟨("Net", some "movements"), "movements", "Net.movements", defArgs sm_Net_movements, defBody sm_Net_movements, defScope sm_Net_movements, [], []⟩
def df_net_of : He.DefD := ⟨("net_of", none), "net_of", "net_of", defArgs sf_net_of, defBody sf_net_of, defScope sf_net_of, [], []⟩
def df_law_tape : He.DefD := ⟨("_law_tape", none), "_law_tape", "_law_tape", defArgs sf_law_tape, defBody sf_law_tape, defScope sf_law_tape, [], []⟩
def df_law_draw : He.DefD := ⟨("_law_draw", none), "_law_draw", "_law_draw", defArgs sf_law_draw, defBody sf_law_draw, defScope sf_law_draw, [], []⟩
def df_law_take : He.DefD := ⟨("_law_take", none), "_law_take", "_law_take", defArgs sf_law_take, defBody sf_law_take, defScope sf_law_take, [], []⟩
def df_law_common : He.DefD := ⟨("_law_common", none), "_law_common", "_law_common", defArgs sf_law_common, defBody sf_law_common, defScope sf_law_common, [], []⟩
def df_law_pair : He.DefD := ⟨("_law_pair", none), "_law_pair", "_law_pair", defArgs sf_law_pair, defBody sf_law_pair, defScope sf_law_pair, [], []⟩
def df_law_number : He.DefD := ⟨("_law_number", none), "_law_number", "_law_number", defArgs sf_law_number, defBody sf_law_number, defScope sf_law_number, [], []⟩
def df_law_plus : He.DefD := ⟨("_law_plus", none), "_law_plus", "_law_plus", defArgs sf_law_plus, defBody sf_law_plus, defScope sf_law_plus, [], []⟩
def df_law_times : He.DefD := ⟨("_law_times", none), "_law_times", "_law_times", defArgs sf_law_times, defBody sf_law_times, defScope sf_law_times, [], []⟩
def df_law_made : He.DefD := ⟨("_law_made", none), "_law_made", "_law_made", defArgs sf_law_made, defBody sf_law_made, defScope sf_law_made, [], []⟩
def df_law_is : He.DefD := ⟨("_law_is", none), "_law_is", "_law_is", defArgs sf_law_is, defBody sf_law_is, defScope sf_law_is, [], []⟩
def df_law_terms : He.DefD := ⟨("_law_terms", none), "_law_terms", "_law_terms", defArgs sf_law_terms, defBody sf_law_terms, defScope sf_law_terms, [], []⟩
def df_law_survey : He.DefD := ⟨("_law_survey", none), "_law_survey", "_law_survey", defArgs sf_law_survey, defBody sf_law_survey, defScope sf_law_survey, [], []⟩
def df_law_book : He.DefD := ⟨("_law_book", none), "_law_book", "_law_book", defArgs sf_law_book, defBody sf_law_book, defScope sf_law_book, [], []⟩
def df_law_misfit : He.DefD := ⟨("_law_misfit", none), "_law_misfit", "_law_misfit", defArgs sf_law_misfit, defBody sf_law_misfit, defScope sf_law_misfit, [], []⟩
def df_law_squares : He.DefD := ⟨("_law_squares", none), "_law_squares", "_law_squares", defArgs sf_law_squares, defBody sf_law_squares, defScope sf_law_squares, [], []⟩
def df_law_pairs : He.DefD := ⟨("_law_pairs", none), "_law_pairs", "_law_pairs", defArgs sf_law_pairs, defBody sf_law_pairs, defScope sf_law_pairs, [], []⟩
def df_law_heights : He.DefD := ⟨("_law_heights", none), "_law_heights", "_law_heights", defArgs sf_law_heights, defBody sf_law_heights, defScope sf_law_heights, [], []⟩
def df_law_joined : He.DefD := ⟨("_law_joined", none), "_law_joined", "_law_joined", defArgs sf_law_joined, defBody sf_law_joined, defScope sf_law_joined, [], []⟩
def df_law_parts : He.DefD := ⟨("_law_parts", none), "_law_parts", "_law_parts", defArgs sf_law_parts, defBody sf_law_parts, defScope sf_law_parts, [], []⟩
def df_law : He.DefD := ⟨("law", none), "law", "law", defArgs sf_law, defBody sf_law, defScope sf_law, [], []⟩
def fn0 : List He.DefD := [dm_Ratio_init, dm_Ratio_add, dm_Ratio_sub, dm_Ratio_mul, dm_Ratio_neg, dm_Ratio_eq, dm_Ratio_over, dm_Reading_init, df_terms_fit, dm_Book_init, dm_Book_require_point, dm_Book_add_point, dm_Book_add_reading, df_row_of, df_dot, df_scale, df_plus, df_minus, df_zero, df_unit, df_is_zero, df_transpose, df_apply, df_product, df_identity]
def fn1 : List He.DefD := [df_zeros, df_outer, df_sum_of, df_scaled, df_pivot_row, df_cleared, df_reduced, df_kernel, df_inverse_of, df_pseudo_inverse, df_add_term, df_with_added, dm_Form_init, df_require_points, df_sums_of, df_block, df_pick, df_places_of, df_border_form, df_spread, df_entry, df_join, df_value_at, df_nearest, df_least_of]
def fn2 : List He.DefD := [df_inner_heights, df_widened, dm_Net_init, dm_Net_add_point, dm_Net_row, dm_Net_tally, dm_Net_put, dm_Net_add, dm_Net_rows, dm_Net_heights, dm_Net_squares, dm_Net_movements, df_net_of, df_law_tape, df_law_draw, df_law_take, df_law_common, df_law_pair, df_law_number, df_law_plus, df_law_times, df_law_made, df_law_is, df_law_terms, df_law_survey]
def fn3 : List He.DefD := [df_law_book, df_law_misfit, df_law_squares, df_law_pairs, df_law_heights, df_law_joined, df_law_parts, df_law]
def fn : List He.DefD := fn0 ++ (fn1 ++ (fn2 ++ (fn3)))
def fa0 : List He.Fa := [.glo "Ratio", .cls "Ratio", .mkr "Ratio", .noat "Ratio" "top", .noat "Ratio" "bottom", .meth "Ratio" "__add__", .meth "Ratio" "__sub__", .meth "Ratio" "__mul__", .meth "Ratio" "__neg__", .meth "Ratio" "__eq__", .meth "Ratio" "over", .glo "Reading", .cls "Reading", .mkr "Reading", .noat "Reading" "name", .noat "Reading" "terms", .noat "Reading" "value", .noat "Reading" "weight", .glo "terms_fit", .glo "Book", .cls "Book", .mkr "Book", .noat "Book" "points", .noat "Book" "approximations", .noat "Book" "readings"]
def fa1 : List He.Fa := [.meth "Book" "require_point", .meth "Book" "add_point", .meth "Book" "add_reading", .glo "row_of", .glo "dot", .glo "scale", .glo "plus", .glo "minus", .glo "zero", .glo "unit", .glo "is_zero", .glo "transpose", .glo "apply", .glo "product", .glo "identity", .glo "zeros", .glo "outer", .glo "sum_of", .glo "scaled", .glo "pivot_row", .glo "cleared", .glo "reduced", .glo "kernel", .glo "inverse_of", .glo "pseudo_inverse"]
def fa2 : List He.Fa := [.glo "add_term", .glo "with_added", .glo "Form", .cls "Form", .mkr "Form", .noat "Form" "names", .noat "Form" "matrix", .noat "Form" "vector", .noat "Form" "constant", .glo "require_points", .glo "sums_of", .glo "block", .glo "pick", .glo "places_of", .glo "border_form", .glo "spread", .glo "entry", .glo "join", .glo "value_at", .glo "nearest", .glo "least_of", .glo "inner_heights", .glo "widened", .glo "Net", .cls "Net"]
def fa3 : List He.Fa := [.mkr "Net", .noat "Net" "points", .noat "Net" "approximations", .noat "Net" "readings", .noat "Net" "normal", .noat "Net" "inverse", .noat "Net" "right", .noat "Net" "total", .meth "Net" "add_point", .meth "Net" "row", .meth "Net" "tally", .meth "Net" "put", .meth "Net" "add", .meth "Net" "rows", .meth "Net" "heights", .meth "Net" "squares", .meth "Net" "movements", .glo "net_of", .glo "_law_tape", .glo "_law_draw", .glo "_law_take", .glo "_law_common", .glo "_law_pair", .glo "_law_number", .glo "_law_plus"]
def fa4 : List He.Fa := [.glo "_law_times", .glo "_law_made", .glo "_law_is", .glo "_law_terms", .glo "_law_survey", .glo "_law_book", .glo "_law_misfit", .glo "_law_squares", .glo "_law_pairs", .glo "_law_heights", .glo "_law_joined", .glo "_law_parts", .glo "law", .int "MOST_COEFFICIENT" 9, .int "MOST_POINTS_books" 12, .int "MOST_READINGS_books" 24, .int "MOST_POINTS_adjust" 12, .int "MOST_READINGS_adjust" 24, .free "len", .free "tuple", .free "zip", .free "range", .free "enumerate", .free "list", .free "dict"]
def fa5 : List He.Fa := [.free "sorted", .free "isinstance", .free "abs", .free "int", .free "str", .free "bool"]
def fa : List He.Fa := fa0 ++ (fa1 ++ (fa2 ++ (fa3 ++ (fa4 ++ (fa5)))))
def nm0 : List PySem.Str := ["_wall", "SurveyError", "BadNumber", "ZeroDivisor", "UnknownPoint", "UnknownReading", "DuplicateName", "BadReading", "LimitReached", "MOST_DIGITS", "DIGITS", "read_digits", "Ratio", "MOST_POINTS_books", "MOST_READINGS_books", "MOST_COEFFICIENT", "Reading", "terms_fit", "Book", "row_of", "dot", "scale", "plus", "minus", "zero"]
def nm1 : List PySem.Str := ["unit", "is_zero", "transpose", "apply", "product", "identity", "zeros", "outer", "sum_of", "scaled", "pivot_row", "cleared", "reduced", "kernel", "inverse_of", "pseudo_inverse", "add_term", "with_added", "Form", "require_points", "sums_of", "block", "pick", "places_of", "border_form"]
def nm2 : List PySem.Str := ["spread", "entry", "join", "value_at", "nearest", "least_of", "inner_heights", "MOST_POINTS_adjust", "MOST_READINGS_adjust", "widened", "Net", "net_of", "_law_tape", "_law_draw", "_law_take", "_law_common", "_law_pair", "_law_number", "_law_plus", "_law_times", "_law_made", "_law_is", "_law_terms", "_law_survey", "_law_book"]
def nm3 : List PySem.Str := ["_law_misfit", "_law_squares", "_law_pairs", "_law_drawn", "_law_heights", "_law_joined", "_law_parts"]
def nm : List PySem.Str := nm0 ++ (nm1 ++ (nm2 ++ (nm3)))
end Pn

set_option Elab.async false
set_option linter.all false
set_option maxRecDepth 100000
set_option maxHeartbeats 0
/-! The head: what the top leaves, by one run of the kernel. -/
namespace Pn
open PySem PySem.Spec PyProof.Rows L2
/-! ### more facts of the written part -/
def gcdB (K : PySem.W.Frag) : Bool := match PySem.W.nsIn K mainGlobals "gcd" with
  | some (some (.builtin id)) => decide (id = "math.gcd")
  | _ => false
def neB (K : PySem.W.Frag) : Bool := match PySem.W.findIn K (.ref (He.ga K "Ratio")) "__ne__" with
  | some (some (.builtin id)) => decide (id = "object.__ne__")
  | _ => false
def bmB (K : PySem.W.Frag) : Bool := match PySem.W.nsIn K mainGlobals "__builtins__" with
  | some (some (.ref bm)) => (match K.lookup bm with
    | some ⟨.type c, some d, _, _⟩ => decide (c = "module") && decide (d = builtinsNs)
    | _ => false)
  | _ => false
def nsB (K : PySem.W.Frag) (a : Addr) (x : Str) : Bool := PySem.W.nsOkIn K a && He.eqO (PySem.W.nsIn K a x) (some none)
def exA (K : PySem.W.Frag) : Bool := (gcdB K && PySem.W.selfFirst K (He.ga K "Ratio")) && (neB K && (bmB K && ((nsB K cStatics Audit.hooksKey && nsB K cStatics "sys.dict") && nsB K sysModules "_pylong")))
/-- isinstance of a Ratio -/
def isB (K : PySem.W.Frag) : Bool := (He.eqO (PySem.W.findIn K (.ref (He.ga K "Ratio")) "__class__") (some (some (.builtin "object.__class__"))) && He.eqO (PySem.W.specialIn K (.builtin "object.__class__") "__get__") (some (some (.builtin "getset_descriptor.__get__")))) &&
  (decide (PySem.W.takesIn K (.builtin "object.__class__") = some true) && (decide (PySem.W.mroIn K (He.ga K "Ratio") (.type "object") = some true) && decide (PySem.W.kitOne K (.ref (He.ga K "Ratio")) (.ref (He.ga K "Ratio")) = some true)))
/-- the classes stand apart -/
def dstB (K : PySem.W.Frag) : Bool := decide ([He.ga K "Ratio", He.ga K "Reading", He.ga K "Form", He.ga K "Net", He.ga K "Book"].Nodup)
def tf : List He.Defn := [("border_form", none), ("join", none), ("inner_heights", none)]
/-- their tables of code objects stand apart -/
def tbB (K : PySem.W.Frag) : Bool := decide ((tf.map fun p => (He.cT K p).2).Nodup)
def ex (K : PySem.W.Frag) : Bool := exA K && (isB K && (dstB K && tbB K))
/-! ### the Hook: two more objects to start from -/
def refsZ (o : Obj) : List Addr := match o.data with
  | .dict es _ => es.toList.flatMap fun e => He.refV e.val
  | .func fd => He.refV fd.code ++ He.refV fd.defaults
  | .cls cd => cd.ns :: cd.mro.flatMap He.refV
  | _ => []
def nextZ (g : Addr → Option Obj) (as : List Addr) : List Addr := as.flatMap fun a => match g a with
  | some o => refsZ o
  | none => []
def asY (g : Addr → Option Obj) : List Addr :=
  let l1 := nextZ g [mainGlobals]
  let l2 := nextZ g l1
  let l3 := nextZ g l2
  mainGlobals :: (l1 ++ (l2 ++ (l3 ++ (nextZ g l3 ++ [cStatics, sysModules]))))
def obsY (g : Addr → Option Obj) : He.AlX :=
  let K := He.frT g (asY g)
  (He.obsT fa fn [] K, ex K && He.tabsB g tf K)
theorem saysY_of {w : World} {h : Heap} (e : obsY h.get? = He.valX fn [] w) : He.SaysX fa fn [] tf ex w h (He.frT h.get? (asY h.get?)) := by
  obtain ⟨a, b⟩ := Prod.mk.inj (show (He.obsT fa fn [] (He.frT h.get? (asY h.get?)), ex (He.frT h.get? (asY h.get?)) && He.tabsB h.get? tf (He.frT h.get? (asY h.get?))) = (He.valT fn [] w, true) from e)
  obtain ⟨b1, b2⟩ := He.ba b
  generalize hK : He.frT h.get? (asY h.get?) = K at a b1 b2
  have each : ∀ p, p ∈ tf → ∃ o, h.get? (He.cT K p).2 = some o ∧ He.emptyTab o = true ∧ PySem.W.codeHdIn K (He.cT K p).1 (He.cT K p).2 = true := by
    intro p hp
    have q := List.all_eq_true.mp b2 p hp
    obtain ⟨q1, q2⟩ := He.ba q
    revert q2
    cases z : h.get? (He.cT K p).2 with
    | none => intro q2; cases q2
    | some o => intro q2; exact ⟨o, rfl, q2, q1⟩
  constructor
  · exact a
  · exact b1
  · intro p hp; obtain ⟨_, _, _, q⟩ := each p hp; exact q
  · intro p hp; obtain ⟨o, z, q, _⟩ := each p hp; rw [← hK] at z ⊢; exact He.frT_none z q
  · intro p hp; obtain ⟨o, z, q, _⟩ := each p hp; rw [z, He.emptyTab_eq q]
def hk : PySem.W.Hook where
  α := He.AlX
  obs := fun s => obsY s.heap.get?
  val := fun w => He.valX fn [] w
  says := fun w h => ∃ K : PySem.W.Frag, K.In h ∧ He.SaysX fa fn [] tf ex w h K
  of := fun _ _ e => ⟨_, He.frT_in, saysY_of e⟩
  keeps := by
    rintro w h h' ⟨K, hK, c⟩ k
    exact ⟨K, hK.keeps k, c.t, c.more, c.hd, c.out, fun p hp => k _ _ (c.empty p hp)⟩
abbrev R : PySem.W.OpenRow := PySem.W.OpenLaw.row PySem.Challenge.rw_plumbnet_k62_whole_parts_make_the_whole
def ob (s : PySem.W.SharedT) : He.AlX := obsY (HandSHeadRun.getT s)
theorem ob_eq (s : PySem.W.SharedT) : ob s = hk.obs s.abs := by
  have e : HandSHeadRun.getT s = s.abs.heap.get? := funext fun a => HandSHeadRun.getT_eq s a
  unfold ob
  rw [e]
  rfl
theorem run (w : World) : HandSHeadRun.RunEqI R (PySem.W.view R.prog [0, 93]) hk ob 7000 nm w := by
  unfold HandSHeadRun.RunEqI
  kernel_rfl
end Pn
set_option maxHeartbeats 8000000

/-! Every fact and every def of the text by its name. Printed by gen_head.py. -/
namespace Pn
open PySem PySem.Spec PyProof.Rows L2
/-- the function object of a def -/
def fdA (K : PySem.W.Frag) (d : He.DefD) : FuncData := match K.lookup (He.fAd K d.at_) with
  | some ⟨_, _, .func fd, _⟩ => fd
  | _ => default
theorem fd_at {K : PySem.W.Frag} {d : He.DefD} (c : ∃ fd, FunD K d.name d.qual d.params d.body d.scope (d.dvs K) (d.kws K) (He.fAd K d.at_) fd) : FunD K d.name d.qual d.params d.body d.scope (d.dvs K) (d.kws K) (He.fAd K d.at_) (fdA K d) := by
  obtain ⟨fd, F⟩ := c
  have e : fdA K d = fd := by
    obtain ⟨oc, od, dV, kV, doc, pm, an, cdv, ct, osl, _, lk, _⟩ := F.ex
    unfold fdA
    rw [lk]
  rw [e]
  exact F
/-- what is known of the program, its top, a heap behind it -/
structure Cxt (P : Program) (K : PySem.W.Frag) (mg : Str → Option Value) (base : Heap) : Prop where
  inb : K.In base
  ns : base.Ns mainGlobals mg
  d : He.SaysD fa fn K
  more : ex K = true
  tree : P.given.tree = none
  tabs : ∀ p ∈ tf, LamX.TabB base mg (He.cT K p).1 (He.cT K p).2
section
variable {P : Program} {K : PySem.W.Frag} {mg : Str → Option Value} {base : Heap}
theorem Cxt.g_Ratio (c : Cxt P K mg base) : mg "Ratio" = some (.ref (He.ga K "Ratio")) := He.glo_ok c.inb c.ns (c.d.fact 0 (f := .glo "Ratio") rfl)
theorem Cxt.c_Ratio (c : Cxt P K mg base) : Cls K (He.ga K "Ratio") := He.cls_ok (c.d.fact 1 (f := .cls "Ratio") rfl)
theorem Cxt.k_Ratio (c : Cxt P K mg base) : Mk K (He.ga K "Ratio") (He.ma K (He.ga K "Ratio") "__init__") := He.mkr_ok (c.d.fact 2 (f := .mkr "Ratio") rfl)
theorem Cxt.n_Ratio_top (c : Cxt P K mg base) : NoAttr K (He.ga K "Ratio") "top" := He.noat_ok (c.d.fact 3 (f := .noat "Ratio" "top") rfl)
theorem Cxt.n_Ratio_bottom (c : Cxt P K mg base) : NoAttr K (He.ga K "Ratio") "bottom" := He.noat_ok (c.d.fact 4 (f := .noat "Ratio" "bottom") rfl)
theorem Cxt.m_Ratio_add (c : Cxt P K mg base) : Meth K (He.ga K "Ratio") "__add__" (He.ma K (He.ga K "Ratio") "__add__") := He.meth_ok (c.d.fact 5 (f := .meth "Ratio" "__add__") rfl)
theorem Cxt.m_Ratio_sub (c : Cxt P K mg base) : Meth K (He.ga K "Ratio") "__sub__" (He.ma K (He.ga K "Ratio") "__sub__") := He.meth_ok (c.d.fact 6 (f := .meth "Ratio" "__sub__") rfl)
theorem Cxt.m_Ratio_mul (c : Cxt P K mg base) : Meth K (He.ga K "Ratio") "__mul__" (He.ma K (He.ga K "Ratio") "__mul__") := He.meth_ok (c.d.fact 7 (f := .meth "Ratio" "__mul__") rfl)
theorem Cxt.m_Ratio_neg (c : Cxt P K mg base) : Meth K (He.ga K "Ratio") "__neg__" (He.ma K (He.ga K "Ratio") "__neg__") := He.meth_ok (c.d.fact 8 (f := .meth "Ratio" "__neg__") rfl)
theorem Cxt.m_Ratio_eq (c : Cxt P K mg base) : Meth K (He.ga K "Ratio") "__eq__" (He.ma K (He.ga K "Ratio") "__eq__") := He.meth_ok (c.d.fact 9 (f := .meth "Ratio" "__eq__") rfl)
theorem Cxt.m_Ratio_over (c : Cxt P K mg base) : Meth K (He.ga K "Ratio") "over" (He.ma K (He.ga K "Ratio") "over") := He.meth_ok (c.d.fact 10 (f := .meth "Ratio" "over") rfl)
theorem Cxt.g_Reading (c : Cxt P K mg base) : mg "Reading" = some (.ref (He.ga K "Reading")) := He.glo_ok c.inb c.ns (c.d.fact 11 (f := .glo "Reading") rfl)
theorem Cxt.c_Reading (c : Cxt P K mg base) : Cls K (He.ga K "Reading") := He.cls_ok (c.d.fact 12 (f := .cls "Reading") rfl)
theorem Cxt.k_Reading (c : Cxt P K mg base) : Mk K (He.ga K "Reading") (He.ma K (He.ga K "Reading") "__init__") := He.mkr_ok (c.d.fact 13 (f := .mkr "Reading") rfl)
theorem Cxt.n_Reading_name (c : Cxt P K mg base) : NoAttr K (He.ga K "Reading") "name" := He.noat_ok (c.d.fact 14 (f := .noat "Reading" "name") rfl)
theorem Cxt.n_Reading_terms (c : Cxt P K mg base) : NoAttr K (He.ga K "Reading") "terms" := He.noat_ok (c.d.fact 15 (f := .noat "Reading" "terms") rfl)
theorem Cxt.n_Reading_value (c : Cxt P K mg base) : NoAttr K (He.ga K "Reading") "value" := He.noat_ok (c.d.fact 16 (f := .noat "Reading" "value") rfl)
theorem Cxt.n_Reading_weight (c : Cxt P K mg base) : NoAttr K (He.ga K "Reading") "weight" := He.noat_ok (c.d.fact 17 (f := .noat "Reading" "weight") rfl)
theorem Cxt.g_terms_fit (c : Cxt P K mg base) : mg "terms_fit" = some (.ref (He.ga K "terms_fit")) := He.glo_ok c.inb c.ns (c.d.fact 18 (f := .glo "terms_fit") rfl)
theorem Cxt.g_Book (c : Cxt P K mg base) : mg "Book" = some (.ref (He.ga K "Book")) := He.glo_ok c.inb c.ns (c.d.fact 19 (f := .glo "Book") rfl)
theorem Cxt.c_Book (c : Cxt P K mg base) : Cls K (He.ga K "Book") := He.cls_ok (c.d.fact 20 (f := .cls "Book") rfl)
theorem Cxt.k_Book (c : Cxt P K mg base) : Mk K (He.ga K "Book") (He.ma K (He.ga K "Book") "__init__") := He.mkr_ok (c.d.fact 21 (f := .mkr "Book") rfl)
theorem Cxt.n_Book_points (c : Cxt P K mg base) : NoAttr K (He.ga K "Book") "points" := He.noat_ok (c.d.fact 22 (f := .noat "Book" "points") rfl)
theorem Cxt.n_Book_approximations (c : Cxt P K mg base) : NoAttr K (He.ga K "Book") "approximations" := He.noat_ok (c.d.fact 23 (f := .noat "Book" "approximations") rfl)
theorem Cxt.n_Book_readings (c : Cxt P K mg base) : NoAttr K (He.ga K "Book") "readings" := He.noat_ok (c.d.fact 24 (f := .noat "Book" "readings") rfl)
theorem Cxt.m_Book_require_point (c : Cxt P K mg base) : Meth K (He.ga K "Book") "require_point" (He.ma K (He.ga K "Book") "require_point") := He.meth_ok (c.d.fact 25 (f := .meth "Book" "require_point") rfl)
theorem Cxt.m_Book_add_point (c : Cxt P K mg base) : Meth K (He.ga K "Book") "add_point" (He.ma K (He.ga K "Book") "add_point") := He.meth_ok (c.d.fact 26 (f := .meth "Book" "add_point") rfl)
theorem Cxt.m_Book_add_reading (c : Cxt P K mg base) : Meth K (He.ga K "Book") "add_reading" (He.ma K (He.ga K "Book") "add_reading") := He.meth_ok (c.d.fact 27 (f := .meth "Book" "add_reading") rfl)
theorem Cxt.g_row_of (c : Cxt P K mg base) : mg "row_of" = some (.ref (He.ga K "row_of")) := He.glo_ok c.inb c.ns (c.d.fact 28 (f := .glo "row_of") rfl)
theorem Cxt.g_dot (c : Cxt P K mg base) : mg "dot" = some (.ref (He.ga K "dot")) := He.glo_ok c.inb c.ns (c.d.fact 29 (f := .glo "dot") rfl)
theorem Cxt.g_scale (c : Cxt P K mg base) : mg "scale" = some (.ref (He.ga K "scale")) := He.glo_ok c.inb c.ns (c.d.fact 30 (f := .glo "scale") rfl)
theorem Cxt.g_plus (c : Cxt P K mg base) : mg "plus" = some (.ref (He.ga K "plus")) := He.glo_ok c.inb c.ns (c.d.fact 31 (f := .glo "plus") rfl)
theorem Cxt.g_minus (c : Cxt P K mg base) : mg "minus" = some (.ref (He.ga K "minus")) := He.glo_ok c.inb c.ns (c.d.fact 32 (f := .glo "minus") rfl)
theorem Cxt.g_zero (c : Cxt P K mg base) : mg "zero" = some (.ref (He.ga K "zero")) := He.glo_ok c.inb c.ns (c.d.fact 33 (f := .glo "zero") rfl)
theorem Cxt.g_unit (c : Cxt P K mg base) : mg "unit" = some (.ref (He.ga K "unit")) := He.glo_ok c.inb c.ns (c.d.fact 34 (f := .glo "unit") rfl)
theorem Cxt.g_is_zero (c : Cxt P K mg base) : mg "is_zero" = some (.ref (He.ga K "is_zero")) := He.glo_ok c.inb c.ns (c.d.fact 35 (f := .glo "is_zero") rfl)
theorem Cxt.g_transpose (c : Cxt P K mg base) : mg "transpose" = some (.ref (He.ga K "transpose")) := He.glo_ok c.inb c.ns (c.d.fact 36 (f := .glo "transpose") rfl)
theorem Cxt.g_apply (c : Cxt P K mg base) : mg "apply" = some (.ref (He.ga K "apply")) := He.glo_ok c.inb c.ns (c.d.fact 37 (f := .glo "apply") rfl)
theorem Cxt.g_product (c : Cxt P K mg base) : mg "product" = some (.ref (He.ga K "product")) := He.glo_ok c.inb c.ns (c.d.fact 38 (f := .glo "product") rfl)
theorem Cxt.g_identity (c : Cxt P K mg base) : mg "identity" = some (.ref (He.ga K "identity")) := He.glo_ok c.inb c.ns (c.d.fact 39 (f := .glo "identity") rfl)
theorem Cxt.g_zeros (c : Cxt P K mg base) : mg "zeros" = some (.ref (He.ga K "zeros")) := He.glo_ok c.inb c.ns (c.d.fact 40 (f := .glo "zeros") rfl)
theorem Cxt.g_outer (c : Cxt P K mg base) : mg "outer" = some (.ref (He.ga K "outer")) := He.glo_ok c.inb c.ns (c.d.fact 41 (f := .glo "outer") rfl)
theorem Cxt.g_sum_of (c : Cxt P K mg base) : mg "sum_of" = some (.ref (He.ga K "sum_of")) := He.glo_ok c.inb c.ns (c.d.fact 42 (f := .glo "sum_of") rfl)
theorem Cxt.g_scaled (c : Cxt P K mg base) : mg "scaled" = some (.ref (He.ga K "scaled")) := He.glo_ok c.inb c.ns (c.d.fact 43 (f := .glo "scaled") rfl)
theorem Cxt.g_pivot_row (c : Cxt P K mg base) : mg "pivot_row" = some (.ref (He.ga K "pivot_row")) := He.glo_ok c.inb c.ns (c.d.fact 44 (f := .glo "pivot_row") rfl)
theorem Cxt.g_cleared (c : Cxt P K mg base) : mg "cleared" = some (.ref (He.ga K "cleared")) := He.glo_ok c.inb c.ns (c.d.fact 45 (f := .glo "cleared") rfl)
theorem Cxt.g_reduced (c : Cxt P K mg base) : mg "reduced" = some (.ref (He.ga K "reduced")) := He.glo_ok c.inb c.ns (c.d.fact 46 (f := .glo "reduced") rfl)
theorem Cxt.g_kernel (c : Cxt P K mg base) : mg "kernel" = some (.ref (He.ga K "kernel")) := He.glo_ok c.inb c.ns (c.d.fact 47 (f := .glo "kernel") rfl)
theorem Cxt.g_inverse_of (c : Cxt P K mg base) : mg "inverse_of" = some (.ref (He.ga K "inverse_of")) := He.glo_ok c.inb c.ns (c.d.fact 48 (f := .glo "inverse_of") rfl)
theorem Cxt.g_pseudo_inverse (c : Cxt P K mg base) : mg "pseudo_inverse" = some (.ref (He.ga K "pseudo_inverse")) := He.glo_ok c.inb c.ns (c.d.fact 49 (f := .glo "pseudo_inverse") rfl)
theorem Cxt.g_add_term (c : Cxt P K mg base) : mg "add_term" = some (.ref (He.ga K "add_term")) := He.glo_ok c.inb c.ns (c.d.fact 50 (f := .glo "add_term") rfl)
theorem Cxt.g_with_added (c : Cxt P K mg base) : mg "with_added" = some (.ref (He.ga K "with_added")) := He.glo_ok c.inb c.ns (c.d.fact 51 (f := .glo "with_added") rfl)
theorem Cxt.g_Form (c : Cxt P K mg base) : mg "Form" = some (.ref (He.ga K "Form")) := He.glo_ok c.inb c.ns (c.d.fact 52 (f := .glo "Form") rfl)
theorem Cxt.c_Form (c : Cxt P K mg base) : Cls K (He.ga K "Form") := He.cls_ok (c.d.fact 53 (f := .cls "Form") rfl)
theorem Cxt.k_Form (c : Cxt P K mg base) : Mk K (He.ga K "Form") (He.ma K (He.ga K "Form") "__init__") := He.mkr_ok (c.d.fact 54 (f := .mkr "Form") rfl)
theorem Cxt.n_Form_names (c : Cxt P K mg base) : NoAttr K (He.ga K "Form") "names" := He.noat_ok (c.d.fact 55 (f := .noat "Form" "names") rfl)
theorem Cxt.n_Form_matrix (c : Cxt P K mg base) : NoAttr K (He.ga K "Form") "matrix" := He.noat_ok (c.d.fact 56 (f := .noat "Form" "matrix") rfl)
theorem Cxt.n_Form_vector (c : Cxt P K mg base) : NoAttr K (He.ga K "Form") "vector" := He.noat_ok (c.d.fact 57 (f := .noat "Form" "vector") rfl)
theorem Cxt.n_Form_constant (c : Cxt P K mg base) : NoAttr K (He.ga K "Form") "constant" := He.noat_ok (c.d.fact 58 (f := .noat "Form" "constant") rfl)
theorem Cxt.g_require_points (c : Cxt P K mg base) : mg "require_points" = some (.ref (He.ga K "require_points")) := He.glo_ok c.inb c.ns (c.d.fact 59 (f := .glo "require_points") rfl)
theorem Cxt.g_sums_of (c : Cxt P K mg base) : mg "sums_of" = some (.ref (He.ga K "sums_of")) := He.glo_ok c.inb c.ns (c.d.fact 60 (f := .glo "sums_of") rfl)
theorem Cxt.g_block (c : Cxt P K mg base) : mg "block" = some (.ref (He.ga K "block")) := He.glo_ok c.inb c.ns (c.d.fact 61 (f := .glo "block") rfl)
theorem Cxt.g_pick (c : Cxt P K mg base) : mg "pick" = some (.ref (He.ga K "pick")) := He.glo_ok c.inb c.ns (c.d.fact 62 (f := .glo "pick") rfl)
theorem Cxt.g_places_of (c : Cxt P K mg base) : mg "places_of" = some (.ref (He.ga K "places_of")) := He.glo_ok c.inb c.ns (c.d.fact 63 (f := .glo "places_of") rfl)
theorem Cxt.g_border_form (c : Cxt P K mg base) : mg "border_form" = some (.ref (He.ga K "border_form")) := He.glo_ok c.inb c.ns (c.d.fact 64 (f := .glo "border_form") rfl)
theorem Cxt.g_spread (c : Cxt P K mg base) : mg "spread" = some (.ref (He.ga K "spread")) := He.glo_ok c.inb c.ns (c.d.fact 65 (f := .glo "spread") rfl)
theorem Cxt.g_entry (c : Cxt P K mg base) : mg "entry" = some (.ref (He.ga K "entry")) := He.glo_ok c.inb c.ns (c.d.fact 66 (f := .glo "entry") rfl)
theorem Cxt.g_join (c : Cxt P K mg base) : mg "join" = some (.ref (He.ga K "join")) := He.glo_ok c.inb c.ns (c.d.fact 67 (f := .glo "join") rfl)
theorem Cxt.g_value_at (c : Cxt P K mg base) : mg "value_at" = some (.ref (He.ga K "value_at")) := He.glo_ok c.inb c.ns (c.d.fact 68 (f := .glo "value_at") rfl)
theorem Cxt.g_nearest (c : Cxt P K mg base) : mg "nearest" = some (.ref (He.ga K "nearest")) := He.glo_ok c.inb c.ns (c.d.fact 69 (f := .glo "nearest") rfl)
theorem Cxt.g_least_of (c : Cxt P K mg base) : mg "least_of" = some (.ref (He.ga K "least_of")) := He.glo_ok c.inb c.ns (c.d.fact 70 (f := .glo "least_of") rfl)
theorem Cxt.g_inner_heights (c : Cxt P K mg base) : mg "inner_heights" = some (.ref (He.ga K "inner_heights")) := He.glo_ok c.inb c.ns (c.d.fact 71 (f := .glo "inner_heights") rfl)
theorem Cxt.g_widened (c : Cxt P K mg base) : mg "widened" = some (.ref (He.ga K "widened")) := He.glo_ok c.inb c.ns (c.d.fact 72 (f := .glo "widened") rfl)
theorem Cxt.g_Net (c : Cxt P K mg base) : mg "Net" = some (.ref (He.ga K "Net")) := He.glo_ok c.inb c.ns (c.d.fact 73 (f := .glo "Net") rfl)
theorem Cxt.c_Net (c : Cxt P K mg base) : Cls K (He.ga K "Net") := He.cls_ok (c.d.fact 74 (f := .cls "Net") rfl)
theorem Cxt.k_Net (c : Cxt P K mg base) : Mk K (He.ga K "Net") (He.ma K (He.ga K "Net") "__init__") := He.mkr_ok (c.d.fact 75 (f := .mkr "Net") rfl)
theorem Cxt.n_Net_points (c : Cxt P K mg base) : NoAttr K (He.ga K "Net") "points" := He.noat_ok (c.d.fact 76 (f := .noat "Net" "points") rfl)
theorem Cxt.n_Net_approximations (c : Cxt P K mg base) : NoAttr K (He.ga K "Net") "approximations" := He.noat_ok (c.d.fact 77 (f := .noat "Net" "approximations") rfl)
theorem Cxt.n_Net_readings (c : Cxt P K mg base) : NoAttr K (He.ga K "Net") "readings" := He.noat_ok (c.d.fact 78 (f := .noat "Net" "readings") rfl)
theorem Cxt.n_Net_normal (c : Cxt P K mg base) : NoAttr K (He.ga K "Net") "normal" := He.noat_ok (c.d.fact 79 (f := .noat "Net" "normal") rfl)
theorem Cxt.n_Net_inverse (c : Cxt P K mg base) : NoAttr K (He.ga K "Net") "inverse" := He.noat_ok (c.d.fact 80 (f := .noat "Net" "inverse") rfl)
theorem Cxt.n_Net_right (c : Cxt P K mg base) : NoAttr K (He.ga K "Net") "right" := He.noat_ok (c.d.fact 81 (f := .noat "Net" "right") rfl)
theorem Cxt.n_Net_total (c : Cxt P K mg base) : NoAttr K (He.ga K "Net") "total" := He.noat_ok (c.d.fact 82 (f := .noat "Net" "total") rfl)
theorem Cxt.m_Net_add_point (c : Cxt P K mg base) : Meth K (He.ga K "Net") "add_point" (He.ma K (He.ga K "Net") "add_point") := He.meth_ok (c.d.fact 83 (f := .meth "Net" "add_point") rfl)
theorem Cxt.m_Net_row (c : Cxt P K mg base) : Meth K (He.ga K "Net") "row" (He.ma K (He.ga K "Net") "row") := He.meth_ok (c.d.fact 84 (f := .meth "Net" "row") rfl)
theorem Cxt.m_Net_tally (c : Cxt P K mg base) : Meth K (He.ga K "Net") "tally" (He.ma K (He.ga K "Net") "tally") := He.meth_ok (c.d.fact 85 (f := .meth "Net" "tally") rfl)
theorem Cxt.m_Net_put (c : Cxt P K mg base) : Meth K (He.ga K "Net") "put" (He.ma K (He.ga K "Net") "put") := He.meth_ok (c.d.fact 86 (f := .meth "Net" "put") rfl)
theorem Cxt.m_Net_add (c : Cxt P K mg base) : Meth K (He.ga K "Net") "add" (He.ma K (He.ga K "Net") "add") := He.meth_ok (c.d.fact 87 (f := .meth "Net" "add") rfl)
theorem Cxt.m_Net_rows (c : Cxt P K mg base) : Meth K (He.ga K "Net") "rows" (He.ma K (He.ga K "Net") "rows") := He.meth_ok (c.d.fact 88 (f := .meth "Net" "rows") rfl)
theorem Cxt.m_Net_heights (c : Cxt P K mg base) : Meth K (He.ga K "Net") "heights" (He.ma K (He.ga K "Net") "heights") := He.meth_ok (c.d.fact 89 (f := .meth "Net" "heights") rfl)
theorem Cxt.m_Net_squares (c : Cxt P K mg base) : Meth K (He.ga K "Net") "squares" (He.ma K (He.ga K "Net") "squares") := He.meth_ok (c.d.fact 90 (f := .meth "Net" "squares") rfl)
theorem Cxt.m_Net_movements (c : Cxt P K mg base) : Meth K (He.ga K "Net") "movements" (He.ma K (He.ga K "Net") "movements") := He.meth_ok (c.d.fact 91 (f := .meth "Net" "movements") rfl)
theorem Cxt.g_net_of (c : Cxt P K mg base) : mg "net_of" = some (.ref (He.ga K "net_of")) := He.glo_ok c.inb c.ns (c.d.fact 92 (f := .glo "net_of") rfl)
theorem Cxt.g_law_tape (c : Cxt P K mg base) : mg "_law_tape" = some (.ref (He.ga K "_law_tape")) := He.glo_ok c.inb c.ns (c.d.fact 93 (f := .glo "_law_tape") rfl)
theorem Cxt.g_law_draw (c : Cxt P K mg base) : mg "_law_draw" = some (.ref (He.ga K "_law_draw")) := He.glo_ok c.inb c.ns (c.d.fact 94 (f := .glo "_law_draw") rfl)
theorem Cxt.g_law_take (c : Cxt P K mg base) : mg "_law_take" = some (.ref (He.ga K "_law_take")) := He.glo_ok c.inb c.ns (c.d.fact 95 (f := .glo "_law_take") rfl)
theorem Cxt.g_law_common (c : Cxt P K mg base) : mg "_law_common" = some (.ref (He.ga K "_law_common")) := He.glo_ok c.inb c.ns (c.d.fact 96 (f := .glo "_law_common") rfl)
theorem Cxt.g_law_pair (c : Cxt P K mg base) : mg "_law_pair" = some (.ref (He.ga K "_law_pair")) := He.glo_ok c.inb c.ns (c.d.fact 97 (f := .glo "_law_pair") rfl)
theorem Cxt.g_law_number (c : Cxt P K mg base) : mg "_law_number" = some (.ref (He.ga K "_law_number")) := He.glo_ok c.inb c.ns (c.d.fact 98 (f := .glo "_law_number") rfl)
theorem Cxt.g_law_plus (c : Cxt P K mg base) : mg "_law_plus" = some (.ref (He.ga K "_law_plus")) := He.glo_ok c.inb c.ns (c.d.fact 99 (f := .glo "_law_plus") rfl)
theorem Cxt.g_law_times (c : Cxt P K mg base) : mg "_law_times" = some (.ref (He.ga K "_law_times")) := He.glo_ok c.inb c.ns (c.d.fact 100 (f := .glo "_law_times") rfl)
theorem Cxt.g_law_made (c : Cxt P K mg base) : mg "_law_made" = some (.ref (He.ga K "_law_made")) := He.glo_ok c.inb c.ns (c.d.fact 101 (f := .glo "_law_made") rfl)
theorem Cxt.g_law_is (c : Cxt P K mg base) : mg "_law_is" = some (.ref (He.ga K "_law_is")) := He.glo_ok c.inb c.ns (c.d.fact 102 (f := .glo "_law_is") rfl)
theorem Cxt.g_law_terms (c : Cxt P K mg base) : mg "_law_terms" = some (.ref (He.ga K "_law_terms")) := He.glo_ok c.inb c.ns (c.d.fact 103 (f := .glo "_law_terms") rfl)
theorem Cxt.g_law_survey (c : Cxt P K mg base) : mg "_law_survey" = some (.ref (He.ga K "_law_survey")) := He.glo_ok c.inb c.ns (c.d.fact 104 (f := .glo "_law_survey") rfl)
theorem Cxt.g_law_book (c : Cxt P K mg base) : mg "_law_book" = some (.ref (He.ga K "_law_book")) := He.glo_ok c.inb c.ns (c.d.fact 105 (f := .glo "_law_book") rfl)
theorem Cxt.g_law_misfit (c : Cxt P K mg base) : mg "_law_misfit" = some (.ref (He.ga K "_law_misfit")) := He.glo_ok c.inb c.ns (c.d.fact 106 (f := .glo "_law_misfit") rfl)
theorem Cxt.g_law_squares (c : Cxt P K mg base) : mg "_law_squares" = some (.ref (He.ga K "_law_squares")) := He.glo_ok c.inb c.ns (c.d.fact 107 (f := .glo "_law_squares") rfl)
theorem Cxt.g_law_pairs (c : Cxt P K mg base) : mg "_law_pairs" = some (.ref (He.ga K "_law_pairs")) := He.glo_ok c.inb c.ns (c.d.fact 108 (f := .glo "_law_pairs") rfl)
theorem Cxt.g_law_heights (c : Cxt P K mg base) : mg "_law_heights" = some (.ref (He.ga K "_law_heights")) := He.glo_ok c.inb c.ns (c.d.fact 109 (f := .glo "_law_heights") rfl)
theorem Cxt.g_law_joined (c : Cxt P K mg base) : mg "_law_joined" = some (.ref (He.ga K "_law_joined")) := He.glo_ok c.inb c.ns (c.d.fact 110 (f := .glo "_law_joined") rfl)
theorem Cxt.g_law_parts (c : Cxt P K mg base) : mg "_law_parts" = some (.ref (He.ga K "_law_parts")) := He.glo_ok c.inb c.ns (c.d.fact 111 (f := .glo "_law_parts") rfl)
theorem Cxt.g_law (c : Cxt P K mg base) : mg "law" = some (.ref (He.ga K "law")) := He.glo_ok c.inb c.ns (c.d.fact 112 (f := .glo "law") rfl)
theorem Cxt.i_MOST_COEFFICIENT (c : Cxt P K mg base) : ∃ t, mg "MOST_COEFFICIENT" = some (.int 9 t) := He.int_ok c.inb c.ns (c.d.fact 113 (f := .int "MOST_COEFFICIENT" 9) rfl)
theorem Cxt.i_MOST_POINTS_books (c : Cxt P K mg base) : ∃ t, mg "MOST_POINTS_books" = some (.int 12 t) := He.int_ok c.inb c.ns (c.d.fact 114 (f := .int "MOST_POINTS_books" 12) rfl)
theorem Cxt.i_MOST_READINGS_books (c : Cxt P K mg base) : ∃ t, mg "MOST_READINGS_books" = some (.int 24 t) := He.int_ok c.inb c.ns (c.d.fact 115 (f := .int "MOST_READINGS_books" 24) rfl)
theorem Cxt.i_MOST_POINTS_adjust (c : Cxt P K mg base) : ∃ t, mg "MOST_POINTS_adjust" = some (.int 12 t) := He.int_ok c.inb c.ns (c.d.fact 116 (f := .int "MOST_POINTS_adjust" 12) rfl)
theorem Cxt.i_MOST_READINGS_adjust (c : Cxt P K mg base) : ∃ t, mg "MOST_READINGS_adjust" = some (.int 24 t) := He.int_ok c.inb c.ns (c.d.fact 117 (f := .int "MOST_READINGS_adjust" 24) rfl)
theorem Cxt.z_len (c : Cxt P K mg base) : mg "len" = none := He.free_ok c.inb c.ns (c.d.fact 118 (f := .free "len") rfl)
theorem Cxt.z_tuple (c : Cxt P K mg base) : mg "tuple" = none := He.free_ok c.inb c.ns (c.d.fact 119 (f := .free "tuple") rfl)
theorem Cxt.z_zip (c : Cxt P K mg base) : mg "zip" = none := He.free_ok c.inb c.ns (c.d.fact 120 (f := .free "zip") rfl)
theorem Cxt.z_range (c : Cxt P K mg base) : mg "range" = none := He.free_ok c.inb c.ns (c.d.fact 121 (f := .free "range") rfl)
theorem Cxt.z_enumerate (c : Cxt P K mg base) : mg "enumerate" = none := He.free_ok c.inb c.ns (c.d.fact 122 (f := .free "enumerate") rfl)
theorem Cxt.z_list (c : Cxt P K mg base) : mg "list" = none := He.free_ok c.inb c.ns (c.d.fact 123 (f := .free "list") rfl)
theorem Cxt.z_dict (c : Cxt P K mg base) : mg "dict" = none := He.free_ok c.inb c.ns (c.d.fact 124 (f := .free "dict") rfl)
theorem Cxt.z_sorted (c : Cxt P K mg base) : mg "sorted" = none := He.free_ok c.inb c.ns (c.d.fact 125 (f := .free "sorted") rfl)
theorem Cxt.z_isinstance (c : Cxt P K mg base) : mg "isinstance" = none := He.free_ok c.inb c.ns (c.d.fact 126 (f := .free "isinstance") rfl)
theorem Cxt.z_abs (c : Cxt P K mg base) : mg "abs" = none := He.free_ok c.inb c.ns (c.d.fact 127 (f := .free "abs") rfl)
theorem Cxt.z_int (c : Cxt P K mg base) : mg "int" = none := He.free_ok c.inb c.ns (c.d.fact 128 (f := .free "int") rfl)
theorem Cxt.z_str (c : Cxt P K mg base) : mg "str" = none := He.free_ok c.inb c.ns (c.d.fact 129 (f := .free "str") rfl)
theorem Cxt.z_bool (c : Cxt P K mg base) : mg "bool" = none := He.free_ok c.inb c.ns (c.d.fact 130 (f := .free "bool") rfl)
theorem Cxt.Fm_Ratio_init (c : Cxt P K mg base) : FunD K dm_Ratio_init.name dm_Ratio_init.qual dm_Ratio_init.params dm_Ratio_init.body dm_Ratio_init.scope (dm_Ratio_init.dvs K) (dm_Ratio_init.kws K) (He.fAd K dm_Ratio_init.at_) (fdA K dm_Ratio_init) := fd_at (c.d.def_ 0 (d := dm_Ratio_init) rfl)
theorem Cxt.Fm_Ratio_add (c : Cxt P K mg base) : FunD K dm_Ratio_add.name dm_Ratio_add.qual dm_Ratio_add.params dm_Ratio_add.body dm_Ratio_add.scope (dm_Ratio_add.dvs K) (dm_Ratio_add.kws K) (He.fAd K dm_Ratio_add.at_) (fdA K dm_Ratio_add) := fd_at (c.d.def_ 1 (d := dm_Ratio_add) rfl)
theorem Cxt.bm_Ratio_add (c : Cxt P K mg base) : Binds K (fdA K dm_Ratio_add) ["self", "other"] [] := FunD.bindsN (c.Fm_Ratio_add) fun _ _ _ _ _ _ us hl => match us, hl with | [_, _], _ => rfl
theorem Cxt.Fm_Ratio_sub (c : Cxt P K mg base) : FunD K dm_Ratio_sub.name dm_Ratio_sub.qual dm_Ratio_sub.params dm_Ratio_sub.body dm_Ratio_sub.scope (dm_Ratio_sub.dvs K) (dm_Ratio_sub.kws K) (He.fAd K dm_Ratio_sub.at_) (fdA K dm_Ratio_sub) := fd_at (c.d.def_ 2 (d := dm_Ratio_sub) rfl)
theorem Cxt.bm_Ratio_sub (c : Cxt P K mg base) : Binds K (fdA K dm_Ratio_sub) ["self", "other"] [] := FunD.bindsN (c.Fm_Ratio_sub) fun _ _ _ _ _ _ us hl => match us, hl with | [_, _], _ => rfl
theorem Cxt.Fm_Ratio_mul (c : Cxt P K mg base) : FunD K dm_Ratio_mul.name dm_Ratio_mul.qual dm_Ratio_mul.params dm_Ratio_mul.body dm_Ratio_mul.scope (dm_Ratio_mul.dvs K) (dm_Ratio_mul.kws K) (He.fAd K dm_Ratio_mul.at_) (fdA K dm_Ratio_mul) := fd_at (c.d.def_ 3 (d := dm_Ratio_mul) rfl)
theorem Cxt.bm_Ratio_mul (c : Cxt P K mg base) : Binds K (fdA K dm_Ratio_mul) ["self", "other"] [] := FunD.bindsN (c.Fm_Ratio_mul) fun _ _ _ _ _ _ us hl => match us, hl with | [_, _], _ => rfl
theorem Cxt.Fm_Ratio_neg (c : Cxt P K mg base) : FunD K dm_Ratio_neg.name dm_Ratio_neg.qual dm_Ratio_neg.params dm_Ratio_neg.body dm_Ratio_neg.scope (dm_Ratio_neg.dvs K) (dm_Ratio_neg.kws K) (He.fAd K dm_Ratio_neg.at_) (fdA K dm_Ratio_neg) := fd_at (c.d.def_ 4 (d := dm_Ratio_neg) rfl)
theorem Cxt.bm_Ratio_neg (c : Cxt P K mg base) : Binds K (fdA K dm_Ratio_neg) ["self"] [] := FunD.bindsN (c.Fm_Ratio_neg) fun _ _ _ _ _ _ us hl => match us, hl with | [_], _ => rfl
theorem Cxt.Fm_Ratio_eq (c : Cxt P K mg base) : FunD K dm_Ratio_eq.name dm_Ratio_eq.qual dm_Ratio_eq.params dm_Ratio_eq.body dm_Ratio_eq.scope (dm_Ratio_eq.dvs K) (dm_Ratio_eq.kws K) (He.fAd K dm_Ratio_eq.at_) (fdA K dm_Ratio_eq) := fd_at (c.d.def_ 5 (d := dm_Ratio_eq) rfl)
theorem Cxt.bm_Ratio_eq (c : Cxt P K mg base) : Binds K (fdA K dm_Ratio_eq) ["self", "other"] [] := FunD.bindsN (c.Fm_Ratio_eq) fun _ _ _ _ _ _ us hl => match us, hl with | [_, _], _ => rfl
theorem Cxt.Fm_Ratio_over (c : Cxt P K mg base) : FunD K dm_Ratio_over.name dm_Ratio_over.qual dm_Ratio_over.params dm_Ratio_over.body dm_Ratio_over.scope (dm_Ratio_over.dvs K) (dm_Ratio_over.kws K) (He.fAd K dm_Ratio_over.at_) (fdA K dm_Ratio_over) := fd_at (c.d.def_ 6 (d := dm_Ratio_over) rfl)
theorem Cxt.bm_Ratio_over (c : Cxt P K mg base) : Binds K (fdA K dm_Ratio_over) ["self", "other"] [] := FunD.bindsN (c.Fm_Ratio_over) fun _ _ _ _ _ _ us hl => match us, hl with | [_, _], _ => rfl
theorem Cxt.Fm_Reading_init (c : Cxt P K mg base) : FunD K dm_Reading_init.name dm_Reading_init.qual dm_Reading_init.params dm_Reading_init.body dm_Reading_init.scope (dm_Reading_init.dvs K) (dm_Reading_init.kws K) (He.fAd K dm_Reading_init.at_) (fdA K dm_Reading_init) := fd_at (c.d.def_ 7 (d := dm_Reading_init) rfl)
theorem Cxt.bm_Reading_init (c : Cxt P K mg base) : Binds K (fdA K dm_Reading_init) ["self", "name", "terms", "value", "weight"] [] := FunD.bindsN (c.Fm_Reading_init) fun _ _ _ _ _ _ us hl => match us, hl with | [_, _, _, _, _], _ => rfl
theorem Cxt.Ff_terms_fit (c : Cxt P K mg base) : FunD K df_terms_fit.name df_terms_fit.qual df_terms_fit.params df_terms_fit.body df_terms_fit.scope (df_terms_fit.dvs K) (df_terms_fit.kws K) (He.fAd K df_terms_fit.at_) (fdA K df_terms_fit) := fd_at (c.d.def_ 8 (d := df_terms_fit) rfl)
theorem Cxt.bf_terms_fit (c : Cxt P K mg base) : Binds K (fdA K df_terms_fit) ["terms"] [] := FunD.bindsN (c.Ff_terms_fit) fun _ _ _ _ _ _ us hl => match us, hl with | [_], _ => rfl
theorem Cxt.Fm_Book_init (c : Cxt P K mg base) : FunD K dm_Book_init.name dm_Book_init.qual dm_Book_init.params dm_Book_init.body dm_Book_init.scope (dm_Book_init.dvs K) (dm_Book_init.kws K) (He.fAd K dm_Book_init.at_) (fdA K dm_Book_init) := fd_at (c.d.def_ 9 (d := dm_Book_init) rfl)
theorem Cxt.bm_Book_init (c : Cxt P K mg base) : Binds K (fdA K dm_Book_init) ["self"] [] := FunD.bindsN (c.Fm_Book_init) fun _ _ _ _ _ _ us hl => match us, hl with | [_], _ => rfl
theorem Cxt.Fm_Book_require_point (c : Cxt P K mg base) : FunD K dm_Book_require_point.name dm_Book_require_point.qual dm_Book_require_point.params dm_Book_require_point.body dm_Book_require_point.scope (dm_Book_require_point.dvs K) (dm_Book_require_point.kws K) (He.fAd K dm_Book_require_point.at_) (fdA K dm_Book_require_point) := fd_at (c.d.def_ 10 (d := dm_Book_require_point) rfl)
theorem Cxt.bm_Book_require_point (c : Cxt P K mg base) : Binds K (fdA K dm_Book_require_point) ["self", "name"] [] := FunD.bindsN (c.Fm_Book_require_point) fun _ _ _ _ _ _ us hl => match us, hl with | [_, _], _ => rfl
theorem Cxt.Fm_Book_add_point (c : Cxt P K mg base) : FunD K dm_Book_add_point.name dm_Book_add_point.qual dm_Book_add_point.params dm_Book_add_point.body dm_Book_add_point.scope (dm_Book_add_point.dvs K) (dm_Book_add_point.kws K) (He.fAd K dm_Book_add_point.at_) (fdA K dm_Book_add_point) := fd_at (c.d.def_ 11 (d := dm_Book_add_point) rfl)
theorem Cxt.bm_Book_add_point (c : Cxt P K mg base) : Binds K (fdA K dm_Book_add_point) ["self", "name", "approximation"] [] := FunD.bindsN (c.Fm_Book_add_point) fun _ _ _ _ _ _ us hl => match us, hl with | [_, _, _], _ => rfl
theorem Cxt.Fm_Book_add_reading (c : Cxt P K mg base) : FunD K dm_Book_add_reading.name dm_Book_add_reading.qual dm_Book_add_reading.params dm_Book_add_reading.body dm_Book_add_reading.scope (dm_Book_add_reading.dvs K) (dm_Book_add_reading.kws K) (He.fAd K dm_Book_add_reading.at_) (fdA K dm_Book_add_reading) := fd_at (c.d.def_ 12 (d := dm_Book_add_reading) rfl)
theorem Cxt.bm_Book_add_reading (c : Cxt P K mg base) : Binds K (fdA K dm_Book_add_reading) ["self", "name", "terms", "value", "weight"] [] := FunD.bindsN (c.Fm_Book_add_reading) fun _ _ _ _ _ _ us hl => match us, hl with | [_, _, _, _, _], _ => rfl
theorem Cxt.Ff_row_of (c : Cxt P K mg base) : FunD K df_row_of.name df_row_of.qual df_row_of.params df_row_of.body df_row_of.scope (df_row_of.dvs K) (df_row_of.kws K) (He.fAd K df_row_of.at_) (fdA K df_row_of) := fd_at (c.d.def_ 13 (d := df_row_of) rfl)
theorem Cxt.bf_row_of (c : Cxt P K mg base) : Binds K (fdA K df_row_of) ["book", "reading"] [] := FunD.bindsN (c.Ff_row_of) fun _ _ _ _ _ _ us hl => match us, hl with | [_, _], _ => rfl
theorem Cxt.Ff_dot (c : Cxt P K mg base) : FunD K df_dot.name df_dot.qual df_dot.params df_dot.body df_dot.scope (df_dot.dvs K) (df_dot.kws K) (He.fAd K df_dot.at_) (fdA K df_dot) := fd_at (c.d.def_ 14 (d := df_dot) rfl)
theorem Cxt.bf_dot (c : Cxt P K mg base) : Binds K (fdA K df_dot) ["a", "b"] [] := FunD.bindsN (c.Ff_dot) fun _ _ _ _ _ _ us hl => match us, hl with | [_, _], _ => rfl
theorem Cxt.Ff_scale (c : Cxt P K mg base) : FunD K df_scale.name df_scale.qual df_scale.params df_scale.body df_scale.scope (df_scale.dvs K) (df_scale.kws K) (He.fAd K df_scale.at_) (fdA K df_scale) := fd_at (c.d.def_ 15 (d := df_scale) rfl)
theorem Cxt.bf_scale (c : Cxt P K mg base) : Binds K (fdA K df_scale) ["factor", "a"] [] := FunD.bindsN (c.Ff_scale) fun _ _ _ _ _ _ us hl => match us, hl with | [_, _], _ => rfl
theorem Cxt.Ff_plus (c : Cxt P K mg base) : FunD K df_plus.name df_plus.qual df_plus.params df_plus.body df_plus.scope (df_plus.dvs K) (df_plus.kws K) (He.fAd K df_plus.at_) (fdA K df_plus) := fd_at (c.d.def_ 16 (d := df_plus) rfl)
theorem Cxt.bf_plus (c : Cxt P K mg base) : Binds K (fdA K df_plus) ["a", "b"] [] := FunD.bindsN (c.Ff_plus) fun _ _ _ _ _ _ us hl => match us, hl with | [_, _], _ => rfl
theorem Cxt.Ff_minus (c : Cxt P K mg base) : FunD K df_minus.name df_minus.qual df_minus.params df_minus.body df_minus.scope (df_minus.dvs K) (df_minus.kws K) (He.fAd K df_minus.at_) (fdA K df_minus) := fd_at (c.d.def_ 17 (d := df_minus) rfl)
theorem Cxt.bf_minus (c : Cxt P K mg base) : Binds K (fdA K df_minus) ["a", "b"] [] := FunD.bindsN (c.Ff_minus) fun _ _ _ _ _ _ us hl => match us, hl with | [_, _], _ => rfl
theorem Cxt.Ff_zero (c : Cxt P K mg base) : FunD K df_zero.name df_zero.qual df_zero.params df_zero.body df_zero.scope (df_zero.dvs K) (df_zero.kws K) (He.fAd K df_zero.at_) (fdA K df_zero) := fd_at (c.d.def_ 18 (d := df_zero) rfl)
theorem Cxt.bf_zero (c : Cxt P K mg base) : Binds K (fdA K df_zero) ["width"] [] := FunD.bindsN (c.Ff_zero) fun _ _ _ _ _ _ us hl => match us, hl with | [_], _ => rfl
theorem Cxt.Ff_unit (c : Cxt P K mg base) : FunD K df_unit.name df_unit.qual df_unit.params df_unit.body df_unit.scope (df_unit.dvs K) (df_unit.kws K) (He.fAd K df_unit.at_) (fdA K df_unit) := fd_at (c.d.def_ 19 (d := df_unit) rfl)
theorem Cxt.bf_unit (c : Cxt P K mg base) : Binds K (fdA K df_unit) ["width", "index"] [] := FunD.bindsN (c.Ff_unit) fun _ _ _ _ _ _ us hl => match us, hl with | [_, _], _ => rfl
theorem Cxt.Ff_is_zero (c : Cxt P K mg base) : FunD K df_is_zero.name df_is_zero.qual df_is_zero.params df_is_zero.body df_is_zero.scope (df_is_zero.dvs K) (df_is_zero.kws K) (He.fAd K df_is_zero.at_) (fdA K df_is_zero) := fd_at (c.d.def_ 20 (d := df_is_zero) rfl)
theorem Cxt.bf_is_zero (c : Cxt P K mg base) : Binds K (fdA K df_is_zero) ["a"] [] := FunD.bindsN (c.Ff_is_zero) fun _ _ _ _ _ _ us hl => match us, hl with | [_], _ => rfl
theorem Cxt.Ff_transpose (c : Cxt P K mg base) : FunD K df_transpose.name df_transpose.qual df_transpose.params df_transpose.body df_transpose.scope (df_transpose.dvs K) (df_transpose.kws K) (He.fAd K df_transpose.at_) (fdA K df_transpose) := fd_at (c.d.def_ 21 (d := df_transpose) rfl)
theorem Cxt.bf_transpose (c : Cxt P K mg base) : Binds K (fdA K df_transpose) ["matrix", "width"] [] := FunD.bindsN (c.Ff_transpose) fun _ _ _ _ _ _ us hl => match us, hl with | [_, _], _ => rfl
theorem Cxt.Ff_apply (c : Cxt P K mg base) : FunD K df_apply.name df_apply.qual df_apply.params df_apply.body df_apply.scope (df_apply.dvs K) (df_apply.kws K) (He.fAd K df_apply.at_) (fdA K df_apply) := fd_at (c.d.def_ 22 (d := df_apply) rfl)
theorem Cxt.bf_apply (c : Cxt P K mg base) : Binds K (fdA K df_apply) ["matrix", "vector"] [] := FunD.bindsN (c.Ff_apply) fun _ _ _ _ _ _ us hl => match us, hl with | [_, _], _ => rfl
theorem Cxt.Ff_product (c : Cxt P K mg base) : FunD K df_product.name df_product.qual df_product.params df_product.body df_product.scope (df_product.dvs K) (df_product.kws K) (He.fAd K df_product.at_) (fdA K df_product) := fd_at (c.d.def_ 23 (d := df_product) rfl)
theorem Cxt.bf_product (c : Cxt P K mg base) : Binds K (fdA K df_product) ["first", "second", "width"] [] := FunD.bindsN (c.Ff_product) fun _ _ _ _ _ _ us hl => match us, hl with | [_, _, _], _ => rfl
theorem Cxt.Ff_identity (c : Cxt P K mg base) : FunD K df_identity.name df_identity.qual df_identity.params df_identity.body df_identity.scope (df_identity.dvs K) (df_identity.kws K) (He.fAd K df_identity.at_) (fdA K df_identity) := fd_at (c.d.def_ 24 (d := df_identity) rfl)
theorem Cxt.bf_identity (c : Cxt P K mg base) : Binds K (fdA K df_identity) ["width"] [] := FunD.bindsN (c.Ff_identity) fun _ _ _ _ _ _ us hl => match us, hl with | [_], _ => rfl
theorem Cxt.Ff_zeros (c : Cxt P K mg base) : FunD K df_zeros.name df_zeros.qual df_zeros.params df_zeros.body df_zeros.scope (df_zeros.dvs K) (df_zeros.kws K) (He.fAd K df_zeros.at_) (fdA K df_zeros) := fd_at (c.d.def_ 25 (d := df_zeros) rfl)
theorem Cxt.bf_zeros (c : Cxt P K mg base) : Binds K (fdA K df_zeros) ["height", "width"] [] := FunD.bindsN (c.Ff_zeros) fun _ _ _ _ _ _ us hl => match us, hl with | [_, _], _ => rfl
theorem Cxt.Ff_outer (c : Cxt P K mg base) : FunD K df_outer.name df_outer.qual df_outer.params df_outer.body df_outer.scope (df_outer.dvs K) (df_outer.kws K) (He.fAd K df_outer.at_) (fdA K df_outer) := fd_at (c.d.def_ 26 (d := df_outer) rfl)
theorem Cxt.bf_outer (c : Cxt P K mg base) : Binds K (fdA K df_outer) ["a", "b"] [] := FunD.bindsN (c.Ff_outer) fun _ _ _ _ _ _ us hl => match us, hl with | [_, _], _ => rfl
theorem Cxt.Ff_sum_of (c : Cxt P K mg base) : FunD K df_sum_of.name df_sum_of.qual df_sum_of.params df_sum_of.body df_sum_of.scope (df_sum_of.dvs K) (df_sum_of.kws K) (He.fAd K df_sum_of.at_) (fdA K df_sum_of) := fd_at (c.d.def_ 27 (d := df_sum_of) rfl)
theorem Cxt.bf_sum_of (c : Cxt P K mg base) : Binds K (fdA K df_sum_of) ["first", "second"] [] := FunD.bindsN (c.Ff_sum_of) fun _ _ _ _ _ _ us hl => match us, hl with | [_, _], _ => rfl
theorem Cxt.Ff_scaled (c : Cxt P K mg base) : FunD K df_scaled.name df_scaled.qual df_scaled.params df_scaled.body df_scaled.scope (df_scaled.dvs K) (df_scaled.kws K) (He.fAd K df_scaled.at_) (fdA K df_scaled) := fd_at (c.d.def_ 28 (d := df_scaled) rfl)
theorem Cxt.bf_scaled (c : Cxt P K mg base) : Binds K (fdA K df_scaled) ["factor", "matrix"] [] := FunD.bindsN (c.Ff_scaled) fun _ _ _ _ _ _ us hl => match us, hl with | [_, _], _ => rfl
theorem Cxt.Ff_pivot_row (c : Cxt P K mg base) : FunD K df_pivot_row.name df_pivot_row.qual df_pivot_row.params df_pivot_row.body df_pivot_row.scope (df_pivot_row.dvs K) (df_pivot_row.kws K) (He.fAd K df_pivot_row.at_) (fdA K df_pivot_row) := fd_at (c.d.def_ 29 (d := df_pivot_row) rfl)
theorem Cxt.bf_pivot_row (c : Cxt P K mg base) : Binds K (fdA K df_pivot_row) ["rows", "start", "column"] [] := FunD.bindsN (c.Ff_pivot_row) fun _ _ _ _ _ _ us hl => match us, hl with | [_, _, _], _ => rfl
theorem Cxt.Ff_cleared (c : Cxt P K mg base) : FunD K df_cleared.name df_cleared.qual df_cleared.params df_cleared.body df_cleared.scope (df_cleared.dvs K) (df_cleared.kws K) (He.fAd K df_cleared.at_) (fdA K df_cleared) := fd_at (c.d.def_ 30 (d := df_cleared) rfl)
theorem Cxt.bf_cleared (c : Cxt P K mg base) : Binds K (fdA K df_cleared) ["rows", "place", "column"] [] := FunD.bindsN (c.Ff_cleared) fun _ _ _ _ _ _ us hl => match us, hl with | [_, _, _], _ => rfl
theorem Cxt.Ff_reduced (c : Cxt P K mg base) : FunD K df_reduced.name df_reduced.qual df_reduced.params df_reduced.body df_reduced.scope (df_reduced.dvs K) (df_reduced.kws K) (He.fAd K df_reduced.at_) (fdA K df_reduced) := fd_at (c.d.def_ 31 (d := df_reduced) rfl)
theorem Cxt.bf_reduced (c : Cxt P K mg base) : Binds K (fdA K df_reduced) ["matrix", "width"] [] := FunD.bindsN (c.Ff_reduced) fun _ _ _ _ _ _ us hl => match us, hl with | [_, _], _ => rfl
theorem Cxt.Ff_kernel (c : Cxt P K mg base) : FunD K df_kernel.name df_kernel.qual df_kernel.params df_kernel.body df_kernel.scope (df_kernel.dvs K) (df_kernel.kws K) (He.fAd K df_kernel.at_) (fdA K df_kernel) := fd_at (c.d.def_ 32 (d := df_kernel) rfl)
theorem Cxt.bf_kernel (c : Cxt P K mg base) : Binds K (fdA K df_kernel) ["matrix", "width"] [] := FunD.bindsN (c.Ff_kernel) fun _ _ _ _ _ _ us hl => match us, hl with | [_, _], _ => rfl
theorem Cxt.Ff_inverse_of (c : Cxt P K mg base) : FunD K df_inverse_of.name df_inverse_of.qual df_inverse_of.params df_inverse_of.body df_inverse_of.scope (df_inverse_of.dvs K) (df_inverse_of.kws K) (He.fAd K df_inverse_of.at_) (fdA K df_inverse_of) := fd_at (c.d.def_ 33 (d := df_inverse_of) rfl)
theorem Cxt.bf_inverse_of (c : Cxt P K mg base) : Binds K (fdA K df_inverse_of) ["matrix"] [] := FunD.bindsN (c.Ff_inverse_of) fun _ _ _ _ _ _ us hl => match us, hl with | [_], _ => rfl
theorem Cxt.Ff_pseudo_inverse (c : Cxt P K mg base) : FunD K df_pseudo_inverse.name df_pseudo_inverse.qual df_pseudo_inverse.params df_pseudo_inverse.body df_pseudo_inverse.scope (df_pseudo_inverse.dvs K) (df_pseudo_inverse.kws K) (He.fAd K df_pseudo_inverse.at_) (fdA K df_pseudo_inverse) := fd_at (c.d.def_ 34 (d := df_pseudo_inverse) rfl)
theorem Cxt.bf_pseudo_inverse (c : Cxt P K mg base) : Binds K (fdA K df_pseudo_inverse) ["matrix", "width"] [] := FunD.bindsN (c.Ff_pseudo_inverse) fun _ _ _ _ _ _ us hl => match us, hl with | [_, _], _ => rfl
theorem Cxt.Ff_add_term (c : Cxt P K mg base) : FunD K df_add_term.name df_add_term.qual df_add_term.params df_add_term.body df_add_term.scope (df_add_term.dvs K) (df_add_term.kws K) (He.fAd K df_add_term.at_) (fdA K df_add_term) := fd_at (c.d.def_ 35 (d := df_add_term) rfl)
theorem Cxt.bf_add_term (c : Cxt P K mg base) : Binds K (fdA K df_add_term) ["matrix", "row", "weight"] [] := FunD.bindsN (c.Ff_add_term) fun _ _ _ _ _ _ us hl => match us, hl with | [_, _, _], _ => rfl
theorem Cxt.Ff_with_added (c : Cxt P K mg base) : FunD K df_with_added.name df_with_added.qual df_with_added.params df_with_added.body df_with_added.scope (df_with_added.dvs K) (df_with_added.kws K) (He.fAd K df_with_added.at_) (fdA K df_with_added) := fd_at (c.d.def_ 36 (d := df_with_added) rfl)
theorem Cxt.bf_with_added (c : Cxt P K mg base) : Binds K (fdA K df_with_added) ["matrix", "inverse", "row", "weight"] [] := FunD.bindsN (c.Ff_with_added) fun _ _ _ _ _ _ us hl => match us, hl with | [_, _, _, _], _ => rfl
theorem Cxt.Fm_Form_init (c : Cxt P K mg base) : FunD K dm_Form_init.name dm_Form_init.qual dm_Form_init.params dm_Form_init.body dm_Form_init.scope (dm_Form_init.dvs K) (dm_Form_init.kws K) (He.fAd K dm_Form_init.at_) (fdA K dm_Form_init) := fd_at (c.d.def_ 37 (d := dm_Form_init) rfl)
theorem Cxt.bm_Form_init (c : Cxt P K mg base) : Binds K (fdA K dm_Form_init) ["self", "names", "matrix", "vector", "constant"] [] := FunD.bindsN (c.Fm_Form_init) fun _ _ _ _ _ _ us hl => match us, hl with | [_, _, _, _, _], _ => rfl
theorem Cxt.Ff_require_points (c : Cxt P K mg base) : FunD K df_require_points.name df_require_points.qual df_require_points.params df_require_points.body df_require_points.scope (df_require_points.dvs K) (df_require_points.kws K) (He.fAd K df_require_points.at_) (fdA K df_require_points) := fd_at (c.d.def_ 38 (d := df_require_points) rfl)
theorem Cxt.bf_require_points (c : Cxt P K mg base) : Binds K (fdA K df_require_points) ["book", "names"] [] := FunD.bindsN (c.Ff_require_points) fun _ _ _ _ _ _ us hl => match us, hl with | [_, _], _ => rfl
theorem Cxt.Ff_sums_of (c : Cxt P K mg base) : FunD K df_sums_of.name df_sums_of.qual df_sums_of.params df_sums_of.body df_sums_of.scope (df_sums_of.dvs K) (df_sums_of.kws K) (He.fAd K df_sums_of.at_) (fdA K df_sums_of) := fd_at (c.d.def_ 39 (d := df_sums_of) rfl)
theorem Cxt.bf_sums_of (c : Cxt P K mg base) : Binds K (fdA K df_sums_of) ["book"] [] := FunD.bindsN (c.Ff_sums_of) fun _ _ _ _ _ _ us hl => match us, hl with | [_], _ => rfl
theorem Cxt.Ff_block (c : Cxt P K mg base) : FunD K df_block.name df_block.qual df_block.params df_block.body df_block.scope (df_block.dvs K) (df_block.kws K) (He.fAd K df_block.at_) (fdA K df_block) := fd_at (c.d.def_ 40 (d := df_block) rfl)
theorem Cxt.bf_block (c : Cxt P K mg base) : Binds K (fdA K df_block) ["matrix", "rows", "columns"] [] := FunD.bindsN (c.Ff_block) fun _ _ _ _ _ _ us hl => match us, hl with | [_, _, _], _ => rfl
theorem Cxt.Ff_pick (c : Cxt P K mg base) : FunD K df_pick.name df_pick.qual df_pick.params df_pick.body df_pick.scope (df_pick.dvs K) (df_pick.kws K) (He.fAd K df_pick.at_) (fdA K df_pick) := fd_at (c.d.def_ 41 (d := df_pick) rfl)
theorem Cxt.bf_pick (c : Cxt P K mg base) : Binds K (fdA K df_pick) ["vector", "places"] [] := FunD.bindsN (c.Ff_pick) fun _ _ _ _ _ _ us hl => match us, hl with | [_, _], _ => rfl
theorem Cxt.Ff_places_of (c : Cxt P K mg base) : FunD K df_places_of.name df_places_of.qual df_places_of.params df_places_of.body df_places_of.scope (df_places_of.dvs K) (df_places_of.kws K) (He.fAd K df_places_of.at_) (fdA K df_places_of) := fd_at (c.d.def_ 42 (d := df_places_of) rfl)
theorem Cxt.bf_places_of (c : Cxt P K mg base) : Binds K (fdA K df_places_of) ["book", "names"] [] := FunD.bindsN (c.Ff_places_of) fun _ _ _ _ _ _ us hl => match us, hl with | [_, _], _ => rfl
theorem Cxt.Ff_border_form (c : Cxt P K mg base) : FunD K df_border_form.name df_border_form.qual df_border_form.params df_border_form.body df_border_form.scope (df_border_form.dvs K) (df_border_form.kws K) (He.fAd K df_border_form.at_) (fdA K df_border_form) := fd_at (c.d.def_ 43 (d := df_border_form) rfl)
theorem Cxt.bf_border_form (c : Cxt P K mg base) : Binds K (fdA K df_border_form) ["book", "border"] [] := FunD.bindsN (c.Ff_border_form) fun _ _ _ _ _ _ us hl => match us, hl with | [_, _], _ => rfl
theorem Cxt.Ff_spread (c : Cxt P K mg base) : FunD K df_spread.name df_spread.qual df_spread.params df_spread.body df_spread.scope (df_spread.dvs K) (df_spread.kws K) (He.fAd K df_spread.at_) (fdA K df_spread) := fd_at (c.d.def_ 44 (d := df_spread) rfl)
theorem Cxt.bf_spread (c : Cxt P K mg base) : Binds K (fdA K df_spread) ["form", "names"] [] := FunD.bindsN (c.Ff_spread) fun _ _ _ _ _ _ us hl => match us, hl with | [_, _], _ => rfl
theorem Cxt.Ff_entry (c : Cxt P K mg base) : FunD K df_entry.name df_entry.qual df_entry.params df_entry.body df_entry.scope (df_entry.dvs K) (df_entry.kws K) (He.fAd K df_entry.at_) (fdA K df_entry) := fd_at (c.d.def_ 45 (d := df_entry) rfl)
theorem Cxt.bf_entry (c : Cxt P K mg base) : Binds K (fdA K df_entry) ["matrix", "row", "column"] [] := FunD.bindsN (c.Ff_entry) fun _ _ _ _ _ _ us hl => match us, hl with | [_, _, _], _ => rfl
theorem Cxt.Ff_join (c : Cxt P K mg base) : FunD K df_join.name df_join.qual df_join.params df_join.body df_join.scope (df_join.dvs K) (df_join.kws K) (He.fAd K df_join.at_) (fdA K df_join) := fd_at (c.d.def_ 46 (d := df_join) rfl)
theorem Cxt.bf_join (c : Cxt P K mg base) : Binds K (fdA K df_join) ["first", "second"] [] := FunD.bindsN (c.Ff_join) fun _ _ _ _ _ _ us hl => match us, hl with | [_, _], _ => rfl
theorem Cxt.Ff_value_at (c : Cxt P K mg base) : FunD K df_value_at.name df_value_at.qual df_value_at.params df_value_at.body df_value_at.scope (df_value_at.dvs K) (df_value_at.kws K) (He.fAd K df_value_at.at_) (fdA K df_value_at) := fd_at (c.d.def_ 47 (d := df_value_at) rfl)
theorem Cxt.bf_value_at (c : Cxt P K mg base) : Binds K (fdA K df_value_at) ["form", "heights"] [] := FunD.bindsN (c.Ff_value_at) fun _ _ _ _ _ _ us hl => match us, hl with | [_, _], _ => rfl
theorem Cxt.Ff_nearest (c : Cxt P K mg base) : FunD K df_nearest.name df_nearest.qual df_nearest.params df_nearest.body df_nearest.scope (df_nearest.dvs K) (df_nearest.kws K) (He.fAd K df_nearest.at_) (fdA K df_nearest) := fd_at (c.d.def_ 48 (d := df_nearest) rfl)
theorem Cxt.bf_nearest (c : Cxt P K mg base) : Binds K (fdA K df_nearest) ["matrix", "vector", "start"] [] := FunD.bindsN (c.Ff_nearest) fun _ _ _ _ _ _ us hl => match us, hl with | [_, _, _], _ => rfl
theorem Cxt.Ff_least_of (c : Cxt P K mg base) : FunD K df_least_of.name df_least_of.qual df_least_of.params df_least_of.body df_least_of.scope (df_least_of.dvs K) (df_least_of.kws K) (He.fAd K df_least_of.at_) (fdA K df_least_of) := fd_at (c.d.def_ 49 (d := df_least_of) rfl)
theorem Cxt.bf_least_of (c : Cxt P K mg base) : Binds K (fdA K df_least_of) ["form", "approximations"] [] := FunD.bindsN (c.Ff_least_of) fun _ _ _ _ _ _ us hl => match us, hl with | [_, _], _ => rfl
theorem Cxt.Ff_inner_heights (c : Cxt P K mg base) : FunD K df_inner_heights.name df_inner_heights.qual df_inner_heights.params df_inner_heights.body df_inner_heights.scope (df_inner_heights.dvs K) (df_inner_heights.kws K) (He.fAd K df_inner_heights.at_) (fdA K df_inner_heights) := fd_at (c.d.def_ 50 (d := df_inner_heights) rfl)
theorem Cxt.bf_inner_heights (c : Cxt P K mg base) : Binds K (fdA K df_inner_heights) ["book", "heights"] [] := FunD.bindsN (c.Ff_inner_heights) fun _ _ _ _ _ _ us hl => match us, hl with | [_, _], _ => rfl
theorem Cxt.Ff_widened (c : Cxt P K mg base) : FunD K df_widened.name df_widened.qual df_widened.params df_widened.body df_widened.scope (df_widened.dvs K) (df_widened.kws K) (He.fAd K df_widened.at_) (fdA K df_widened) := fd_at (c.d.def_ 51 (d := df_widened) rfl)
theorem Cxt.bf_widened (c : Cxt P K mg base) : Binds K (fdA K df_widened) ["matrix"] [] := FunD.bindsN (c.Ff_widened) fun _ _ _ _ _ _ us hl => match us, hl with | [_], _ => rfl
theorem Cxt.Fm_Net_init (c : Cxt P K mg base) : FunD K dm_Net_init.name dm_Net_init.qual dm_Net_init.params dm_Net_init.body dm_Net_init.scope (dm_Net_init.dvs K) (dm_Net_init.kws K) (He.fAd K dm_Net_init.at_) (fdA K dm_Net_init) := fd_at (c.d.def_ 52 (d := dm_Net_init) rfl)
theorem Cxt.bm_Net_init (c : Cxt P K mg base) : Binds K (fdA K dm_Net_init) ["self"] [] := FunD.bindsN (c.Fm_Net_init) fun _ _ _ _ _ _ us hl => match us, hl with | [_], _ => rfl
theorem Cxt.Fm_Net_add_point (c : Cxt P K mg base) : FunD K dm_Net_add_point.name dm_Net_add_point.qual dm_Net_add_point.params dm_Net_add_point.body dm_Net_add_point.scope (dm_Net_add_point.dvs K) (dm_Net_add_point.kws K) (He.fAd K dm_Net_add_point.at_) (fdA K dm_Net_add_point) := fd_at (c.d.def_ 53 (d := dm_Net_add_point) rfl)
theorem Cxt.bm_Net_add_point (c : Cxt P K mg base) : Binds K (fdA K dm_Net_add_point) ["self", "name", "approximation"] [] := FunD.bindsN (c.Fm_Net_add_point) fun _ _ _ _ _ _ us hl => match us, hl with | [_, _, _], _ => rfl
theorem Cxt.Fm_Net_row (c : Cxt P K mg base) : FunD K dm_Net_row.name dm_Net_row.qual dm_Net_row.params dm_Net_row.body dm_Net_row.scope (dm_Net_row.dvs K) (dm_Net_row.kws K) (He.fAd K dm_Net_row.at_) (fdA K dm_Net_row) := fd_at (c.d.def_ 54 (d := dm_Net_row) rfl)
theorem Cxt.bm_Net_row (c : Cxt P K mg base) : Binds K (fdA K dm_Net_row) ["self", "reading"] [] := FunD.bindsN (c.Fm_Net_row) fun _ _ _ _ _ _ us hl => match us, hl with | [_, _], _ => rfl
theorem Cxt.Fm_Net_tally (c : Cxt P K mg base) : FunD K dm_Net_tally.name dm_Net_tally.qual dm_Net_tally.params dm_Net_tally.body dm_Net_tally.scope (dm_Net_tally.dvs K) (dm_Net_tally.kws K) (He.fAd K dm_Net_tally.at_) (fdA K dm_Net_tally) := fd_at (c.d.def_ 55 (d := dm_Net_tally) rfl)
theorem Cxt.bm_Net_tally (c : Cxt P K mg base) : Binds K (fdA K dm_Net_tally) ["self", "reading", "weight"] [] := FunD.bindsN (c.Fm_Net_tally) fun _ _ _ _ _ _ us hl => match us, hl with | [_, _, _], _ => rfl
theorem Cxt.Fm_Net_put (c : Cxt P K mg base) : FunD K dm_Net_put.name dm_Net_put.qual dm_Net_put.params dm_Net_put.body dm_Net_put.scope (dm_Net_put.dvs K) (dm_Net_put.kws K) (He.fAd K dm_Net_put.at_) (fdA K dm_Net_put) := fd_at (c.d.def_ 56 (d := dm_Net_put) rfl)
theorem Cxt.bm_Net_put (c : Cxt P K mg base) : Binds K (fdA K dm_Net_put) ["self", "reading"] [] := FunD.bindsN (c.Fm_Net_put) fun _ _ _ _ _ _ us hl => match us, hl with | [_, _], _ => rfl
theorem Cxt.Fm_Net_add (c : Cxt P K mg base) : FunD K dm_Net_add.name dm_Net_add.qual dm_Net_add.params dm_Net_add.body dm_Net_add.scope (dm_Net_add.dvs K) (dm_Net_add.kws K) (He.fAd K dm_Net_add.at_) (fdA K dm_Net_add) := fd_at (c.d.def_ 57 (d := dm_Net_add) rfl)
theorem Cxt.bm_Net_add (c : Cxt P K mg base) : Binds K (fdA K dm_Net_add) ["self", "reading"] [] := FunD.bindsN (c.Fm_Net_add) fun _ _ _ _ _ _ us hl => match us, hl with | [_, _], _ => rfl
theorem Cxt.Fm_Net_rows (c : Cxt P K mg base) : FunD K dm_Net_rows.name dm_Net_rows.qual dm_Net_rows.params dm_Net_rows.body dm_Net_rows.scope (dm_Net_rows.dvs K) (dm_Net_rows.kws K) (He.fAd K dm_Net_rows.at_) (fdA K dm_Net_rows) := fd_at (c.d.def_ 58 (d := dm_Net_rows) rfl)
theorem Cxt.bm_Net_rows (c : Cxt P K mg base) : Binds K (fdA K dm_Net_rows) ["self"] [] := FunD.bindsN (c.Fm_Net_rows) fun _ _ _ _ _ _ us hl => match us, hl with | [_], _ => rfl
theorem Cxt.Fm_Net_heights (c : Cxt P K mg base) : FunD K dm_Net_heights.name dm_Net_heights.qual dm_Net_heights.params dm_Net_heights.body dm_Net_heights.scope (dm_Net_heights.dvs K) (dm_Net_heights.kws K) (He.fAd K dm_Net_heights.at_) (fdA K dm_Net_heights) := fd_at (c.d.def_ 59 (d := dm_Net_heights) rfl)
theorem Cxt.bm_Net_heights (c : Cxt P K mg base) : Binds K (fdA K dm_Net_heights) ["self"] [] := FunD.bindsN (c.Fm_Net_heights) fun _ _ _ _ _ _ us hl => match us, hl with | [_], _ => rfl
theorem Cxt.Fm_Net_squares (c : Cxt P K mg base) : FunD K dm_Net_squares.name dm_Net_squares.qual dm_Net_squares.params dm_Net_squares.body dm_Net_squares.scope (dm_Net_squares.dvs K) (dm_Net_squares.kws K) (He.fAd K dm_Net_squares.at_) (fdA K dm_Net_squares) := fd_at (c.d.def_ 60 (d := dm_Net_squares) rfl)
theorem Cxt.bm_Net_squares (c : Cxt P K mg base) : Binds K (fdA K dm_Net_squares) ["self"] [] := FunD.bindsN (c.Fm_Net_squares) fun _ _ _ _ _ _ us hl => match us, hl with | [_], _ => rfl
theorem Cxt.Fm_Net_movements (c : Cxt P K mg base) : FunD K dm_Net_movements.name dm_Net_movements.qual dm_Net_movements.params dm_Net_movements.body dm_Net_movements.scope (dm_Net_movements.dvs K) (dm_Net_movements.kws K) (He.fAd K dm_Net_movements.at_) (fdA K dm_Net_movements) := fd_at (c.d.def_ 61 (d := dm_Net_movements) rfl)
theorem Cxt.bm_Net_movements (c : Cxt P K mg base) : Binds K (fdA K dm_Net_movements) ["self"] [] := FunD.bindsN (c.Fm_Net_movements) fun _ _ _ _ _ _ us hl => match us, hl with | [_], _ => rfl
theorem Cxt.Ff_net_of (c : Cxt P K mg base) : FunD K df_net_of.name df_net_of.qual df_net_of.params df_net_of.body df_net_of.scope (df_net_of.dvs K) (df_net_of.kws K) (He.fAd K df_net_of.at_) (fdA K df_net_of) := fd_at (c.d.def_ 62 (d := df_net_of) rfl)
theorem Cxt.bf_net_of (c : Cxt P K mg base) : Binds K (fdA K df_net_of) ["book"] [] := FunD.bindsN (c.Ff_net_of) fun _ _ _ _ _ _ us hl => match us, hl with | [_], _ => rfl
theorem Cxt.Ff_law_tape (c : Cxt P K mg base) : FunD K df_law_tape.name df_law_tape.qual df_law_tape.params df_law_tape.body df_law_tape.scope (df_law_tape.dvs K) (df_law_tape.kws K) (He.fAd K df_law_tape.at_) (fdA K df_law_tape) := fd_at (c.d.def_ 63 (d := df_law_tape) rfl)
theorem Cxt.bf_law_tape (c : Cxt P K mg base) : Binds K (fdA K df_law_tape) ["_law_script"] [] := FunD.bindsN (c.Ff_law_tape) fun _ _ _ _ _ _ us hl => match us, hl with | [_], _ => rfl
theorem Cxt.Ff_law_draw (c : Cxt P K mg base) : FunD K df_law_draw.name df_law_draw.qual df_law_draw.params df_law_draw.body df_law_draw.scope (df_law_draw.dvs K) (df_law_draw.kws K) (He.fAd K df_law_draw.at_) (fdA K df_law_draw) := fd_at (c.d.def_ 64 (d := df_law_draw) rfl)
theorem Cxt.bf_law_draw (c : Cxt P K mg base) : Binds K (fdA K df_law_draw) ["_law_tape_here", "_law_at", "_law_many"] [] := FunD.bindsN (c.Ff_law_draw) fun _ _ _ _ _ _ us hl => match us, hl with | [_, _, _], _ => rfl
theorem Cxt.Ff_law_take (c : Cxt P K mg base) : FunD K df_law_take.name df_law_take.qual df_law_take.params df_law_take.body df_law_take.scope (df_law_take.dvs K) (df_law_take.kws K) (He.fAd K df_law_take.at_) (fdA K df_law_take) := fd_at (c.d.def_ 65 (d := df_law_take) rfl)
theorem Cxt.bf_law_take (c : Cxt P K mg base) : Binds K (fdA K df_law_take) ["_law_state", "_law_many"] [] := FunD.bindsN (c.Ff_law_take) fun _ _ _ _ _ _ us hl => match us, hl with | [_, _], _ => rfl
theorem Cxt.Ff_law_common (c : Cxt P K mg base) : FunD K df_law_common.name df_law_common.qual df_law_common.params df_law_common.body df_law_common.scope (df_law_common.dvs K) (df_law_common.kws K) (He.fAd K df_law_common.at_) (fdA K df_law_common) := fd_at (c.d.def_ 66 (d := df_law_common) rfl)
theorem Cxt.bf_law_common (c : Cxt P K mg base) : Binds K (fdA K df_law_common) ["_law_one", "_law_other"] [] := FunD.bindsN (c.Ff_law_common) fun _ _ _ _ _ _ us hl => match us, hl with | [_, _], _ => rfl
theorem Cxt.Ff_law_pair (c : Cxt P K mg base) : FunD K df_law_pair.name df_law_pair.qual df_law_pair.params df_law_pair.body df_law_pair.scope (df_law_pair.dvs K) (df_law_pair.kws K) (He.fAd K df_law_pair.at_) (fdA K df_law_pair) := fd_at (c.d.def_ 67 (d := df_law_pair) rfl)
theorem Cxt.bf_law_pair (c : Cxt P K mg base) : Binds K (fdA K df_law_pair) ["_law_top", "_law_bottom"] [] := FunD.bindsN (c.Ff_law_pair) fun _ _ _ _ _ _ us hl => match us, hl with | [_, _], _ => rfl
theorem Cxt.Ff_law_number (c : Cxt P K mg base) : FunD K df_law_number.name df_law_number.qual df_law_number.params df_law_number.body df_law_number.scope (df_law_number.dvs K) (df_law_number.kws K) (He.fAd K df_law_number.at_) (fdA K df_law_number) := fd_at (c.d.def_ 68 (d := df_law_number) rfl)
theorem Cxt.bf_law_number (c : Cxt P K mg base) : Binds K (fdA K df_law_number) ["_law_state"] [] := FunD.bindsN (c.Ff_law_number) fun _ _ _ _ _ _ us hl => match us, hl with | [_], _ => rfl
theorem Cxt.Ff_law_plus (c : Cxt P K mg base) : FunD K df_law_plus.name df_law_plus.qual df_law_plus.params df_law_plus.body df_law_plus.scope (df_law_plus.dvs K) (df_law_plus.kws K) (He.fAd K df_law_plus.at_) (fdA K df_law_plus) := fd_at (c.d.def_ 69 (d := df_law_plus) rfl)
theorem Cxt.bf_law_plus (c : Cxt P K mg base) : Binds K (fdA K df_law_plus) ["_law_one", "_law_other"] [] := FunD.bindsN (c.Ff_law_plus) fun _ _ _ _ _ _ us hl => match us, hl with | [_, _], _ => rfl
theorem Cxt.Ff_law_times (c : Cxt P K mg base) : FunD K df_law_times.name df_law_times.qual df_law_times.params df_law_times.body df_law_times.scope (df_law_times.dvs K) (df_law_times.kws K) (He.fAd K df_law_times.at_) (fdA K df_law_times) := fd_at (c.d.def_ 70 (d := df_law_times) rfl)
theorem Cxt.bf_law_times (c : Cxt P K mg base) : Binds K (fdA K df_law_times) ["_law_one", "_law_other"] [] := FunD.bindsN (c.Ff_law_times) fun _ _ _ _ _ _ us hl => match us, hl with | [_, _], _ => rfl
theorem Cxt.Ff_law_made (c : Cxt P K mg base) : FunD K df_law_made.name df_law_made.qual df_law_made.params df_law_made.body df_law_made.scope (df_law_made.dvs K) (df_law_made.kws K) (He.fAd K df_law_made.at_) (fdA K df_law_made) := fd_at (c.d.def_ 71 (d := df_law_made) rfl)
theorem Cxt.bf_law_made (c : Cxt P K mg base) : Binds K (fdA K df_law_made) ["_law_pair_here"] [] := FunD.bindsN (c.Ff_law_made) fun _ _ _ _ _ _ us hl => match us, hl with | [_], _ => rfl
theorem Cxt.Ff_law_is (c : Cxt P K mg base) : FunD K df_law_is.name df_law_is.qual df_law_is.params df_law_is.body df_law_is.scope (df_law_is.dvs K) (df_law_is.kws K) (He.fAd K df_law_is.at_) (fdA K df_law_is) := fd_at (c.d.def_ 72 (d := df_law_is) rfl)
theorem Cxt.bf_law_is (c : Cxt P K mg base) : Binds K (fdA K df_law_is) ["_law_actual", "_law_pair_here"] [] := FunD.bindsN (c.Ff_law_is) fun _ _ _ _ _ _ us hl => match us, hl with | [_, _], _ => rfl
theorem Cxt.Ff_law_terms (c : Cxt P K mg base) : FunD K df_law_terms.name df_law_terms.qual df_law_terms.params df_law_terms.body df_law_terms.scope (df_law_terms.dvs K) (df_law_terms.kws K) (He.fAd K df_law_terms.at_) (fdA K df_law_terms) := fd_at (c.d.def_ 73 (d := df_law_terms) rfl)
theorem Cxt.bf_law_terms (c : Cxt P K mg base) : Binds K (fdA K df_law_terms) ["_law_state", "_law_names"] [] := FunD.bindsN (c.Ff_law_terms) fun _ _ _ _ _ _ us hl => match us, hl with | [_, _], _ => rfl
theorem Cxt.Ff_law_survey (c : Cxt P K mg base) : FunD K df_law_survey.name df_law_survey.qual df_law_survey.params df_law_survey.body df_law_survey.scope (df_law_survey.dvs K) (df_law_survey.kws K) (He.fAd K df_law_survey.at_) (fdA K df_law_survey) := fd_at (c.d.def_ 74 (d := df_law_survey) rfl)
theorem Cxt.bf_law_survey (c : Cxt P K mg base) : Binds K (fdA K df_law_survey) ["_law_state", "_law_names", "_law_mark", "_law_many"] [] := FunD.bindsN (c.Ff_law_survey) fun _ _ _ _ _ _ us hl => match us, hl with | [_, _, _, _], _ => rfl
theorem Cxt.Ff_law_book (c : Cxt P K mg base) : FunD K df_law_book.name df_law_book.qual df_law_book.params df_law_book.body df_law_book.scope (df_law_book.dvs K) (df_law_book.kws K) (He.fAd K df_law_book.at_) (fdA K df_law_book) := fd_at (c.d.def_ 75 (d := df_law_book) rfl)
theorem Cxt.bf_law_book (c : Cxt P K mg base) : Binds K (fdA K df_law_book) ["_law_survey_here"] [] := FunD.bindsN (c.Ff_law_book) fun _ _ _ _ _ _ us hl => match us, hl with | [_], _ => rfl
theorem Cxt.Ff_law_misfit (c : Cxt P K mg base) : FunD K df_law_misfit.name df_law_misfit.qual df_law_misfit.params df_law_misfit.body df_law_misfit.scope (df_law_misfit.dvs K) (df_law_misfit.kws K) (He.fAd K df_law_misfit.at_) (fdA K df_law_misfit) := fd_at (c.d.def_ 76 (d := df_law_misfit) rfl)
theorem Cxt.bf_law_misfit (c : Cxt P K mg base) : Binds K (fdA K df_law_misfit) ["_law_reading", "_law_heights_here"] [] := FunD.bindsN (c.Ff_law_misfit) fun _ _ _ _ _ _ us hl => match us, hl with | [_, _], _ => rfl
theorem Cxt.Ff_law_squares (c : Cxt P K mg base) : FunD K df_law_squares.name df_law_squares.qual df_law_squares.params df_law_squares.body df_law_squares.scope (df_law_squares.dvs K) (df_law_squares.kws K) (He.fAd K df_law_squares.at_) (fdA K df_law_squares) := fd_at (c.d.def_ 77 (d := df_law_squares) rfl)
theorem Cxt.bf_law_squares (c : Cxt P K mg base) : Binds K (fdA K df_law_squares) ["_law_survey_here", "_law_heights_here"] [] := FunD.bindsN (c.Ff_law_squares) fun _ _ _ _ _ _ us hl => match us, hl with | [_, _], _ => rfl
theorem Cxt.Ff_law_pairs (c : Cxt P K mg base) : FunD K df_law_pairs.name df_law_pairs.qual df_law_pairs.params df_law_pairs.body df_law_pairs.scope (df_law_pairs.dvs K) (df_law_pairs.kws K) (He.fAd K df_law_pairs.at_) (fdA K df_law_pairs) := fd_at (c.d.def_ 78 (d := df_law_pairs) rfl)
theorem Cxt.bf_law_pairs (c : Cxt P K mg base) : Binds K (fdA K df_law_pairs) ["_law_heights_here"] [] := FunD.bindsN (c.Ff_law_pairs) fun _ _ _ _ _ _ us hl => match us, hl with | [_], _ => rfl
theorem Cxt.Ff_law_heights (c : Cxt P K mg base) : FunD K df_law_heights.name df_law_heights.qual df_law_heights.params df_law_heights.body df_law_heights.scope (df_law_heights.dvs K) (df_law_heights.kws K) (He.fAd K df_law_heights.at_) (fdA K df_law_heights) := fd_at (c.d.def_ 79 (d := df_law_heights) rfl)
theorem Cxt.bf_law_heights (c : Cxt P K mg base) : Binds K (fdA K df_law_heights) ["_law_pairs_here"] [] := FunD.bindsN (c.Ff_law_heights) fun _ _ _ _ _ _ us hl => match us, hl with | [_], _ => rfl
theorem Cxt.Ff_law_joined (c : Cxt P K mg base) : FunD K df_law_joined.name df_law_joined.qual df_law_joined.params df_law_joined.body df_law_joined.scope (df_law_joined.dvs K) (df_law_joined.kws K) (He.fAd K df_law_joined.at_) (fdA K df_law_joined) := fd_at (c.d.def_ 80 (d := df_law_joined) rfl)
theorem Cxt.bf_law_joined (c : Cxt P K mg base) : Binds K (fdA K df_law_joined) ["_law_one", "_law_other"] [] := FunD.bindsN (c.Ff_law_joined) fun _ _ _ _ _ _ us hl => match us, hl with | [_, _], _ => rfl
theorem Cxt.Ff_law_parts (c : Cxt P K mg base) : FunD K df_law_parts.name df_law_parts.qual df_law_parts.params df_law_parts.body df_law_parts.scope (df_law_parts.dvs K) (df_law_parts.kws K) (He.fAd K df_law_parts.at_) (fdA K df_law_parts) := fd_at (c.d.def_ 81 (d := df_law_parts) rfl)
theorem Cxt.bf_law_parts (c : Cxt P K mg base) : Binds K (fdA K df_law_parts) ["_law_state"] [] := FunD.bindsN (c.Ff_law_parts) fun _ _ _ _ _ _ us hl => match us, hl with | [_], _ => rfl
theorem Cxt.Ff_law (c : Cxt P K mg base) : FunD K df_law.name df_law.qual df_law.params df_law.body df_law.scope (df_law.dvs K) (df_law.kws K) (He.fAd K df_law.at_) (fdA K df_law) := fd_at (c.d.def_ 82 (d := df_law) rfl)
theorem Cxt.bf_law (c : Cxt P K mg base) : Binds K (fdA K df_law) ["_law_script"] [] := FunD.bindsN (c.Ff_law) fun _ _ _ _ _ _ us hl => match us, hl with | [_], _ => rfl
end
end Pn

/-! Rules of one's own: operators of an own class, division by great divisors. -/
namespace Pr
open PySem PySem.Spec PyProof.Rows L2
section
variable {X : Cx} {CX : CXT} {k : Nat} {C f : Addr} {fd : FuncData} {ps : List Str} {sp : Sp} {E : XK}
/-- a value of the abstract kind is no NotImplemented -/
theorem back_of {Q : Value → Shared → Prop} {x : V} {u : Value} {s : Shared} (r : RelV x u) (h : Q u s) : PySem.W.CmpBack Q u s := by
  cases x with
  | non => cases r; exact h
  | bl b => cases r; exact h
  | int i => obtain ⟨t, rfl⟩ := r; exact h
  | str z => obtain ⟨t, rfl⟩ := r; exact h
  | byt b => obtain ⟨t, rfl⟩ := r; exact h
  | flt b => obtain ⟨t, rfl⟩ := r; exact h
  | ref a => cases r; exact h
  | ty n => cases r; exact h
/-- both operands are instances of one class of one's own -/
def rIns (C : Addr) (sp : Sp) (E : XK) : R2 := fun x y H Q => ∃ a b dx dy fs gs, x = .ref a ∧ y = .ref b ∧ H a = some (.ins C dx fs) ∧ H b = some (.ins C dy gs) ∧ sp [x, y] H Q E
theorem op_ins {op : Operator} (F : FnOk X.prog X.w X.K X.mg X.base CX k f fd ps sp) (hr : Room k X.A) (hc : PySem.W.selfFirst X.K C = true) (hm : Meth X.K C (PySem.dunder op.info.2) f) (hb : Binds X.K fd ps []) (hx : Passes CX X E) :
    OpR X (binaryOp op) (rIns C sp E) := by
  intro pins s σ H x y v u Q I rx ry h
  obtain ⟨a, b, dx, dy, fs, gs, rfl, rfl, ha, hb', q⟩ := h
  obtain ⟨h1, h2, h3⟩ := hm
  cases rx
  cases ry
  obtain ⟨mA, JA, _⟩ := ins_get I.hok ha
  obtain ⟨mB, JB, _⟩ := ins_get I.hok hb'
  obtain ⟨_, JA, _⟩ := JA.look
  obtain ⟨_, JB, _⟩ := JB.look
  obtain ⟨m, hF⟩ := I.fr
  refine PySem.W.binop_K hF I.ok.mod.kin JA JB.type hc h1 h2 ?_
  refine wpAny_mono (run_fn (us := [.ref a, .ref b]) (vs := [.ref a, .ref b]) F hr hb .nil hx I (.cons rfl (.cons rfl .nil)) q) (fun z s' e => ?_) fun _ _ e => e
  obtain ⟨w', H', I', rz, qz⟩ := e
  exact back_of rz ⟨w', H', I', rz, qz⟩
/-- -x of an instance of one's own class -/
def rNegI (C : Addr) (sp : Sp) (E : XK) : V → Hp → VK → Prop := fun x H Q => ∃ a dx fs, x = .ref a ∧ H a = some (.ins C dx fs) ∧ sp [x] H Q E
theorem un_ins (F : FnOk X.prog X.w X.K X.mg X.base CX k f fd ps sp) (hr : Room k X.A) (hm : Meth X.K C "__neg__" f) (hb : Binds X.K fd ps []) (hx : Passes CX X E) : UnR X (unaryOp .USub) (rNegI C sp E) := by
  intro pins s σ H x v Q I rx h
  obtain ⟨a, dx, fs, rfl, ha, q⟩ := h
  obtain ⟨h1, h2, h3⟩ := hm
  cases rx
  obtain ⟨mA, JA, _⟩ := ins_get I.hok ha
  obtain ⟨_, JA, _⟩ := JA.look
  unfold unaryOp
  refine wpAny_holding (wpAny_bind ?_)
  refine PySem.W.special_fn I.kIn JA h1 (beq_iff_eq.mp h2) ?_
  refine wpAny_mono (run_fn (us := [.ref a]) (vs := [.ref a]) F hr hb .nil hx I (.cons rfl .nil) q) (fun z s' e => wpAny_pure e) fun _ _ e => e
end
end Pr

/-! What a value is, told by types that stand while the heap grows. -/
namespace Pt
open PySem PySem.Spec PyProof.Rows L2 Evl
/-- classes whose instances never change -/
def Im (K : PySem.W.Frag) (C : Addr) : Prop := C = He.ga K "Ratio" ∨ C = He.ga K "Reading" ∨ C = He.ga K "Form"
def immO (K : PySem.W.Frag) : HO → Prop
  | .tup _ => True
  | .frz _ (.tup _) => True
  | .ins C _ _ => Im K C
  | _ => False
/-- what never changes is kept -/
def Ge (K : PySem.W.Frag) (H H' : Hp) : Prop := ∀ a o, H a = some o → immO K o → H' a = some o
section
variable {K : PySem.W.Frag} {H H' H1 H2 : Hp}
theorem Ge.refl (H : Hp) : Ge K H H := fun _ _ h _ => h
theorem Ge.trans (a : Ge K H H1) (b : Ge K H1 H2) : Ge K H H2 := fun x o h i => b x o (a x o h i) i
theorem ge_ex (e : Ex H H') : Ge K H H' := fun a o h _ => e a o h
/-- a thing that may change is changed -/
theorem ge_upd {l : Addr} {o o' : HO} (h : H l = some o) (n : ¬ immO K o) : Ge K H (upd H l o') := fun a u e i => by
  rw [upd_ne (fun q => n (by rw [q, h] at e; cases e; exact i))]
  exact e
theorem ge_lst {l : Addr} {xs : List V} {o' : HO} (h : H l = some (.lst xs)) : Ge K H (upd H l o') := ge_upd h id
theorem ge_new {l : Addr} {o' : HO} (h : H l = none) : Ge K H (upd H l o') := ge_ex (Ex.new h)
end
structure Ty (K : PySem.W.Frag) where
  p : V → Hp → Prop
  st : ∀ v H H', Ge K H H' → p v H → p v H'
section
variable {K : PySem.W.Frag}
/-- the very value -/
def tyE (x : V) : Ty K := ⟨fun v _ => v = x, fun _ _ _ _ h => h⟩
abbrev tyInt (i : Int) : Ty K := tyE (.int i)
def tyIns (C : Addr) (hC : Im K C) (fs : List (Str × V)) : Ty K := ⟨fun v H => ∃ a dx, v = .ref a ∧ H a = some (.ins C dx fs), fun v H H' g ⟨a, dx, e, h⟩ => ⟨a, dx, e, g _ _ h hC⟩⟩
/-- a Ratio -/
def rfs (q : Rat) : List (Str × V) := [("top", .int q.num), ("bottom", .int (q.den : Int))]
def tyRat (q : Rat) : Ty K := tyIns (He.ga K "Ratio") (.inl rfl) (rfs q)
/-- a tuple of n items -/
def tySeq (n : Nat) (T : Nat → Ty K) : Ty K := ⟨fun v H => ∃ a xs, v = .ref a ∧ H a = some (.tup xs) ∧ xs.length = n ∧ ∀ i x, xs[i]? = some x → (T i).p x H,
  fun v H H' g ⟨a, xs, e, h, l, q⟩ => ⟨a, xs, e, g _ _ h trivial, l, fun i x z => (T i).st _ _ _ g (q i x z)⟩⟩
abbrev tyVec (n : Nat) (f : Nat → Rat) : Ty K := tySeq n fun i => tyRat (f i)
abbrev tyMat (h w : Nat) (f : Nat → Nat → Rat) : Ty K := tySeq h fun i => tyVec w (f i)
/-- values typed one by one -/
def Tys (Ts : List (Ty K)) (vs : List V) (H : Hp) : Prop := Paired (fun (T : Ty K) v => T.p v H) Ts vs
theorem Tys.st {Ts : List (Ty K)} {vs : List V} {H H' : Hp} (g : Ge K H H') (h : Tys Ts vs H) : Tys Ts vs H' := by
  unfold Tys at *
  induction h with
  | nil => exact .nil
  | cons a _ ih => exact .cons (Ty.st _ _ _ _ g a) ih
/-- a tuple of these -/
def tyTup (Ts : List (Ty K)) : Ty K := ⟨fun v H => ∃ a xs, v = .ref a ∧ H a = some (.tup xs) ∧ Tys Ts xs H, fun v H H' g ⟨a, xs, e, h, q⟩ => ⟨a, xs, e, g _ _ h trivial, q.st g⟩⟩
def tyEx {α : Type} (T : α → Ty K) : Ty K := ⟨fun v H => ∃ x, (T x).p v H, fun v H H' g ⟨x, h⟩ => ⟨x, (T x).st _ _ _ g h⟩⟩
def tyAnd (c : Prop) (T : Ty K) : Ty K := ⟨fun v H => c ∧ T.p v H, fun v H H' g ⟨x, h⟩ => ⟨x, T.st _ _ _ g h⟩⟩
theorem tySeq_cg {n : Nat} {T T' : Nat → Ty K} {v : V} {H : Hp} (h : (tySeq n T).p v H) (e : ∀ i x, i < n → (T i).p x H → (T' i).p x H) : (tySeq n T').p v H := by
  obtain ⟨a, xs, e1, e2, l, q⟩ := h
  exact ⟨a, xs, e1, e2, l, fun i x z => e i x (by rw [← l]; exact (List.getElem?_eq_some_iff.mp z).1) (q i x z)⟩
theorem tyVec_cg {n : Nat} {f g : Nat → Rat} {v : V} {H : Hp} (h : (tyVec (K := K) n f).p v H) (e : ∀ i, i < n → f i = g i) : (tyVec (K := K) n g).p v H :=
  tySeq_cg h fun i x hi q => by rw [← e i hi]; exact q
theorem tyMat_cg {h w : Nat} {f g : Nat → Nat → Rat} {v : V} {H : Hp} (q : (tyMat (K := K) h w f).p v H) (e : ∀ i j, i < h → j < w → f i j = g i j) : (tyMat (K := K) h w g).p v H :=
  tySeq_cg q fun i x hi z => tyVec_cg z fun j hj => e i j hi hj
/-! ### the slots -/
abbrev TEnv (K : PySem.W.Frag) := List (Option (Ty K))
def SlotOk (H : Hp) (T : Option (Ty K)) (v : Option V) : Prop := ∀ T', T = some T' → ∃ x, v = some x ∧ T'.p x H
def Sat (Ts : TEnv K) (σ : L2.St) (H : Hp) : Prop := Paired (SlotOk H) Ts σ
theorem Sat.st {Ts : TEnv K} {σ : L2.St} {H H' : Hp} (g : Ge K H H') (h : Sat Ts σ H) : Sat Ts σ H' := by
  unfold Sat at *
  induction h with
  | nil => exact .nil
  | cons a _ ih => exact .cons (fun T' e => let ⟨x, e1, e2⟩ := a T' e; ⟨x, e1, T'.st _ _ _ g e2⟩) ih
theorem Sat.ex {Ts : TEnv K} {σ : L2.St} {H H' : Hp} (h : Sat Ts σ H) (g : Ex H H') : Sat Ts σ H' := h.st (ge_ex g)
theorem Sat.len {Ts : TEnv K} {σ : L2.St} {H : Hp} (h : Sat Ts σ H) : σ.length = Ts.length := (Paired.length h).symm
theorem Sat.get {Ts : TEnv K} {σ : L2.St} {H : Hp} {i : Nat} {T : Ty K} (h : Sat Ts σ H) (e : Ts[i]? = some (some T)) : ∃ v, σ[i]? = some (some v) ∧ T.p v H := by
  unfold Sat at h
  induction h generalizing i with
  | nil => simp at e
  | cons a _ ih =>
    cases i with
    | zero =>
      simp at e
      obtain ⟨x, e1, e2⟩ := a T e
      exact ⟨x, by simp [e1], e2⟩
    | succ i =>
      obtain ⟨x, e1, e2⟩ := ih (i := i) (by simpa using e)
      exact ⟨x, by simpa using e1, e2⟩
theorem Sat.set {Ts : TEnv K} {σ : L2.St} {H : Hp} {i : Nat} {T : Ty K} {v : V} (h : Sat Ts σ H) (q : T.p v H) : Sat (Ts.set i (some T)) (σ.set i (some v)) H := by
  unfold Sat at *
  induction h generalizing i with
  | nil => exact .nil
  | cons a r ih =>
    cases i with
    | zero => exact .cons (fun T' e => by cases e; exact ⟨v, rfl, q⟩) r
    | succ i => exact .cons a ih
/-- a slot is forgotten -/
theorem Sat.del {Ts : TEnv K} {σ : L2.St} {H : Hp} {i : Nat} {x : Option V} (h : Sat Ts σ H) : Sat (Ts.set i none) (σ.set i x) H := by
  unfold Sat at *
  induction h generalizing i with
  | nil => exact .nil
  | cons a r ih =>
    cases i with
    | zero => exact .cons (fun T' e => by cases e) r
    | succ i => exact .cons a ih
/-- another type for a slot -/
theorem Sat.ty {Ts : TEnv K} {σ : L2.St} {H : Hp} {i : Nat} {T T' : Ty K} (h : Sat Ts σ H) (e : Ts[i]? = some (some T)) (q : ∀ v, T.p v H → T'.p v H) : Sat (Ts.set i (some T')) σ H := by
  obtain ⟨v, e1, e2⟩ := h.get e
  have z := h.set (i := i) (q v e2)
  have es : σ.set i (some v) = σ := by
    apply List.ext_getElem?
    intro j
    rw [List.getElem?_set]
    split
    · rename_i e3
      subst e3
      have := (List.getElem?_eq_some_iff.mp e1).1
      rw [if_pos this, e1]
    · rfl
  rw [es] at z
  exact z
/-- fewer types -/
theorem Sat.less {Ts Ts' : TEnv K} {σ : L2.St} {H : Hp} (h : Sat Ts σ H) (l : Paired (fun a b => b = none ∨ a = b) Ts Ts') : Sat Ts' σ H := by
  unfold Sat at *
  induction l generalizing σ with
  | nil => exact h
  | cons a r ih =>
    cases h with
    | cons x y =>
      refine .cons (fun T' e => ?_) (ih y)
      rcases a with a | a
      · rw [a] at e; cases e
      · exact x T' (a.trans e)
theorem sat_start {Ts : List (Ty K)} {vs : List V} {H : Hp} {N : List Str} (h : Tys Ts vs H) : Sat (Ts.map some ++ List.replicate (N.length - Ts.length) none) (L2.start N vs) H := by
  have l : Ts.length = vs.length := Paired.length h
  unfold L2.start Sat
  rw [← l]
  generalize N.length - Ts.length = m
  unfold Tys at h
  clear l
  induction h with
  | nil =>
    induction m with
    | zero => exact .nil
    | succ m ih => exact .cons (fun _ e => by cases e) ih
  | cons a _ ih => exact .cons (fun T' e => by cases e; exact ⟨_, rfl, a⟩) ih
end
/-! ### what an expression evaluates to -/
section
variable {K : PySem.W.Frag}
def EvP (te : TE) (σ : L2.St) (H : Hp) (T : Ty K) : Prop := ∀ H1, Ex H H1 → ∀ Q : VK, (∀ v H2, Ex H1 H2 → T.p v H2 → Q v H2) → te σ H1 Q
def EvPA (ta : TA) (σ : L2.St) (H : Hp) (Ts : List (Ty K)) : Prop := ∀ H1, Ex H H1 → ∀ Q : List V → Hp → Prop, (∀ vs H2, Ex H1 H2 → Tys Ts vs H2 → Q vs H2) → ta σ H1 Q
/-- a new list of n items -/
def EvPL (te : TE) (σ : L2.St) (H : Hp) (n : Nat) (T : Nat → Ty K) : Prop := ∀ H1, Ex H H1 → ∀ Q : VK, (∀ p xs H2, H1 p = none → Ex H1 H2 → H2 p = some (.lst xs) → xs.length = n → (∀ i x, xs[i]? = some x → (T i).p x H2) → Q (.ref p) H2) → te σ H1 Q
variable {σ : L2.St} {H H' : Hp} {ta tb te tc : TE} {T T' : Ty K} {Ts : TEnv K}
theorem EvP.mono (e : Ex H H') (h : EvP te σ H T) : EvP te σ H' T := fun H1 a Q q => h H1 (e.trans a) Q q
theorem EvPA.mono {t : TA} {As : List (Ty K)} (e : Ex H H') (h : EvPA t σ H As) : EvPA t σ H' As := fun H1 a Q q => h H1 (e.trans a) Q q
theorem EvP.to (h : EvP te σ H T) (q : ∀ v H1, Ex H H1 → T.p v H1 → T'.p v H1) : EvP te σ H T' := fun H1 a Q k => h H1 a Q fun v H2 e z => k v H2 e (q v H2 (a.trans e) z)
theorem ev_var {i : Nat} (hs : Sat Ts σ H) (h : Ts[i]? = some (some T)) : EvP (tVar i) σ H T := fun H1 e Q q => by
  obtain ⟨v, e1, e2⟩ := (hs.ex e).get h
  exact ⟨v, e1, q v H1 (Ex.refl _) e2⟩
theorem ev_c {v : V} : EvP (K := K) (tC v) σ H (tyE v) := fun H1 _ Q q => q v H1 (Ex.refl _) rfl
theorem ev_flat {v : V} (h : Ev te σ H v) : EvP (K := K) te σ H (tyE v) := fun H1 e Q q => h H1 e Q fun H2 e2 => q v H2 e2 rfl
theorem flat_ev {v : V} (h : EvP (K := K) te σ H (tyE v)) : Ev te σ H v := fun H1 e Q q => h H1 e Q fun v H2 e2 z => by cases z; exact q H2 e2
theorem ev_I0 {g : Int → Int → V} {i j : Int} (ha : EvP (K := K) ta σ H (tyInt i)) (hb : EvP (K := K) tb σ H (tyInt j)) : EvP (K := K) (tOp (rI0 g) ta tb) σ H (tyE (g i j)) :=
  ev_flat (Evl.ev_op (flat_ev ha) (flat_ev hb) rv_I0)
theorem ev_I {C : Int → Int → Prop} {g : Int → Int → V} {i j : Int} (hc : C i j) (ha : EvP (K := K) ta σ H (tyInt i)) (hb : EvP (K := K) tb σ H (tyInt j)) : EvP (K := K) (tOp (rI C g) ta tb) σ H (tyE (g i j)) :=
  ev_flat (Evl.ev_op (flat_ev ha) (flat_ev hb) (rv_I hc))
theorem ea_nil : EvPA (K := K) tNil σ H [] := fun H1 _ Q q => q [] H1 (Ex.refl _) .nil
theorem ea_cons {t : TA} {As : List (Ty K)} (ha : EvP te σ H T) (hr : EvPA t σ H As) : EvPA (tCons te t) σ H (T :: As) := fun H1 e Q q =>
  ha H1 e _ fun v H2 e2 z => hr H2 (e.trans e2) _ fun vs H3 e3 zs => q _ H3 (e2.trans e3) (.cons (T.st _ _ _ (ge_ex e3) z) zs)
/-- an instance's field -/
theorem ev_fld {C : Addr} {hC : Im K C} {fs : List (Str × V)} {f : Str} {v : V} (h : EvP te σ H (tyIns C hC fs)) (c : Cls K C) (n : NoAttr K C f) (l : fs.lookup f = some v) : EvP (K := K) (tFld K te f) σ H (tyE v) := fun H1 e Q q =>
  h H1 e _ fun x H2 e2 ⟨a, dx, e3, e4⟩ => ⟨a, C, dx, fs, v, e3, e4, c, n, l, q v H2 e2 rfl⟩
/-! ### promises that only make new things -/
structure Spc (K : PySem.W.Frag) where
  ι : Type
  args : ι → List (Ty K)
  side : ι → Prop
  res : ι → Ty K
def Spc.sp (s : Spc K) : Sp := fun vs H Q _ => ∃ x : s.ι, s.side x ∧ Tys (s.args x) vs H ∧ ∀ v H', Ex H H' → (s.res x).p v H' → Q v H'
theorem ev_call {s : Spc K} {t : TA} (x : s.ι) (hx : s.side x) (ha : EvPA t σ H (s.args x)) : EvP (tCall s.sp [] E0 t) σ H (s.res x) := fun H1 e Q q =>
  ha H1 e _ fun vs H2 e2 zs => by
    refine ⟨x, hx, ?_, fun v H3 e3 z => q v H3 (e2.trans e3) z⟩
    rw [List.append_nil]
    exact zs
/-- an operator of Ratios -/
theorem ev_ins {s : Spc K} {C : Addr} {hC : Im K C} {fs gs : List (Str × V)} (x : s.ι) (hx : s.side x) (hs : s.args x = [tyIns C hC fs, tyIns C hC gs]) (ha : EvP ta σ H (tyIns C hC fs)) (hb : EvP tb σ H (tyIns C hC gs)) : EvP (tOp (Pr.rIns C s.sp E0) ta tb) σ H (s.res x) := fun H1 e Q q =>
  ha H1 e _ fun v H2 e2 z => hb H2 (e.trans e2) _ fun v' H3 e3 z' => by
    have y := (tyIns C hC fs).st v H2 H3 (ge_ex e3) z
    have ys : Tys (s.args x) [v, v'] H3 := by rw [hs]; exact .cons y (.cons z' .nil)
    obtain ⟨a, dx, e4, h4⟩ := y
    obtain ⟨b, dy, e5, h5⟩ := z'
    exact ⟨a, b, dx, dy, fs, gs, e4, e5, h4, h5, x, hx, ys, fun v H4 e6 r => q v H4 ((e2.trans e3).trans e6) r⟩
theorem ev_neg {s : Spc K} {C : Addr} {hC : Im K C} {fs : List (Str × V)} (x : s.ι) (hx : s.side x) (hs : s.args x = [tyIns C hC fs]) (ha : EvP ta σ H (tyIns C hC fs)) : EvP (tUn (Pr.rNegI C s.sp E0) ta) σ H (s.res x) := fun H1 e Q q =>
  ha H1 e _ fun v H2 e2 z => by
    have ys : Tys (s.args x) [v] H2 := by rw [hs]; exact .cons z .nil
    obtain ⟨a, dx, e4, h4⟩ := z
    exact ⟨a, dx, fs, e4, h4, x, hx, ys, fun v H4 e6 r => q v H4 (e2.trans e6) r⟩
/-! ### statements -/
variable {D : Ends} {tz tu tw : TS} {t : TT}
theorem q_asg {i : Nat} (hs : Sat Ts σ H) (h : EvP te σ H T) (k : ∀ σ' H', Ex H H' → Sat (Ts.set i (some T)) σ' H' → tz D σ' H') : tSeq (tAsg te (gName i)) tz D σ H :=
  h H (Ex.refl _) _ fun v H1 e z => k _ H1 e ((hs.ex e).set z)
theorem s_asg {i : Nat} (hs : Sat Ts σ H) (h : EvP te σ H T) (k : ∀ σ' H', Ex H H' → Sat (Ts.set i (some T)) σ' H' → D.nx σ' H') : tAsg te (gName i) D σ H :=
  h H (Ex.refl _) _ fun v H1 e z => k _ H1 e ((hs.ex e).set z)
theorem s_ret (h : EvP te σ H T) (k : ∀ v H', Ex H H' → T.p v H' → D.rt v H') : tRet te D σ H := h H (Ex.refl _) _ fun v H1 e z => k v H1 e z
end
end Pt

/-! Division by divisors of any size; the Ratio's own facts. -/
namespace Pr
open PySem PySem.Spec PyProof.Rows L2
/-- no one sees the module that great divisions go by -/
theorem seer_of {P : Program} {K : PySem.W.Frag} {mg : Str → Option Value} {base : Heap} (c : Pn.Cxt P K mg base) (M : L2.Mod K mg base) : base.NoSeer := by
  have m := (He.ba c.more).1
  unfold Pn.exA at m
  simp only [Bool.and_eq_true] at m
  obtain ⟨_, _, m1, ⟨⟨m2, m3⟩, m4⟩⟩ := m
  have ns : ∀ {a : Addr} {x : Str}, Pn.nsB K a x = true → ∃ mm, base.Ns a mm ∧ mm x = none := fun {a x} h => by
    unfold Pn.nsB at h
    obtain ⟨h1, h2⟩ := Bool.and_eq_true_iff.mp h
    have n : base.Ns a (base.nsMap a) := .of_isNs (PySem.W.isNs_of_in c.inb h1)
    exact ⟨_, n, PySem.W.ns_none_of c.inb n (He.eqO_ok h2)⟩
  refine ⟨?_, ?_, ?_, ?_⟩
  · unfold Pn.nsB at m2 m3
    obtain ⟨h1, h2⟩ := Bool.and_eq_true_iff.mp m2
    obtain ⟨_, h3⟩ := Bool.and_eq_true_iff.mp m3
    have n : base.Ns cStatics (base.nsMap cStatics) := .of_isNs (PySem.W.isNs_of_in c.inb h1)
    exact ⟨_, n, PySem.W.ns_none_of c.inb n (He.eqO_ok h2), PySem.W.ns_none_of c.inb n (He.eqO_ok h3)⟩
  · exact ns m4
  · exact M.blt
  · unfold Pn.bmB at m1
    split at m1
    · rename_i bm e
      split at m1
      · rename_i q d x y lk
        obtain ⟨h1, h2⟩ := Bool.and_eq_true_iff.mp m1
        refine ⟨mg, bm, _, c.ns, PySem.W.mg_of c.inb c.ns e, c.inb _ _ lk, ?_, ?_⟩
        · rw [of_decide_eq_true h1]
        · rw [of_decide_eq_true h2]
      · cases m1
    · cases m1
section
variable {X : Cx}
/-- // by any divisor but 0, in a def's body with room -/
theorem op_fdivP {k : Nat} (c : Pn.Cxt X.prog X.K X.mg X.base) (hr : Room k X.A) (hk : 33 ≤ k) (hst : X.stack = X.env :: X.outer := by rfl) (hg : X.env.scope.isGenerator = false := by rfl) (hco : X.env.scope.isCoroutine = false := by rfl) :
    OpR X (binaryOp .FloorDiv) (rI (fun _ j => j ≠ 0) fun i j => .int (i.fdiv j)) := by
  intro pins s σ H x y v u Q I rx ry h
  obtain ⟨i, j, rfl, rfl, hj, q⟩ := h
  obtain ⟨t, rfl⟩ := rx
  obtain ⟨t', rfl⟩ := ry
  have fr : X.A.frames = some (X.env :: X.outer) := by rw [← hst]; exact I.ok.frames
  have dp : X.A.depth + Builtin.pylongFrames < recursionLimit := by
    have := hr.dp
    show X.A.depth + 100 < recursionLimit
    omega
  exact floordiv_int hj ⟨.int (i.fdiv j), H, I.tok _, ⟨_, rfl⟩, q⟩ (.inr (PySem.PylongRoom.of I.nolimit dp (PySem.SeerAt.of ((seer_of c I.mod).keeps I.bk) c.tree fr hg hco I.ok.blt I.ok.glob)))
end
end Pr

/-! Types for what is walked, comprehensions, loops. -/
namespace Pt
open PySem PySem.Spec PyProof.Rows L2 Evl
section
variable {K : PySem.W.Frag} {σ : L2.St} {H : Hp} {Ts : TEnv K}
theorem Sat.forget {i : Nat} (h : Sat Ts σ H) : Sat (Ts.set i none) σ H := by
  unfold Sat at *
  induction h generalizing i with
  | nil => exact .nil
  | cons a r ih =>
    cases i with
    | zero => exact .cons (fun T' e => by cases e) r
    | succ i => exact .cons a ih
/-- what is walked: n items of types T; G says what must stand -/
def EvI (wi : TI) (σ : L2.St) (H : Hp) (n : Nat) (T : Nat → Ty K) (G : Hp → Hp → Prop) : Prop :=
  ∀ H1, Ex H H1 → ∀ R : It → Hp → Prop, (∀ J H2, Ex H1 H2 → Walk J n (G H2) (fun i H3 x H4 => Ex H3 H4 ∧ (T i).p x H4) → R J H2) → wi σ H1 R
variable {n : Nat} {T U : Nat → Ty K} {tl te : TE} {wi : TI} {G : Hp → Hp → Prop}
theorem ei_tup (h : EvP tl σ H (tySeq n T)) : EvI (iTup K tl) σ H n T (Ge K) := fun H1 e R q =>
  h H1 e _ fun v H2 e2 ⟨a, xs, e3, h3, l, ty⟩ => by
    subst l
    have sq : ∀ H3, Ge K H2 H3 → SqT K H3 a xs := fun H3 g => SqT.of (g _ _ h3 trivial)
    refine ⟨a, e3, ⟨xs, SqT.of h3⟩, q _ H2 e2 (walk_tup.mono sq fun i H3 x H4 hi g y => ?_)⟩
    obtain ⟨e4, e5⟩ := y
    subst e4
    exact ⟨Ex.refl _, (T i).st _ _ _ g (ty i x e5)⟩
theorem ei_list {l : Addr} {xs : List V} (h : EvP (K := K) tl σ H (tyE (.ref l))) (hl : SqL K H l xs) (ty : ∀ i x, xs[i]? = some x → (T i).p x H) : EvI (iList K tl) σ H xs.length T (fun _ H3 => SqL K H3 l xs ∧ Ge K H H3) := fun H1 e R q =>
  h H1 e _ fun v H2 e2 z => by
    cases z
    have hl2 := Evl.ex_l (e.trans e2) hl
    refine ⟨l, rfl, ⟨xs, hl2⟩, q _ H2 e2 (walk_list.mono (fun H3 g => g.1) fun i H3 x H4 hi g y => ?_)⟩
    obtain ⟨e4, e5⟩ := y
    subst e4
    exact ⟨Ex.refl _, (T i).st _ _ _ g.2 (ty i x e5)⟩
theorem ei_range1 {ta : TA} {j : Int} (h : EvPA (K := K) ta σ H [tyInt j]) (hj : j < 2 ^ 62) (h0 : 0 ≤ j) : EvI (K := K) (iRng1 ta) σ H j.toNat (fun i => tyInt (i : Nat)) (fun _ _ => True) := fun H1 e R q =>
  h H1 e _ fun vs H2 e2 z => by
    cases z with
    | cons z zs =>
      cases zs
      cases z
      refine ⟨j, rfl, by omega, hj, q _ H2 e2 (walk_range.mono (fun _ _ => trivial) fun i H3 x H4 _ _ y => ?_)⟩
      obtain ⟨e4, e5⟩ := y
      subst e4 e5
      refine ⟨Ex.refl _, ?_⟩
      show V.int (0 + (i : Int)) = V.int (i : Nat)
      rw [Int.zero_add]
theorem ei_rangeN {ta : TA} {m : Nat} (h : EvPA (K := K) ta σ H [tyInt (m : Int)]) (hm : m < 1000000000) : EvI (K := K) (iRng1 ta) σ H m (fun i => tyInt (i : Nat)) (fun _ _ => True) := by
  have q := ei_range1 h (by omega) (by omega)
  rw [Int.toNat_natCast] at q
  exact q
theorem ei_range2 {ta : TA} {j k : Int} (h : EvPA (K := K) ta σ H [tyInt j, tyInt k]) (hj : -(2 ^ 62) ≤ j ∧ j < 2 ^ 62 ∧ -(2 ^ 62) ≤ k ∧ k < 2 ^ 62) : EvI (K := K) (iRng2 ta) σ H (k - j).toNat (fun i => tyInt (j + (i : Nat))) (fun _ _ => True) := fun H1 e R q =>
  h H1 e _ fun vs H2 e2 z => by
    cases z with
    | cons z zs =>
      cases zs with
      | cons z' zs =>
        cases zs
        cases z
        cases z'
        refine ⟨j, k, rfl, hj, q _ H2 e2 (walk_range.mono (fun _ _ => trivial) fun i H3 x H4 _ _ y => ?_)⟩
        obtain ⟨e4, e5⟩ := y
        subst e4 e5
        exact ⟨Ex.refl _, rfl⟩
theorem walk_zipT {a b : Addr} {xs ys : List V} (hl : xs.length = n) (hl2 : ys.length = n) : Walk (RZ.ItzT K a b) n (fun H => SqT K H a xs ∧ SqT K H b ys) (YPair (fun i => xs[i]?) (fun i => ys[i]?)) := by
  refine ⟨fun i H hi q => ?_, fun H q => ⟨xs, ys, q.1, q.2, by omega⟩, fun i H v H' hi q y => ?_⟩
  · have h1 : i < xs.length := by omega
    have h2 : i < ys.length := by omega
    exact ⟨xs, ys, xs[i], ys[i], q.1, q.2, by simp [h1], by simp [h2]⟩
  · obtain ⟨T, x, z, h1, h2, h3, h4, h5⟩ := y
    exact ⟨T, x, z, h1, h2, h3, h4 xs q.1, h5 ys q.2⟩
theorem ei_zip {ta : TA} (h : EvPA ta σ H [tySeq n T, tySeq n U]) : EvI (RZ.iZipA K ta) σ H n (fun i => tyTup [T i, U i]) (Ge K) := fun H1 e R q =>
  h H1 e _ fun vs H2 e2 z => by
    cases z with
    | cons z zs =>
      cases zs with
      | cons z' zs =>
        cases zs
        obtain ⟨a, xs, e3, h3, l, ty⟩ := z
        obtain ⟨b, ys, e4, h4, l', ty'⟩ := z'
        subst e3 e4
        refine ⟨a, b, xs, ys, rfl, .inr ⟨SqT.of h3, SqT.of h4, q _ H2 e2 ((walk_zipT l l').mono (fun H3 g => ⟨SqT.of (g _ _ h3 trivial), SqT.of (g _ _ h4 trivial)⟩) fun i H3 x H4 hi g y => ?_)⟩⟩
        obtain ⟨t, x1, x2, y1, y2, y3, y4, y5⟩ := y
        subst y1 y3
        have ex := Ex.new (o := .tup [x1, x2]) y2
        exact ⟨ex, t, _, rfl, upd_same, .cons ((T i).st _ _ _ (g.trans (ge_ex ex)) (ty i x1 y4)) (.cons ((U i).st _ _ _ (g.trans (ge_ex ex)) (ty' i x2 y5)) .nil)⟩
theorem ei_enum {ta : TA} {l : Addr} {xs : List V} (h : EvPA (K := K) ta σ H [tyE (.ref l)]) (hl : SqL K H l xs) (ty : ∀ i x, xs[i]? = some x → (T i).p x H) : EvI (iEnum K ta) σ H xs.length (fun i => tyTup [tyInt (i : Nat), T i]) (fun _ H3 => SqL K H3 l xs ∧ Ge K H H3) := fun H1 e R q =>
  h H1 e _ fun vs H2 e2 z => by
    cases z with
    | cons z zs =>
      cases zs
      cases z
      have hl2 := Evl.ex_l (e.trans e2) hl
      refine ⟨l, xs, rfl, hl2, q _ H2 e2 (walk_enum.mono (fun H3 g => g.1) fun i H3 x H4 hi g y => ?_)⟩
      obtain ⟨t, x1, x2, y1, y2, y3, y4, y5⟩ := y
      subst y1 y3
      cases y4
      have ex := Ex.new (o := .tup [.int (i : Nat), x2]) y2
      exact ⟨ex, t, _, rfl, upd_same, .cons rfl (.cons ((T i).st _ _ _ (g.2.trans (ge_ex ex)) (ty i x2 y5)) .nil)⟩
/-- a pair goes to two names -/
theorem g_pair {A B : Ty K} {v : V} {i j : Nat} {Q : L2.St → Hp → Prop} (h : (tyTup [A, B]).p v H) (k : ∀ x y, A.p x H → B.p y H → Q ((σ.set i (some x)).set j (some y)) H) : gTup K 2 (gCons (gName i) (gCons (gName j) gNil)) v σ H Q := by
  obtain ⟨a, xs, e, h1, t⟩ := h
  cases t with
  | cons z zs =>
    cases zs with
    | cons z' zs =>
      cases zs
      exact ⟨a, _, e, SqT.of h1, rfl, _, _, rfl, _, _, rfl, rfl, k _ _ z z'⟩
/-! ### comprehensions -/
/-- what the comprehension's list holds -/
def Acc (H2 : Hp) (U : Nat → Ty K) (D : Addr) (i : Nat) (H' : Hp) : Prop := H2 D = none ∧ Ex H2 H' ∧ ∃ acc, H' D = some (.lst acc) ∧ acc.length = i ∧ ∀ k x, acc[k]? = some x → (U k).p x H'
theorem acc_turn {H2 H' : Hp} {D : Addr} {i : Nat} {σ2 : L2.St} (p : Acc H2 U D i H') (hn : i < 100000) (h : EvP te σ2 H' (U i)) : te σ2 H' fun y H4 => ∃ acc, H4 D = some (.lst acc) ∧ acc.length < sizeLine ∧ Acc H2 U D (i + 1) (upd H4 D (.lst (acc ++ [y]))) := by
  obtain ⟨p1, p2, acc, p3, p4, p5⟩ := p
  refine h H' (Ex.refl _) _ fun y H4 e4 z => ⟨acc, e4 _ _ p3, Evl.sz_lt (by omega), p1, Ex.mut (p2.trans e4) p1, _, upd_same, by rw [List.length_append, p4]; rfl, fun k x hk => ?_⟩
  have g : Ge K H4 (upd H4 D (.lst (acc ++ [y]))) := ge_lst (e4 _ _ p3)
  rw [List.getElem?_append] at hk
  split at hk
  · exact (U k).st _ _ _ ((ge_ex e4).trans g) (p5 k x hk)
  · rename_i hk2
    have ek : k = i := by
      have := (List.getElem?_eq_some_iff.mp hk).1
      simp at this
      omega
    subst ek
    rw [p4, Nat.sub_self] at hk
    cases hk
    exact (U k).st _ _ _ g z
theorem wipe1 (σ : L2.St) (j : Nat) (x : Option V) : wipe ((wipe σ [j]).set j x) [j] = wipe σ [j] := by
  show ((σ.set j none).set j x).set j none = σ.set j none
  rw [List.set_set, List.set_set]
theorem wipe2 (σ : L2.St) {i j : Nat} (hij : i ≠ j) (x y : Option V) : wipe (((wipe σ [i, j]).set i x).set j y) [i, j] = wipe σ [i, j] := by
  show (((((σ.set j none).set i none).set i x).set j y).set j none).set i none = (σ.set j none).set i none
  apply List.ext_getElem?
  intro k
  simp only [List.getElem?_set, List.length_set]
  by_cases h1 : i = k
  · subst h1
    simp
  · by_cases h2 : j = k
    · subst h2
      simp [h1]
    · simp [h1, h2]
/-- [e for x in ..] -/
theorem el_lc {j : Nat} (hs : Sat Ts σ H) (hi : EvI wi σ H n T G) (hG : ∀ H2 H3, Ex H H2 → Ex H2 H3 → G H2 H3) (hn : n ≤ 100000) (he : ∀ i σ' H', i < n → Ex H H' → Sat ((Ts.set j none).set j (some (T i))) σ' H' → EvP te σ' H' (U i)) :
    EvPL (tLc wi (gName j) tYes te [j]) σ H n U := fun H1 e Q q => hi H1 e _ fun J H2 e2 w D hD => by
  have e12 := e.trans e2
  refine lc_it w (Acc H2 U D) ⟨hD, Ex.new hD, [], upd_same, rfl, fun k x hk => by simp at hk⟩ (fun i H' _ p => hG H2 H' e12 p.2.1) (fun i x H' H'' hi' p y => ?_) (fun H' p => ?_)
  · obtain ⟨y1, y2⟩ := y
    have p' : Acc H2 U D i H'' := ⟨p.1, p.2.1.trans y1, let ⟨acc, a1, a2, a3⟩ := p.2.2; ⟨acc, y1 _ _ a1, a2, fun k x hk => (U k).st _ _ _ (ge_ex y1) (a3 k x hk)⟩⟩
    have s2 : Sat ((Ts.set j none).set j (some (T i))) ((wipe σ [j]).set j (some x)) H'' := Sat.set (Sat.del (hs.ex (e12.trans p'.2.1))) y2
    exact ⟨wipe1 σ j _, acc_turn p' (by omega) (he i _ H'' hi' (e12.trans p'.2.1) s2)⟩
  · obtain ⟨p1, p2, acc, p3, p4, p5⟩ := p
    exact q D acc H' (Evl.fresh_back e2 p1) (e2.trans p2) p3 p4 p5
/-- [e for x, y in ..] -/
theorem el_lc2 {i j : Nat} (hij : i ≠ j) {A B : Nat → Ty K} (hs : Sat Ts σ H) (hi : EvI wi σ H n (fun k => tyTup [A k, B k]) G) (hG : ∀ H2 H3, Ex H H2 → Ex H2 H3 → G H2 H3) (hn : n ≤ 100000)
    (he : ∀ k σ' H', k < n → Ex H H' → Sat ((((Ts.set j none).set i none).set i (some (A k))).set j (some (B k))) σ' H' → EvP te σ' H' (U k)) :
    EvPL (tLc wi (gTup K 2 (gCons (gName i) (gCons (gName j) gNil))) tYes te [i, j]) σ H n U := fun H1 e Q q => hi H1 e _ fun J H2 e2 w D hD => by
  have e12 := e.trans e2
  refine lc_it w (Acc H2 U D) ⟨hD, Ex.new hD, [], upd_same, rfl, fun k x hk => by simp at hk⟩ (fun i H' _ p => hG H2 H' e12 p.2.1) (fun k x H' H'' hi' p y => ?_) (fun H' p => ?_)
  · obtain ⟨y1, y2⟩ := y
    have p' : Acc H2 U D k H'' := ⟨p.1, p.2.1.trans y1, let ⟨acc, a1, a2, a3⟩ := p.2.2; ⟨acc, y1 _ _ a1, a2, fun k x hk => (U k).st _ _ _ (ge_ex y1) (a3 k x hk)⟩⟩
    refine g_pair y2 fun u v hu hv => ?_
    have s2 : Sat ((((Ts.set j none).set i none).set i (some (A k))).set j (some (B k))) (((wipe σ [i, j]).set i (some u)).set j (some v)) H'' := Sat.set (Sat.set (Sat.del (Sat.del (hs.ex (e12.trans p'.2.1)))) hu) hv
    exact ⟨wipe2 σ hij _ _, acc_turn p' (by omega) (he k _ H'' hi' (e12.trans p'.2.1) s2)⟩
  · obtain ⟨p1, p2, acc, p3, p4, p5⟩ := p
    exact q D acc H' (Evl.fresh_back e2 p1) (e2.trans p2) p3 p4 p5
abbrev rTupOf (K : PySem.W.Frag) : List V → Hp → VK → Prop := fun xs H Q => ∃ p ys, xs = [.ref p] ∧ ((SqL K H p ys ∧ ∀ l, H l = none → Q (.ref l) (upd H l (.tup ys))) ∨ (SqT K H p ys ∧ Q (.ref p) H))
/-- tuple([..]) -/
theorem ev_tuple (h : EvPL te σ H n U) : EvP (tCB (rTupOf K) (tCons te tNil)) σ H (tySeq n U) := fun H1 e Q q =>
  h H1 e _ fun p xs H2 hp e2 h2 l ty => ⟨p, xs, rfl, .inl ⟨SqL.of h2, fun t ht => q _ _ (e2.trans (Ex.new ht)) ⟨t, xs, rfl, upd_same, l, fun i x hx => (U i).st _ _ _ (ge_new ht) (ty i x hx)⟩⟩⟩
/-- a conditional expression -/
theorem ev_ifP {b : Bool} {t : TT} {ta tb : TE} {A : Ty K} (h : EvT t σ H b) (h1 : b = true → EvP ta σ H A) (h2 : b = false → EvP tb σ H A) : EvP (tIf t ta tb) σ H A := fun H1 e Q q => h H1 e _ fun H2 e2 => by
  cases b with
  | true => exact h1 rfl H2 (e.trans e2) Q fun v H3 e3 z => q v H3 (e2.trans e3) z
  | false => exact h2 rfl H2 (e.trans e2) Q fun v H3 e3 z => q v H3 (e2.trans e3) z
/-- a comparison as a test -/
theorem et_cmp {c b : Bool} (h : Ev te σ H (.bl c)) (e : c = b) : EvT (tTest te) σ H b := by
  rw [← e]
  exact Evl.et_test h
/-! ### loops -/
variable {D : Ends} {tz tu : TS} {g : TG}
theorem s_for (hi : EvI wi σ H n T G) (Pv : Hp → Nat → L2.St → Hp → Prop) (h0 : ∀ H2, Ex H H2 → Pv H2 0 σ H2) (hG : ∀ H2, Ex H H2 → ∀ i σ' H', i ≤ n → Pv H2 i σ' H' → G H2 H')
    (hs : ∀ H2, Ex H H2 → ∀ i x σ' H' H'', i < n → Pv H2 i σ' H' → Ex H' H'' → (T i).p x H'' → g x σ' H'' fun σ2 H3 => tu { D with nx := Pv H2 (i + 1), ct := Pv H2 (i + 1), bk := D.nx } σ2 H3)
    (hd : ∀ H2, Ex H H2 → ∀ σ' H', Pv H2 n σ' H' → D.nx σ' H') : tFor wi g tu D σ H :=
  hi H (Ex.refl _) _ fun J H2 e2 w => for_it w (Pv H2) (h0 H2 e2) (hG H2 e2) (fun i x σ' H' H'' hi p y => hs H2 e2 i x σ' H' H'' hi p y.1 y.2) (hd H2 e2)
theorem q_for (hi : EvI wi σ H n T G) (Pv : Hp → Nat → L2.St → Hp → Prop) (h0 : ∀ H2, Ex H H2 → Pv H2 0 σ H2) (hG : ∀ H2, Ex H H2 → ∀ i σ' H', i ≤ n → Pv H2 i σ' H' → G H2 H')
    (hs : ∀ H2, Ex H H2 → ∀ i x σ' H' H'', i < n → Pv H2 i σ' H' → Ex H' H'' → (T i).p x H'' → g x σ' H'' fun σ2 H3 => tu { D with nx := Pv H2 (i + 1), ct := Pv H2 (i + 1), bk := tz D } σ2 H3)
    (hd : ∀ H2, Ex H H2 → ∀ σ' H', Pv H2 n σ' H' → tz D σ' H') : tSeq (tFor wi g tu) tz D σ H :=
  s_for (D := { D with nx := tz D }) hi Pv h0 hG hs hd
/-- an item of a tuple -/
theorem ev_ixT {tb : TE} {i : Nat} (ha : EvP te σ H (tySeq n T)) (hb : EvP (K := K) tb σ H (tyInt (i : Nat))) (hi : i < n) : EvP (tOp (rIxT K) te tb) σ H (T i) := fun H1 e Q q =>
  ha H1 e _ fun v H2 e2 ⟨a, xs, e3, h3, l, ty⟩ => hb H2 (e.trans e2) _ fun v' H3 e4 z => by
    subst e3
    cases z
    have hx : i < xs.length := by omega
    have hx' : xs[i]? = some xs[i] := by simp [hx]
    refine ⟨a, xs, (i : Nat), xs[i], rfl, rfl, SqT.of (e4 _ _ h3), atI_nat hx', q _ H3 (e2.trans e4) ((T i).st _ _ _ (ge_ex e4) (ty i _ hx'))⟩
theorem ev_ixV {tb : TE} {i m : Nat} {f : Nat → Rat} (ha : EvP (K := K) te σ H (tyVec m f)) (hb : EvP (K := K) tb σ H (tyInt (i : Nat))) (hi : i < m) : EvP (K := K) (tOp (rIxT K) te tb) σ H (tyRat (f i)) := ev_ixT (T := fun i => tyRat (f i)) ha hb hi
theorem ev_ixM {tb : TE} {i h w : Nat} {f : Nat → Nat → Rat} (ha : EvP (K := K) te σ H (tyMat h w f)) (hb : EvP (K := K) tb σ H (tyInt (i : Nat))) (hi : i < h) : EvP (K := K) (tOp (rIxT K) te tb) σ H (tyVec w (f i)) := ev_ixT (T := fun i => tyVec w (f i)) ha hb hi
end
end Pt

/-! The layer's rules with the written part said (within a comprehension's block it can't be read off). -/
namespace Pt
open PySem PySem.Spec PyProof.Rows L2 Evl
section
variable {X : Cx} {K : PySem.W.Frag} {e l o : Expr} {pos : Pos} {te ta tl to : TE} {f : Str} {tg : Expr} {n : Nat}
theorem pe_fldK (K : PySem.W.Frag) (he : PE X e ta) (hb : attributeBase e f X.env (eval e X.env) = eval e X.env) (hK : X.K = K := by rfl) : PE X (.Attribute e f pos) (tFld K ta f) := by subst hK; exact pe_fld he hb
theorem pi_listK (K : PySem.W.Frag) (hl : PE X l tl) (hK : X.K = K := by rfl) : PI X tg l (iList K tl) := by subst hK; exact pi_list hl
theorem pi_tupK (K : PySem.W.Frag) (hl : PE X l tl) (hK : X.K = K := by rfl) : PI X tg l (iTup K tl) := by subst hK; exact pi_tup hl
theorem ix_listK (K : PySem.W.Frag) (hK : X.K = K := by rfl) : IxR X (rIxL K) := by subst hK; exact ix_list
theorem ix_tupK (K : PySem.W.Frag) (hK : X.K = K := by rfl) : IxR X (rIxT K) := by subst hK; exact ix_tup
theorem sl_listK (K : PySem.W.Frag) (hK : X.K = K := by rfl) : SlR X (rSlL K) := by subst hK; exact sl_list
theorem sl_tupK (K : PySem.W.Frag) (hK : X.K = K := by rfl) : SlR X (rSlT K) := by subst hK; exact sl_tup
theorem op_inK (K : PySem.W.Frag) (hK : X.K = K := by rfl) : OpR X (compareOp .In) (rIn K false) := by subst hK; exact op_in_seq
theorem op_notInK (K : PySem.W.Frag) (hK : X.K = K := by rfl) : OpR X (compareOp .NotIn) (rIn K true) := by subst hK; exact op_notIn_seq
theorem call_tupleK (K : PySem.W.Frag) (hK : X.K = K := by rfl) : CallR X (.type "tuple") (rTupOf K) := by subst hK; exact call_tuple_of
abbrev rLstOf (K : PySem.W.Frag) : List V → Hp → VK → Prop := fun xs H Q => ∃ p ys, xs = [.ref p] ∧ (SqL K H p ys ∨ SqT K H p ys) ∧ ∀ l, H l = none → Q (.ref l) (upd H l (.lst ys))
theorem call_listK (K : PySem.W.Frag) (hK : X.K = K := by rfl) : CallR X (.type "list") (rLstOf K) := by subst hK; exact call_list_of
abbrev rLen (K : PySem.W.Frag) : List V → Hp → VK → Prop := fun xs H Q => ∃ x n, xs = [x] ∧ LenV K x H n ∧ Q (.int n) H
theorem call_lenK (K : PySem.W.Frag) (hK : X.K = K := by rfl) : CallR X (.builtin "len") (rLen K) := by subst hK; exact call_len
theorem pg_tupK (K : PySem.W.Frag) {es : List Expr} {k : Nat} {t : TGs} (hc : X.calm = true) (h : PGs X es t)
    (hn : (assignEach es X.env).length = n := by rfl) (hst : (assignEach es X.env).findIdx? (·.1) = none := by rfl) (hK : X.K = K := by rfl) : PG X (.Tuple es k pos) (gTup K n t) := by subst hK; exact pg_tup hc h hn hst
theorem mt_indexK (K : PySem.W.Frag) (hK : X.K = K := by rfl) : MtR X "list.index" (rIndex K) := by subst hK; exact mt_index
theorem call_isiK2 (K : PySem.W.Frag) (hK : X.K = K := by rfl) : CallR X (.builtin "isinstance") (rIsi K) := by subst hK; exact call_isi
variable {e2 : Expr} {ta' : TA} {p tpos : Pos} {elts : List Expr} {kk : Nat}
theorem pi_zipK (K : PySem.W.Frag) (hg : Gl X "zip") (hm : X.mg "zip" = none) (ha : PA X [e, e2] ta') (hs : starEach [e, e2] X.env = (false, eval e X.env) :: starEach [e2] X.env := by rfl)
    (hpl : (backTo pos (starEach [e2] X.env)).any (·.1) = false := by rfl) (hK : X.K = K := by rfl) : PI X (.Tuple elts kk tpos) (.Call (.Name "zip" p) [e, e2] [] pos) (RZ.iZipA K ta') := by subst hK; exact RZ.pi_zipA hg hm ha hs hpl
theorem pi_enumK (K : PySem.W.Frag) (hg : Gl X "enumerate") (hm : X.mg "enumerate" = none) (ha : PA X [e] ta') (hs : starEach [e] X.env = [(false, eval e X.env)] := by rfl) (hK : X.K = K := by rfl) :
    PI X (.Tuple elts kk tpos) (.Call (.Name "enumerate" p) [e] [] pos) (iEnum K ta') := by subst hK; exact pi_enum hg hm ha hs
variable {es : List Expr} {t : TA} {name : Str} {apos cpos : Pos} {T id : String} {r : V → List V → Hp → VK → Prop}
theorem pe_bmK (K : PySem.W.Frag) (pa : PlainAttrs T) (slot : Slot T name id) (hty : typeOf (.builtin id) = pure (.type "method_descriptor")) (hm : MtR X id r) (ho : PE X o to) (ha : PA X (e :: es) t)
    (hbase : attributeBase o name X.env (eval o X.env) = eval o X.env := by rfl)
    (hfew : ((backTo cpos (starEach (e :: es) X.env)).all (fun x => !x.1) && (backToKw cpos (keywordEach [] X.env)).all (fun x => x.1.isSome)
      && decide ((e :: es).length + ([] : List Keyword).length + (if ([] : List Keyword).isEmpty then 0 else 1) < 30)) = true := by rfl)
    (hline : (apos.endLine == cpos.line) = true := by rfl) (hs : starEach (e :: es) X.env = (false, eval e X.env) :: starEach es X.env := by rfl) (hplain : (backTo cpos (starEach es X.env)).any (·.1) = false := by rfl) (hK : X.K = K := by rfl) :
    PE X (.Call (.Attribute o name apos) (e :: es) [] cpos) (tBM K T r to t) := by subst hK; exact pe_bm pa slot hty hm ho ha hbase hfew hline hs hplain
theorem gint {mg : Str → Option Value} {x : Str} {i : Int} (h : ∃ t, mg x = some (.int i t)) : ∃ u, mg x = some u ∧ RelV (.int i) u := let ⟨t, e⟩ := h; ⟨_, e, t, rfl⟩
end
end Pt

/-! Lists: made, read, grown. -/
namespace Pt
open PySem PySem.Spec PyProof.Rows L2 Evl
section
variable {K : PySem.W.Frag} {σ : L2.St} {H : Hp} {Ts : TEnv K} {n : Nat} {T U : Nat → Ty K} {te tb ta tl : TE} {A : Ty K}
/-- the items are of these types -/
def Its (T : Nat → Ty K) (xs : List V) (H : Hp) : Prop := ∀ i x, xs[i]? = some x → (T i).p x H
theorem Its.st {xs : List V} {H H' : Hp} (g : Ge K H H') (h : Its T xs H) : Its T xs H' := fun i x e => (T i).st _ _ _ g (h i x e)
theorem Its.ex {xs : List V} {H H' : Hp} (g : Ex H H') (h : Its T xs H) : Its T xs H' := h.st (ge_ex g)
theorem Its.nil {H : Hp} : Its T [] H := fun i x e => by simp at e
theorem Its.app {xs : List V} {v : V} {H : Hp} (h : Its T xs H) (hv : (T xs.length).p v H) : Its T (xs ++ [v]) H := fun i x e => by
  rw [List.getElem?_append] at e
  split at e
  · exact h i x e
  · have ek : i = xs.length := by
      have := (List.getElem?_eq_some_iff.mp e).1
      simp at this
      omega
    subst ek
    rw [Nat.sub_self] at e
    cases e
    exact hv
theorem Its.set {xs : List V} {v : V} {H : Hp} {j : Nat} (h : Its T xs H) (hv : (U j).p v H) (e : ∀ i, i ≠ j → i < xs.length → ∀ x, (T i).p x H → (U i).p x H) : Its U (xs.set j v) H := fun i x q => by
  rw [List.getElem?_set] at q
  split at q
  · rename_i e1
    subst e1
    split at q
    · cases q; exact hv
    · cases q
  · rename_i e1
    exact e i (fun z => e1 z.symm) (List.getElem?_eq_some_iff.mp q).1 x (h i x q)
theorem Its.tup {xs : List V} {H : Hp} {p : Addr} (h : Its T xs H) (hp : H p = some (.tup xs)) (l : xs.length = n) : (tySeq n T).p (.ref p) H := ⟨p, xs, rfl, hp, l, h⟩
/-- an item of a list -/
theorem ev_ixL {l : Addr} {xs : List V} {i : Nat} (hl : H l = some (.lst xs)) (it : Its T xs H) (ha : EvP (K := K) te σ H (tyE (.ref l))) (hb : EvP (K := K) tb σ H (tyE (.int (i : Nat)))) (hi : i < xs.length) : EvP (tOp (rIxL K) te tb) σ H (T i) := fun H1 e Q q =>
  ha H1 e _ fun v H2 e2 z => hb H2 (e.trans e2) _ fun v' H3 e3 z' => by
    cases z
    cases z'
    have hx' : xs[i]? = some xs[i] := by simp [hi]
    have e4 := (e.trans e2).trans e3
    exact ⟨l, xs, (i : Nat), xs[i], rfl, rfl, SqL.of (e4 _ _ hl), atI_nat hx', q _ H3 (e2.trans e3) ((it.ex e4) i _ hx')⟩
theorem ev_lenL {l : Addr} {xs : List V} (hl : H l = some (.lst xs)) (ha : EvP (K := K) te σ H (tyE (.ref l))) : EvP (K := K) (tCB (rLen K) (tCons te tNil)) σ H (tyE (.int (xs.length : Nat))) := fun H1 e Q q =>
  ha H1 e _ fun v H2 e2 z => by
    cases z
    exact ⟨_, xs.length, rfl, .inl ⟨xs, SqL.of ((e.trans e2) _ _ hl), rfl⟩, q _ H2 e2 rfl⟩
theorem ev_lenT (ha : EvP te σ H (tySeq n T)) : EvP (K := K) (tCB (rLen K) (tCons te tNil)) σ H (tyE (.int (n : Nat))) := fun H1 e Q q =>
  ha H1 e _ fun v H2 e2 ⟨a, xs, e3, h3, l, ty⟩ => by
    subst e3
    exact ⟨_, n, rfl, .inr ⟨xs, SqT.of h3, l.symm⟩, q _ H2 e2 rfl⟩
/-- list(t) -/
theorem el_listT (ha : EvP te σ H (tySeq n T)) : EvPL (tCB (rLstOf K) (tCons te tNil)) σ H n T := fun H1 e Q q =>
  ha H1 e _ fun v H2 e2 ⟨a, xs, e3, h3, l, ty⟩ => by
    subst e3
    exact ⟨a, xs, rfl, .inr (SqT.of h3), fun p hp => q p xs _ (Evl.fresh_back e2 hp) (e2.trans (Ex.new hp)) upd_same l (Its.ex (Ex.new hp) ty)⟩
theorem el_nil : EvPL (K := K) (tLst tNil) σ H 0 T := fun H1 e Q q => ⟨Nat.zero_le _, fun p hp => q p [] _ hp (Ex.new hp) upd_same rfl Its.nil⟩
/-- tuple(l) -/
theorem ev_tupL {l : Addr} {xs : List V} (hl : H l = some (.lst xs)) (it : Its T xs H) (ha : EvP (K := K) te σ H (tyE (.ref l))) : EvP (tCB (rTupOf K) (tCons te tNil)) σ H (tySeq xs.length T) := fun H1 e Q q =>
  ha H1 e _ fun v H2 e2 z => by
    cases z
    have e3 := e.trans e2
    exact ⟨l, xs, rfl, .inl ⟨SqL.of (e3 _ _ hl), fun t ht => q _ _ (e2.trans (Ex.new ht)) ⟨t, xs, rfl, upd_same, rfl, (it.ex e3).ex (Ex.new ht)⟩⟩⟩
theorem cut_take (xs : List V) {k : Nat} (h : k ≤ xs.length) : cutV xs none (some (k : Nat)) = xs.take k := by
  unfold cutV
  have e1 : HT.sIx xs.length 0 none = 0 := rfl
  have e2 : HT.sIx xs.length xs.length (some (k : Nat)) = k := by
    unfold HT.sIx
    simp
    split <;> omega
  rw [e1, e2]
  simp
/-- l[:k] -/
theorem el_take {l : Addr} {xs : List V} {k : Nat} (hl : H l = some (.lst xs)) (it : Its T xs H) (ha : EvP (K := K) te σ H (tyE (.ref l))) (hb : EvP (K := K) tb σ H (tyE (.int (k : Nat)))) (hk : k ≤ xs.length) : EvPL (tSl (rSlL K) te tNoPart (tPart tb)) σ H k T := fun H1 e Q q =>
  ha H1 e _ fun v H2 e2 z => hb H2 (e.trans e2) _ fun v' H3 e3 z' => by
    cases z
    cases z'
    have e4 := (e.trans e2).trans e3
    refine ⟨(k : Nat), rfl, l, xs, rfl, SqL.of (e4 _ _ hl), fun p hp => ?_⟩
    rw [cut_take xs hk]
    refine q p _ _ (Evl.fresh_back (e2.trans e3) hp) ((e2.trans e3).trans (Ex.new hp)) upd_same (by rw [List.length_take]; omega) fun i x hx => ?_
    rw [List.getElem?_take] at hx
    split at hx
    · exact ((it.ex e4).ex (Ex.new hp)) i x hx
    · cases hx
/-! ### statements -/
variable {D : Ends} {tz tu : TS}
theorem q_asgL {i : Nat} (hs : Sat Ts σ H) (h : EvPL te σ H n T) (k : ∀ p xs σ' H', H p = none → Ex H H' → H' p = some (.lst xs) → xs.length = n → Its T xs H' → Sat (Ts.set i (some (tyE (.ref p)))) σ' H' → tz D σ' H') : tSeq (tAsg te (gName i)) tz D σ H :=
  h H (Ex.refl _) _ fun p xs H1 hp e h1 l it => k p xs _ H1 hp e h1 l it ((hs.ex e).set rfl)
theorem s_asgL {i : Nat} (hs : Sat Ts σ H) (h : EvPL te σ H n T) (k : ∀ p xs σ' H', H p = none → Ex H H' → H' p = some (.lst xs) → xs.length = n → Its T xs H' → Sat (Ts.set i (some (tyE (.ref p)))) σ' H' → D.nx σ' H') : tAsg te (gName i) D σ H :=
  h H (Ex.refl _) _ fun p xs H1 hp e h1 l it => k p xs _ H1 hp e h1 l it ((hs.ex e).set rfl)
theorem s_retL (h : EvPL te σ H n T) (k : ∀ p xs H', H p = none → Ex H H' → H' p = some (.lst xs) → xs.length = n → Its T xs H' → D.rt (.ref p) H') : tRet te D σ H :=
  h H (Ex.refl _) _ fun p xs H1 hp e h1 l it => k p xs H1 hp e h1 l it
/-- l.append(e) -/
theorem s_app {l : Addr} {xs : List V} (hl : H l = some (.lst xs)) (ha : EvP (K := K) ta σ H (tyE (.ref l))) (h : EvP te σ H A) (hz : xs.length < 100000) (k : ∀ v H', Ex H H' → A.p v H' → H' l = some (.lst xs) → D.nx σ (upd H' l (.lst (xs ++ [v])))) : tDrop (tBM K "list" rAppend ta (tCons te tNil)) D σ H :=
  ha H (Ex.refl _) _ fun x H1 e1 z => by
    cases z
    exact ⟨.inl ⟨rfl, xs, SqL.of (e1 _ _ hl)⟩, h H1 e1 _ fun v H2 e2 zv => ⟨l, xs, v, rfl, rfl, (e1.trans e2) _ _ hl, Evl.sz_lt hz, k v H2 (e1.trans e2) zv ((e1.trans e2) _ _ hl)⟩⟩
theorem q_app {l : Addr} {xs : List V} (hl : H l = some (.lst xs)) (ha : EvP (K := K) ta σ H (tyE (.ref l))) (h : EvP te σ H A) (hz : xs.length < 100000) (k : ∀ v H', Ex H H' → A.p v H' → H' l = some (.lst xs) → tz D σ (upd H' l (.lst (xs ++ [v])))) : tSeq (tDrop (tBM K "list" rAppend ta (tCons te tNil))) tz D σ H :=
  s_app (D := { D with nx := tz D }) hl ha h hz k
theorem q_if {b : Bool} {t : TT} {tw : TS} (h : EvT t σ H b) (h1 : b = true → ∀ H1, Ex H H1 → tu { D with nx := tz D } σ H1) (h2 : b = false → ∀ H1, Ex H H1 → tw { D with nx := tz D } σ H1) : tSeq (tIfS t tu tw) tz D σ H := Evl.s_if (D := { D with nx := tz D }) h h1 h2
/-! ### promises that ask of the heap -/
structure Sph (K : PySem.W.Frag) where
  ι : Type
  args : ι → List (Ty K)
  side : ι → Hp → Prop
  post : ι → Hp → V → Hp → Prop
def Sph.sp (s : Sph K) : Sp := fun vs H Q _ => ∃ x : s.ι, s.side x H ∧ Tys (s.args x) vs H ∧ ∀ v H', Ex H H' → s.post x H v H' → Q v H'
theorem ev_callH {s : Sph K} {t : TA} {B : Ty K} (x : s.ι) (hx : ∀ H1, Ex H H1 → s.side x H1) (ha : EvPA t σ H (s.args x)) (hp : ∀ H1 v H2, Ex H H1 → Ex H1 H2 → s.post x H1 v H2 → B.p v H2) : EvP (tCall s.sp [] E0 t) σ H B := fun H1 e Q q =>
  ha H1 e _ fun vs H2 e2 zs => by
    refine ⟨x, hx H2 (e.trans e2), ?_, fun v H3 e3 z => q v H3 (e2.trans e3) (hp H2 v H3 (e.trans e2) e3 z)⟩
    rw [List.append_nil]
    exact zs
theorem el_callH {s : Sph K} {t : TA} (x : s.ι) (hx : ∀ H1, Ex H H1 → s.side x H1) (ha : EvPA t σ H (s.args x)) (hp : ∀ H1 v H2, Ex H H1 → Ex H1 H2 → s.post x H1 v H2 → ∃ p xs, v = .ref p ∧ H1 p = none ∧ H2 p = some (.lst xs) ∧ xs.length = n ∧ Its T xs H2) : EvPL (tCall s.sp [] E0 t) σ H n T := fun H1 e Q q =>
  ha H1 e _ fun vs H2 e2 zs => by
    refine ⟨x, hx H2 (e.trans e2), ?_, fun v H3 e3 z => ?_⟩
    · rw [List.append_nil]
      exact zs
    · obtain ⟨p, xs, rfl, h1, h2, h3, h4⟩ := hp H2 v H3 (e.trans e2) e3 z
      exact q p xs H3 (Evl.fresh_back e2 h1) (e2.trans e3) h2 h3 h4
/-- a def that is called as a statement, or whose answer is told by the post -/
theorem call_post {s : Sph K} {t : TA} {Q : VK} (x : s.ι) (hx : ∀ H1, Ex H H1 → s.side x H1) (ha : EvPA t σ H (s.args x)) (hp : ∀ H1 v H2, Ex H H1 → Ex H1 H2 → s.post x H1 v H2 → Q v H2) : tCall s.sp [] E0 t σ H Q :=
  ha H (Ex.refl _) _ fun vs H2 e2 zs => by
    refine ⟨x, hx H2 e2, ?_, fun v H3 e3 z => hp H2 v H3 e2 e3 z⟩
    rw [List.append_nil]
    exact zs
end
end Pt

/-! enumerate(tuple), zip(list, tuple). -/
namespace Pt
open PySem PySem.Spec PyProof.Rows L2 Evl
/-- the tuple at a, each item in a new pair -/
def IteT (K : PySem.W.Frag) (a : Addr) : It :=
  ⟨fun i H => ∃ (xs : List V) (x : V), SqT K H a xs ∧ xs[i]? = some x, fun i H v H' => ∃ T x, v = .ref T ∧ H T = none ∧ H' = upd H T (.tup [.int (i : Nat), x]) ∧ ∀ xs, SqT K H a xs → xs[i]? = some x, fun i H => ∃ xs : List V, SqT K H a xs ∧ xs.length ≤ i⟩
theorem turn_enumT {P : Program} {w : World} {K : PySem.W.Frag} {elts : List Expr} {kk : Nat} {tpos : Pos} (a e it : Addr) (hea : e ≠ a) (hai : a ≠ it) :
    Turn P w K (.Tuple elts kk tpos) (IteT K a) [e, it] e (fun i h => (∃ old, IsEnum h e it ((i : Nat) : Int) old) ∧ h.IsTupleIter it a i ∧ e ≠ it) where
  mem := by simp
  obj := fun i h st b hb => by
    obtain ⟨⟨old, he⟩, ⟨o, ho, hc, hd⟩, _⟩ := st
    have e' : b = e ∨ b = it := by simpa using hb
    rcases e' with z | z
    · rw [z]; exact ⟨_, he, fun v q => nomatch q⟩
    · rw [z]; exact ⟨o, ho, fun v q => by rw [hd] at q; cases q⟩
  keep := fun i h h' st k => let ⟨⟨old, he⟩, hi, hne⟩ := st; ⟨⟨old, k e (by simp) _ he⟩, hi.at fun o q => k it (by simp) o q, hne⟩
  item := by
    intro X hP hw hK hc i pins s σ H E I hf st hg
    subst hP hw hK
    obtain ⟨⟨old, he⟩, hit, hne⟩ := st
    obtain ⟨xs, x, hq, hx⟩ := hg
    obtain ⟨its, rv, p, hz⟩ := I.tuple hq
    obtain ⟨u, hu, ru⟩ := rv.get hx
    have hi : i < its.toArray.size := by simpa using (List.getElem?_eq_some_iff.mp hu).1
    have hel : e < s.heap.objs.size := Heap.lt_size he
    have hil : it < s.heap.objs.size := by obtain ⟨_, q, _⟩ := hit; exact Heap.lt_size q
    refine wpAny_pyNext_enum_itemD (Draws.tuple (prog := X.prog) (w := X.w) (A := X.A.in1) (I.ok.hd hc) it a hai its.toArray) he ⟨hit, p⟩ hi hne (by simp [hne, hea]) fun u' h' tk hu' ho hit' hT hsz hk => ?_
    obtain rfl : u' = u := by
      have q : its.toArray[i]? = some u := by simpa using hu
      rw [q] at hu'
      exact (Option.some.inj hu').symm
    refine ⟨_, rfl, wpAny_letOwnedTupleGo_enum (s := { s with heap := h', toks := tk + 1 }) ho fun h'' he' sb => ?_⟩
    have hT2 : h''.get? s.heap.objs.size = some { cls := .type "tuple", data := .seq #[.int i tk, u'] } := (sb.2 _ (Nat.ne_of_gt hel)).trans hT
    have new : ObjOk X.prog X.w (upd H s.heap.objs.size (.tup [.int (i : Nat), x])) h'' s.heap.objs.size (.tup [.int (i : Nat), x]) :=
      ⟨by show 2 ≤ sizeLine; decide, [.int i tk, u'], .cons ⟨_, rfl⟩ (.cons ru .nil), ⟨_, hT2, rfl, _, rfl⟩⟩
    have I1 : Inv X pins σ (upd H s.heap.objs.size (.tup [.int (i : Nat), x])) { s with heap := h'', toks := tk + 1 } :=
      I.turnedNew (ch := [e, it]) (fun b ob hb q => (sb.2 b (fun z => hb (by simp [z]))).trans (hk b ob (fun z => hb (by simp [z])) (fun z => hb (by simp [z])) q)) hf (Nat.le_refl _) new
    refine ⟨.ref s.heap.objs.size, _, I1, rfl, ⟨_, x, rfl, I.hok.fresh (Nat.le_refl _), rfl, fun ys hy => by rw [I.tuple_inj hy hq]; exact hx⟩, ⟨⟨u', ?_⟩, hit'.1.at fun o q => (sb.2 it (Ne.symm hne)).trans q, hne⟩, fun b hb => ?_⟩
    · have e1 : ((i + 1 : Nat) : Int) = (i : Int) + 1 := by omega
      rw [e1]; exact he'
    · have hb' : b < s.heap.objs.size := by
        have e' : b = e ∨ b = it := by simpa using hb
        rcases e' with z | z
        · rw [z]; exact hel
        · rw [z]; exact hil
      rw [upd_ne (Nat.ne_of_lt hb')]
      exact (hf b hb).1
  done := by
    intro X hP hw hK hc i pins s σ H E I hf st hg
    subst hP hw hK
    obtain ⟨⟨old, he⟩, hit, hne⟩ := st
    obtain ⟨xs, hq, hx⟩ := hg
    obtain ⟨its, rv, p, hz⟩ := I.tuple hq
    obtain ⟨f0, f1, f2, f3, f4, f5⟩ := hf it (by simp)
    have hl := rv.length
    have D : Draws X.prog X.w X.A.in1 it [it, a] i (fun k v => its.toArray[k]? = some v) (fun k h => k = i ∧ h.IsTupleIter it a k ∧ h.IsTuple a its.toArray) := by
      have hh : X.A.in1.handled = none := I.ok.hd hc
      refine ⟨fun _ _ st => let ⟨o, ho, _⟩ := st.2.1; ⟨o, ho⟩, fun _ _ _ st hk => ⟨st.1, st.2.1.at fun o e => hk it (by simp) o e, st.2.2.at fun o e => hk a (by simp) o e⟩, fun j s Q E hi st hQ => ?_, fun s Q E st hE => wpAny_nextOf_tuple_end hh st.2.1 st.2.2 (by simp; omega) hE⟩
      exact absurd hi (by omega)
    exact wpAny_pyNext_enum_endD D he ⟨rfl, hit, p⟩ fun h' eb => ⟨rfl, I.turned (t' := s.toks) (fun b o hb q => eb b o hb q) f0 f1 f3 f4 f5⟩
  self := fun A i s Q E st h => let ⟨⟨_, he⟩, _⟩ := st; wpAny_pyIter_enum he h
theorem meets_enumT (l : Addr) (items : Array Value) :
    Meets (Builtin.«enumerate.__new__» ⟨[.type "enumerate", .ref l], []⟩) (fun _ R s => s.heap.IsTuple l items ∧
      R (.ok (.ret (.ref (s.heap.push { cls := .type "tuple_iterator", data := .fields #[.ref l, .int 0 0] }).objs.size)))
        { s with heap := (s.heap.push { cls := .type "tuple_iterator", data := .fields #[.ref l, .int 0 0] }).push { cls := .type "enumerate", data := .fields #[.none, .bool false, .ref s.heap.objs.size, rawInt 0, .none, .none] } }) :=
  .of_wp fun prog w A R s h => by
    obtain ⟨hp, g, d, tk, os⟩ := s; obtain ⟨hl, h⟩ := h
    have hsub := sub_enumerate
    have hL : Heap.IsTuple (Shared.heap ⟨hp, g, d, tk, os⟩) l items := hl
    wp_walk using wpAny_pyIter_tuple hL
    refine wpAny_stack_any fun st => wpAny_pure ?_
    split
    · rename_i c _ _ _ _ _
      cases (c == Value.type "enumerate")
      · wp_walk using wpAny_pyIter_tuple hL
        exact ⟨_, rfl, h⟩
      · wp_walk using wpAny_pyIter_tuple hL
        exact ⟨_, rfl, h⟩
    · wp_walk using wpAny_pyIter_tuple hL
      exact ⟨_, rfl, h⟩
theorem call_enumT {prog : Program} {w : World} {A : Around} {E : Value → Shared → Prop} {s : Shared} {l : Addr} {items : Array Value} {Q : Value → Shared → Prop} (hL : s.heap.IsTuple l items)
    (h : ∀ h', IsEnum h' (s.heap.objs.size + 1) s.heap.objs.size 0 .none → h'.IsTupleIter s.heap.objs.size l 0 → h'.objs.size = s.heap.objs.size + 2 →
      (∀ b o, s.heap.get? b = some o → h'.get? b = some o) → Q (.ref (s.heap.objs.size + 1)) { s with heap := h' }) :
    wpAny (model prog w) A (call (.type "enumerate") [.ref l]) Q E s := by
  refine callType_new F.called_enumerate (by decide) (F.typeCall_enumerate_1 _) (F.newCall_enumerate_1 _) (fun obj => F.args_object_init_2 obj _) F.entry_enumerate_new
    (meets_enumT l items) ⟨hL, ?_⟩
  have hz : (s.heap.push { cls := .type "tuple_iterator", data := .fields #[.ref l, .int 0 0] }).objs.size = s.heap.objs.size + 1 := Heap.size_push ..
  show _ ∧ _
  rw [hz]
  have he : IsEnum ((s.heap.push { cls := .type "tuple_iterator", data := .fields #[.ref l, .int 0 0] }).push
      { cls := .type "enumerate", data := .fields #[.none, .bool false, .ref s.heap.objs.size, rawInt 0, .none, .none] }) (s.heap.objs.size + 1) s.heap.objs.size 0 .none := by
    have := Heap.get?_push_size (s.heap.push { cls := .type "tuple_iterator", data := .fields #[.ref l, .int 0 0] })
      (o := { cls := .type "enumerate", data := .fields #[.none, .bool false, .ref s.heap.objs.size, rawInt 0, .none, .none] }) rfl
    rw [hz] at this; exact this
  exact ⟨⟨_, he, rfl⟩, h _ he ⟨_, Heap.get?_push_of_some _ (Heap.get?_push_size _ rfl), rfl, rfl⟩ (by rw [Heap.size_push, hz]) fun b o x => Heap.get?_push_of_some _ (Heap.get?_push_of_some _ x)⟩
def iEnumT (K : PySem.W.Frag) (ta : TA) : TI := fun σ H R => ta σ H fun vs H1 => ∃ a xs, vs = [.ref a] ∧ SqT K H1 a xs ∧ R (IteT K a) H1
theorem pi_enumT (K : PySem.W.Frag) {X : Cx} {e : Expr} {ta : TA} {p pos tpos : Pos} {elts : List Expr} {kk : Nat} (hg : Gl X "enumerate") (hm : X.mg "enumerate" = none) (ha : PA X [e] ta) (hs : starEach [e] X.env = [(false, eval e X.env)] := by rfl) (hK : X.K = K := by rfl) :
    PI X (.Tuple elts kk tpos) (.Call (.Name "enumerate" p) [e] [] pos) (iEnumT K ta) := by
  subst hK
  refine ⟨fun pins s σ H R I h => ?_⟩
  refine Call_ (ld_blt I hg hm boot_enumerate (PyProof.Rows.callWith_type1 (thn (ha.run pos pins s σ H _ I h) fun us s1 ⟨vs, H1, I1, r1, q1⟩ => ?_) hs rfl))
  obtain ⟨a, xs, ex, hq, q⟩ := q1
  subst ex
  cases r1 with
  | cons r rr =>
    cases rr
    cases r
    obtain ⟨its, rv, p', hz⟩ := I1.tuple hq
    obtain ⟨o1, ho1, _⟩ := id p'
    have hal : a < s1.heap.objs.size := Heap.lt_size ho1
    refine call_enumT (show s1.heap.IsTuple a its.toArray from p') fun h' he hit hsz hk => wpAny_pyIter_enum he ?_
    have I2 : Inv X pins σ H1 { s1 with heap := h' } := I1.kept (t' := s1.toks) hk
    refine ⟨s1.heap.objs.size + 1, [s1.heap.objs.size + 1, s1.heap.objs.size], _, _, H1, rfl, I2, turn_enumT a (s1.heap.objs.size + 1) s1.heap.objs.size (Nat.ne_of_gt (Nat.lt_succ_of_lt hal)) (Nat.ne_of_lt hal), ⟨⟨.none, he⟩, hit, Nat.succ_ne_self _⟩, fun b hb => ?_, q⟩
    have e' : b = s1.heap.objs.size + 1 ∨ b = s1.heap.objs.size := by simpa using hb
    have hle : s1.heap.objs.size ≤ b := by
      rcases e' with z | z
      · rw [z]; exact Nat.le_add_right _ _
      · rw [z]; exact Nat.le_refl _
    exact I1.fpOk hle (I1.hok.fresh hle)
section
variable {K : PySem.W.Frag} {σ : L2.St} {H : Hp} {n : Nat} {T U : Nat → Ty K} {ta : TA}
theorem walk_enumT {a : Addr} {xs : List V} (hl : xs.length = n) : Walk (IteT K a) n (fun H => SqT K H a xs) (fun i H v H' => ∃ T x, v = .ref T ∧ H T = none ∧ H' = upd H T (.tup [.int (i : Nat), x]) ∧ xs[i]? = some x) := by
  refine ⟨fun i H hi q => ?_, fun H q => ⟨xs, q, by omega⟩, fun i H v H' hi q y => ?_⟩
  · have h1 : i < xs.length := by omega
    exact ⟨xs, xs[i], q, by simp [h1]⟩
  · obtain ⟨T, x, h1, h2, h3, h4⟩ := y
    exact ⟨T, x, h1, h2, h3, h4 xs q⟩
theorem ei_enumT (h : EvPA ta σ H [tySeq n T]) : EvI (iEnumT K ta) σ H n (fun i => tyTup [tyInt (i : Nat), T i]) (Ge K) := fun H1 e R q =>
  h H1 e _ fun vs H2 e2 z => by
    cases z with
    | cons z zs =>
      cases zs
      obtain ⟨a, xs, e3, h3, l, ty⟩ := z
      subst e3
      refine ⟨a, xs, rfl, SqT.of h3, q _ H2 e2 ((walk_enumT l).mono (fun H3 g => SqT.of (g _ _ h3 trivial)) fun i H3 x H4 hi g y => ?_)⟩
      obtain ⟨t, x1, y1, y2, y3, y4⟩ := y
      subst y1 y3
      have ex := Ex.new (o := .tup [.int (i : Nat), x1]) y2
      exact ⟨ex, t, _, rfl, upd_same, .cons rfl (.cons ((T i).st _ _ _ (g.trans (ge_ex ex)) (ty i x1 y4)) .nil)⟩
end
/-! ### zip(list, tuple) -/
theorem ne_listIter {h : Heap} {a i1 : Addr} {i : Nat} {xs : Array Value} (h1 : h.IsListIter i1 a i) (p : h.IsList a xs) : a ≠ i1 := fun e => by
  obtain ⟨o, ho, c1, _⟩ := id h1
  obtain ⟨o2, ho2, c2, _⟩ := p
  rw [e] at ho2
  rw [ho] at ho2
  cases ho2
  rw [c1] at c2
  simp at c2
theorem ne_tupIter {h : Heap} {a i1 : Addr} {i : Nat} {xs : Array Value} (h1 : h.IsTupleIter i1 a i) (p : h.IsTuple a xs) : a ≠ i1 := fun e => by
  obtain ⟨o, ho, c1, _⟩ := id h1
  obtain ⟨o2, ho2, c2, _⟩ := id p
  rw [e] at ho2
  rw [ho] at ho2
  cases ho2
  rw [c1] at c2
  simp at c2
/-- what is drawn when the turns are at i -/
theorem draws_listAt {prog : Program} {w : World} {A : Around} (hh : A.handled = none) (it l : Addr) (hne : l ≠ it) (items : Array Value) (i : Nat) :
    ∃ n, i ≤ n ∧ (items.size ≤ i → n = i) ∧ Draws prog w A it [it, l] n (fun k v => items[k]? = some v) (fun k h => (items.size ≤ i → k = i) ∧ h.IsListIter it l k ∧ h.IsList l items) := by
  by_cases hi : items.size ≤ i
  · refine ⟨i, Nat.le_refl _, fun _ => rfl, ⟨fun _ _ st => let ⟨o, ho, _⟩ := st.2.1; ⟨o, ho⟩, fun _ _ _ st hk => ⟨st.1, st.2.1.at fun o e => hk it (by simp) o e, st.2.2.at fun o e => hk l (by simp) o e⟩, fun j s Q E hj st hQ => ?_, fun s Q E st hE => wpAny_nextOf_list_end hh st.2.1 st.2.2 (by simp; omega) hE⟩⟩
    exact absurd (st.1 hi) (by omega)
  · refine ⟨items.size, by omega, fun z => absurd z hi, ⟨fun _ _ st => let ⟨o, ho, _⟩ := st.2.1; ⟨o, ho⟩, fun _ _ _ st hk => ⟨st.1, st.2.1.at fun o e => hk it (by simp) o e, st.2.2.at fun o e => hk l (by simp) o e⟩, fun j s Q E hj st hQ => ?_, fun s Q E st hE => wpAny_nextOf_list_end hh st.2.1 st.2.2 (by simp) hE⟩⟩
    refine wpAny_nextOf_list_item st.2.1 st.2.2 (x := items[j]) (by simp [hj]) fun h' hit' hs' => ?_
    exact hQ _ h' s.toks (by simp [hj]) ⟨fun z => absurd z hi, hit', st.2.2.extBut hs'.extBut hne⟩ hs'
theorem draws_tupAt {prog : Program} {w : World} {A : Around} (hh : A.handled = none) (it l : Addr) (hne : l ≠ it) (items : Array Value) (i : Nat) :
    ∃ n, i ≤ n ∧ (items.size ≤ i → n = i) ∧ Draws prog w A it [it, l] n (fun k v => items[k]? = some v) (fun k h => (items.size ≤ i → k = i) ∧ h.IsTupleIter it l k ∧ h.IsTuple l items) := by
  by_cases hi : items.size ≤ i
  · refine ⟨i, Nat.le_refl _, fun _ => rfl, ⟨fun _ _ st => let ⟨o, ho, _⟩ := st.2.1; ⟨o, ho⟩, fun _ _ _ st hk => ⟨st.1, st.2.1.at fun o e => hk it (by simp) o e, st.2.2.at fun o e => hk l (by simp) o e⟩, fun j s Q E hj st hQ => ?_, fun s Q E st hE => wpAny_nextOf_tuple_end hh st.2.1 st.2.2 (by simp; omega) hE⟩⟩
    exact absurd (st.1 hi) (by omega)
  · refine ⟨items.size, by omega, fun z => absurd z hi, ⟨fun _ _ st => let ⟨o, ho, _⟩ := st.2.1; ⟨o, ho⟩, fun _ _ _ st hk => ⟨st.1, st.2.1.at fun o e => hk it (by simp) o e, st.2.2.at fun o e => hk l (by simp) o e⟩, fun j s Q E hj st hQ => ?_, fun s Q E st hE => wpAny_nextOf_tuple_end hh st.2.1 st.2.2 (by simp) hE⟩⟩
    refine wpAny_nextOf_tuple_item st.2.1 st.2.2 (x := items[j]) (by simp [hj]) fun h' hit' hs' => ?_
    exact hQ _ h' s.toks (by simp [hj]) ⟨fun z => absurd z hi, hit', st.2.2.extBut hs'.extBut hne⟩ hs'
def ItzM (K : PySem.W.Frag) (a b : Addr) : It :=
  ⟨fun i H => ∃ (xs ys : List V) (x y : V), SqL K H a xs ∧ SqT K H b ys ∧ xs[i]? = some x ∧ ys[i]? = some y,
    fun i H v H' => ∃ T x y, v = .ref T ∧ H T = none ∧ H' = upd H T (.tup [x, y]) ∧ (∀ xs, SqL K H a xs → xs[i]? = some x) ∧ ∀ ys, SqT K H b ys → ys[i]? = some y,
    fun i H => ∃ xs ys : List V, SqL K H a xs ∧ SqT K H b ys ∧ (xs.length ≤ i ∨ ys.length ≤ i)⟩
theorem turn_zipM {P : Program} {w : World} {K : PySem.W.Frag} {elts : List Expr} {kk : Nat} {tpos : Pos} {a b z TI TO i1 i2 : Addr} (S : ZipSep2 z TI TO i1 i2 [i1, a] [i2, b]) :
    Turn P w K (.Tuple elts kk tpos) (ItzM K a b) [z, TI, TO, i1, i2] z (fun i h => IsZip h z TI TO .none ∧ IsPair h TI (.ref i1) (.ref i2) ∧ (∃ x y, IsPair h TO x y) ∧ h.IsListIter i1 a i ∧ h.IsTupleIter i2 b i) where
  mem := by simp
  obj := fun i h st c hc => by
    obtain ⟨hz, hTI, ⟨x, y, hTO⟩, ⟨o1, e1, _, d1⟩, ⟨o2, e2, _, d2⟩⟩ := st
    have e' : c = z ∨ c = TI ∨ c = TO ∨ c = i1 ∨ c = i2 := by simpa using hc
    rcases e' with q | q | q | q | q
    · rw [q]; exact ⟨_, hz, fun v q => nomatch q⟩
    · rw [q]; exact ⟨_, hTI, fun v q => nomatch q⟩
    · rw [q]; exact ⟨_, hTO, fun v q => nomatch q⟩
    · rw [q]; exact ⟨o1, e1, fun v q => by rw [d1] at q; cases q⟩
    · rw [q]; exact ⟨o2, e2, fun v q => by rw [d2] at q; cases q⟩
  keep := fun i h h' st k => by
    obtain ⟨hz, hTI, ⟨x, y, hTO⟩, h1, h2⟩ := st
    exact ⟨k z (by simp) _ hz, k TI (by simp) _ hTI, ⟨x, y, k TO (by simp) _ hTO⟩, h1.at fun o q => k i1 (by simp) o q, h2.at fun o q => k i2 (by simp) o q⟩
  item := by
    intro X hP hw hK hc i pins s σ H E I hf st hg
    subst hP hw hK
    obtain ⟨hz, hTI, ⟨x0, y0, hTO⟩, h1, h2⟩ := st
    obtain ⟨xs, ys, x, y, hqx, hqy, hx, hy⟩ := hg
    obtain ⟨its, rv, p, _⟩ := I.list hqx
    obtain ⟨its2, rv2, p2, _⟩ := I.tuple hqy
    obtain ⟨u, hu, ru⟩ := rv.get hx
    obtain ⟨u2, hu2, ru2⟩ := rv2.get hy
    have hzl : z < s.heap.objs.size := Heap.lt_size hz
    have hi : i < its.toArray.size := by simpa using (List.getElem?_eq_some_iff.mp hu).1
    have hi2 : i < its2.toArray.size := by simpa using (List.getElem?_eq_some_iff.mp hu2).1
    have ne1 := ne_listIter h1 p.isList
    have ne2 := ne_tupIter h2 p2
    have hh : X.A.in1.handled = none := I.ok.hd hc
    refine wpAny_pyNext_zipD2_item S (Draws.list (prog := X.prog) (w := X.w) (A := X.A.in1) hh i1 a ne1 its.toArray) (Draws.tuple (prog := X.prog) (w := X.w) (A := X.A.in1) hh i2 b ne2 its2.toArray) hz hTI hTO ⟨h1, p.isList⟩ ⟨h2, p2⟩ hi hi2 fun u' u2' h' tk hu' hu2' z' TO' h1' h2' hT hsz hk => ?_
    obtain rfl : u' = u := by
      have q : its.toArray[i]? = some u := by simpa using hu
      rw [q] at hu'
      exact (Option.some.inj hu').symm
    obtain rfl : u2' = u2 := by
      have q : its2.toArray[i]? = some u2 := by simpa using hu2
      rw [q] at hu2'
      exact (Option.some.inj hu2').symm
    refine ⟨_, rfl, wpAny_letOwnedTupleGo_zip (s := { s with heap := h', toks := tk }) z' fun h'' z'' sb => ?_⟩
    have hT2 : h''.get? s.heap.objs.size = some { cls := .type "tuple", data := .seq #[u', u2'] } := (sb.2 _ (Nat.ne_of_gt hzl)).trans hT
    have new : ObjOk X.prog X.w (upd H s.heap.objs.size (.tup [x, y])) h'' s.heap.objs.size (.tup [x, y]) :=
      ⟨by show 2 ≤ sizeLine; decide, [u', u2'], .cons ru (.cons ru2 .nil), ⟨_, hT2, rfl, _, rfl⟩⟩
    have I1 : Inv X pins σ (upd H s.heap.objs.size (.tup [x, y])) { s with heap := h'', toks := tk } :=
      I.turnedNew (ch := [z, TI, TO, i1, i2]) (fun c o hb q => (sb.2 c (fun q' => hb (by simp [q']))).trans (hk c o (fun q' => hb (by simp [q'])) (fun q' => hb (by simp [q'])) (fun q' => hb (by simp [q'])) (fun q' => hb (by simp [q'])) q)) hf (Nat.le_refl _) new
    refine ⟨.ref s.heap.objs.size, _, I1, rfl, ⟨_, x, y, rfl, I.hok.fresh (Nat.le_refl _), rfl, fun l hl => by rw [I.list_inj hl hqx]; exact hx, fun l hl => by rw [I.tuple_inj hl hqy]; exact hy⟩, ⟨z'', ?_, ⟨u', u2', ?_⟩, ?_, ?_⟩, fun c hcm => ?_⟩
    · exact (sb.2 _ S.TIz).trans (hk _ _ S.TIz S.TITO S.TIi1 S.TIi2 hTI)
    · exact (sb.2 _ S.TOz).trans TO'
    · exact h1'.1.at fun o q => (sb.2 _ S.zi1.symm).trans q
    · exact h2'.1.at fun o q => (sb.2 _ S.zi2.symm).trans q
    · have hlt : c < s.heap.objs.size := by
        have e' : c = z ∨ c = TI ∨ c = TO ∨ c = i1 ∨ c = i2 := by simpa using hcm
        rcases e' with q | q | q | q | q
        · rw [q]; exact hzl
        · rw [q]; exact Heap.lt_size hTI
        · rw [q]; exact Heap.lt_size hTO
        · rw [q]; obtain ⟨_, e1, _⟩ := h1; exact Heap.lt_size e1
        · rw [q]; obtain ⟨_, e2, _⟩ := h2; exact Heap.lt_size e2
      rw [upd_ne (Nat.ne_of_lt hlt)]
      exact (hf c hcm).1
  done := by
    intro X hP hw hK hc i pins s σ H E I hf st hg
    subst hP hw hK
    obtain ⟨hz, hTI, ⟨x0, y0, hTO⟩, h1, h2⟩ := st
    obtain ⟨xs, ys, hqx, hqy, hend⟩ := hg
    obtain ⟨its, rv, p, _⟩ := I.list hqx
    obtain ⟨its2, rv2, p2, _⟩ := I.tuple hqy
    have l1 := rv.length
    have l2 := rv2.length
    have hh : X.A.in1.handled = none := I.ok.hd hc
    obtain ⟨n1, m1, m2, D1⟩ := draws_listAt (prog := X.prog) (w := X.w) (A := X.A.in1) hh i1 a (ne_listIter h1 p.isList) its.toArray i
    obtain ⟨n2, k1, k2, D2⟩ := draws_tupAt (prog := X.prog) (w := X.w) (A := X.A.in1) hh i2 b (ne_tupIter h2 p2) its2.toArray i
    have hend' : i = n1 ∨ i = n2 := by
      rcases hend with q | q
      · exact .inl (m2 (by simp; omega)).symm
      · exact .inr (k2 (by simp; omega)).symm
    exact wpAny_pyNext_zipD2_end S D1 D2 hz hTI hTO ⟨fun _ => rfl, h1, p.isList⟩ ⟨fun _ => rfl, h2, p2⟩ m1 k1 hend' fun h' tk hk => ⟨rfl, I.turnedL (t' := tk) (ch := [z, TI, TO, i1, i2]) (fun c o hb q =>
      hk c o (fun q' => hb (by simp [q'])) (fun q' => hb (by simp [q'])) (fun q' => hb (by simp [q'])) (fun q' => hb (by simp [q'])) q) hf⟩
  self := fun A i s Q E st h => wpAny_pyIter_zip st.1 h
def iZipM (K : PySem.W.Frag) (ta : TA) : TI := fun σ H R => ta σ H fun vs H1 => ∃ a b xs ys, vs = [.ref a, .ref b] ∧ SqL K H1 a xs ∧ SqT K H1 b ys ∧ R (ItzM K a b) H1
theorem pi_zipM (K : PySem.W.Frag) {X : Cx} {e e2 : Expr} {ta : TA} {p pos tpos : Pos} {elts : List Expr} {kk : Nat} (hg : Gl X "zip") (hm : X.mg "zip" = none) (ha : PA X [e, e2] ta)
    (hs : starEach [e, e2] X.env = (false, eval e X.env) :: starEach [e2] X.env := by rfl) (hpl : (backTo pos (starEach [e2] X.env)).any (·.1) = false := by rfl) (hK : X.K = K := by rfl) :
    PI X (.Tuple elts kk tpos) (.Call (.Name "zip" p) [e, e2] [] pos) (iZipM K ta) := by
  subst hK
  refine ⟨fun pins s σ H R I h => ?_⟩
  refine Call_ (ld_blt I hg hm PyProof.Rows.boot_zip (PyProof.Rows.callWith_type1 (thn (ha.run pos pins s σ H _ I h) fun us s1 ⟨vs, H1, I1, r1, q1⟩ => ?_) hs hpl))
  obtain ⟨a, b, xs, ys, ex, hqx, hqy, q⟩ := q1
  subst ex
  cases r1 with
  | cons r rr =>
    cases rr with
    | cons r' rr =>
      cases rr
      cases r
      cases r'
      obtain ⟨its, rv, p1, _⟩ := I1.list hqx
      obtain ⟨its2, rv2, p2, _⟩ := I1.tuple hqy
      obtain ⟨o2, ho2, _⟩ := id p2
      have la : a < s1.heap.objs.size := p1.lt
      have lb : b < s1.heap.objs.size := Heap.lt_size ho2
      refine zip_begins2 (begins_list a its.toArray) (begins_tuple b its2.toArray) p1.isList p2 fun h' hz hTI hTO h1 h2 hsz hk => wpAny_pyIter_zip hz ?_
      have I2 : Inv X pins σ H1 { s1 with heap := h' } := I1.kept (t' := s1.toks) hk
      refine ⟨s1.heap.objs.size + 4, [s1.heap.objs.size + 4, s1.heap.objs.size + 2, s1.heap.objs.size + 3, s1.heap.objs.size, s1.heap.objs.size + 1], _, _, H1, rfl, I2, turn_zipM (zip_sep2 (by simpa using la) (by simpa using lb)), ⟨hz, hTI, ⟨_, _, hTO⟩, ⟨_, h1, rfl, rfl⟩, ⟨_, h2, rfl, rfl⟩⟩, fun c hcm => ?_, q⟩
      have e' : c = s1.heap.objs.size + 4 ∨ c = s1.heap.objs.size + 2 ∨ c = s1.heap.objs.size + 3 ∨ c = s1.heap.objs.size ∨ c = s1.heap.objs.size + 1 := by simpa using hcm
      have hle : s1.heap.objs.size ≤ c := by
        rcases e' with z | z | z | z | z
        · rw [z]; exact Nat.le_add_right _ _
        · rw [z]; exact Nat.le_add_right _ _
        · rw [z]; exact Nat.le_add_right _ _
        · rw [z]; exact Nat.le_refl _
        · rw [z]; exact Nat.le_add_right _ _
      exact I1.fpOk hle (I1.hok.fresh hle)
section
variable {K : PySem.W.Frag} {σ : L2.St} {H : Hp} {n : Nat} {T U : Nat → Ty K} {te : TE}
theorem walk_zipM {a b : Addr} {xs ys : List V} (hl : xs.length = n) (hl2 : ys.length = n) : Walk (ItzM K a b) n (fun H => SqL K H a xs ∧ SqT K H b ys) (YPair (fun i => xs[i]?) (fun i => ys[i]?)) := by
  refine ⟨fun i H hi q => ?_, fun H q => ⟨xs, ys, q.1, q.2, by omega⟩, fun i H v H' hi q y => ?_⟩
  · have h1 : i < xs.length := by omega
    have h2 : i < ys.length := by omega
    exact ⟨xs, ys, xs[i], ys[i], q.1, q.2, by simp [h1], by simp [h2]⟩
  · obtain ⟨T, x, z, h1, h2, h3, h4, h5⟩ := y
    exact ⟨T, x, z, h1, h2, h3, h4 xs q.1, h5 ys q.2⟩
theorem ei_zipM {l : Addr} {xs : List V} {tl : TE} (ha : EvP (K := K) tl σ H (tyE (.ref l))) (hb : EvP te σ H (tySeq xs.length U)) (hl : SqL K H l xs) (it : Its T xs H) :
    EvI (iZipM K (tCons tl (tCons te tNil))) σ H xs.length (fun i => tyTup [T i, U i]) (fun H2 H3 => SqL K H3 l xs ∧ Ge K H2 H3) := fun H1 e R q =>
  ha H1 e _ fun v H2 e2 z => hb H2 (e.trans e2) _ fun v' H3 e3 ⟨b, ys, e4, h4, l', ty'⟩ => by
    cases z
    subst e4
    have hl3 := Evl.ex_l ((e.trans e2).trans e3) hl
    have ge3 : Ge K H H3 := ge_ex ((e.trans e2).trans e3)
    refine ⟨l, b, xs, ys, rfl, hl3, SqT.of h4, q _ H3 (e2.trans e3) ((walk_zipM rfl l').mono (fun H4 g => ⟨g.1, SqT.of (g.2 _ _ h4 trivial)⟩) fun i H4 x H5 hi g y => ?_)⟩
    obtain ⟨t, x1, x2, y1, y2, y3, y4, y5⟩ := y
    subst y1 y3
    have ex := Ex.new (o := .tup [x1, x2]) y2
    have g5 : Ge K H3 (upd H4 t (.tup [x1, x2])) := g.2.trans (ge_ex ex)
    exact ⟨ex, t, _, rfl, upd_same, .cons ((T i).st _ _ _ (ge3.trans g5) (it i x1 y4)) (.cons ((U i).st _ _ _ g5 (ty' i x2 y5)) .nil)⟩
end
end Pt

/-! An own list in a loop; flat items; more statements. -/
namespace Pt
open PySem PySem.Spec PyProof.Rows L2 Evl
section
variable {K : PySem.W.Frag} {σ : L2.St} {H H' H'' H1 H2 : Hp} {Ts : TEnv K} {n : Nat} {T U : Nat → Ty K} {te tb ta tl tc : TE} {A B : Ty K} {p l : Addr} {xs ys : List V} {v : V}
/-- p, made behind H1, is a list of our own; what H2 knows of things that never change stands -/
structure Own (K : PySem.W.Frag) (H1 H2 : Hp) (p : Addr) (ys : List V) (H' : Hp) : Prop where
  fr : H1 p = none
  ex : Ex H1 H'
  ge : Ge K H2 H'
  at_ : H' p = some (.lst ys)
theorem Own.on (o : Own K H1 H2 p ys H') (e : Ex H' H'') : Own K H1 H2 p ys H'' := ⟨o.fr, o.ex.trans e, o.ge.trans (ge_ex e), e _ _ o.at_⟩
theorem Own.upd (o : Own K H1 H2 p ys H') (xs : List V) : Own K H1 H2 p xs (upd H' p (.lst xs)) := ⟨o.fr, Ex.mut o.ex o.fr, o.ge.trans (ge_lst o.at_), upd_same⟩
theorem Own.kept (o : Own K H1 H2 p ys H') (q : Addr) {u : HO} (h : H1 q = some u) : H' q = some u := o.ex _ _ h
theorem Own.geu (o : Own K H1 H2 p ys H') {xs : List V} : Ge K H' (L2.upd H' p (.lst xs)) := ge_lst o.at_
/-- items told by values -/
theorem its_eq {g : Nat → V} (h : Its (K := K) (fun i => tyE (g i)) xs H) (l : xs.length = n) : xs = (List.range n).map g := by
  apply List.ext_getElem?
  intro i
  by_cases hi : i < xs.length
  · have e : xs[i]? = some xs[i] := List.getElem?_eq_getElem hi
    have q : xs[i] = g i := h i _ e
    rw [e, List.getElem?_map, List.getElem?_range (by omega), q]
    rfl
  · rw [List.getElem?_eq_none (by omega), List.getElem?_eq_none (by simp; omega)]
theorem inV_ints {p : Nat → Nat} {m : Nat} : inV (.int (m : Nat)) ((List.range n).map fun t => V.int (p t : Nat)) = decide (∃ t, t < n ∧ p t = m) := by
  unfold inV
  rw [Bool.eq_iff_iff, List.any_eq_true, decide_eq_true_eq]
  constructor
  · rintro ⟨x, hx, e⟩
    obtain ⟨t, ht, rfl⟩ := List.mem_map.mp hx
    refine ⟨t, List.mem_range.mp ht, ?_⟩
    have : ((p t : Nat) : Int) = (m : Nat) := by simpa [eqV] using e
    omega
  · rintro ⟨t, ht, e⟩
    exact ⟨_, List.mem_map.mpr ⟨t, List.mem_range.mpr ht, rfl⟩, by simp [eqV, e]⟩
theorem flat_ints {p : Nat → Nat} : ((List.range n).map fun t => V.int (p t : Nat)).all flatV = true := by
  rw [List.all_eq_true]
  intro x hx
  obtain ⟨t, ht, rfl⟩ := List.mem_map.mp hx
  rfl
/-- a number in a tuple of numbers -/
theorem ev_inInts {q : Nat → Nat} {m : Nat} (ha : EvP (K := K) ta σ H (tyInt (m : Nat))) (hb : EvP (K := K) tb σ H (tySeq n fun t => tyInt (q t : Nat))) : EvP (K := K) (tOp (rIn K false) ta tb) σ H (tyE (.bl (decide (∃ t, t < n ∧ q t = m)))) := fun H1 e Q k =>
  ha H1 e _ fun v H2 e2 z => hb H2 (e.trans e2) _ fun v' H3 e3 ⟨a, xs, e4, h3, l, ty⟩ => by
    cases z
    subst e4
    have ex := its_eq ty l
    refine ⟨a, xs, rfl, .inr (SqT.of h3), rfl, by rw [ex]; exact flat_ints, k _ H3 (e2.trans e3) ?_⟩
    rw [ex, inV_ints]
    rfl
/-- what is known of a slot's value -/
theorem Sat.as {Ts : TEnv K} {i : Nat} {v : V} (h : Sat Ts σ H) (e : σ[i]? = some (some v)) (q : A.p v H) : Sat (Ts.set i (some A)) σ H := by
  have z := h.set (i := i) q
  have es : σ.set i (some v) = σ := by
    apply List.ext_getElem?
    intro j
    rw [List.getElem?_set]
    split
    · rename_i e3
      subst e3
      rw [if_pos (List.getElem?_eq_some_iff.mp e).1, e]
    · rfl
  rw [es] at z
  exact z
theorem et_notN {b : Bool} (ha : EvP (K := K) te σ H (tyE v)) (h : (!decide (v = .non)) = b) : EvT (tTest (tOp (fun x y H Q => y = V.non ∧ Q (.bl (!decide (x = .non))) H) te (tC .non))) σ H b :=
  et_cmp (Evl.ev_op (flat_ev ha) (flat_ev (K := K) ev_c) (fun H1 _ _ q => ⟨rfl, q H1 (Ex.refl H1)⟩)) h
theorem et_isN {b : Bool} (ha : EvP (K := K) te σ H (tyE v)) (h : decide (v = .non) = b) : EvT (tTest (tOp (fun x y H Q => y = V.non ∧ Q (.bl (decide (x = .non))) H) te (tC .non))) σ H b :=
  et_cmp (Evl.ev_op (flat_ev ha) (flat_ev (K := K) ev_c) (fun H1 _ _ q => ⟨rfl, q H1 (Ex.refl H1)⟩)) h
theorem et_of {b : Bool} (h : EvP (K := K) te σ H (tyE (.bl b))) : EvT (tTest te) σ H b := Evl.et_test (flat_ev h)
/-! ### statements -/
variable {D : Ends} {tz tu : TS}
theorem s_setI {j : Nat} (hl : H l = some (.lst xs)) (h : EvP te σ H A) (ho : EvP (K := K) ta σ H (tyE (.ref l))) (hi : EvP (K := K) tb σ H (tyE (.int (j : Nat)))) (hj : j < xs.length) (k : ∀ v H1, Ex H H1 → A.p v H1 → D.nx σ (upd H1 l (.lst (xs.set j v)))) :
    tAsg te (gSub ta tb rSetL) D σ H := h H (Ex.refl H) _ fun v H1 e1 zv => ho H1 e1 _ fun v1 H2 e2 z1 => hi H2 (e1.trans e2) _ fun v2 H3 e3 z2 => by
  cases z1
  cases z2
  exact ⟨l, xs, (j : Nat), j, rfl, rfl, ((e1.trans e2).trans e3) l _ hl, ixN_nat hj, k v H3 ((e1.trans e2).trans e3) (A.st _ _ _ (ge_ex (e2.trans e3)) zv)⟩
theorem q_setI {j : Nat} (hl : H l = some (.lst xs)) (h : EvP te σ H A) (ho : EvP (K := K) ta σ H (tyE (.ref l))) (hi : EvP (K := K) tb σ H (tyE (.int (j : Nat)))) (hj : j < xs.length) (k : ∀ v H1, Ex H H1 → A.p v H1 → tz D σ (upd H1 l (.lst (xs.set j v)))) :
    tSeq (tAsg te (gSub ta tb rSetL)) tz D σ H := s_setI (D := { D with nx := tz D }) hl h ho hi hj k
/-- (a, b) -/
theorem ev_pair (ha : EvP ta σ H A) (hb : EvP tb σ H B) : EvP (tTup (tCons ta (tCons tb tNil))) σ H (tyTup [A, B]) := fun H1 e Q k =>
  ha H1 e _ fun v H2 e2 z => hb H2 (e.trans e2) _ fun v' H3 e3 z' =>
    ⟨by simp [sizeLine], fun t ht => k _ _ ((e2.trans e3).trans (Ex.new ht)) ⟨t, [v, v'], rfl, upd_same, .cons (A.st _ _ _ (ge_ex (e3.trans (Ex.new ht))) z) (.cons (B.st _ _ _ (ge_ex (Ex.new ht)) z') .nil)⟩⟩
theorem ev_trip {C : Ty K} (ha : EvP ta σ H A) (hb : EvP tb σ H B) (hc : EvP tc σ H C) : EvP (tTup (tCons ta (tCons tb (tCons tc tNil)))) σ H (tyTup [A, B, C]) := fun H1 e Q k =>
  ha H1 e _ fun v H2 e2 z => hb H2 (e.trans e2) _ fun v' H3 e3 z' => hc H3 ((e.trans e2).trans e3) _ fun v'' H4 e4 z'' =>
    ⟨by simp [sizeLine], fun t ht => k _ _ (((e2.trans e3).trans e4).trans (Ex.new ht)) ⟨t, [v, v', v''], rfl, upd_same, .cons (A.st _ _ _ (ge_ex ((e3.trans e4).trans (Ex.new ht))) z) (.cons (B.st _ _ _ (ge_ex (e4.trans (Ex.new ht))) z') (.cons (C.st _ _ _ (ge_ex (Ex.new ht)) z'') .nil))⟩⟩
/-- l[i], l[j] = l[j], l[i] -/
theorem q_swap {a b c i j : Nat} {x y : V} (hl : H l = some (.lst xs)) (ha : σ[a]? = some (some (.ref l))) (hb : σ[b]? = some (some (.int (i : Nat)))) (hc : σ[c]? = some (some (.int (j : Nat)))) (hi : xs[i]? = some x) (hj : xs[j]? = some y)
    (k : ∀ H1, Ex H H1 → tz D σ (L2.upd H1 l (.lst ((xs.set i y).set j x)))) :
    tSeq (tAsg (tTup (tCons (tOp (rIxL K) (tVar a) (tVar c)) (tCons (tOp (rIxL K) (tVar a) (tVar b)) tNil))) (gTup K 2 (gCons (gSub (tVar a) (tVar b) rSetL) (gCons (gSub (tVar a) (tVar c) rSetL) gNil)))) tz D σ H := by
  have li : i < xs.length := (List.getElem?_eq_some_iff.mp hi).1
  have lj : j < xs.length := (List.getElem?_eq_some_iff.mp hj).1
  refine ⟨_, ha, _, hc, l, xs, (j : Nat), y, rfl, rfl, SqL.of hl, atI_nat hj, _, ha, _, hb, l, xs, (i : Nat), x, rfl, rfl, SqL.of hl, atI_nat hi, by simp [sizeLine], fun t ht => ?_⟩
  have e := Ex.new (o := .tup [y, x]) ht
  refine ⟨t, [y, x], rfl, SqT.of upd_same, rfl, y, [x], rfl, _, ha, _, hb, l, xs, (i : Nat), i, rfl, rfl, e _ _ hl, ixN_nat li, x, [], rfl, _, ha, _, hc, l, xs.set i y, (j : Nat), j, rfl, rfl, upd_same, ixN_nat (by rw [List.length_set]; exact lj), rfl, ?_⟩
  rw [upd_upd]
  exact k _ e
end
end Pt

/-! Tuples: put together, cut. -/
namespace Pt
open PySem PySem.Spec PyProof.Rows L2 Evl
theorem op_catU (K : PySem.W.Frag) {X : Cx} (hK : X.K = K := by rfl) : OpR X (binaryOp .Add) (rCatA K) := by subst hK; exact op_catA
section
variable {K : PySem.W.Frag} {σ : L2.St} {H : Hp} {n m : Nat} {T U W : Nat → Ty K} {te ta tb : TE}
theorem its_cat {xs ys : List V} (hx : Its T xs H) (hy : Its U ys H) (e1 : ∀ i v, i < xs.length → (T i).p v H → (W i).p v H) (e2 : ∀ i v, i < ys.length → (U i).p v H → (W (xs.length + i)).p v H) : Its W (xs ++ ys) H := fun i v h => by
  rw [List.getElem?_append] at h
  split at h
  · rename_i lt
    exact e1 i v lt (hx i v h)
  · rename_i ge
    have lt := (List.getElem?_eq_some_iff.mp h).1
    have q := e2 (i - xs.length) v lt (hy _ v h)
    rw [show xs.length + (i - xs.length) = i by omega] at q
    exact q
/-- t + u -/
theorem ev_catU (ha : EvP ta σ H (tySeq n T)) (hb : EvP tb σ H (tySeq m U)) (hz : n + m ≤ 100000) (e1 : ∀ i v H', i < n → (T i).p v H' → (W i).p v H') (e2 : ∀ i v H', i < m → (U i).p v H' → (W (n + i)).p v H') : EvP (tOp (rCatA K) ta tb) σ H (tySeq (n + m) W) := fun H1 e Q q =>
  ha H1 e _ fun v H2 e2' z => hb H2 (e.trans e2') _ fun v' H3 e3 z' => by
    obtain ⟨a, xs, ea, h2, l, ty⟩ := z
    obtain ⟨b, ys, eb, h3, l', ty'⟩ := z'
    subst ea eb l l'
    have h2' := e3 _ _ h2
    have ty2 : Its T xs H3 := Its.ex (T := T) e3 ty
    have cat : Its W (xs ++ ys) H3 := its_cat ty2 ty' (fun i v => e1 i v H3) fun i v => e2 i v H3
    refine ⟨a, b, xs, ys, rfl, rfl, SqT.of h2', SqT.of h3, Evl.sz_of hz, fun h0 => ?_, fun _ h0 => ?_, fun _ _ p hp => ?_⟩
    · subst h0
      exact q _ H3 (e2'.trans e3) ⟨b, ys, rfl, h3, by simp, cat⟩
    · subst h0
      rw [List.append_nil] at cat
      exact q _ H3 (e2'.trans e3) ⟨a, xs, rfl, h2', by simp, cat⟩
    · exact q _ _ ((e2'.trans e3).trans (Ex.new hp)) ⟨p, _, rfl, upd_same, List.length_append, cat.ex (Ex.new hp)⟩
theorem ev_catV {f g : Nat → Rat} {k : Nat → Rat} (ha : EvP (K := K) ta σ H (tyVec n f)) (hb : EvP (K := K) tb σ H (tyVec m g)) (hz : n + m ≤ 100000) (e1 : ∀ i, i < n → k i = f i) (e2 : ∀ i, i < m → k (n + i) = g i) : EvP (K := K) (tOp (rCatA K) ta tb) σ H (tyVec (n + m) k) :=
  ev_catU ha hb hz (fun i v H' hi z => by rw [e1 i hi]; exact z) fun i v H' hi z => by rw [e2 i hi]; exact z
/-- (e,) -/
theorem ev_one {A : Ty K} (ha : EvP te σ H A) : EvP (tTup (tCons te tNil)) σ H (tySeq 1 fun _ => A) := fun H1 e Q k =>
  ha H1 e _ fun v H2 e2 z => ⟨by simp [sizeLine], fun t ht => k _ _ (e2.trans (Ex.new ht)) ⟨t, [v], rfl, upd_same, rfl, fun i x hx => by
    have := (List.getElem?_eq_some_iff.mp hx).1
    cases i with
    | zero => cases hx; exact A.st _ _ _ (ge_new ht) z
    | succ i => simp at this⟩⟩
/-- t[k:], k above 0 -/
theorem ev_drop {k : Nat} (ha : EvP te σ H (tySeq (k + m) T)) (hb : EvP (K := K) tb σ H (tyE (.int (k : Nat)))) (hk : 0 < k) : EvP (tSl (rSlT K) te (tPart tb) tNoPart) σ H (tySeq m fun i => T (k + i)) := fun H1 e Q q =>
  ha H1 e _ fun v H2 e2 z => hb H2 (e.trans e2) _ fun v' H3 e3 z' => by
    obtain ⟨a, xs, ea, h2, l, ty⟩ := z
    cases z'
    subst ea
    have e1 : HT.sIx xs.length 0 (some ((k : Nat) : Int)) = k := by rw [HT.sIx_nat]; omega
    have e4 : HT.sIx xs.length xs.length none = xs.length := rfl
    refine ⟨(k : Nat), rfl, a, xs, rfl, SqT.of (e3 _ _ h2), fun z => by rw [e1] at z; omega, fun p hp => ?_⟩
    have ec : cutV xs (some ((k : Nat) : Int)) none = xs.drop k := by
      unfold cutV
      rw [e1, e4, List.take_of_length_le (by rw [List.length_drop]; omega)]
    rw [ec]
    refine q _ _ ((e2.trans e3).trans (Ex.new hp)) ⟨p, _, rfl, upd_same, by rw [List.length_drop]; omega, fun i x hx => ?_⟩
    rw [List.getElem?_drop] at hx
    exact (T (k + i)).st _ _ _ (ge_ex (e3.trans (Ex.new hp))) (ty (k + i) x hx)
end
end Pt

/-! Own objects that never change, pinned tuples, dicts by names, names in lists. -/
namespace Pt
open PySem PySem.Spec PyProof.Rows L2 Evl
section
variable {K : PySem.W.Frag} {σ : L2.St} {H H' : Hp} {Ts : TEnv K} {n : Nat} {T U : Nat → Ty K} {te tb ta tl tc td ty : TE} {A B : Ty K} {p l d : Addr} {xs ys : List V} {v : V}
/-! ### objects with typed fields -/
def FldsOk (F : List (Str × Ty K)) (fs : List (Str × V)) (H : Hp) : Prop := Paired (fun (a : Str × Ty K) (b : Str × V) => a.1 = b.1 ∧ a.2.p b.2 H) F fs
theorem FldsOk.st {F : List (Str × Ty K)} {fs : List (Str × V)} (g : Ge K H H') (h : FldsOk F fs H) : FldsOk F fs H' := by
  unfold FldsOk at *
  induction h with
  | nil => exact .nil
  | cons a _ ih => exact .cons ⟨a.1, Ty.st _ _ _ _ g a.2⟩ ih
def tyObj (C : Addr) (hC : Im K C) (F : List (Str × Ty K)) : Ty K := ⟨fun v H => ∃ a dx fs, v = .ref a ∧ H a = some (.ins C dx fs) ∧ FldsOk F fs H, fun v H H' g ⟨a, dx, fs, e, h, q⟩ => ⟨a, dx, fs, e, g _ _ h hC, q.st g⟩⟩
theorem FldsOk.get {f : Str} : ∀ {F : List (Str × Ty K)} {fs : List (Str × V)}, FldsOk F fs H → F.lookup f = some A → ∃ v, fs.lookup f = some v ∧ A.p v H
  | _, _, .nil, l => by cases l
  | (f1, T1) :: F, (f2, v2) :: fs, .cons a t, l => by
    obtain ⟨e, q⟩ := a
    simp only at e q
    subst e
    rw [List.lookup_cons] at l ⊢
    cases hb : (f == f1) with
    | true =>
      rw [hb] at l
      cases l
      exact ⟨v2, rfl, q⟩
    | false =>
      rw [hb] at l
      exact FldsOk.get t l
theorem ev_fldO {C : Addr} {hC : Im K C} {F : List (Str × Ty K)} {f : Str} (h : EvP te σ H (tyObj C hC F)) (c : Cls K C) (n : NoAttr K C f) (l : F.lookup f = some A) : EvP (K := K) (tFld K te f) σ H A := fun H1 e Q q =>
  h H1 e _ fun x H2 e2 ⟨a, dx, fs, e3, e4, e5⟩ => by
    obtain ⟨v, hv, tv⟩ := e5.get l
    exact ⟨a, C, dx, fs, v, e3, e4, c, n, hv, q v H2 e2 tv⟩
/-- a field of an object told by its very fields -/
theorem ev_fldB {C dx : Addr} {fs : List (Str × V)} {f : Str} (hp : H p = some (.ins C dx fs)) (h : EvP (K := K) te σ H (tyE (.ref p))) (c : Cls K C) (n : NoAttr K C f) (l : fs.lookup f = some v) : EvP (K := K) (tFld K te f) σ H (tyE v) := fun H1 e Q q =>
  h H1 e _ fun x H2 e2 z => by
    cases z
    exact ⟨p, C, dx, fs, v, rfl, (e.trans e2) _ _ hp, c, n, l, q v H2 e2 rfl⟩
/-! ### a tuple pinned with its object: it has no dict of its own -/
def tyPin (n : Nat) (T : Nat → Ty K) : Ty K := ⟨fun v H => ∃ a o xs, v = .ref a ∧ H a = some (.frz o (.tup xs)) ∧ o.dict = none ∧ xs.length = n ∧ Its T xs H,
  fun v H H' g ⟨a, o, xs, e, h, d, l, q⟩ => ⟨a, o, xs, e, g _ _ h trivial, d, l, q.st g⟩⟩
theorem call_tupleF {X : Cx} : CallR X (.type "tuple") (fun xs H Q => ∃ p ys, xs = [.ref p] ∧ (SqL X.K H p ys ∧ ∀ l o, H l = none → o.dict = none → Q (.ref l) (upd H l (.frz o (.tup ys))))) := by
  intro pins s σ H xs us Q I r h
  obtain ⟨p, ys, rfl, h⟩ := h
  obtain ⟨u, rfl, rx⟩ := vals1 r
  cases rx
  obtain ⟨hq, q⟩ := h
  obtain ⟨its, r', pl, hz⟩ := I.list hq
  have hlen := r'.length
  refine call_tuple_list pl.isList (fun h' kp => ?_) (by simp only [List.size_toArray] <;> omega)
  have I1 : Inv X pins σ H { s with heap := h' } := I.kept (t' := s.toks) kp
  have I2 : Inv X pins σ (upd H h'.objs.size (.frz { cls := .type "tuple", data := .seq its.toArray } (.tup ys))) { s with heap := h'.push { cls := .type "tuple", data := .seq its.toArray } } :=
    I1.laid (t' := s.toks) (fun b o e => Heap.get?_push_of_some _ e) (Nat.le_refl _) (show ObjOk X.prog X.w _ _ _ (.frz _ (.tup ys)) from ⟨Heap.get?_push_size _ rfl, hz, its, r', IsTup.new _ _⟩)
  exact ⟨.ref h'.objs.size, _, I2, rfl, q _ _ (I1.hok.fresh (Nat.le_refl _)) rfl⟩
abbrev rTupF (K : PySem.W.Frag) : List V → Hp → VK → Prop := fun xs H Q => ∃ p ys, xs = [.ref p] ∧ (SqL K H p ys ∧ ∀ l o, H l = none → o.dict = none → Q (.ref l) (upd H l (.frz o (.tup ys))))
theorem call_tupleFK (K : PySem.W.Frag) {X : Cx} (hK : X.K = K := by rfl) : CallR X (.type "tuple") (rTupF K) := by subst hK; exact call_tupleF
theorem ev_tupleF (h : EvPL te σ H n U) : EvP (tCB (rTupF K) (tCons te tNil)) σ H (tyPin n U) := fun H1 e Q q =>
  h H1 e _ fun p xs H2 hp e2 h2 l ty => ⟨p, xs, rfl, SqL.of h2, fun t o ht ho => q _ _ (e2.trans (Ex.new ht)) ⟨t, o, xs, rfl, upd_same, ho, l, Its.ex (T := U) (Ex.new ht) ty⟩⟩
theorem ei_pin (h : EvP tl σ H (tyPin n T)) : EvI (iTup K tl) σ H n T (Ge K) := fun H1 e R q =>
  h H1 e _ fun v H2 e2 ⟨a, o, xs, e3, h3, hd, l, ty⟩ => by
    subst l
    have sq : ∀ H3, Ge K H2 H3 → SqT K H3 a xs := fun H3 g => .inl (.inr ⟨o, g _ _ h3 trivial⟩)
    refine ⟨a, e3, ⟨xs, sq _ (Ge.refl _)⟩, q _ H2 e2 (walk_tup.mono sq fun i H3 x H4 hi g y => ?_)⟩
    obtain ⟨e4, e5⟩ := y
    subst e4
    exact ⟨Ex.refl _, (T i).st _ _ _ g (ty i x e5)⟩
theorem ev_lenPin (ha : EvP te σ H (tyPin n T)) : EvP (K := K) (tCB (rLen K) (tCons te tNil)) σ H (tyE (.int (n : Nat))) := fun H1 e Q q =>
  ha H1 e _ fun v H2 e2 ⟨a, o, xs, e3, h3, hd, l, ty⟩ => by
    subst e3
    exact ⟨_, n, rfl, .inr ⟨xs, .inl (.inr ⟨o, h3⟩), l.symm⟩, q _ H2 e2 rfl⟩
end
end Pt

/-! Dicts by names, names in lists and tuples. -/
namespace Pt
open PySem PySem.Spec PyProof.Rows L2 Evl
/-! ### dict(t) of a pinned tuple of pairs -/
theorem call_dictT {X : Cx} (hcalm : X.calm = true) : CallR X (.type "dict") (fun xs H Q => ∃ (a : Addr) (ob : Obj) (ps : List Addr) (kvs : List (Key × V)), xs = [.ref a] ∧ H a = some (.frz ob (.tup (ps.map V.ref))) ∧ ob.dict = none ∧ Paired (fun p kv => SqT X.K H p [kV kv.1, kv.2]) ps kvs ∧
    ∀ p, H p = none → Q (.ref p) (upd H p (.dK (mergeK [] kvs)))) := by
  intro pins s σ H xs us Q I r q
  obtain ⟨a, ob, ps, kvs, ex, hq, hdn, hp, q⟩ := q
  subst ex
  obtain ⟨u, eu, rx⟩ := vals1 r
  subst eu
  cases rx
  obtain ⟨ho, hz, its, rv, o2, ho2, hc, n, hdat⟩ := I.hok a _ hq
  have ei := refs_at rv
  subst ei
  rw [List.length_map] at hz
  have eo : o2 = ob := by
    rw [ho] at ho2
    exact (Option.some.inj ho2).symm
  subst eo
  obtain ⟨prs, rel, hl, hpr⟩ := pairs_of I hp
  have key : ∀ j, j < prs.length → ∃ (b : Addr) (u : Value), ps[j]? = some b ∧ IsTup s.heap b #[u, (prs[j]?.map (·.2)).getD .none] ∧ ∃ k, (prs[j]?).map (·.1) = some k ∧ keyIs k u = true := fun j hj => by
    obtain ⟨b, u, e1, e2, e3⟩ := hpr j prs[j] (List.getElem?_eq_getElem hj)
    rw [List.getElem?_eq_getElem hj]
    exact ⟨b, u, e1, e2, _, rfl, e3⟩
  have us : ∃ us : Nat → Value, ∀ j, j < prs.length → ∃ b, ps[j]? = some b ∧ IsTup s.heap b #[us j, (prs[j]?.map (·.2)).getD .none] ∧ ∃ k, (prs[j]?).map (·.1) = some k ∧ keyIs k (us j) = true := by
    refine ⟨fun j => if h : j < prs.length then Classical.choose (Classical.choose_spec (key j h)) else .none, fun j hj => ?_⟩
    simp only [dif_pos hj]
    exact ⟨_, Classical.choose_spec (Classical.choose_spec (key j hj))⟩
  obtain ⟨us, hus⟩ := us
  let pv : List (Value × Value) := (List.range prs.length).map fun j => (us j, (prs[j]?.map (·.2)).getD .none)
  have pvl : pv.length = prs.length := by simp [pv]
  have pvj : ∀ j k v, pv[j]? = some (k, v) → j < prs.length ∧ k = us j ∧ v = (prs[j]?.map (·.2)).getD .none := fun j k v e => by
    have hj : j < prs.length := by
      have := (List.getElem?_eq_some_iff.mp e).1
      omega
    have e2 : pv[j]? = some (us j, (prs[j]?.map (·.2)).getD .none) := by
      show ((List.range prs.length).map _)[j]? = _
      rw [List.getElem?_map, List.getElem?_range hj]
      rfl
    rw [e] at e2
    have e3 := Option.some.inj e2
    exact ⟨hj, congrArg Prod.fst e3, congrArg Prod.snd e3⟩
  refine _root_.PySem.call_dict_pairs (knd := mixKind X.prog X.w) (kvs := prs) (_root_.PySem.PairArg.tuple a (ps.map Value.ref).toArray (fun j => ps.getD j 0) pv) (I.ok.hd hcalm) ⟨⟨o2, n, ho, hc, hdn, hdat⟩, by simp [pvl, hl], fun j k v e => ?_⟩ ⟨pvl.symm, fun j k v e => ?_⟩ (by rw [pvl, hl]; exact hz) fun h' tk hd' k => ?_
  · obtain ⟨hj, rfl, rfl⟩ := pvj j k v e
    obtain ⟨b, e1, e2, _⟩ := hus j hj
    have e4 : ps.getD j 0 = b := by rw [List.getD_eq_getElem?_getD, e1]; rfl
    exact ⟨by simp [e1], .inl (by show s.heap.IsTuple (ps.getD j 0) _; rw [e4]; exact e2)⟩
  · obtain ⟨hj, rfl, rfl⟩ := pvj j k v e
    obtain ⟨b, e1, e2, k', e5, e6⟩ := hus j hj
    rw [List.getElem?_eq_getElem hj] at e5 ⊢
    have e7 : prs[j].1 = k' := Option.some.inj e5
    subst e7
    exact ⟨_, rfl, e6⟩
  · have hm : (s.heap.objs.size == sysModules) = false := beq_eq_false_iff_ne.mpr (Nat.ne_of_gt I.big)
    have hlen : (mergeK [] kvs).length ≤ sizeLine := by
      refine Nat.le_trans (length_mergeK kvs []) ?_
      rw [List.length_nil, Nat.zero_add, rel.length, hl]
      exact hz
    exact ⟨.ref s.heap.objs.size, upd H s.heap.objs.size (.dK (mergeK [] kvs)), I.laid (t' := tk) (fun b o e => k b o (by simp) e) (Nat.le_refl _) (show ObjOk X.prog X.w _ _ _ (.dK (mergeK [] kvs)) from ⟨hlen, hm, merged [] prs, KV.merge rel .nil, hd'⟩), rfl, q _ (I.hok.fresh (Nat.le_refl _))⟩
abbrev rDctT (K : PySem.W.Frag) : List V → Hp → VK → Prop := fun xs H Q => ∃ (a : Addr) (ob : Obj) (ps : List Addr) (kvs : List (Key × V)), xs = [.ref a] ∧ H a = some (.frz ob (.tup (ps.map V.ref))) ∧ ob.dict = none ∧ Paired (fun p kv => SqT K H p [kV kv.1, kv.2]) ps kvs ∧
    ∀ p, H p = none → Q (.ref p) (upd H p (.dK (mergeK [] kvs)))
theorem call_dictTK (K : PySem.W.Frag) {X : Cx} (hcalm : X.calm = true) (hK : X.K = K := by rfl) : CallR X (.type "dict") (rDctT K) := by subst hK; exact call_dictT hcalm
section
variable {K : PySem.W.Frag} {σ : L2.St} {H H' : Hp} {Ts : TEnv K} {n : Nat} {T U : Nat → Ty K} {te tb ta tl tc td ty tx : TE} {A B : Ty K} {p l d : Addr} {xs ys : List V} {v : V} {ns : List Str} {D : Str → Ty K} {kvs : List (Key × V)} {x : Str}
/-! ### dicts by names -/
def DctE (ns : List Str) (D : Str → Ty K) (kvs : List (Key × V)) (H : Hp) : Prop := Paired (fun (n : Str) (kv : Key × V) => kv.1 = .inr n ∧ (D n).p kv.2 H) ns kvs
theorem DctE.st (g : Ge K H H') (h : DctE ns D kvs H) : DctE ns D kvs H' := by
  unfold DctE at *
  induction h with
  | nil => exact .nil
  | cons a _ ih => exact .cons ⟨a.1, Ty.st _ _ _ _ g a.2⟩ ih
theorem DctE.get : ∀ {ns : List Str} {kvs : List (Key × V)}, DctE ns D kvs H → x ∈ ns → ∃ v, valV kvs (.inr x) = some v ∧ (D x).p v H
  | _, _, .nil, h => by cases h
  | m :: ns, (k, v) :: kvs, .cons a t, h => by
    obtain ⟨e, q⟩ := a
    simp only at e q
    subst e
    by_cases hx : m = x
    · subst hx
      exact ⟨v, valV_pos rfl, q⟩
    · obtain ⟨w, e1, e2⟩ := DctE.get t (by simpa [show x ≠ m from fun z => hx z.symm] using h)
      exact ⟨w, by rw [valV_neg (by simpa using hx)]; exact e1, e2⟩
theorem DctE.none : ∀ {ns : List Str} {kvs : List (Key × V)}, DctE ns D kvs H → x ∉ ns → valV kvs (.inr x) = none
  | _, _, .nil, h => rfl
  | m :: ns, (k, v) :: kvs, .cons a t, h => by
    obtain ⟨e, q⟩ := a
    simp only at e q
    subst e
    have h1 : m ≠ x := fun z => h (by rw [z]; exact List.mem_cons_self)
    rw [valV_neg (by simpa using h1)]
    exact DctE.none t fun z => h (List.mem_cons_of_mem _ z)
theorem DctE.snoc (h : DctE ns D kvs H) (q : (D x).p v H) : DctE (ns ++ [x]) D (kvs ++ [(.inr x, v)]) H := Paired.snoc h ⟨rfl, q⟩
theorem DctE.len (h : DctE ns D kvs H) : kvs.length = ns.length := (Paired.length h).symm
structure Dct (K : PySem.W.Frag) (d : Addr) (ns : List Str) (D : Str → Ty K) (kvs : List (Key × V)) (H : Hp) : Prop where
  at_ : H d = some (.dK kvs)
  e : DctE ns D kvs H
theorem Dct.ex (h : Dct K d ns D kvs H) (e : Ex H H') : Dct K d ns D kvs H' := ⟨e _ _ h.at_, h.e.st (ge_ex e)⟩
/-- d[x] -/
theorem ev_dget (h : Dct K d ns D kvs H) (hd : EvP (K := K) td σ H (tyE (.ref d))) (hk : EvP (K := K) ty σ H (tyE (.str x))) (hx : x ∈ ns) : EvP (tDGet td ty) σ H (D x) := fun H1 e Q q =>
  hd H1 e _ fun v H2 e2 z => hk H2 (e.trans e2) _ fun v' H3 e3 z' => by
    cases z
    cases z'
    have h3 := h.ex ((e.trans e2).trans e3)
    obtain ⟨w, e4, e5⟩ := h3.e.get hx
    exact ⟨d, w, rfl, by rw [← e4]; exact DGet.k h3.at_ (k := .inr x), q _ H3 (e2.trans e3) e5⟩
theorem ev_din (h : Dct K d ns D kvs H) (hd : EvP (K := K) td σ H (tyE (.ref d))) (hk : EvP (K := K) ty σ H (tyE (.str x))) : EvP (K := K) (tDIn ty td) σ H (tyE (.bl (decide (x ∈ ns)))) := fun H1 e Q q =>
  hk H1 e _ fun v H2 e2 z => hd H2 (e.trans e2) _ fun v' H3 e3 z' => by
    cases z
    cases z'
    have h3 := h.ex ((e.trans e2).trans e3)
    refine ⟨d, valV kvs (.inr x), rfl, DGet.k h3.at_ (k := .inr x), q _ H3 (e2.trans e3) ?_⟩
    by_cases hx : x ∈ ns
    · obtain ⟨w, e4, _⟩ := h3.e.get hx
      rw [e4, decide_eq_true hx]
      rfl
    · rw [h3.e.none hx, decide_eq_false hx]
      rfl
theorem ev_dnotin (h : Dct K d ns D kvs H) (hd : EvP (K := K) td σ H (tyE (.ref d))) (hk : EvP (K := K) ty σ H (tyE (.str x))) : EvP (K := K) (tDNotIn ty td) σ H (tyE (.bl (!decide (x ∈ ns)))) := fun H1 e Q q =>
  hk H1 e _ fun v H2 e2 z => hd H2 (e.trans e2) _ fun v' H3 e3 z' => by
    cases z
    cases z'
    have h3 := h.ex ((e.trans e2).trans e3)
    refine ⟨d, valV kvs (.inr x), rfl, DGet.k h3.at_ (k := .inr x), q _ H3 (e2.trans e3) ?_⟩
    by_cases hx : x ∈ ns
    · obtain ⟨w, e4, _⟩ := h3.e.get hx
      rw [e4, decide_eq_true hx]
      rfl
    · rw [h3.e.none hx, decide_eq_false hx]
      rfl
/-- d.get(x, default), the value the same wherever it is from -/
theorem ev_dget2 (h : Dct K d ns D kvs H) (hd : EvP (K := K) td σ H (tyE (.ref d))) (hk : EvP (K := K) ty σ H (tyE (.str x))) (hz : EvP (K := K) tx σ H A) (h1 : x ∈ ns → ∀ v H', (D x).p v H' → B.p v H') (h2 : x ∉ ns → ∀ v H', A.p v H' → B.p v H') : EvP (tDGet2 td ty tx) σ H B := fun H1 e Q q =>
  hd H1 e _ fun v H2 e2 z => by
    cases z
    have h2' := h.ex (e.trans e2)
    refine ⟨d, rfl, .inl ⟨kvs, .inl h2'.at_⟩, hk H2 (e.trans e2) _ fun v' H3 e3 z' => hz H3 ((e.trans e2).trans e3) _ fun v'' H4 e4 z'' => ?_⟩
    cases z'
    have h4 := (h2'.ex e3).ex e4
    refine ⟨valV kvs (.inr x), DGet.k h4.at_ (k := .inr x), ?_⟩
    by_cases hx : x ∈ ns
    · obtain ⟨w, e5, e6⟩ := h4.e.get hx
      rw [e5]
      exact q _ H4 ((e2.trans e3).trans e4) (h1 hx _ _ e6)
    · rw [h4.e.none hx]
      exact q _ H4 ((e2.trans e3).trans e4) (h2 hx _ _ z'')
theorem ev_lenD (h : Dct K d ns D kvs H) (hd : EvP (K := K) td σ H (tyE (.ref d))) : EvP (K := K) (tCB (fun xs H Q => ∃ a kvs, xs = [V.ref a] ∧ H a = some (.dK kvs) ∧ Q (.int kvs.length) H) (tCons td tNil)) σ H (tyE (.int (ns.length : Nat))) := fun H1 e Q q =>
  hd H1 e _ fun v H2 e2 z => by
    cases z
    exact ⟨d, kvs, rfl, (e.trans e2) _ _ h.at_, q _ H2 e2 (by rw [h.e.len]; rfl)⟩
/-! ### names -/
/-- a list or a tuple of these names -/
def Nms (p : Addr) (ns : List Str) (H : Hp) : Prop := H p = some (.lst (ns.map V.str)) ∨ ∃ o, H p = some (.frz o (.tup (ns.map V.str)))
theorem Nms.ex (h : Nms p ns H) (e : Ex H H') : Nms p ns H' := by
  rcases h with h | ⟨o, h⟩
  · exact .inl (e _ _ h)
  · exact .inr ⟨o, e _ _ h⟩
theorem inV_strs : inV (.str x) (ns.map V.str) = decide (x ∈ ns) := by
  unfold inV
  rw [Bool.eq_iff_iff, List.any_eq_true, decide_eq_true_eq]
  constructor
  · rintro ⟨y, hy, e⟩
    obtain ⟨m, hm, rfl⟩ := List.mem_map.mp hy
    have : m = x := by simpa [eqV] using e
    rw [← this]; exact hm
  · intro h
    exact ⟨_, List.mem_map.mpr ⟨x, h, rfl⟩, by simp [eqV]⟩
theorem flat_strs : (ns.map V.str).all flatV = true := by
  rw [List.all_eq_true]
  intro y hy
  obtain ⟨m, hm, rfl⟩ := List.mem_map.mp hy
  rfl
theorem ev_inNms {neg : Bool} (h : Nms p ns H) (ha : EvP (K := K) ta σ H (tyE (.str x))) (hb : EvP (K := K) tb σ H (tyE (.ref p))) : EvP (K := K) (tOp (rIn K neg) ta tb) σ H (tyE (.bl (if neg then !decide (x ∈ ns) else decide (x ∈ ns)))) := fun H1 e Q k =>
  ha H1 e _ fun v H2 e2 z => hb H2 (e.trans e2) _ fun v' H3 e3 z' => by
    cases z
    cases z'
    have h3 := h.ex ((e.trans e2).trans e3)
    refine ⟨p, ns.map V.str, rfl, ?_, rfl, flat_strs, k _ H3 (e2.trans e3) ?_⟩
    · rcases h3 with h3 | ⟨o, h3⟩
      · exact .inl (SqL.of h3)
      · exact .inr (.inl (.inr ⟨o, h3⟩))
    · rw [inV_strs]
      rfl
/-- l.index(x) -/
theorem ev_index {j : Nat} (h : H l = some (.lst (ns.map V.str))) (ha : EvP (K := K) ta σ H (tyE (.ref l))) (hb : EvP (K := K) tb σ H (tyE (.str x))) (hj : ns[j]? = some x) (hn : ∀ m, m < j → ns[m]? ≠ some x) : EvP (K := K) (tBM K "list" (rIndex K) ta (tCons tb tNil)) σ H (tyE (.int (j : Nat))) := fun H1 e Q k =>
  ha H1 e _ fun v H2 e2 z => by
    cases z
    refine ⟨.inl ⟨rfl, _, SqL.of ((e.trans e2) _ _ h)⟩, hb H2 (e.trans e2) _ fun v' H3 e3 z' => ?_⟩
    cases z'
    refine ⟨l, _, .str x, j, .str x, rfl, rfl, SqL.of (((e.trans e2).trans e3) _ _ h), rfl, flat_strs, by rw [List.getElem?_map, hj]; rfl, by simp [eqV], fun m z' hm hz => ?_, k _ H3 (e2.trans e3) rfl⟩
    rw [List.getElem?_map] at hz
    cases hm' : ns[m]? with
    | none => rw [hm'] at hz; cases hz
    | some y =>
      rw [hm'] at hz
      cases hz
      have : y ≠ x := fun q => hn m hm (by rw [hm', q])
      simpa [eqV] using this
abbrev rTIndex (K : PySem.W.Frag) : V → List V → Hp → VK → Prop := fun x xs H Q => ∃ p, ∃ ys : List Str, ∃ z j, x = .ref p ∧ xs = [.str z] ∧ SqT K H p (ys.map V.str) ∧ ys[j]? = some z ∧ (∀ m, m < j → ys[m]? ≠ some z) ∧ Q (.int (j : Nat)) H
theorem mt_tindexK (K : PySem.W.Frag) {X : Cx} (hK : X.K = K := by rfl) : MtR X "tuple.index" (rTIndex K) := by subst hK; exact L2.mt_tup_index
/-- these names in a tuple, pinned with its object -/
def tyNms (ns : List Str) : Ty K := ⟨fun v H => ∃ a o, v = .ref a ∧ H a = some (.frz o (.tup (ns.map V.str))) ∧ o.dict = none, fun v H H' g ⟨a, o, e, h, q⟩ => ⟨a, o, e, g _ _ h trivial, q⟩⟩
def tBMT (r : V → List V → Hp → VK → Prop) (to : TE) (t : TA) : TE := fun σ H Q => to σ H fun x H1 => (∃ p o ys, x = .ref p ∧ H1 p = some (.frz o (.tup ys)) ∧ o.dict = none) ∧ t σ H1 fun xs H2 => r x xs H2 Q
theorem ev_tindex {j : Nat} (ha : EvP (K := K) ta σ H (tyNms ns)) (hb : EvP (K := K) tb σ H (tyE (.str x))) (hj : ns[j]? = some x) (hn : ∀ m, m < j → ns[m]? ≠ some x) : EvP (K := K) (tBMT (rTIndex K) ta (tCons tb tNil)) σ H (tyE (.int (j : Nat))) := fun H1 e Q k =>
  ha H1 e _ fun v H2 e2 ⟨a, o, ea, h2, hd⟩ => by
    subst ea
    refine ⟨⟨a, o, _, rfl, h2, hd⟩, hb H2 (e.trans e2) _ fun v' H3 e3 z' => ?_⟩
    cases z'
    exact ⟨a, ns, x, j, rfl, rfl, .inl (.inr ⟨o, e3 _ _ h2⟩), hj, hn, k _ H3 (e2.trans e3) rfl⟩
theorem ev_lenNms (ha : EvP (K := K) te σ H (tyNms ns)) : EvP (K := K) (tCB (rLen K) (tCons te tNil)) σ H (tyE (.int (ns.length : Nat))) := fun H1 e Q q =>
  ha H1 e _ fun v H2 e2 ⟨a, o, e3, h3, hd⟩ => by
    subst e3
    exact ⟨_, ns.length, rfl, .inr ⟨_, .inl (.inr ⟨o, h3⟩), by simp⟩, q _ H2 e2 rfl⟩
theorem ev_inNmsT {neg : Bool} (ha : EvP (K := K) ta σ H (tyE (.str x))) (hb : EvP (K := K) tb σ H (tyNms ns)) : EvP (K := K) (tOp (rIn K neg) ta tb) σ H (tyE (.bl (if neg then !decide (x ∈ ns) else decide (x ∈ ns)))) := fun H1 e Q k =>
  ha H1 e _ fun v H2 e2 z => hb H2 (e.trans e2) _ fun v' H3 e3 ⟨a, o, e4, h3, hd⟩ => by
    cases z
    subst e4
    refine ⟨a, ns.map V.str, rfl, .inr (.inl (.inr ⟨o, h3⟩)), rfl, flat_strs, k _ H3 (e2.trans e3) ?_⟩
    rw [inV_strs]
    rfl
theorem its_strs : Its (K := K) (fun i => tyE (.str (ns.getD i default))) (ns.map V.str) H := fun i v h => by
  rw [List.getElem?_map] at h
  cases hi : ns[i]? with
  | none => rw [hi] at h; cases h
  | some y =>
    rw [hi] at h
    cases h
    show V.str y = _
    rw [List.getD_eq_getElem?_getD, hi]
    rfl
/-- the items of a list of names, of a pinned tuple of names -/
theorem ei_strs (h : EvP (K := K) tl σ H (tyE (.ref l))) (hl : H l = some (.lst (ns.map V.str))) : EvI (K := K) (iList K tl) σ H ns.length (fun i => tyE (.str (ns.getD i default))) (fun _ H3 => SqL K H3 l (ns.map V.str) ∧ Ge K H H3) := by
  have q := ei_list (T := fun i => tyE (K := K) (.str (ns.getD i default))) h (SqL.of hl) its_strs
  rw [List.length_map] at q
  exact q
theorem ei_nms (h : EvP (K := K) tl σ H (tyNms ns)) : EvI (K := K) (iTup K tl) σ H ns.length (fun i => tyE (.str (ns.getD i default))) (Ge K) := fun H1 e R q =>
  h H1 e _ fun v H2 e2 ⟨a, o, e3, h3, hd⟩ => by
    have sq : ∀ H3, Ge K H2 H3 → SqT K H3 a (ns.map V.str) := fun H3 g => .inl (.inr ⟨o, g _ _ h3 trivial⟩)
    refine ⟨a, e3, ⟨_, sq _ (Ge.refl _)⟩, q _ H2 e2 ?_⟩
    have w := walk_tup (K := K) (a := a) (xs := ns.map V.str)
    rw [List.length_map] at w
    refine w.mono sq fun i H3 x H4 hi g y => ?_
    obtain ⟨e4, e5⟩ := y
    subst e4
    exact ⟨Ex.refl _, (its_strs (K := K) (H := H)) i x e5⟩
end
section
variable {X : Cx} {o e : Expr} {es : List Expr} {to : TE} {t : TA} {name : Str} {apos cpos : Pos} {id : String} {r : V → List V → Hp → VK → Prop}
/-- a method of a pinned tuple -/
theorem pe_bmT (pa : PlainAttrs "tuple") (slot : Slot "tuple" name id) (hty : typeOf (.builtin id) = pure (.type "method_descriptor")) (hm : MtR X id r) (ho : PE X o to) (ha : PA X (e :: es) t)
    (hbase : attributeBase o name X.env (eval o X.env) = eval o X.env := by rfl)
    (hfew : ((backTo cpos (starEach (e :: es) X.env)).all (fun x => !x.1) && (backToKw cpos (keywordEach [] X.env)).all (fun x => x.1.isSome)
      && decide ((e :: es).length + ([] : List Keyword).length + (if ([] : List Keyword).isEmpty then 0 else 1) < 30)) = true := by rfl)
    (hline : (apos.endLine == cpos.line) = true := by rfl) (hs : starEach (e :: es) X.env = (false, eval e X.env) :: starEach es X.env := by rfl) (hplain : (backTo cpos (starEach es X.env)).any (·.1) = false := by rfl) :
    PE X (.Call (.Attribute o name apos) (e :: es) [] cpos) (tBMT r to t) := by
  refine ⟨fun pins s σ H Q I h => ?_⟩
  refine wpAny_Call_method_late hbase hfew hline rfl (thn (ho.run pins s σ H _ I h) fun v s1 ⟨x, H1, I1, r1, ty, q1⟩ => ?_)
  obtain ⟨p, ob, ys, rfl, hp, hd⟩ := ty
  cases r1
  obtain ⟨hg, hz, its, rv, o2, ho2, hc, n, hdat⟩ := I1.hok p _ hp
  have eo : o2 = ob := by
    rw [hg] at ho2
    exact (Option.some.inj ho2).symm
  subst eo
  refine ⟨"tuple", id, pa, slot, hty, ⟨o2, hg, hc⟩, fun a ea => by cases ea; exact ⟨o2, hg, hd⟩, ?_⟩
  have hA := ha.run cpos pins s1 σ H1 _ I1 q1
  rw [hs] at hA ⊢
  refine Calls.callWith_builtin (by show (false || (backTo cpos (starEach es X.env)).any (·.1)) = false; rw [hplain] <;> rfl) (Calls.evalArgs_plain ?_)
  exact thn hA fun us s2 ⟨vs, H2, I2, r2, q2⟩ => hm pins s2 σ H2 (.ref p) vs _ us Q I2 rfl r2 q2
/-- the items of a list or of a tuple -/
def iSeq (K : PySem.W.Frag) (tl : TE) : TI := fun σ H R => tl σ H fun x H1 => ∃ a, x = .ref a ∧ ((∃ xs, SqL K H1 a xs ∧ R (Itl K a) H1) ∨ (∃ xs, SqT K H1 a xs ∧ R (Itt K a) H1))
theorem pi_seqK (K : PySem.W.Frag) {tg l : Expr} {tl : TE} (hl : PE X l tl) (hK : X.K = K := by rfl) : PI X tg l (iSeq K tl) := by
  subst hK
  refine ⟨fun pins s σ H R I h => ?_⟩
  refine thn (hl.run pins s σ H _ I h) fun v s1 ⟨x, H1, I1, r1, q1⟩ => ?_
  obtain ⟨a, e, q⟩ := q1
  subst e
  cases r1
  have fr : ∀ b, b ∈ [s1.heap.objs.size] → FpOk X pins H1 b := fun b hb => by
    have e : b = s1.heap.objs.size := by simpa using hb
    subst e
    exact I1.fpOk (Nat.le_refl _) (I1.hok.fresh (Nat.le_refl _))
  rcases q with ⟨xs, hq, q⟩ | ⟨xs, hq, q⟩
  · obtain ⟨its, rv, p, hz⟩ := I1.list hq
    refine wpAny_pyIter_list p.isList ?_
    exact ⟨s1.heap.objs.size, [s1.heap.objs.size], _, _, H1, rfl, I1.kept (t' := s1.toks) fun b o e => Heap.get?_push_of_some _ e, turn_list a _, ⟨_, Heap.get?_push_size _ rfl, rfl, rfl⟩, fr, q⟩
  · obtain ⟨its, rv, p, hz⟩ := I1.tuple hq
    refine wpAny_pyIter_tuple (show s1.heap.IsTuple a its.toArray from p) ?_
    exact ⟨s1.heap.objs.size, [s1.heap.objs.size], _, _, H1, rfl, I1.kept (t' := s1.toks) fun b o e => Heap.get?_push_of_some _ e, turn_tuple a _, ⟨_, Heap.get?_push_size _ rfl, rfl, rfl⟩, fr, q⟩
end
section
variable {K : PySem.W.Frag} {σ : L2.St} {H : Hp} {tl : TE} {ns : List Str} {p : Addr}
theorem Nms.same {H2 H3 : Hp} (hp : Nms p ns H) (e : Ex H H2) (e2 : Ex H2 H3) : H3 p = H2 p := by
  rcases hp with h | ⟨o, h⟩
  · rw [e2 _ _ (e _ _ h), e _ _ h]
  · rw [e2 _ _ (e _ _ h), e _ _ h]
theorem ei_seq (h : EvP (K := K) tl σ H (tyE (.ref p))) (hp : Nms p ns H) : EvI (K := K) (iSeq K tl) σ H ns.length (fun i => tyE (.str (ns.getD i default))) (fun H2 H3 => H3 p = H2 p) := fun H1 e R q =>
  h H1 e _ fun v H2 e2 z => by
    cases z
    have h2 := hp.ex (e.trans e2)
    refine ⟨p, rfl, ?_⟩
    rcases h2 with h2 | ⟨o, h2⟩
    · refine .inl ⟨_, SqL.of h2, q _ H2 e2 ?_⟩
      have w := walk_list (K := K) (a := p) (xs := ns.map V.str)
      rw [List.length_map] at w
      refine w.mono (fun H3 g => SqL.of (g.trans h2)) fun i H3 x H4 hi g y => ?_
      obtain ⟨e4, e5⟩ := y
      subst e4
      exact ⟨Ex.refl _, (its_strs (K := K) (H := H)) i x e5⟩
    · refine .inr ⟨_, .inl (.inr ⟨o, h2⟩), q _ H2 e2 ?_⟩
      have w := walk_tup (K := K) (a := p) (xs := ns.map V.str)
      rw [List.length_map] at w
      refine w.mono (fun H3 g => .inl (.inr ⟨o, g.trans h2⟩)) fun i H3 x H4 hi g y => ?_
      obtain ⟨e4, e5⟩ := y
      subst e4
      exact ⟨Ex.refl _, (its_strs (K := K) (H := H)) i x e5⟩
/-! ### comprehensions with a condition -/
variable {n : Nat} {T U : Nat → Ty K} {te : TE} {tt : TT} {wi : TI} {G : Hp → Hp → Prop} {Ts : TEnv K}
/-- the items belong to these -/
def ItsF (U : Nat → Ty K) (ks : List Nat) (xs : List V) (H : Hp) : Prop := xs.length = ks.length ∧ ∀ (j k : Nat) (x : V), ks[j]? = some k → xs[j]? = some x → (U k).p x H
theorem ItsF.st {ks : List Nat} {xs : List V} {H H' : Hp} (g : Ge K H H') (h : ItsF U ks xs H) : ItsF U ks xs H' := ⟨h.1, fun j k x a b => (U k).st _ _ _ g (h.2 j k x a b)⟩
theorem ItsF.app {ks : List Nat} {xs : List V} {H : Hp} {k : Nat} {v : V} (h : ItsF U ks xs H) (hv : (U k).p v H) : ItsF U (ks ++ [k]) (xs ++ [v]) H := by
  refine ⟨by rw [List.length_append, List.length_append, h.1]; rfl, fun j k' x a b => ?_⟩
  rw [List.getElem?_append] at a b
  by_cases hj : j < ks.length
  · rw [if_pos hj] at a
    rw [if_pos (by rw [h.1]; exact hj)] at b
    exact h.2 j k' x a b
  · rw [if_neg hj] at a
    rw [if_neg (by rw [h.1]; exact hj)] at b
    have e1 : j - ks.length = 0 := by
      have := (List.getElem?_eq_some_iff.mp a).1
      simp at this
      omega
    rw [e1] at a
    rw [h.1, e1] at b
    cases a
    cases b
    exact hv
def AccF (H2 : Hp) (U : Nat → Ty K) (b : Nat → Bool) (D : Addr) (i : Nat) (H' : Hp) : Prop := H2 D = none ∧ Ex H2 H' ∧ ∃ acc, H' D = some (.lst acc) ∧ ItsF U ((List.range i).filter b) acc H'
theorem accF_turn {H2 H' : Hp} {D : Addr} {i : Nat} {b : Nat → Bool} {σ2 : L2.St} (p : AccF H2 U b D i H') (hn : i < 100000) (ht : EvT tt σ2 H' (b i)) (h : ∀ H3, b i = true → Ex H' H3 → EvP te σ2 H3 (U i)) :
    tt σ2 H' fun c H3 => if c = true then te σ2 H3 fun y H4 => ∃ acc, H4 D = some (.lst acc) ∧ acc.length < sizeLine ∧ AccF H2 U b D (i + 1) (upd H4 D (.lst (acc ++ [y]))) else AccF H2 U b D (i + 1) H3 := by
  obtain ⟨p1, p2, acc, p3, p4⟩ := p
  refine ht H' (Ex.refl _) _ fun H3 e3 => ?_
  have len : ((List.range i).filter b).length ≤ i := by
    have := List.length_filter_le b (List.range i)
    rw [List.length_range] at this
    exact this
  cases hb : b i with
  | true =>
    rw [if_pos rfl]
    refine h H3 hb e3 H3 (Ex.refl _) _ fun y H4 e4 z => ?_
    have e34 := e3.trans e4
    refine ⟨acc, e34 _ _ p3, Evl.sz_lt (by have := p4.1; omega), p1, Ex.mut (p2.trans e34) p1, _, upd_same, ?_⟩
    rw [List.range_succ, List.filter_append, List.filter_cons, hb]
    exact ((p4.st (ge_ex e34)).app z).st (ge_lst (e34 _ _ p3))
  | false =>
    rw [if_neg (by decide)]
    refine ⟨p1, p2.trans e3, acc, e3 _ _ p3, ?_⟩
    rw [List.range_succ, List.filter_append, List.filter_cons, hb]
    rw [if_neg (by decide), List.filter_nil, List.append_nil]
    exact p4.st (ge_ex e3)
/-- [e for x in .. if t] -/
theorem el_lcF {j : Nat} {b : Nat → Bool} (hs : Sat Ts σ H) (hi : EvI wi σ H n T G) (hG : ∀ H2 H3, Ex H H2 → Ex H2 H3 → G H2 H3) (hn : n ≤ 100000) (ht : ∀ i σ' H', i < n → Ex H H' → Sat ((Ts.set j none).set j (some (T i))) σ' H' → EvT tt σ' H' (b i))
    (he : ∀ i σ' H', i < n → b i = true → Ex H H' → Sat ((Ts.set j none).set j (some (T i))) σ' H' → EvP te σ' H' (U i)) (H1 : Hp) (e : Ex H H1) (Q : VK)
    (q : ∀ p xs H2, H1 p = none → Ex H1 H2 → H2 p = some (.lst xs) → ItsF U ((List.range n).filter b) xs H2 → Q (.ref p) H2) : tLc wi (gName j) tt te [j] σ H1 Q := hi H1 e _ fun J H2 e2 w D hD => by
  have e12 := e.trans e2
  refine lc_it w (AccF H2 U b D) ⟨hD, Ex.new hD, [], upd_same, rfl, fun k x v hk => by simp at hk⟩ (fun i H' _ p => hG H2 H' e12 p.2.1) (fun i x H' H'' hi' p y => ?_) (fun H' p => ?_)
  · obtain ⟨y1, y2⟩ := y
    have p' : AccF H2 U b D i H'' := ⟨p.1, p.2.1.trans y1, let ⟨acc, a1, a2⟩ := p.2.2; ⟨acc, y1 _ _ a1, a2.st (ge_ex y1)⟩⟩
    have s2 : Sat ((Ts.set j none).set j (some (T i))) ((wipe σ [j]).set j (some x)) H'' := Sat.set (Sat.del (hs.ex (e12.trans p'.2.1))) y2
    exact ⟨wipe1 σ j _, accF_turn p' (by omega) (ht i _ H'' hi' (e12.trans p'.2.1) s2) fun H3 hb e3 => he i _ H3 hi' hb ((e12.trans p'.2.1).trans e3) (s2.ex e3)⟩
  · obtain ⟨p1, p2, acc, p3, p4⟩ := p
    exact q D acc H' (Evl.fresh_back e2 p1) (e2.trans p2) p3 p4
/-- [e for x, y in .. if t] -/
theorem el_lc2F {i j : Nat} (hij : i ≠ j) {b : Nat → Bool} {A B : Nat → Ty K} (hs : Sat Ts σ H) (hi : EvI wi σ H n (fun k => tyTup [A k, B k]) G) (hG : ∀ H2 H3, Ex H H2 → Ex H2 H3 → G H2 H3) (hn : n ≤ 100000)
    (ht : ∀ k σ' H', k < n → Ex H H' → Sat ((((Ts.set j none).set i none).set i (some (A k))).set j (some (B k))) σ' H' → EvT tt σ' H' (b k))
    (he : ∀ k σ' H', k < n → b k = true → Ex H H' → Sat ((((Ts.set j none).set i none).set i (some (A k))).set j (some (B k))) σ' H' → EvP te σ' H' (U k)) (H1 : Hp) (e : Ex H H1) (Q : VK)
    (q : ∀ p xs H2, H1 p = none → Ex H1 H2 → H2 p = some (.lst xs) → ItsF U ((List.range n).filter b) xs H2 → Q (.ref p) H2) : tLc wi (gTup K 2 (gCons (gName i) (gCons (gName j) gNil))) tt te [i, j] σ H1 Q := hi H1 e _ fun J H2 e2 w D hD => by
  have e12 := e.trans e2
  refine lc_it w (AccF H2 U b D) ⟨hD, Ex.new hD, [], upd_same, rfl, fun k x v hk => by simp at hk⟩ (fun i H' _ p => hG H2 H' e12 p.2.1) (fun k x H' H'' hi' p y => ?_) (fun H' p => ?_)
  · obtain ⟨y1, y2⟩ := y
    have p' : AccF H2 U b D k H'' := ⟨p.1, p.2.1.trans y1, let ⟨acc, a1, a2⟩ := p.2.2; ⟨acc, y1 _ _ a1, a2.st (ge_ex y1)⟩⟩
    refine g_pair y2 fun u v hu hv => ?_
    have s2 : Sat ((((Ts.set j none).set i none).set i (some (A k))).set j (some (B k))) (((wipe σ [i, j]).set i (some u)).set j (some v)) H'' := Sat.set (Sat.set (Sat.del (Sat.del (hs.ex (e12.trans p'.2.1)))) hu) hv
    exact ⟨wipe2 σ hij _ _, accF_turn p' (by omega) (ht k _ H'' hi' (e12.trans p'.2.1) s2) fun H3 hb e3 => he k _ H3 hi' hb ((e12.trans p'.2.1).trans e3) (s2.ex e3)⟩
  · obtain ⟨p1, p2, acc, p3, p4⟩ := p
    exact q D acc H' (Evl.fresh_back e2 p1) (e2.trans p2) p3 p4
end
end Pt

/-! sorted(names, key=lambda name: str(name)). -/
namespace Pt
open PySem PySem.Spec PyProof.Rows L2 Evl
abbrev lamScope : Scope := { kind := .function, names := [("name", .local), ("str", .globalImplicit)], isGenerator := false, isCoroutine := false, more := [] }
abbrev lamBody (p1 p2 p3 : Pos) : Expr := .Call (.Name "str" p1) [.Name "name" p2] [] p3
abbrev lamArgs (p : Pos) : Arguments := { posonlyargs := [], args := [{ arg := "name", annotation := none, pos := p }], vararg := none, kwonlyargs := [], kw_defaults := [], kwarg := none, defaults := [] }
theorem lam_turn {X : Cx} {pins : List (Addr × Obj)} {σ : L2.St} {H : Hp} {s : Shared} (I : Inv X pins σ H s) (hms : X.mg "str" = none) {f c' : Addr} {q : Str} {pm ctv : Value} {pa p1 p2 p3 : Pos} {k : Nat}
    (hf : s.heap.get? f = some (PySem.W.kla_obj "<lambda>" q (lamArgs pa) (lamBody p1 p2 p3) lamScope [] pm c' ctv)) (hc : H c' = some (LamX.CodeO c' q)) (hr : Room (k + 3) X.A) (x : Str) (t : Tok) (h : Heap) (tk : Nat) (kp : ∀ b o, s.heap.get? b = some o → h.get? b = some o) :
    wpAny (model X.prog X.w) X.A.in1.in1 (call (.ref f) [.str x t]) (PySem.W.KeyPure (.str x) { s with heap := h, toks := tk }) (fun _ _ => False) { s with heap := h, toks := tk } := by
  have I' : Inv X pins σ H { s with heap := h, toks := tk } := I.kept kp
  obtain ⟨⟨oc, vs, tq, hoc, hdc, hvc⟩, _, _⟩ := I'.hok c' _ hc
  refine wpAny_call ?_
  refine PySem.W.kla_callFunE hr.in1.in1.depth (kp _ _ hf) rfl rfl rfl rfl ⟨c', oc, vs, tq, rfl, hoc, hdc, hvc⟩ ?_
  have hb : bindArgs (PySem.W.kla_fn "<lambda>" q (lamArgs pa) (lamBody p1 p2 p3) lamScope [] pm (.ref c') ctv) ⟨[Value.str x t], []⟩ = pure [(("name" : Str), Value.str x t)] := by first | rfl | kernel_rfl
  rw [hb]
  refine wpAny_pure (wpAny_newFunctionEnv (show ∀ y ∈ lamScope.names, y.2 ≠ NameKind.cell from by decide +kernel) (fun y hy => ?_) (fun h₁ hns hsb => ⟨?_, ?_⟩) rfl)
  · have e : y = (("name" : Str), Value.str x t) := by simpa using hy
    subst e
    rfl
  · exact I'.nolimit.fresh _ hsb
  · have k1 : ∀ b o, h.get? b = some o → h₁.get? b = some o := fun b o e => hsb.extBut b o (Nat.ne_of_lt (Heap.lt_size e)) (Heap.get?_push_of_some _ e)
    have bk : ∀ b o, X.base.get? b = some o → h₁.get? b = some o := fun b o e => k1 b o (I'.bk b o e)
    obtain ⟨mb, b1, b2⟩ := I.mod.blt
    refine PySem.W.kla_codeExpr ?_
    refine wpAny_Call_Name_kw (Calls.Name_function_global rfl rfl (Calls.loadGlobal_builtin (I.mod.glob.keeps bk) hms (b1.keeps bk) ((b2 "str" (by decide)).trans PyProof.Rows.boot_str) ?_) (by decide))
    refine PyProof.Rows.callWith_type1 ?_ rfl rfl
    refine Calls.spliced_cons (wpAny_Name (wpAny_loadName_local rfl rfl hns rfl ?_) (by decide))
    refine Calls.spliced_nil ?_
    exact PySem.P.str_of_str ⟨h₁, _, rfl, k1, .str x t⟩
/-- in their order, as sorted() by str() leaves them -/
def SrtN (ns : List Str) : Prop := ns.Pairwise fun a b => PySem.W.dataLe false (fun x : Str => PyData.str x) a b = true
theorem srt_same {ns : List Str} (h : SrtN ns) : ns.mergeSort (PySem.W.dataLe false fun x : Str => PyData.str x) = ns := List.mergeSort_of_pairwise h
theorem each_strs {vs : List Value} {ns : List Str} (e : PySem.W.EachIs (fun (v : Value) (x : Str) => ∃ t, v = .str x t) vs ns) : Vals (ns.map V.str) vs := by
  induction e with
  | nil => exact .nil
  | cons h _ ih =>
    obtain ⟨t, rfl⟩ := h
    exact .cons ⟨t, rfl⟩ ih
theorem strs_each {vs : List Value} {ns : List Str} (r : Vals (ns.map V.str) vs) : PySem.W.EachIs (fun (v : Value) (x : Str) => ∃ t, v = .str x t) vs ns := by
  induction ns generalizing vs with
  | nil => cases r; exact .nil
  | cons n ns ih =>
    cases r with
    | cons a t =>
      obtain ⟨tk, rfl⟩ := a
      exact .cons ⟨tk, rfl⟩ (ih t)
section
variable {X : Cx} {pins : List (Addr × Obj)} {σ : L2.St} {H : Hp} {s : Shared} {f c' : Addr} {q : Str} {pm ctv : Value} {pa p1 p2 p3 : Pos} {k : Nat} {ns : List Str} {p : Addr} {Q : VK}
theorem key_facts (ns : List Str) : PySem.W.AllAlike (ns.map fun x : Str => PyData.str x) ∧ PySem.W.Sortable (ns.map fun x : Str => PyData.str x) := by
  refine ⟨?_, ?_⟩
  · exact PySem.W.AllAlike.of fun _ _ => by simp [PySem.W.alike]
  · exact PySem.W.Sortable.others fun b => ⟨by simp, fun xs => by simp⟩
theorem sortL (I : Inv X pins σ H s) (hms : X.mg "str" = none) (hf : s.heap.get? f = some (PySem.W.kla_obj "<lambda>" q (lamArgs pa) (lamBody p1 p2 p3) lamScope [] pm c' ctv)) (hc : H c' = some (LamX.CodeO c' q)) (hr : Room (k + 3) X.A)
    (hp : SqL X.K H p (ns.map V.str)) (hs : SrtN ns) (hl : ns.length ≤ 100) (h : ∀ l, H l = none → Q (.ref l) (upd H l (.lst (ns.map V.str)))) :
    wpAny (model X.prog X.w) X.A (call (.builtin "sorted") [.ref p] [("key", .ref f)]) (EP X pins σ Q) X.xe s := by
  obtain ⟨its, rv, pl, hz⟩ := I.list hp
  have hu := hr.units
  refine PySem.W.sorted_key_data (b := false) (fun x : Str => PyData.str x) pl.isList (strs_each rv) (key_facts ns).1 (key_facts ns).2 (by rw [sizeLine_eq]; omega) (fun x _ => ?_) (ksk_s1 _ _) (fun _ => ksk_l1 _ _) (fun _ => ksk_t1 _ _)
    (fun v x ⟨t, ev⟩ _ h tk kp => by subst ev; exact lam_turn I hms hf hc hr x t h tk kp) fun out c h' tk kp fr hD hlen eo => ?_
  · have hd : (PyData.str x).depth = 0 := by simp [PyData.depth]
    omega
  · rw [srt_same hs] at eo
    have rv' := each_strs eo
    have hle : (ns.map V.str).length ≤ sizeLine := by rw [List.length_map, sizeLine_eq]; omega
    exact ⟨.ref (s.heap.objs.size + 1), upd H (s.heap.objs.size + 1) (.lst (ns.map V.str)), I.laid (t' := tk) kp (Nat.le_succ _) (show ObjOk X.prog X.w _ _ _ (.lst (ns.map V.str)) from ⟨hle, out, c, rv', hD⟩), rfl, h _ (I.hok.fresh (Nat.le_succ _))⟩
theorem sortD (hcalm : X.calm = true) {kvs : List (Key × V)} (I : Inv X pins σ H s) (hms : X.mg "str" = none) (hf : s.heap.get? f = some (PySem.W.kla_obj "<lambda>" q (lamArgs pa) (lamBody p1 p2 p3) lamScope [] pm c' ctv)) (hc : H c' = some (LamX.CodeO c' q)) (hr : Room (k + 3) X.A)
    (hp : Rd H p (.dK kvs)) (hks : kvs.map (·.1) = ns.map Sum.inr) (hs : SrtN ns) (hl : ns.length ≤ 100) (h : ∀ l, H l = none → Q (.ref l) (upd H l (.lst (ns.map V.str)))) :
    wpAny (model X.prog X.w) X.A (call (.builtin "sorted") [.ref p] [("key", .ref f)]) (EP X pins σ Q) X.xe s := by
  obtain ⟨z, lo, vs, rel, dd⟩ := dk_rd I.hok hp
  obtain ⟨ep, hat⟩ := dd.dictAt
  have hkeys : vs.map (·.1) = ns.map Sum.inr := rel.keys.symm.trans hks
  have hvl : vs.length = ns.length := by
    have e := congrArg List.length hkeys
    rw [List.length_map, List.length_map] at e
    exact e
  have h16 : vs.length ≤ sizeLine := by rw [hvl, sizeLine_eq]; omega
  have hu := hr.units
  refine PyProof.Rows.call_function_entry_kw PyProof.Rows.kind_sorted PyProof.Rows.plain_sorted PyProof.Rows.entry_sorted (ksk_s1 _ _) ?_
  unfold Builtin.«sorted»
  refine wpAny_bind (m := checkCount "sorted" 1 1 _) (wpAny_pure ?_)
  refine wpAny_bind (PySem.W.kdu_collect (A := X.A.in1) (PySem.W.kdl_dict (knd := mixKind X.prog X.w) (kvs := vs) (ep := ep) lo) (I.ok.hd hcalm) hat h16 fun h' tk acc hk hacc => ?_)
  have hal : acc.toList.length = ns.length := by rw [Array.length_toList, hacc.1, hvl]
  have hS : StrsAre acc.toList ns := strs_at hal fun j v e => by
    obtain ⟨k, x, e1, e2⟩ := hacc.2 j v (by rw [← Array.getElem?_toList]; exact e)
    have e3 : (vs.map (·.1))[j]? = some k := by rw [List.getElem?_map, e1]; all_goals rfl
    rw [hkeys, List.getElem?_map] at e3
    cases e4 : ns[j]? with
    | none => rw [e4] at e3; cases e3
    | some y =>
      rw [e4] at e3
      have e5 : Sum.inr y = k := Option.some.inj e3
      subst e5
      obtain ⟨t, ev⟩ := Value.isStrOf_shape (x := y) (v := v) e2
      exact ⟨y, t, rfl, ev⟩
  have I1 : Inv X pins σ H { s with heap := h', toks := tk } := I.kept hk
  refine wpAny_bind (wpAny_newList ?_ (by rw [hal, sizeLine_eq]; omega))
  have hoL : (h'.push (seqObj "list" acc.toList.toArray 0)).get? h'.objs.size = some (seqObj "list" acc.toList.toArray 0) := Heap.get?_push_size _ rfl
  show wpAny _ _ _ _ _ { s with heap := h'.push (seqObj "list" acc.toList.toArray 0), toks := tk }
  have up : ∀ {g : Heap}, PySem.W.KeepsBut h'.objs.size (h'.push (seqObj "list" acc.toList.toArray 0)) g → ∀ b o, h'.get? b = some o → g.get? b = some o := fun {g} kp b o q =>
    kp b o (Nat.ne_of_lt (Heap.lt_size q)) (Heap.get?_push_of_some _ q)
  refine wpAny_bind (wpAny_holding (wpAny_call_entry_kw PyProof.Rows.slot_list_sort ⟨_, hoL, rfl⟩ PyProof.Rows.entry_list_sort ?_ (ksk_l1 _ _)))
  rw [ksk_t1]
  refine PySem.W.keyH_tree (kz := ns.map fun x : Str => PyData.str x) (s := { s with heap := h'.push (seqObj "list" acc.toList.toArray 0), toks := tk }) hoL (by rw [List.length_map]; exact hal.symm) (by rw [hal, sizeLine_eq]; omega) (key_facts ns).1 (key_facts ns).2 (fun d hd => ?_)
    (PySem.W.keyH_turns (s := { s with heap := h'.push (seqObj "list" acc.toList.toArray 0), toks := tk }) (strs_each (vals_of_strs hS)) fun v x ⟨t, ev⟩ _ h2 tk2 kp => by
      subst ev
      have I2 : Inv X pins σ H { s with heap := h', toks := tk } := I1
      exact lam_turn I hms hf hc hr x t h2 tk2 fun b o e => up kp b o (hk b o e)) fun h2 tk2 out c kp hD ko => ?_
  · obtain ⟨x, hx, rfl⟩ := List.mem_map.mp hd
    have hd : (PyData.str x).depth = 0 := by simp [PyData.depth]
    have : X.A.in1.in1.units ≤ X.A.units + 2 := by first | exact Nat.le_refl _ | (show _ ≤ _; simp [Around.in1])
    omega
  · have eo := PySem.W.keyedOut_each (fun x : Str => PyData.str x) ko (strs_each (vals_of_strs hS))
    rw [srt_same hs] at eo
    have rv' := each_strs eo
    have hle : (ns.map V.str).length ≤ sizeLine := by rw [List.length_map, sizeLine_eq]; omega
    refine ⟨_, rfl, wpAny_pure ⟨_, rfl, .ref h'.objs.size, upd H h'.objs.size (.lst (ns.map V.str)), I1.laid (t' := tk2) (up kp) (Nat.le_refl _) (show ObjOk X.prog X.w _ _ _ (.lst (ns.map V.str)) from ⟨hle, out, c, rv', hD⟩), rfl, h _ (I1.hok.fresh (Nat.le_refl _))⟩⟩
end
/-- sorted(e, key=lambda name: str(name)), e a list or a dict of names in order: a new list of them -/
def tSrt (K : PySem.W.Frag) (T : List (Addr × Str)) (te : TE) : TE := fun σ H Q => te σ H fun x H1 => ∃ (p : Addr) (ns : List Str), x = .ref p ∧ (SqL K H1 p (ns.map V.str) ∨ ∃ kvs : List (Key × V), H1 p = some (.dK kvs) ∧ kvs.map (·.1) = ns.map Sum.inr) ∧ SrtN ns ∧ ns.length ≤ 100 ∧ LamX.Tabs T H1 ∧
  ∀ H2 l, LamX.ExtN H1 H2 → LamX.Tabs T H2 → H2 l = none → Q (.ref l) (upd H2 l (.lst (ns.map V.str)))
theorem sqL_extN {K : PySem.W.Frag} {H H' : Hp} {p : Addr} {xs : List V} (h : SqL K H p xs) (e : LamX.ExtN H H') : SqL K H' p xs := by
  rcases h with (h | ⟨o, h⟩) | h
  · exact .inl (.inl (e _ _ h (fun ps z => by cases z)))
  · exact .inl (.inr ⟨o, e _ _ h (fun ps z => by cases z)⟩)
  · exact .inr h
theorem pe_sortK (K : PySem.W.Frag) {X : Cx} {T : List (Addr × Str)} {e : Expr} {te : TE} {p pos lpos kpos pa p1 p2 p3 : Pos} {c P : Addr} {k : Nat} (hcalm : X.calm = true) (he : PE X e te) (hg : Gl X "sorted") (hm : X.mg "sorted" = none) (hms : X.mg "str" = none)
    (TB : LamX.TabB X.base X.mg c P) (hcode : X.env.code = .ref c) (hmT : (P, X.env.qual ++ "<lambda>") ∈ T) (hu : ∀ p ∈ T, p.1 = P → p.2 = X.env.qual ++ "<lambda>") (hr : Room (k + 3) X.A)
    (hs1 : starEach [e] X.env = [(false, eval e X.env)] := by rfl) (hK : X.K = K := by rfl) :
    PE X (.Call (.Name "sorted" p) [e] [⟨some "key", .Lambda (lamArgs pa) (lamBody p1 p2 p3) lamScope lpos, kpos⟩] pos) (tSrt K T te) := by
  subst hK
  refine ⟨fun pins s σ H Q I h => ?_⟩
  refine wpAny_Call_Name_kw (ld_blt I hg hm PyProof.Rows.boot_sorted ?_ (by decide) (by decide))
  have eb : backTo pos (starEach [e] X.env) = [(false, eval e X.env)] := by rw [hs1]; rfl
  refine PyProof.Rows.callWith_kw ?_ (by rw [eb]; rfl) (by rw [eb]; rfl) rfl rfl
  rw [eb]
  refine Calls.spliced_cons (thn (he.run pins s σ H _ I h) fun u s1 ⟨x, H1, I1, rx, pp, ns, ex, src, hs, hl, hT, q⟩ => Calls.spliced_nil ?_)
  subst ex
  obtain rfl : u = Value.ref pp := rx
  show wpAny _ _ (evalAll ((do let v ← eval (.Lambda (lamArgs pa) (lamBody p1 p2 p3) lamScope lpos) X.env; standAt pos; pure v) :: [])) _ _ s1
  refine wpAny_evalAll_cons (wpAny_bind (LamX.lam_make2 I1 TB hcode hmT hu hT rfl (fun y hy e => absurd e ((show ∀ y ∈ lamScope.names, y.2 ≠ NameKind.free from by decide +kernel) y hy)) fun f c' pm ctv H2 s2 I2 eN T2 hf hfn hfr hco => wpAny_bind (wpAny_standAt (wpAny_pure (wpAny_evalAll_nil ?_)))))
  show wpAny _ _ (call (.builtin "sorted") [.ref pp] [("key", .ref f)]) _ _ s2
  have fin : ∀ l, H2 l = none → Q (.ref l) (upd H2 l (.lst (ns.map V.str))) := fun l hl' => q H2 l eN T2 hl'
  rcases src with src | ⟨kvs, src, hk⟩
  · exact sortL I2 hms hf hco hr (sqL_extN src eN) hs hl fin
  · exact sortD hcalm I2 hms hf hco hr (.inl (eN _ _ src (fun ps z => by cases z))) hk hs hl fin
/-- the rule for a def, its code object told -/
theorem okC {CX : CXT} {P : Program} {w : World} {K : PySem.W.Frag} {mg : Str → Option Value} {base : Heap} {x qual : Str} {params : Arguments} {body : List Stmt} {scope : Scope} {dvs : List V} {kws : List (Str × V)} {f : Addr} {fd : FuncData} {N ps : List Str} {k : Nat} {sp : Sp}
    (F : FunD K x qual params body scope dvs kws f fd) (S : FnScope N ps scope) (len : ∀ vs H Q E, sp vs H Q E → vs.length = ps.length)
    (hbody : ∀ (c : Addr) (A : Around) (outer : List Env) (s : Shared) (H : Hp) (vs : List V) (Q : VK) (E : XK), fd.code = .ref c → Room k (A.deeper (envOfC qual scope s.heap.objs.size f (.ref c))) → sp vs H Q E →
      ∃ t, PSs (cxOf CX P w K mg base N qual scope f (.ref c) A outer s H E) body t ∧ t { nx := fun _ H' => Q .non H', rt := Q } (start N vs) H) : FnOk P w K mg base CX (k + 1) f fd ps sp := by
  obtain ⟨oc, od, dV, kV, doc, pm, an, cdv, ct, osl, rfl, lk, hcd, _, _⟩ := F.ex
  have hc : ∃ c, cdv = .ref c := by
    unfold PySem.W.codeIn at hcd
    split at hcd
    · exact ⟨_, rfl⟩
    · cases hcd
  obtain ⟨c, rfl⟩ := hc
  exact fn_of lk hcd S len fun A outer s H vs Q E hr hsp => hbody c A outer s H vs Q E rfl hr hsp
end Pt

/-! Dict comprehensions over pairs; zip of names and a tuple. -/
namespace Pt
open PySem PySem.Spec PyProof.Rows L2 Evl
section
variable {J : It} {n : Nat} {G : Hp → Prop} {Y : Nat → Hp → V → Hp → Prop}
theorem dc_it (w : Walk J n G Y) {g : TG} {tk tv : TE} {vs : List Nat} {σ : L2.St} {H1 : Hp} {D : Addr} {Qd : Hp → Prop} (Pv : Nat → Hp → Prop) (h0 : Pv 0 (upd H1 D (.dK []))) (hG : ∀ i H, i ≤ n → Pv i H → G H)
    (hs : ∀ i x H H', i < n → Pv i H → Y i H x H' → g x (wipe σ vs) H' fun σ2 H2 => wipe σ2 vs = wipe σ vs ∧ tk σ2 H2 fun y H4 => tv σ2 H4 fun z H5 => ∃ (kvs : List (Key × V)) (k : Key), y = kV k ∧ H5 D = some (.dK kvs) ∧ kvs.length < sizeLine ∧ Pv (i + 1) (upd H5 D (.dK (putK kvs k z)))) (hd : ∀ H, Pv n H → Qd H) :
    ∃ W : Nat → Nat → Hp → Prop, (∃ m, W 0 m (upd H1 D (.dK []))) ∧ ∀ i m H, W i m H →
      (J.stop i H ∧ Qd H) ∨ (J.go i H ∧ ∃ Nx : Hp → Prop, (∀ H', Nx H' → ∃ m', m' < m ∧ W (i + 1) m' H') ∧ ∀ x H', J.yld i H x H' → g x (wipe σ vs) H' fun σ2 H2 => wipe σ2 vs = wipe σ vs ∧ tYes σ2 H2 fun b H3 =>
        if b = true then tk σ2 H3 fun y H4 => tv σ2 H4 fun z H5 => ∃ (kvs : List (Key × V)) (k : Key), y = kV k ∧ H5 D = some (.dK kvs) ∧ kvs.length < sizeLine ∧ Nx (upd H5 D (.dK (putK kvs k z))) else Nx H3) := by
  refine ⟨fun i m H => m = n - i ∧ i ≤ n ∧ Pv i H, ⟨n, by simp, Nat.zero_le _, h0⟩, ?_⟩
  rintro i m H ⟨rfl, hi, p⟩
  have q := hG i H hi p
  by_cases hlt : i < n
  · exact .inr ⟨w.goes i H hlt q, Pv (i + 1), fun H' p' => ⟨n - (i + 1), by omega, rfl, hlt, p'⟩, fun x H' y => hs i x H H' hlt p (w.yields i H x H' hlt q y)⟩
  · have e : i = n := by omega
    subst e
    exact .inl ⟨w.stops H q, hd H p⟩
end
section
variable {K : PySem.W.Frag} {σ : L2.St} {H : Hp} {Ts : TEnv K} {n : Nat} {T U : Nat → Ty K} {te tb ta tk tv : TE} {wi : TI} {G : Hp → Hp → Prop} {Dv : Str → Ty K} {ns : List Str}
/-- a new dict -/
def EvPD (te : TE) (σ : L2.St) (H : Hp) (ns : List Str) (D : Str → Ty K) : Prop := ∀ H1, Ex H H1 → ∀ Q : VK, (∀ p kvs H2, H1 p = none → Ex H1 H2 → Dct K p ns D kvs H2 → Q (.ref p) H2) → te σ H1 Q
theorem el_dc2 {i j : Nat} (hij : i ≠ j) {A B : Nat → Ty K} {nm : Nat → Str} (hs : Sat Ts σ H) (hi : EvI wi σ H n (fun k => tyTup [A k, B k]) G) (hG : ∀ H2 H3, Ex H H2 → Ex H2 H3 → G H2 H3) (hn : n ≤ 100000) (inj : ∀ k l, k < n → l < n → nm k = nm l → k = l)
    (hk : ∀ k σ' H', k < n → Ex H H' → Sat ((((Ts.set j none).set i none).set i (some (A k))).set j (some (B k))) σ' H' → EvP (K := K) tk σ' H' (tyE (.str (nm k))))
    (hv : ∀ k σ' H', k < n → Ex H H' → Sat ((((Ts.set j none).set i none).set i (some (A k))).set j (some (B k))) σ' H' → EvP tv σ' H' (Dv (nm k))) :
    EvPD (tDc wi (gTup K 2 (gCons (gName i) (gCons (gName j) gNil))) tYes tk tv [i, j]) σ H ((List.range n).map nm) Dv := fun H1 e Q q => hi H1 e _ fun J H2 e2 w D hD => by
  have e12 := e.trans e2
  refine dc_it w (fun i H' => H2 D = none ∧ Ex H2 H' ∧ ∃ kvs, Dct K D ((List.range i).map nm) Dv kvs H') ⟨hD, Ex.new hD, [], upd_same, .nil⟩ (fun i H' _ p => hG H2 H' e12 p.2.1) (fun k x H' H'' hi' p y => ?_) (fun H' p => ?_)
  · obtain ⟨y1, y2⟩ := y
    obtain ⟨p1, p2, kvs, dc⟩ := p
    have p2' := p2.trans y1
    refine g_pair y2 fun u v hu hv' => ?_
    have s2 : Sat ((((Ts.set j none).set i none).set i (some (A k))).set j (some (B k))) (((wipe σ [i, j]).set i (some u)).set j (some v)) H'' := Sat.set (Sat.set (Sat.del (Sat.del (hs.ex (e12.trans p2')))) hu) hv'
    refine ⟨wipe2 σ hij _ _, (hk k _ H'' hi' (e12.trans p2') s2) H'' (Ex.refl _) _ fun yk H4 e4 z => (hv k _ H4 hi' ((e12.trans p2').trans e4) (s2.ex e4)) H4 (Ex.refl _) _ fun yv H5 e5 zv => ?_⟩
    cases z
    have e35 := y1.trans (e4.trans e5)
    have dc5 := dc.ex e35
    have hnew : nm k ∉ (List.range k).map nm := fun h => by
      obtain ⟨l, hl, hl2⟩ := List.mem_map.mp h
      have hl := List.mem_range.mp hl
      have := inj l k (by omega) hi' hl2
      omega
    have hl := dc5.e.len
    rw [List.length_map, List.length_range] at hl
    refine ⟨kvs, .inr (nm k), rfl, dc5.at_, Evl.sz_lt (by omega), p1, Ex.mut (p2.trans e35) p1, kvs ++ [(.inr (nm k), yv)], by rw [putK_new yv (dc5.e.none hnew)]; exact upd_same, ?_⟩
    have g : Ge K H5 (L2.upd H5 D (.dK (putK kvs (.inr (nm k)) yv))) := ge_upd dc5.at_ id
    rw [List.range_succ, List.map_append]
    exact (dc5.e.snoc zv).st g
  · obtain ⟨p1, p2, kvs, dc⟩ := p
    exact q D kvs H' (Evl.fresh_back e2 p1) (e2.trans p2) dc
theorem map_getD (ns : List Str) : (List.range ns.length).map (fun k => ns.getD k default) = ns := by
  apply List.ext_getElem?
  intro i
  by_cases hi : i < ns.length
  · rw [List.getElem?_map, List.getElem?_range hi, List.getElem?_eq_getElem hi]
    show some (ns.getD i default) = _
    rw [List.getD_eq_getElem?_getD, List.getElem?_eq_getElem hi]
    rfl
  · rw [List.getElem?_eq_none (by simp; omega), List.getElem?_eq_none (by omega)]
/-- zip(names, t) -/
theorem ei_zipN {tl : TE} (ha : EvP (K := K) tl σ H (tyNms ns)) (hb : EvP te σ H (tySeq ns.length U)) : EvI (RZ.iZipA K (tCons tl (tCons te tNil))) σ H ns.length (fun i => tyTup [tyE (.str (ns.getD i default)), U i]) (Ge K) := fun H1 e R q =>
  ha H1 e _ fun v H2 e2 ⟨a, o, ea, h2, hd⟩ => hb H2 (e.trans e2) _ fun v' H3 e3 ⟨b, ys, eb, h3, l', ty'⟩ => by
    subst ea eb
    have h2' := e3 _ _ h2
    have sq : ∀ H4, Ge K H3 H4 → SqT K H4 a (ns.map V.str) ∧ SqT K H4 b ys := fun H4 g => ⟨.inl (.inr ⟨o, g _ _ h2' trivial⟩), SqT.of (g _ _ h3 trivial)⟩
    refine ⟨a, b, ns.map V.str, ys, rfl, .inr ⟨(sq _ (Ge.refl _)).1, SqT.of h3, q _ H3 (e2.trans e3) ((walk_zipT (n := ns.length) (List.length_map _) l').mono sq fun i H4 x H5 hi g y => ?_)⟩⟩
    obtain ⟨t, x1, x2, y1, y2, y3, y4, y5⟩ := y
    subst y1 y3
    have ex := Ex.new (o := .tup [x1, x2]) y2
    exact ⟨ex, t, _, rfl, upd_same, .cons (its_strs (K := K) (H := H) i x1 y4) (.cons ((U i).st _ _ _ (g.trans (ge_ex ex)) (ty' i x2 y5)) .nil)⟩
theorem q_asgD {i : Nat} {D : Ends} {tz : TS} (hs : Sat Ts σ H) (h : EvPD te σ H ns Dv) (k : ∀ p kvs σ' H', H p = none → Ex H H' → Dct K p ns Dv kvs H' → Sat (Ts.set i (some (tyE (.ref p)))) σ' H' → tz D σ' H') : tSeq (tAsg te (gName i)) tz D σ H :=
  h H (Ex.refl _) _ fun p kvs H1 hp e dc => k p kvs _ H1 hp e dc ((hs.ex e).set rfl)
end
end Pt
namespace L2
open PySem PySem.Spec PyProof.Rows
section
variable {X : Cx}
theorem sw_trueD {kx vx : Expr} {gs : List Comprehension} {scope : Scope} {pos py : Pos} {y : Str} {l : Nat} {env : Env} (hk : env.scope.kind = .function) (hy : env.scope.names.lookup y = some .local) (hl : (py.line == pos.line) = true)
    (ha : (scope.names.any fun (n, k) => n == y && (k == .local || k == .cell)) = false) : swapsWith (.DictComp kx vx gs scope pos) (some (.Name y py)) l env = pure true := by
  have ky : env.kindOf y = some .local := hy
  have hb : env.blockKind = .function := by unfold Env.blockKind; rw [hk]; rfl
  unfold swapsWith
  simp only [hb, ky, ha, Expr.pos, hl]
  rfl
/-- name = {..} on one line, the name a local -/
theorem ps_setDc {i : Nat} {y : Str} {py : Pos} {kx vx tg iter : Expr} {ifs : List Expr} {scope : Scope} {own : List (Str × Nat)} {pos spos : Pos} {wi : TI} {g : TG} {tt : TT} {tk tv : TE} (hc : X.calm = true) (hN : X.N.Nodup) (hy : X.N[i]? = some y) (hyl : X.env.scope.names.lookup y = some .local)
    (hsw : swapsWith (.DictComp kx vx [⟨tg, iter, ifs, 0⟩] scope pos) (some (.Name y py)) spos.line X.env = pure true) (hi : PI X tg iter wi) (ok : BlkOk X.N X.env.scope scope own)
    (hg : ∀ (s : Shared) (H : Hp) (C : Addr) (cl : List (Str × Addr)) (fp : List Addr), PG (X.blk s H scope (compEnvC scope cl C X.env) fp) tg g) (ht : ∀ (s : Shared) (H : Hp) (C : Addr) (cl : List (Str × Addr)) (fp : List Addr), PTs (X.blk s H scope (compEnvC scope cl C X.env) fp) ifs tt)
    (hk : ∀ (s : Shared) (H : Hp) (C : Addr) (cl : List (Str × Addr)) (fp : List Addr), PE (X.blk s H scope (compEnvC scope cl C X.env) fp) kx tk)
    (he : ∀ (s : Shared) (H : Hp) (C : Addr) (cl : List (Str × Addr)) (fp : List Addr), PE (X.blk s H scope (compEnvC scope cl C X.env) fp) vx tv) (hs : ∀ x, foldedSetIterable iter X.env x = pure x := by intro _; rfl) :
    PS X (.Assign [.Name y py] (.DictComp kx vx [⟨tg, iter, ifs, 0⟩] scope pos) spos) (tAsg (tDc wi g tt tk tv (own.map (·.2))) (gName i)) := by
  refine ⟨fun pins s σ H D I h => ?_⟩
  rw [exec_Assign_Name_used _ _ _ _ hsw]
  refine wpAny_bind (wpAny_standAt (wpAny_bind ?_))
  show wpAny _ X.A (do let _ ← comprehension (.DictComp kx vx [⟨tg, iter, ifs, 0⟩] scope pos) scope X.env (firstIterPos [⟨tg, iter, ifs, 0⟩] pos) newDict false (eval iter X.env) (some (assign (.Name y py) X.env))) _ _ s
  have h : tDc wi g tt tk tv (own.map (·.2)) σ H (fun x H1 => gName i x σ H1 D.nx) := h
  refine wpAny_bind (thn (dc_core (Qf := fun _ s' => SP X pins D .next s') hc hN I hi ok hg ht hk he hs h fun L C s' m H' I' q hn f => ?_) fun _ s' hq => wpAny_pure (wpAny_pure hq))
  show wpAny _ _ (assign (.Name y py) X.env (.ref L)) _ _ _
  refine wpAny_assign_Name (store_ok2 (v := V.ref L) I' hN hy (.inl hyl) rfl (fun s2 I2 ⟨a, sb, ha⟩ => ?_) (.inr hyl))
  obtain ⟨f0, f1, f2, f3, f4, f5⟩ := f
  have haC : C ≠ a := by
    rcases ha with z | z
    · rw [z]; exact f1
    · exact fun e => f4 y a z e.symm
  refine ⟨m, hn.sameBut sb haC, fun h3 sb3 => ?_⟩
  exact ⟨_, H', I2.turned (t' := s2.toks) (fun b o hb e => (sb3.2 b hb).trans e) f0 f1 f3 f4 f5, q⟩
end
end L2

/-! The defs' promises: Ratio. -/
namespace Pd
open PySem PySem.Spec PyProof.Rows L2 Evl Pt Pn
section
variable {P : Program} {w : World} {K : PySem.W.Frag} {mg : Str → Option Value} {base : Heap}
theorem ite_f {c : Bool} {A B : Prop} (h : c = false) (k : B) : if c = true then A else B := by rw [h]; exact iteF k
theorem ite_t {c : Bool} {A B : Prop} (h : c = true) (k : A) : if c = true then A else B := by rw [h]; exact iteT k
theorem rf_put (x y : V) : putF "bottom" y (putF "top" x []) = [(("top" : Str), x), (("bottom" : Str), y)] := by
  show (if ("top" : Str) = "bottom" then _ else (("top" : Str), x) :: putF "bottom" y []) = _
  rw [if_neg (by decide +kernel)]
  rfl
abbrev rc (K : PySem.W.Frag) : Addr := He.ga K "Ratio"
abbrev Ok (P : Program) (w : World) (K : PySem.W.Frag) (mg : Str → Option Value) (base : Heap) (d : He.DefD) (k : Nat) (ps : List Str) (sp : Sp) : Prop := FnOk P w K mg base CX0 k (He.fAd K d.at_) (fdA K d) ps sp
theorem gcd_at (c : Cxt P K mg base) : mg "gcd" = some (.builtin "math.gcd") := by
  have m := (He.ba c.more).1
  unfold exA at m
  simp only [Bool.and_eq_true] at m
  obtain ⟨⟨m1, _⟩, _⟩ := m
  unfold gcdB at m1
  split at m1
  · rename_i id e
    have e2 := of_decide_eq_true m1
    rw [e2] at e
    exact PySem.W.mg_of c.inb c.ns e
  · cases m1
def spRInit (K : PySem.W.Frag) : Sp := fun vs H Q _ => ∃ (p dx : Addr) (t b : Int), vs = [.ref p, .int t, .int b] ∧ H p = some (.ins (rc K) dx []) ∧ b ≠ 0 ∧ Q .non (upd H p (.ins (rc K) dx (rfs (Pb.fr t b))))
theorem scRI : FnScope ["self", "top", "bottom", "common"] ["self", "top", "bottom"] (defScope sm_Ratio_init) := ⟨rfl, rfl, rfl, by decide +kernel, rfl, by decide +kernel, by decide +kernel⟩
theorem ok_RInit (c : Cxt P K mg base) : Ok P w K mg base dm_Ratio_init 34 ["self", "top", "bottom"] (spRInit K) := by
  refine (c.Fm_Ratio_init).ok scRI (fun vs H Q E h => ?_) (fun cdv A outer s H vs Q E hr h => ?_)
  · obtain ⟨p, dx, t, b, rfl, _⟩ := h
    rfl
  · obtain ⟨p, dx, t, b, rfl, hp, hb, q⟩ := h
    have div := Pr.op_fdivP (X := (cxOf CX0 P w K mg base ["self", "top", "bottom", "common"] "Ratio.__init__" (defScope sm_Ratio_init) (He.fAd K dm_Ratio_init.at_) cdv A outer s H E).nox) c hr (by decide)
    refine ⟨_, PSs.nox (pss_cons (ps_if (pt_cmpR op_eq (pv 2) pe_int (nomark _)) (pss_one ps_never) pss_nil)
      (pss_cons (ps_set (i := 3) scRI.nd rfl (Or.inl rfl) (pe_callBfun cr_gcd rfl (gcd_at c) (pa_cons (pv 1) (pa_cons (pv 2) pa_nil))))
      (pss_cons (ps_if (pt_cmpR op_lt (pv 2) pe_int (nomark _)) (pss_one (ps_set (i := 3) scRI.nd rfl (Or.inl rfl) (pe_un un_neg (pv 3)))) pss_nil)
      (pss_cons (ps_fld (pv 0) (pe_op div (pv 1) (pv 3)) rfl) (pss_one (ps_fld (pv 0) (pe_op div (pv 2) (pv 3)) rfl)))))), ?_⟩
    obtain ⟨e1, e2, e3⟩ := Pb.fr_parts t hb
    refine ⟨_, rfl, rfl, _, rfl, ite_f (by rw [dec_int]; simpa using hb) ?_⟩
    refine ⟨_, rfl, _, rfl, _, _, rfl, ?_⟩
    generalize hg : (if b < 0 then -((Nat.gcd t.natAbs b.natAbs : Nat) : Int) else ((Nat.gcd t.natAbs b.natAbs : Nat) : Int)) = g at e1 e2 e3
    have fin : ∀ σ : L2.St, σ = [some (.ref p), some (.int t), some (.int b), some (.int g)] → tSeq (sFld K (tVar 0) (tOp (rI (fun x j => j ≠ 0) fun i j => V.int (i.fdiv j)) (tVar 1) (tVar 3)) "top")
        (sFld K (tVar 0) (tOp (rI (fun x j => j ≠ 0) fun i j => V.int (i.fdiv j)) (tVar 2) (tVar 3)) "bottom") { nx := fun x H' => Q V.non H', rt := Q } σ H := by
      rintro σ rfl
      refine ⟨_, rfl, _, rfl, _, _, rfl, rfl, e3, _, rfl, p, _, dx, _, rfl, hp, c.c_Ratio, c.n_Ratio_top, by decide, ?_⟩
      refine ⟨_, rfl, _, rfl, _, _, rfl, rfl, e3, _, rfl, p, _, dx, _, rfl, upd_same, c.c_Ratio, c.n_Ratio_bottom, (by show 1 < 1000; decide), ?_⟩
      show Q .non (upd (upd H p (.ins (rc K) dx (putF "top" (.int (t.fdiv g)) []))) p (.ins (rc K) dx (putF "bottom" (.int (b.fdiv g)) (putF "top" (.int (t.fdiv g)) []))))
      rw [rf_put, e1, e2, upd_upd]
      exact q
    refine ⟨_, rfl, _, _, rfl, rfl, _, rfl, ?_⟩
    by_cases hn : b < 0
    · refine ite_t (decide_eq_true hn) ⟨_, rfl, _, rfl, fin _ ?_⟩
      rw [← hg, if_pos hn]
      rfl
    · refine ite_f (decide_eq_false hn) (fin _ ?_)
      rw [← hg, if_neg hn]
      rfl
end
end Pd

/-! The operators of Ratio. -/
namespace Pd
open PySem PySem.Spec PyProof.Rows L2 Evl Pt Pn
/-- the bits that an operand may have -/
def LIM : Nat := 67108864
theorem lim2 : LIM + LIM ≤ 134217728 := by decide
section
variable {P : Program} {w : World} {K : PySem.W.Frag} {mg : Str → Option Value} {base : Heap}
/-- THE RULE for a def that only makes new things -/
theorem okS {d : He.DefD} {N ps : List Str} {k : Nat} (F : FunD K d.name d.qual d.params d.body d.scope (d.dvs K) (d.kws K) (He.fAd K d.at_) (fdA K d)) (S : FnScope N ps d.scope) (s : Spc K) (hl : ∀ x, (s.args x).length = ps.length)
    (body : ∀ (cdv : Value) (A : Around) (outer : List Env) (s0 : Shared) (H : Hp) (E : XK), Room k (A.deeper (envOfC d.qual d.scope s0.heap.objs.size (He.fAd K d.at_) cdv)) →
      ∃ t, PSs (cxOf CX0 P w K mg base N d.qual d.scope (He.fAd K d.at_) cdv A outer s0 H E).nox d.body t ∧
        ∀ (x : s.ι) (Q : VK) (σ : L2.St), s.side x → Sat ((s.args x).map some ++ List.replicate (N.length - (s.args x).length) none) σ H → (∀ v H', Ex H H' → (s.res x).p v H' → Q v H') → t { nx := fun _ H' => Q .non H', rt := Q } σ H) :
    Ok P w K mg base d (k + 1) ps s.sp := by
  refine F.ok S (fun vs H Q E h => ?_) (fun cdv A outer s0 H vs Q E hr h => ?_)
  · obtain ⟨x, _, h, _⟩ := h
    rw [← hl x]
    exact (Paired.length h).symm
  · obtain ⟨t, h1, h2⟩ := body cdv A outer s0 H E hr
    obtain ⟨x, hx, h, k⟩ := h
    exact ⟨t, h1.nox, h2 x Q _ hx (sat_start h) k⟩
theorem rfs_top (q : Rat) : (rfs q).lookup ("top" : Str) = some (.int q.num) := by
  have h : (("top" : Str) == "top") = true := by decide +kernel
  simp only [rfs, List.lookup, h]
theorem rfs_bottom (q : Rat) : (rfs q).lookup ("bottom" : Str) = some (.int (q.den : Int)) := by
  have h : (("bottom" : Str) == "top") = false := by decide +kernel
  have h2 : (("bottom" : Str) == "bottom") = true := by decide +kernel
  simp only [rfs, List.lookup, h, h2]
variable {σ : L2.St} {H : Hp} {te ta tb : TE}
theorem ev_top (c : Cxt P K mg base) {q : Rat} (h : EvP (K := K) te σ H (tyRat q)) : EvP (K := K) (tFld K te "top") σ H (tyInt q.num) := ev_fld h c.c_Ratio c.n_Ratio_top (rfs_top q)
theorem ev_bottom (c : Cxt P K mg base) {q : Rat} (h : EvP (K := K) te σ H (tyRat q)) : EvP (K := K) (tFld K te "bottom") σ H (tyInt (q.den : Int)) := ev_fld h c.c_Ratio c.n_Ratio_bottom (rfs_bottom q)
/-- Ratio(t, b), Ratio(t) -/
theorem ev_mk2 {t b : Int} (ha : EvP (K := K) ta σ H (tyInt t)) (hb : EvP (K := K) tb σ H (tyInt b)) (nz : b ≠ 0) : EvP (K := K) (tMake (rc K) (spRInit K) [] E0 (tCons ta (tCons tb tNil))) σ H (tyRat (Pb.fr t b)) := fun H1 e Q q =>
  ha H1 e _ fun v H2 e2 z => hb H2 (e.trans e2) _ fun v' H3 e3 z' => fun x dx nx ndx ne => by
    cases z
    cases z'
    refine ⟨x, dx, t, b, rfl, upd_same, nz, rfl, ?_⟩
    rw [upd_upd]
    exact q _ _ ((e2.trans e3).trans ((Ex.new ndx).trans (Ex.new (by rw [upd_ne ne.symm]; exact nx)))) ⟨x, dx, rfl, upd_same⟩
theorem ev_mk1 {t : Int} (ha : EvP (K := K) ta σ H (tyInt t)) : EvP (K := K) (tMake (rc K) (spRInit K) [.int 1] E0 (tCons ta tNil)) σ H (tyRat (t : Rat)) := fun H1 e Q q =>
  ha H1 e _ fun v H2 e2 z => fun x dx nx ndx ne => by
    cases z
    refine ⟨x, dx, t, 1, rfl, upd_same, by decide, rfl, ?_⟩
    rw [upd_upd, Pb.fr_int]
    exact q _ _ (e2.trans ((Ex.new ndx).trans (Ex.new (by rw [upd_ne ne.symm]; exact nx)))) ⟨x, dx, rfl, upd_same⟩
/-- how its arguments bind: both written, one written -/
theorem bRI2 (c : Cxt P K mg base) : Binds K (fdA K dm_Ratio_init) ["self", "top", "bottom"] [] := by
  obtain ⟨ds, r, b⟩ := (c.Fm_Ratio_init).binds1 (ps := ["self", "top", "bottom"]) 3 1 (by exact List.cons_ne_nil _ _) (by rfl) fun T kV doc pm an cdv ct us its h1 h2 => by
    obtain ⟨a, b, d, rfl⟩ : ∃ a b d, us = [a, b, d] := by
      match us, h1 with
      | [a, b, d], _ => exact ⟨a, b, d, rfl⟩
    obtain ⟨i, rfl⟩ : ∃ i, its = [i] := by
      match its, h2 with
      | [i], _ => exact ⟨i, rfl⟩
    exact ⟨_, rfl, rfl⟩
  cases r
  exact b
theorem bRI1 (c : Cxt P K mg base) : ∃ ds, Vals [V.int 1] ds ∧ Binds K (fdA K dm_Ratio_init) ["self", "top", "bottom"] ds :=
  (c.Fm_Ratio_init).binds1 (ps := ["self", "top", "bottom"]) 2 0 (by exact List.cons_ne_nil _ _) (by rfl) fun T kV doc pm an cdv ct us its h1 h2 => by
    obtain ⟨a, b, rfl⟩ : ∃ a b, us = [a, b] := by
      match us, h1 with
      | [a, b], _ => exact ⟨a, b, rfl⟩
    obtain ⟨i, rfl⟩ : ∃ i, its = [i] := by
      match its, h2 with
      | [i], _ => exact ⟨i, rfl⟩
    exact ⟨_, rfl, rfl⟩
/-! ### the operators -/
def sAdd (K : PySem.W.Frag) : Spc K := ⟨Rat × Rat, fun x => [tyRat x.1, tyRat x.2], fun x => Pb.Sz LIM x.1 ∧ Pb.Sz LIM x.2, fun x => tyRat (x.1 + x.2)⟩
def sSub (K : PySem.W.Frag) : Spc K := ⟨Rat × Rat, fun x => [tyRat x.1, tyRat x.2], fun x => Pb.Sz LIM x.1 ∧ Pb.Sz LIM x.2, fun x => tyRat (x.1 - x.2)⟩
def sMul (K : PySem.W.Frag) : Spc K := ⟨Rat × Rat, fun x => [tyRat x.1, tyRat x.2], fun x => Pb.Sz LIM x.1 ∧ Pb.Sz LIM x.2, fun x => tyRat (x.1 * x.2)⟩
def sOver (K : PySem.W.Frag) : Spc K := ⟨Rat × Rat, fun x => [tyRat x.1, tyRat x.2], fun x => (Pb.Sz LIM x.1 ∧ Pb.Sz LIM x.2) ∧ x.2 ≠ 0, fun x => tyRat (x.1 / x.2)⟩
def sNeg (K : PySem.W.Frag) : Spc K := ⟨Rat, fun x => [tyRat x], fun _ => True, fun x => tyRat (-x)⟩
theorem sz_mul {p q : Rat} (hp : Pb.Sz LIM p) (hq : Pb.Sz LIM q) : CMulX p.num q.den ∧ CMulX q.num p.den ∧ CMulX p.den q.den ∧ CMulX p.num q.num ∧ CMulX p.den q.num := by
  have a : (p.den : Int).natAbs < 2 ^ LIM := by rw [Int.natAbs_natCast]; exact hp.2
  have b : (q.den : Int).natAbs < 2 ^ LIM := by rw [Int.natAbs_natCast]; exact hq.2
  exact ⟨mulx_ok hp.1 b lim2, mulx_ok hq.1 a lim2, mulx_ok a b lim2, mulx_ok hp.1 hq.1 lim2, mulx_ok a hq.1 lim2⟩
theorem den_ne (p q : Rat) : ((p.den : Int) * q.den) ≠ 0 := Int.mul_ne_zero (Int.ne_of_gt (Pb.den_pos p)) (Int.ne_of_gt (Pb.den_pos q))
theorem sc_m_Ratio_add : FnScope ["self", "other"] ["self", "other"] (defScope sm_Ratio_add) := ⟨rfl, rfl, rfl, by decide +kernel, rfl, by decide +kernel, by decide +kernel⟩
theorem ok_add (c : Cxt P K mg base) : Ok P w K mg base dm_Ratio_add 36 ["self", "other"] (sAdd K).sp := by
  have nd := (sc_m_Ratio_add).nd
  refine okS c.Fm_Ratio_add sc_m_Ratio_add (sAdd K) (fun _ => rfl) fun cdv A outer s0 H E hr => ⟨_, PSs.nox ((pss_one (ps_ret (pe_make c.k_Ratio (ok_RInit c) (by exact hr.mono (by decide)) rfl c.g_Ratio (bRI2 c) .nil pass0 (pa_cons (pe_op op_add (pe_op op_mulX (pe_fldK K (pv 0) rfl) (pe_fldK K (pv 1) rfl)) (pe_op op_mulX (pe_fldK K (pv 1) rfl) (pe_fldK K (pv 0) rfl))) (pa_cons (pe_op op_mulX (pe_fldK K (pv 0) rfl) (pe_fldK K (pv 1) rfl)) pa_nil)))))), fun x Q σ hx hs k => ?_⟩
  obtain ⟨p, q⟩ := x
  obtain ⟨m1, m2, m3, m4, _⟩ := sz_mul hx.1 hx.2
  have ep : EvP (K := K) (tVar 0) σ H (tyRat p) := ev_var hs rfl
  have eq : EvP (K := K) (tVar 1) σ H (tyRat q) := ev_var hs rfl
  refine s_ret (ev_mk2 (ev_I0 (ev_I m1 (ev_top c ep) (ev_bottom c eq)) (ev_I m2 (ev_top c eq) (ev_bottom c ep))) (ev_I m3 (ev_bottom c ep) (ev_bottom c eq)) (den_ne p q)) ?_
  rw [Pb.fr_add]
  exact k
theorem sc_m_Ratio_sub : FnScope ["self", "other"] ["self", "other"] (defScope sm_Ratio_sub) := ⟨rfl, rfl, rfl, by decide +kernel, rfl, by decide +kernel, by decide +kernel⟩
theorem ok_sub (c : Cxt P K mg base) : Ok P w K mg base dm_Ratio_sub 36 ["self", "other"] (sSub K).sp := by
  have nd := (sc_m_Ratio_sub).nd
  refine okS c.Fm_Ratio_sub sc_m_Ratio_sub (sSub K) (fun _ => rfl) fun cdv A outer s0 H E hr => ⟨_, PSs.nox ((pss_one (ps_ret (pe_make c.k_Ratio (ok_RInit c) (by exact hr.mono (by decide)) rfl c.g_Ratio (bRI2 c) .nil pass0 (pa_cons (pe_op op_sub (pe_op op_mulX (pe_fldK K (pv 0) rfl) (pe_fldK K (pv 1) rfl)) (pe_op op_mulX (pe_fldK K (pv 1) rfl) (pe_fldK K (pv 0) rfl))) (pa_cons (pe_op op_mulX (pe_fldK K (pv 0) rfl) (pe_fldK K (pv 1) rfl)) pa_nil)))))), fun x Q σ hx hs k => ?_⟩
  obtain ⟨p, q⟩ := x
  obtain ⟨m1, m2, m3, m4, _⟩ := sz_mul hx.1 hx.2
  have ep : EvP (K := K) (tVar 0) σ H (tyRat p) := ev_var hs rfl
  have eq : EvP (K := K) (tVar 1) σ H (tyRat q) := ev_var hs rfl
  refine s_ret (ev_mk2 (ev_I0 (ev_I m1 (ev_top c ep) (ev_bottom c eq)) (ev_I m2 (ev_top c eq) (ev_bottom c ep))) (ev_I m3 (ev_bottom c ep) (ev_bottom c eq)) (den_ne p q)) ?_
  rw [Pb.fr_sub]
  exact k
theorem sc_m_Ratio_mul : FnScope ["self", "other"] ["self", "other"] (defScope sm_Ratio_mul) := ⟨rfl, rfl, rfl, by decide +kernel, rfl, by decide +kernel, by decide +kernel⟩
theorem ok_mul (c : Cxt P K mg base) : Ok P w K mg base dm_Ratio_mul 36 ["self", "other"] (sMul K).sp := by
  have nd := (sc_m_Ratio_mul).nd
  refine okS c.Fm_Ratio_mul sc_m_Ratio_mul (sMul K) (fun _ => rfl) fun cdv A outer s0 H E hr => ⟨_, PSs.nox ((pss_one (ps_ret (pe_make c.k_Ratio (ok_RInit c) (by exact hr.mono (by decide)) rfl c.g_Ratio (bRI2 c) .nil pass0 (pa_cons (pe_op op_mulX (pe_fldK K (pv 0) rfl) (pe_fldK K (pv 1) rfl)) (pa_cons (pe_op op_mulX (pe_fldK K (pv 0) rfl) (pe_fldK K (pv 1) rfl)) pa_nil)))))), fun x Q σ hx hs k => ?_⟩
  obtain ⟨p, q⟩ := x
  obtain ⟨m1, m2, m3, m4, _⟩ := sz_mul hx.1 hx.2
  have ep : EvP (K := K) (tVar 0) σ H (tyRat p) := ev_var hs rfl
  have eq : EvP (K := K) (tVar 1) σ H (tyRat q) := ev_var hs rfl
  refine s_ret (ev_mk2 (ev_I m4 (ev_top c ep) (ev_top c eq)) (ev_I m3 (ev_bottom c ep) (ev_bottom c eq)) (den_ne p q)) ?_
  rw [Pb.fr_mul]
  exact k
theorem sc_m_Ratio_over : FnScope ["self", "other"] ["self", "other"] (defScope sm_Ratio_over) := ⟨rfl, rfl, rfl, by decide +kernel, rfl, by decide +kernel, by decide +kernel⟩
theorem ok_over (c : Cxt P K mg base) : Ok P w K mg base dm_Ratio_over 36 ["self", "other"] (sOver K).sp := by
  have nd := (sc_m_Ratio_over).nd
  refine okS c.Fm_Ratio_over sc_m_Ratio_over (sOver K) (fun _ => rfl) fun cdv A outer s0 H E hr => ⟨_, PSs.nox ((pss_one (ps_ret (pe_make c.k_Ratio (ok_RInit c) (by exact hr.mono (by decide)) rfl c.g_Ratio (bRI2 c) .nil pass0 (pa_cons (pe_op op_mulX (pe_fldK K (pv 0) rfl) (pe_fldK K (pv 1) rfl)) (pa_cons (pe_op op_mulX (pe_fldK K (pv 0) rfl) (pe_fldK K (pv 1) rfl)) pa_nil)))))), fun x Q σ hx hs k => ?_⟩
  obtain ⟨p, q⟩ := x
  obtain ⟨⟨h1, h2⟩, h3⟩ := hx
  obtain ⟨m1, m2, m3, m4, m5⟩ := sz_mul h1 h2
  obtain ⟨f1, f2⟩ := Pb.fr_over (p := p) h3
  have ep : EvP (K := K) (tVar 0) σ H (tyRat p) := ev_var hs rfl
  have eq : EvP (K := K) (tVar 1) σ H (tyRat q) := ev_var hs rfl
  refine s_ret (ev_mk2 (ev_I m1 (ev_top c ep) (ev_bottom c eq)) (ev_I m5 (ev_bottom c ep) (ev_top c eq)) f1) ?_
  rw [f2]
  exact k
theorem sc_m_Ratio_neg : FnScope ["self"] ["self"] (defScope sm_Ratio_neg) := ⟨rfl, rfl, rfl, by decide +kernel, rfl, by decide +kernel, by decide +kernel⟩
theorem ok_neg (c : Cxt P K mg base) : Ok P w K mg base dm_Ratio_neg 36 ["self"] (sNeg K).sp := by
  have nd := (sc_m_Ratio_neg).nd
  refine okS c.Fm_Ratio_neg sc_m_Ratio_neg (sNeg K) (fun _ => rfl) fun cdv A outer s0 H E hr => ⟨_, PSs.nox ((pss_one (ps_ret (pe_make c.k_Ratio (ok_RInit c) (by exact hr.mono (by decide)) rfl c.g_Ratio (bRI2 c) .nil pass0 (pa_cons (pe_un un_neg (pe_fldK K (pv 0) rfl)) (pa_cons (pe_fldK K (pv 0) rfl) pa_nil)))))), fun x Q σ hx hs k => ?_⟩
  change Rat at x
  have ep : EvP (K := K) (tVar 0) σ H (tyRat x) := ev_var hs rfl
  refine s_ret (ev_mk2 (ev_flat (Evl.ev_un (flat_ev (ev_top c ep)) ru_neg)) (ev_bottom c ep) (Int.ne_of_gt (Pb.den_pos x))) ?_
  rw [Pb.fr_neg]
  exact k
end
section
variable {X : Cx}
theorem sf_at {P : Program} {K : PySem.W.Frag} {mg : Str → Option Value} {base : Heap} (c : Cxt P K mg base) : PySem.W.selfFirst K (rc K) = true := by
  have m := (He.ba c.more).1
  unfold exA at m
  simp only [Bool.and_eq_true] at m
  exact m.1.2
theorem op_rAdd {P : Program} {K : PySem.W.Frag} {mg : Str → Option Value} {base : Heap} (c : Cxt P K mg base) (hr : Room 36 X.A) (h1 : X.prog = P := by rfl) (h2 : X.K = K := by rfl) (h3 : X.mg = mg := by rfl) (h4 : X.base = base := by rfl) : OpR X (binaryOp .Add) (Pr.rIns (rc K) (sAdd K).sp E0) := by
  subst h1 h2 h3 h4
  exact Pr.op_ins (ok_add (w := X.w) c) hr (sf_at c) c.m_Ratio_add c.bm_Ratio_add pass0
theorem op_rSub {P : Program} {K : PySem.W.Frag} {mg : Str → Option Value} {base : Heap} (c : Cxt P K mg base) (hr : Room 36 X.A) (h1 : X.prog = P := by rfl) (h2 : X.K = K := by rfl) (h3 : X.mg = mg := by rfl) (h4 : X.base = base := by rfl) : OpR X (binaryOp .Sub) (Pr.rIns (rc K) (sSub K).sp E0) := by
  subst h1 h2 h3 h4
  exact Pr.op_ins (ok_sub (w := X.w) c) hr (sf_at c) c.m_Ratio_sub c.bm_Ratio_sub pass0
theorem op_rMul {P : Program} {K : PySem.W.Frag} {mg : Str → Option Value} {base : Heap} (c : Cxt P K mg base) (hr : Room 36 X.A) (h1 : X.prog = P := by rfl) (h2 : X.K = K := by rfl) (h3 : X.mg = mg := by rfl) (h4 : X.base = base := by rfl) : OpR X (binaryOp .Mult) (Pr.rIns (rc K) (sMul K).sp E0) := by
  subst h1 h2 h3 h4
  exact Pr.op_ins (ok_mul (w := X.w) c) hr (sf_at c) c.m_Ratio_mul c.bm_Ratio_mul pass0
theorem un_rNeg {P : Program} {K : PySem.W.Frag} {mg : Str → Option Value} {base : Heap} (c : Cxt P K mg base) (hr : Room 36 X.A) (h1 : X.prog = P := by rfl) (h2 : X.K = K := by rfl) (h3 : X.mg = mg := by rfl) (h4 : X.base = base := by rfl) : UnR X (unaryOp .USub) (Pr.rNegI (rc K) (sNeg K).sp E0) := by
  subst h1 h2 h3 h4
  exact Pr.un_ins (ok_neg (w := X.w) c) hr c.m_Ratio_neg c.bm_Ratio_neg pass0
end
section
variable {K : PySem.W.Frag} {σ : L2.St} {H : Hp} {ta tb : TE} {p q : Rat}
theorem ev_add (ha : EvP (K := K) ta σ H (tyRat p)) (hb : EvP (K := K) tb σ H (tyRat q)) (h1 : Pb.Sz LIM p) (h2 : Pb.Sz LIM q) : EvP (K := K) (tOp (Pr.rIns (rc K) (sAdd K).sp E0) ta tb) σ H (tyRat (p + q)) := ev_ins (s := sAdd K) (p, q) ⟨h1, h2⟩ rfl ha hb
theorem ev_sub (ha : EvP (K := K) ta σ H (tyRat p)) (hb : EvP (K := K) tb σ H (tyRat q)) (h1 : Pb.Sz LIM p) (h2 : Pb.Sz LIM q) : EvP (K := K) (tOp (Pr.rIns (rc K) (sSub K).sp E0) ta tb) σ H (tyRat (p - q)) := ev_ins (s := sSub K) (p, q) ⟨h1, h2⟩ rfl ha hb
theorem ev_mul (ha : EvP (K := K) ta σ H (tyRat p)) (hb : EvP (K := K) tb σ H (tyRat q)) (h1 : Pb.Sz LIM p) (h2 : Pb.Sz LIM q) : EvP (K := K) (tOp (Pr.rIns (rc K) (sMul K).sp E0) ta tb) σ H (tyRat (p * q)) := ev_ins (s := sMul K) (p, q) ⟨h1, h2⟩ rfl ha hb
theorem ev_rneg (ha : EvP (K := K) ta σ H (tyRat p)) : EvP (K := K) (tUn (Pr.rNegI (rc K) (sNeg K).sp E0) ta) σ H (tyRat (-p)) := ev_neg (s := sNeg K) p trivial rfl ha
/-- an own method of an immutable object -/
theorem ev_meth {C : Addr} {hC : Im K C} {fs : List (Str × V)} {m : Str} {s : Spc K} {t : TA} {Ts : List (Ty K)} (x : s.ι) (hx : s.side x) (hs : s.args x = tyIns C hC fs :: Ts) (hm : fs.lookup m = none) (ho : EvP (K := K) ta σ H (tyIns C hC fs)) (ha : EvPA t σ H Ts) :
    EvP (tMeth C m s.sp [] E0 ta t) σ H (s.res x) := fun H1 e Q k =>
  ho H1 e _ fun v H2 e2 ⟨a, dx, e3, h3⟩ => ⟨a, dx, fs, e3, h3, hm, ha H2 (e.trans e2) _ fun vs H3 e4 zs => by
    refine ⟨x, hx, ?_, fun v H4 e5 r => k v H4 ((e2.trans e4).trans e5) r⟩
    rw [List.append_nil, hs]
    exact .cons ⟨a, dx, e3, e4 _ _ h3⟩ zs⟩
theorem ev_over (ha : EvP (K := K) ta σ H (tyRat p)) (hb : EvP (K := K) tb σ H (tyRat q)) (h1 : Pb.Sz LIM p) (h2 : Pb.Sz LIM q) (h3 : q ≠ 0) : EvP (K := K) (tMeth (rc K) "over" (sOver K).sp [] E0 ta (tCons tb tNil)) σ H (tyRat (p / q)) :=
  ev_meth (s := sOver K) (p, q) ⟨⟨h1, h2⟩, h3⟩ rfl (by
    have h : (("over" : Str) == "top") = false := by decide +kernel
    have h2 : (("over" : Str) == "bottom") = false := by decide +kernel
    simp only [rfs, List.lookup, h, h2]) ha (ea_cons hb ea_nil)
end
end Pd

/-! The defs' promises: vectors. -/
namespace Pd
open PySem PySem.Spec PyProof.Rows L2 Evl Pt Pn
open Pb (Ht Sz entV entM)
section
variable {P : Program} {w : World} {K : PySem.W.Frag} {mg : Str → Option Value} {base : Heap}
/-- vectors and matrices have fewer than thirty-two places -/
abbrev Sd (n : Nat) : Prop := n < 32
/-- what is asked of two vectors: sizes -/
structure HV2 (n : Nat) (f g : Nat → Rat) : Prop where
  ex : ∃ b c, Ht b (entV n f) ∧ Ht c (entV n g) ∧ b + c + 4 ≤ LIM
  ln : n < 16
def sDot (K : PySem.W.Frag) : Spc K := ⟨Nat × (Nat → Rat) × (Nat → Rat), fun x => [tyVec x.1 x.2.1, tyVec x.1 x.2.2], fun x => HV2 x.1 x.2.1 x.2.2, fun x => tyRat (Pb.dot x.1 x.2.1 x.2.2)⟩
theorem HV2.at {n : Nat} {f g : Nat → Rat} (h : HV2 n f g) : (∀ i, i < n → Sz LIM (f i) ∧ Sz LIM (g i) ∧ Sz LIM (f i * g i)) ∧ ∀ i, i ≤ n → Sz LIM (Pb.dot i f g) := by
  obtain ⟨⟨b, c, h1, h2, l⟩, hn⟩ := h
  refine ⟨fun i hi => ⟨(h1.sz ⟨i, hi, rfl⟩).mono (by omega), (h2.sz ⟨i, hi, rfl⟩).mono (by omega), ?_⟩, fun i hi => ?_⟩
  · exact (((h1.mul h2 (Z := fun q => f i * g i = q)) fun q e => ⟨f i, g i, ⟨i, hi, rfl⟩, ⟨i, hi, rfl⟩, e⟩).sz rfl).mono (by omega)
  · exact ((h1.dots (n := n) (Z := fun q => Pb.dot i f g = q) hn h2 fun q e => ⟨f, g, i, hi, fun k hk => ⟨k, by omega, rfl⟩, fun k hk => ⟨k, by omega, rfl⟩, e⟩).sz rfl).mono l
theorem sc_f_dot : FnScope ["a", "b", "total", "x", "y"] ["a", "b"] (defScope sf_dot) := ⟨rfl, rfl, rfl, by decide +kernel, rfl, by decide +kernel, by decide +kernel⟩
theorem ok_dot (c : Cxt P K mg base) : Ok P w K mg base df_dot 37 ["a", "b"] (sDot K).sp := by
  obtain ⟨ds1, vds, b1⟩ := bRI1 c
  have nd := (sc_f_dot).nd
  refine okS c.Ff_dot sc_f_dot (sDot K) (fun _ => rfl) fun cdv A outer s0 H E hr => ⟨_, PSs.nox ((pss_cons (ps_set (i := 2) nd rfl (by first | exact Or.inl rfl | exact Or.inr rfl) (pe_make c.k_Ratio (ok_RInit c) (by exact hr.mono (by decide)) rfl c.g_Ratio b1 vds pass0 (pa_cons pe_int pa_nil)))
      (pss_cons (ps_for PassesOwn.never rfl (pi_zipK K (by rfl) c.z_zip (pa_cons (pv 0) (pa_cons (pv 1) pa_nil))) (pg_tupK K rfl (pgs_cons (pg_name (i := 3) nd rfl (by first | exact Or.inl rfl | exact Or.inr rfl)) (pgs_cons (pg_name (i := 4) nd rfl (by first | exact Or.inl rfl | exact Or.inr rfl)) pgs_nil))) (pss_one (ps_set (i := 2) nd rfl (by first | exact Or.inl rfl | exact Or.inr rfl) (pe_op (op_rAdd c (by exact hr.mono (by decide))) (pv 2) (pe_op (op_rMul c (by exact hr.mono (by decide))) (pv 3) (pv 4))))))
      (pss_one (ps_ret (pv 2)))))), fun x Q σ hx hs k => ?_⟩
  obtain ⟨n, f, g⟩ := x
  obtain ⟨h1, h2⟩ := HV2.at hx
  refine q_asg hs (ev_mk1 ev_c) fun σ1 H1 e1 hs1 => ?_
  refine q_for (ei_zip (ea_cons (ev_var hs1 rfl) (ea_cons (ev_var hs1 rfl) ea_nil))) (fun H2 i σ' H' => Ex H2 H' ∧ Sat [some (tyVec n f), some (tyVec n g), some (tyRat (Pb.dot i f g)), none, none] σ' H') (fun H2 e2 => ⟨Ex.refl _, hs1.ex e2⟩) (fun H2 e2 i σ' H' _ p => ge_ex p.1)
    (fun H2 e2 i x σ' H' H'' hi p e3 y => ?_) (fun H2 e2 σ' H' p => ?_)
  · refine g_pair y fun u v hu hv => ?_
    have s2 := ((p.2.ex e3).set (i := 3) hu).set (i := 4) hv
    refine s_asg s2 (ev_add (ev_var s2 rfl) (ev_mul (ev_var s2 rfl) (ev_var s2 rfl) (h1 i hi).1 (h1 i hi).2.1) (h2 i (by omega)) (h1 i hi).2.2) fun σ3 H3 e4 s3 => ⟨(p.1.trans e3).trans e4, (s3.forget (i := 3)).forget (i := 4)⟩
  · exact s_ret (ev_var p.2 rfl) fun v H' e3 z => k v H' ((e1.trans e2).trans (p.1.trans e3)) z

/-- sizes of a vector, of a matrix -/
structure SzV (n : Nat) (f : Nat → Rat) : Prop where
  ln : n < 16
  at_ : ∀ i, i < n → Sz LIM (f i)
structure SzM (h w : Nat) (f : Nat → Nat → Rat) : Prop where
  lh : h < 16
  lw : w < 16
  at_ : ∀ i j, i < h → j < w → Sz LIM (f i j)
theorem SzV.of {n b : Nat} {f : Nat → Rat} (hn : n < 16) (h : Ht b (entV n f)) (l : b ≤ LIM) : SzV n f := ⟨hn, fun i hi => (h.sz ⟨i, hi, rfl⟩).mono l⟩
theorem SzM.of {h w b : Nat} {f : Nat → Nat → Rat} (hh : h < 16) (hw : w < 16) (x : Ht b (entM h w f)) (l : b ≤ LIM) : SzM h w f := ⟨hh, hw, fun i j hi hj => (x.sz ⟨i, j, hi, hj, rfl⟩).mono l⟩
theorem SzM.row {h w : Nat} {f : Nat → Nat → Rat} (x : SzM h w f) {i : Nat} (hi : i < h) : SzV w (f i) := ⟨x.lw, fun j hj => x.at_ i j hi hj⟩
theorem sz_int {i : Int} (h : i.natAbs < 2 ^ 60) : Sz LIM (i : Rat) := by
  have e : ((i : Rat)).num = i := by simp
  have e2 : ((i : Rat)).den = 1 := by simp
  have q := Nat.pow_le_pow_right (n := 2) (by decide) (show 60 ≤ LIM by decide)
  exact ⟨by rw [e]; omega, by rw [e2]; exact Nat.lt_of_lt_of_le (by decide) q⟩
def sScale (K : PySem.W.Frag) : Spc K := ⟨Rat × Nat × (Nat → Rat), fun x => [tyRat x.1, tyVec x.2.1 x.2.2], fun x => Sz LIM x.1 ∧ SzV x.2.1 x.2.2, fun x => tyVec x.2.1 fun i => x.1 * x.2.2 i⟩
def sPlus (K : PySem.W.Frag) : Spc K := ⟨Nat × (Nat → Rat) × (Nat → Rat), fun x => [tyVec x.1 x.2.1, tyVec x.1 x.2.2], fun x => SzV x.1 x.2.1 ∧ SzV x.1 x.2.2, fun x => tyVec x.1 fun i => x.2.1 i + x.2.2 i⟩
def sMinus (K : PySem.W.Frag) : Spc K := ⟨Nat × (Nat → Rat) × (Nat → Rat), fun x => [tyVec x.1 x.2.1, tyVec x.1 x.2.2], fun x => SzV x.1 x.2.1 ∧ SzV x.1 x.2.2, fun x => tyVec x.1 fun i => x.2.1 i - x.2.2 i⟩
def sZero (K : PySem.W.Frag) : Spc K := ⟨Nat, fun n => [tyInt n], fun n => n < 16, fun n => tyVec n fun _ => 0⟩
def sUnit (K : PySem.W.Frag) : Spc K := ⟨Nat × Nat, fun x => [tyInt x.1, tyInt x.2], fun x => x.1 < 16, fun x => tyVec x.1 (Pb.e_ x.2)⟩
def sIsZero (K : PySem.W.Frag) : Spc K := ⟨Nat × (Nat → Rat) × Bool, fun x => [tyVec x.1 x.2.1], fun x => x.2.2 = true ↔ ∀ i, i < x.1 → x.2.1 i = 0, fun x => tyE (.bl x.2.2)⟩
def sTrans (K : PySem.W.Frag) : Spc K := ⟨Nat × Nat × (Nat → Nat → Rat), fun x => [tyMat x.1 x.2.1 x.2.2, tyInt x.2.1], fun x => x.1 < 16 ∧ x.2.1 < 16, fun x => tyMat x.2.1 x.1 (Pb.tr x.2.2)⟩
/-- a matrix and a vector -/
structure HMV (h w : Nat) (f : Nat → Nat → Rat) (g : Nat → Rat) : Prop where
  ex : ∃ b c, Ht b (entM h w f) ∧ Ht c (entV w g) ∧ b + c + 4 ≤ LIM
  lh : h < 16
  lw : w < 16
structure HMM (h k w : Nat) (f g : Nat → Nat → Rat) : Prop where
  ex : ∃ b c, Ht b (entM h k f) ∧ Ht c (entM k w g) ∧ b + c + 4 ≤ LIM
  lh : h < 16
  lk : k < 16
  lw : w < 16
def sApply (K : PySem.W.Frag) : Spc K := ⟨Nat × Nat × (Nat → Nat → Rat) × (Nat → Rat), fun x => [tyMat x.1 x.2.1 x.2.2.1, tyVec x.2.1 x.2.2.2], fun x => HMV x.1 x.2.1 x.2.2.1 x.2.2.2, fun x => tyVec x.1 (Pb.mv x.2.1 x.2.2.1 x.2.2.2)⟩
def sProd (K : PySem.W.Frag) : Spc K := ⟨Nat × Nat × Nat × (Nat → Nat → Rat) × (Nat → Nat → Rat), fun x => [tyMat x.1 x.2.1 x.2.2.2.1, tyMat x.2.1 x.2.2.1 x.2.2.2.2, tyInt x.2.2.1], fun x => HMM x.1 x.2.1 x.2.2.1 x.2.2.2.1 x.2.2.2.2, fun x => tyMat x.1 x.2.2.1 (Pb.mm x.2.1 x.2.2.2.1 x.2.2.2.2)⟩
def sIdent (K : PySem.W.Frag) : Spc K := ⟨Nat, fun n => [tyInt n], fun n => n < 16, fun n => tyMat n n fun i => Pb.e_ i⟩
def sZeros (K : PySem.W.Frag) : Spc K := ⟨Nat × Nat, fun x => [tyInt x.1, tyInt x.2], fun x => x.1 < 16 ∧ x.2 < 16, fun x => tyMat x.1 x.2 fun _ _ => 0⟩
def sOuter (K : PySem.W.Frag) : Spc K := ⟨Nat × Nat × (Nat → Rat) × (Nat → Rat), fun x => [tyVec x.1 x.2.2.1, tyVec x.2.1 x.2.2.2], fun x => SzV x.1 x.2.2.1 ∧ SzV x.2.1 x.2.2.2, fun x => tyMat x.1 x.2.1 fun i j => x.2.2.1 i * x.2.2.2 j⟩
def sSum (K : PySem.W.Frag) : Spc K := ⟨Nat × Nat × (Nat → Nat → Rat) × (Nat → Nat → Rat), fun x => [tyMat x.1 x.2.1 x.2.2.1, tyMat x.1 x.2.1 x.2.2.2], fun x => SzM x.1 x.2.1 x.2.2.1 ∧ SzM x.1 x.2.1 x.2.2.2, fun x => tyMat x.1 x.2.1 fun i j => x.2.2.1 i j + x.2.2.2 i j⟩
def sScaled (K : PySem.W.Frag) : Spc K := ⟨Rat × Nat × Nat × (Nat → Nat → Rat), fun x => [tyRat x.1, tyMat x.2.1 x.2.2.1 x.2.2.2], fun x => Sz LIM x.1 ∧ SzM x.2.1 x.2.2.1 x.2.2.2, fun x => tyMat x.2.1 x.2.2.1 fun i j => x.1 * x.2.2.2 i j⟩
section
variable {σ : L2.St} {H : Hp} {ta tb tc : TE} {n h w m : Nat} {f g : Nat → Rat} {A B : Nat → Nat → Rat} {q : Rat}
theorem ev_dot (ha : EvP (K := K) ta σ H (tyVec n f)) (hb : EvP (K := K) tb σ H (tyVec n g)) (z : HV2 n f g) : EvP (K := K) (tCall (sDot K).sp [] E0 (tCons ta (tCons tb tNil))) σ H (tyRat (Pb.dot n f g)) := ev_call (s := sDot K) (n, f, g) z (ea_cons ha (ea_cons hb ea_nil))
theorem ev_scale (ha : EvP (K := K) ta σ H (tyRat q)) (hb : EvP (K := K) tb σ H (tyVec n f)) (z : Sz LIM q) (z2 : SzV n f) : EvP (K := K) (tCall (sScale K).sp [] E0 (tCons ta (tCons tb tNil))) σ H (tyVec n fun i => q * f i) := ev_call (s := sScale K) (q, n, f) ⟨z, z2⟩ (ea_cons ha (ea_cons hb ea_nil))
theorem ev_plus (ha : EvP (K := K) ta σ H (tyVec n f)) (hb : EvP (K := K) tb σ H (tyVec n g)) (z : SzV n f) (z2 : SzV n g) : EvP (K := K) (tCall (sPlus K).sp [] E0 (tCons ta (tCons tb tNil))) σ H (tyVec n fun i => f i + g i) := ev_call (s := sPlus K) (n, f, g) ⟨z, z2⟩ (ea_cons ha (ea_cons hb ea_nil))
theorem ev_minus (ha : EvP (K := K) ta σ H (tyVec n f)) (hb : EvP (K := K) tb σ H (tyVec n g)) (z : SzV n f) (z2 : SzV n g) : EvP (K := K) (tCall (sMinus K).sp [] E0 (tCons ta (tCons tb tNil))) σ H (tyVec n fun i => f i - g i) := ev_call (s := sMinus K) (n, f, g) ⟨z, z2⟩ (ea_cons ha (ea_cons hb ea_nil))
theorem ev_zero (ha : EvP (K := K) ta σ H (tyInt n)) (z : n < 16) : EvP (K := K) (tCall (sZero K).sp [] E0 (tCons ta tNil)) σ H (tyVec n fun _ => 0) := ev_call (s := sZero K) n z (ea_cons ha ea_nil)
theorem ev_unit {j : Nat} (ha : EvP (K := K) ta σ H (tyInt n)) (hb : EvP (K := K) tb σ H (tyInt j)) (z : n < 16) : EvP (K := K) (tCall (sUnit K).sp [] E0 (tCons ta (tCons tb tNil))) σ H (tyVec n (Pb.e_ j)) := ev_call (s := sUnit K) (n, j) z (ea_cons ha (ea_cons hb ea_nil))
theorem ev_isZero {b : Bool} (ha : EvP (K := K) ta σ H (tyVec n f)) (z : b = true ↔ ∀ i, i < n → f i = 0) : EvP (K := K) (tCall (sIsZero K).sp [] E0 (tCons ta tNil)) σ H (tyE (.bl b)) := ev_call (s := sIsZero K) (n, f, b) z (ea_cons ha ea_nil)
theorem ev_trans (ha : EvP (K := K) ta σ H (tyMat h w A)) (hb : EvP (K := K) tb σ H (tyInt w)) (z : h < 16) (z2 : w < 16) : EvP (K := K) (tCall (sTrans K).sp [] E0 (tCons ta (tCons tb tNil))) σ H (tyMat w h (Pb.tr A)) := ev_call (s := sTrans K) (h, w, A) ⟨z, z2⟩ (ea_cons ha (ea_cons hb ea_nil))
theorem ev_apply (ha : EvP (K := K) ta σ H (tyMat h w A)) (hb : EvP (K := K) tb σ H (tyVec w f)) (z : HMV h w A f) : EvP (K := K) (tCall (sApply K).sp [] E0 (tCons ta (tCons tb tNil))) σ H (tyVec h (Pb.mv w A f)) := ev_call (s := sApply K) (h, w, A, f) z (ea_cons ha (ea_cons hb ea_nil))
theorem ev_prod (ha : EvP (K := K) ta σ H (tyMat h m A)) (hb : EvP (K := K) tb σ H (tyMat m w B)) (hc : EvP (K := K) tc σ H (tyInt w)) (z : HMM h m w A B) : EvP (K := K) (tCall (sProd K).sp [] E0 (tCons ta (tCons tb (tCons tc tNil)))) σ H (tyMat h w (Pb.mm m A B)) := ev_call (s := sProd K) (h, m, w, A, B) z (ea_cons ha (ea_cons hb (ea_cons hc ea_nil)))
theorem ev_ident (ha : EvP (K := K) ta σ H (tyInt n)) (z : n < 16) : EvP (K := K) (tCall (sIdent K).sp [] E0 (tCons ta tNil)) σ H (tyMat n n fun i => Pb.e_ i) := ev_call (s := sIdent K) n z (ea_cons ha ea_nil)
theorem ev_zeros (ha : EvP (K := K) ta σ H (tyInt h)) (hb : EvP (K := K) tb σ H (tyInt w)) (z : h < 16) (z2 : w < 16) : EvP (K := K) (tCall (sZeros K).sp [] E0 (tCons ta (tCons tb tNil))) σ H (tyMat h w fun _ _ => 0) := ev_call (s := sZeros K) (h, w) ⟨z, z2⟩ (ea_cons ha (ea_cons hb ea_nil))
theorem ev_outer (ha : EvP (K := K) ta σ H (tyVec n f)) (hb : EvP (K := K) tb σ H (tyVec m g)) (z : SzV n f) (z2 : SzV m g) : EvP (K := K) (tCall (sOuter K).sp [] E0 (tCons ta (tCons tb tNil))) σ H (tyMat n m fun i j => f i * g j) := ev_call (s := sOuter K) (n, m, f, g) ⟨z, z2⟩ (ea_cons ha (ea_cons hb ea_nil))
theorem ev_sum (ha : EvP (K := K) ta σ H (tyMat h w A)) (hb : EvP (K := K) tb σ H (tyMat h w B)) (z : SzM h w A) (z2 : SzM h w B) : EvP (K := K) (tCall (sSum K).sp [] E0 (tCons ta (tCons tb tNil))) σ H (tyMat h w fun i j => A i j + B i j) := ev_call (s := sSum K) (h, w, A, B) ⟨z, z2⟩ (ea_cons ha (ea_cons hb ea_nil))
theorem ev_scaled (ha : EvP (K := K) ta σ H (tyRat q)) (hb : EvP (K := K) tb σ H (tyMat h w A)) (z : Sz LIM q) (z2 : SzM h w A) : EvP (K := K) (tCall (sScaled K).sp [] E0 (tCons ta (tCons tb tNil))) σ H (tyMat h w fun i j => q * A i j) := ev_call (s := sScaled K) (q, h, w, A) ⟨z, z2⟩ (ea_cons ha (ea_cons hb ea_nil))
end
theorem sc_f_scale : FnScope ["factor", "a", "x"] ["factor", "a"] (defScope sf_scale) := ⟨rfl, rfl, rfl, by decide +kernel, rfl, by decide +kernel, by decide +kernel⟩
theorem ok_scale (c : Cxt P K mg base) : Ok P w K mg base df_scale 37 ["factor", "a"] (sScale K).sp := by
  have nd := (sc_f_scale).nd
  refine okS c.Ff_scale sc_f_scale (sScale K) (fun _ => rfl) fun cdv A outer s0 H E hr => ⟨_, PSs.nox ((pss_one (ps_ret (pe_callTy (call_tupleK K) (by rfl) c.z_tuple (by decide +kernel) (pa_cons (pe_lc (own := [("x", 2)]) (g := gName 2) (tt := tYes) rfl nd (pi_tupK K (pv 1)) (blkOk_by rfl) (fun _ _ _ _ _ => (pg_name (i := 2) nd rfl (by first | exact Or.inl rfl | exact Or.inr rfl))) (fun _ _ _ _ _ => pts_nil) (fun _ _ _ _ _ => (pe_op (op_rMul c (by exact hr.mono (by decide))) (pv 0) (pv 2)))) pa_nil))))), fun x Q σ hx hs k => ?_⟩
  obtain ⟨q, n, f⟩ := x
  obtain ⟨h1, h2⟩ := hx
  exact s_ret (ev_tuple (el_lc (U := fun i => tyRat (q * f i)) hs (ei_tup (ev_var hs rfl)) (fun H2 H3 _ e => ge_ex e) (by have := h2.ln; omega) fun i σ' H' hi e s => ev_mul (ev_var s rfl) (ev_var s rfl) h1 (h2.at_ i hi))) k
theorem sc_f_plus : FnScope ["a", "b", "x", "y"] ["a", "b"] (defScope sf_plus) := ⟨rfl, rfl, rfl, by decide +kernel, rfl, by decide +kernel, by decide +kernel⟩
theorem ok_plus (c : Cxt P K mg base) : Ok P w K mg base df_plus 37 ["a", "b"] (sPlus K).sp := by
  have nd := (sc_f_plus).nd
  refine okS c.Ff_plus sc_f_plus (sPlus K) (fun _ => rfl) fun cdv A outer s0 H E hr => ⟨_, PSs.nox ((pss_one (ps_ret (pe_callTy (call_tupleK K) (by rfl) c.z_tuple (by decide +kernel) (pa_cons (pe_lc (own := [("x", 2), ("y", 3)]) (g := gTup K 2 (gCons (gName 2) (gCons (gName 3) gNil))) (tt := tYes) rfl nd (pi_zipK K (by rfl) c.z_zip (pa_cons (pv 0) (pa_cons (pv 1) pa_nil))) (blkOk_by rfl) (fun _ _ _ _ _ => (pg_tupK K rfl (pgs_cons (pg_name (i := 2) nd rfl (by first | exact Or.inl rfl | exact Or.inr rfl)) (pgs_cons (pg_name (i := 3) nd rfl (by first | exact Or.inl rfl | exact Or.inr rfl)) pgs_nil)))) (fun _ _ _ _ _ => pts_nil) (fun _ _ _ _ _ => (pe_op (op_rAdd c (by exact hr.mono (by decide))) (pv 2) (pv 3)))) pa_nil))))), fun x Q σ hx hs k => ?_⟩
  obtain ⟨n, f, g⟩ := x
  obtain ⟨h1, h2⟩ := hx
  exact s_ret (ev_tuple (el_lc2 (by decide) (U := fun i => tyRat (f i + g i)) hs (ei_zip (ea_cons (ev_var hs rfl) (ea_cons (ev_var hs rfl) ea_nil))) (fun H2 H3 _ e => ge_ex e) (by have := h2.ln; omega) fun i σ' H' hi e s => ev_add (ev_var s rfl) (ev_var s rfl) (h1.at_ i hi) (h2.at_ i hi))) k
theorem sc_f_minus : FnScope ["a", "b", "x", "y"] ["a", "b"] (defScope sf_minus) := ⟨rfl, rfl, rfl, by decide +kernel, rfl, by decide +kernel, by decide +kernel⟩
theorem ok_minus (c : Cxt P K mg base) : Ok P w K mg base df_minus 37 ["a", "b"] (sMinus K).sp := by
  have nd := (sc_f_minus).nd
  refine okS c.Ff_minus sc_f_minus (sMinus K) (fun _ => rfl) fun cdv A outer s0 H E hr => ⟨_, PSs.nox ((pss_one (ps_ret (pe_callTy (call_tupleK K) (by rfl) c.z_tuple (by decide +kernel) (pa_cons (pe_lc (own := [("x", 2), ("y", 3)]) (g := gTup K 2 (gCons (gName 2) (gCons (gName 3) gNil))) (tt := tYes) rfl nd (pi_zipK K (by rfl) c.z_zip (pa_cons (pv 0) (pa_cons (pv 1) pa_nil))) (blkOk_by rfl) (fun _ _ _ _ _ => (pg_tupK K rfl (pgs_cons (pg_name (i := 2) nd rfl (by first | exact Or.inl rfl | exact Or.inr rfl)) (pgs_cons (pg_name (i := 3) nd rfl (by first | exact Or.inl rfl | exact Or.inr rfl)) pgs_nil)))) (fun _ _ _ _ _ => pts_nil) (fun _ _ _ _ _ => (pe_op (op_rSub c (by exact hr.mono (by decide))) (pv 2) (pv 3)))) pa_nil))))), fun x Q σ hx hs k => ?_⟩
  obtain ⟨n, f, g⟩ := x
  obtain ⟨h1, h2⟩ := hx
  exact s_ret (ev_tuple (el_lc2 (by decide) (U := fun i => tyRat (f i - g i)) hs (ei_zip (ea_cons (ev_var hs rfl) (ea_cons (ev_var hs rfl) ea_nil))) (fun H2 H3 _ e => ge_ex e) (by have := h2.ln; omega) fun i σ' H' hi e s => ev_sub (ev_var s rfl) (ev_var s rfl) (h1.at_ i hi) (h2.at_ i hi))) k
theorem sc_f_zero : FnScope ["width", "_"] ["width"] (defScope sf_zero) := ⟨rfl, rfl, rfl, by decide +kernel, rfl, by decide +kernel, by decide +kernel⟩
theorem ok_zero (c : Cxt P K mg base) : Ok P w K mg base df_zero 36 ["width"] (sZero K).sp := by
  obtain ⟨ds1, vds, b1⟩ := bRI1 c
  have nd := (sc_f_zero).nd
  refine okS c.Ff_zero sc_f_zero (sZero K) (fun _ => rfl) fun cdv A outer s0 H E hr => ⟨_, PSs.nox ((pss_one (ps_ret (pe_callTy (call_tupleK K) (by rfl) c.z_tuple (by decide +kernel) (pa_cons (pe_lc (own := [("_", 1)]) (g := gName 1) (tt := tYes) rfl nd (pi_range1 rfl c.z_range (pa_cons (pv 0) pa_nil)) (blkOk_by rfl) (fun _ _ _ _ _ => (pg_name (i := 1) nd rfl (by first | exact Or.inl rfl | exact Or.inr rfl))) (fun _ _ _ _ _ => pts_nil) (fun _ _ _ _ _ => (pe_make c.k_Ratio (ok_RInit c) (by exact hr.mono (by decide)) rfl c.g_Ratio b1 vds pass0 (pa_cons pe_int pa_nil)))) pa_nil))))), fun x Q σ hx hs k => ?_⟩
  change Nat at x
  exact s_ret (ev_tuple (el_lc (U := fun i => tyRat ((0 : Int) : Rat)) hs (ei_rangeN (m := x) (ea_cons (ev_var hs rfl) ea_nil) (by have : x < 16 := hx; omega)) (fun H2 H3 _ e => trivial) (by have : x < 16 := hx; omega) fun i σ' H' hi e s => ev_mk1 ev_c)) k
theorem sc_f_unit : FnScope ["width", "index", "k"] ["width", "index"] (defScope sf_unit) := ⟨rfl, rfl, rfl, by decide +kernel, rfl, by decide +kernel, by decide +kernel⟩
theorem ok_unit (c : Cxt P K mg base) : Ok P w K mg base df_unit 36 ["width", "index"] (sUnit K).sp := by
  obtain ⟨ds1, vds, b1⟩ := bRI1 c
  have nd := (sc_f_unit).nd
  refine okS c.Ff_unit sc_f_unit (sUnit K) (fun _ => rfl) fun cdv A outer s0 H E hr => ⟨_, PSs.nox ((pss_one (ps_ret (pe_callTy (call_tupleK K) (by rfl) c.z_tuple (by decide +kernel) (pa_cons (pe_lc (own := [("k", 2)]) (g := gName 2) (tt := tYes) rfl nd (pi_range1 rfl c.z_range (pa_cons (pv 0) pa_nil)) (blkOk_by rfl) (fun _ _ _ _ _ => (pg_name (i := 2) nd rfl (by first | exact Or.inl rfl | exact Or.inr rfl))) (fun _ _ _ _ _ => pts_nil) (fun _ _ _ _ _ => (pe_ifExp (pt_cmpR op_eq (pv 2) (pv 1) (nomark _)) (pe_make c.k_Ratio (ok_RInit c) (by exact hr.mono (by decide)) rfl c.g_Ratio b1 vds pass0 (pa_cons pe_int pa_nil)) (pe_make c.k_Ratio (ok_RInit c) (by exact hr.mono (by decide)) rfl c.g_Ratio b1 vds pass0 (pa_cons pe_int pa_nil))))) pa_nil))))), fun x Q σ hx hs k => ?_⟩
  obtain ⟨n, j⟩ := x
  have hn : n < 16 := hx
  refine s_ret (ev_tuple (el_lc (U := fun i => tyRat (Pb.e_ j i)) hs (ei_rangeN (ea_cons (ev_var hs rfl) ea_nil) (by omega)) (fun H2 H3 _ e => trivial) (by omega) fun i σ' H' hi e s => ?_)) k
  · refine ev_ifP (b := decide (i = j)) (et_cmp (Evl.ev_op (flat_ev (ev_var s rfl)) (flat_ev (ev_var s rfl)) (rv_eq rfl)) (by rw [dec_int]; by_cases h : i = j <;> simp [h, Int.natCast_inj])) (fun h => ?_) (fun h => ?_)
    · have e1 : Pb.e_ j i = ((1 : Int) : Rat) := by unfold Pb.e_; rw [if_pos (of_decide_eq_true h)]; rfl
      rw [e1]
      exact ev_mk1 ev_c
    · have e1 : Pb.e_ j i = ((0 : Int) : Rat) := by unfold Pb.e_; rw [if_neg (of_decide_eq_false h)]; rfl
      rw [e1]
      exact ev_mk1 ev_c
theorem sc_f_transpose : FnScope ["matrix", "width", "column", "row"] ["matrix", "width"] (defScope sf_transpose) := ⟨rfl, rfl, rfl, by decide +kernel, rfl, by decide +kernel, by decide +kernel⟩
theorem ok_transpose (c : Cxt P K mg base) : Ok P w K mg base df_transpose 33 ["matrix", "width"] (sTrans K).sp := by
  have nd := (sc_f_transpose).nd
  refine okS c.Ff_transpose sc_f_transpose (sTrans K) (fun _ => rfl) fun cdv A outer s0 H E hr => ⟨_, PSs.nox ((pss_one (ps_ret (pe_callTy (call_tupleK K) (by rfl) c.z_tuple (by decide +kernel) (pa_cons (pe_lc (own := [("column", 2)]) (g := gName 2) (tt := tYes) rfl nd (pi_range1 rfl c.z_range (pa_cons (pv 1) pa_nil)) (blkOk_by rfl) (fun _ _ _ _ _ => (pg_name (i := 2) nd rfl (by first | exact Or.inl rfl | exact Or.inr rfl))) (fun _ _ _ _ _ => pts_nil) (fun _ _ _ _ _ => (pe_callTy (call_tupleK K) (by rfl) c.z_tuple (by decide +kernel) (pa_cons (pe_lc (own := [("row", 3)]) (g := gName 3) (tt := tYes) rfl nd (pi_tupK K (pv 0)) (blkOk_by rfl) (fun _ _ _ _ _ => (pg_name (i := 3) nd rfl (by first | exact Or.inl rfl | exact Or.inr rfl))) (fun _ _ _ _ _ => pts_nil) (fun _ _ _ _ _ => (pe_ix (ix_tupK K) (pv 3) (pv 2) (fun _ _ => rfl)))) pa_nil)))) pa_nil))))), fun x Q σ hx hs k => ?_⟩
  obtain ⟨h, n, f⟩ := x
  obtain ⟨h1, h2⟩ : h < 16 ∧ n < 16 := hx
  refine s_ret (ev_tuple (el_lc (U := fun i => tyVec h fun j => f j i) hs (ei_rangeN (m := n) (ea_cons (ev_var hs rfl) ea_nil) (by omega)) (fun H2 H3 _ e => trivial) (by omega) fun i σ' H' hi e s => ?_)) k
  · exact ev_tuple (el_lc (U := fun j => tyRat (f j i)) s (ei_tup (ev_var s rfl)) (fun H2 H3 _ e => ge_ex e) (by omega) fun j σ2 H2 hj e2 s2 => ev_ixV (ev_var s2 rfl) (ev_var s2 rfl) hi)
theorem sc_f_apply : FnScope ["matrix", "vector", "row"] ["matrix", "vector"] (defScope sf_apply) := ⟨rfl, rfl, rfl, by decide +kernel, rfl, by decide +kernel, by decide +kernel⟩
theorem ok_apply (c : Cxt P K mg base) : Ok P w K mg base df_apply 38 ["matrix", "vector"] (sApply K).sp := by
  have nd := (sc_f_apply).nd
  refine okS c.Ff_apply sc_f_apply (sApply K) (fun _ => rfl) fun cdv A outer s0 H E hr => ⟨_, PSs.nox ((pss_one (ps_ret (pe_callTy (call_tupleK K) (by rfl) c.z_tuple (by decide +kernel) (pa_cons (pe_lc (own := [("row", 2)]) (g := gName 2) (tt := tYes) rfl nd (pi_tupK K (pv 0)) (blkOk_by rfl) (fun _ _ _ _ _ => (pg_name (i := 2) nd rfl (by first | exact Or.inl rfl | exact Or.inr rfl))) (fun _ _ _ _ _ => pts_nil) (fun _ _ _ _ _ => (pe_call (ok_dot c) (by exact hr.mono (by decide)) rfl c.g_dot c.Ff_dot.kp c.bf_dot .nil pass0 (pa_cons (pv 2) (pa_cons (pv 1) pa_nil))))) pa_nil))))), fun x Q σ hx hs k => ?_⟩
  obtain ⟨h, n, f, g⟩ := x
  obtain ⟨⟨b, b', a1, a2, l⟩, h1, h2⟩ := hx
  exact s_ret (ev_tuple (el_lc (U := fun i => tyRat (Pb.dot n (f i) g)) hs (ei_tup (ev_var hs rfl)) (fun H2 H3 _ e => ge_ex e) (by omega) fun i σ' H' hi e s =>
    ev_dot (ev_var s rfl) (ev_var s rfl) ⟨⟨b, b', a1.sub fun q ⟨j, hj, z⟩ => ⟨i, j, hi, hj, z⟩, a2, l⟩, h2⟩)) k
theorem sc_f_product : FnScope ["first", "second", "width", "columns", "row"] ["first", "second", "width"] (defScope sf_product) := ⟨rfl, rfl, rfl, by decide +kernel, rfl, by decide +kernel, by decide +kernel⟩
theorem ok_product (c : Cxt P K mg base) : Ok P w K mg base df_product 39 ["first", "second", "width"] (sProd K).sp := by
  have nd := (sc_f_product).nd
  refine okS c.Ff_product sc_f_product (sProd K) (fun _ => rfl) fun cdv A outer s0 H E hr => ⟨_, PSs.nox ((pss_cons (ps_set (i := 3) nd rfl (by first | exact Or.inl rfl | exact Or.inr rfl) (pe_call (ok_transpose c) (by exact hr.mono (by decide)) rfl c.g_transpose c.Ff_transpose.kp c.bf_transpose .nil pass0 (pa_cons (pv 1) (pa_cons (pv 2) pa_nil))))
      (pss_one (ps_ret (pe_callTy (call_tupleK K) (by rfl) c.z_tuple (by decide +kernel) (pa_cons (pe_lc (own := [("row", 4)]) (g := gName 4) (tt := tYes) rfl nd (pi_tupK K (pv 0)) (blkOk_by rfl) (fun _ _ _ _ _ => (pg_name (i := 4) nd rfl (by first | exact Or.inl rfl | exact Or.inr rfl))) (fun _ _ _ _ _ => pts_nil) (fun _ _ _ _ _ => (pe_call (ok_apply c) (by exact hr.mono (by decide)) rfl c.g_apply c.Ff_apply.kp c.bf_apply .nil pass0 (pa_cons (pv 3) (pa_cons (pv 4) pa_nil))))) pa_nil)))))), fun x Q σ hx hs k => ?_⟩
  obtain ⟨h, m, n, f, g⟩ := x
  obtain ⟨⟨b, b', a1, a2, l⟩, h1, h2, h3⟩ := hx
  refine q_asg hs (ev_trans (ev_var hs rfl) (ev_var hs rfl) h2 h3) fun σ1 H1 e1 s1 => ?_
  refine s_ret (ev_tuple (el_lc (U := fun i => tyVec n (Pb.mv m (Pb.tr g) (f i))) s1 (ei_tup (ev_var s1 rfl)) (fun H2 H3 _ e => ge_ex e) (by omega) fun i σ' H' hi e s =>
    ev_apply (ev_var s rfl) (ev_var s rfl) ⟨⟨b', b, a2.tr, a1.sub fun q ⟨j, hj, z⟩ => ⟨i, j, hi, hj, z⟩, by omega⟩, h3, h2⟩)) fun v H' e z => k v H' (e1.trans e) (tyMat_cg z fun i j _ _ => Pb.S_congr fun t _ => Rat.mul_comm _ _)
theorem sc_f_identity : FnScope ["width", "index"] ["width"] (defScope sf_identity) := ⟨rfl, rfl, rfl, by decide +kernel, rfl, by decide +kernel, by decide +kernel⟩
theorem ok_identity (c : Cxt P K mg base) : Ok P w K mg base df_identity 37 ["width"] (sIdent K).sp := by
  have nd := (sc_f_identity).nd
  refine okS c.Ff_identity sc_f_identity (sIdent K) (fun _ => rfl) fun cdv A outer s0 H E hr => ⟨_, PSs.nox ((pss_one (ps_ret (pe_callTy (call_tupleK K) (by rfl) c.z_tuple (by decide +kernel) (pa_cons (pe_lc (own := [("index", 1)]) (g := gName 1) (tt := tYes) rfl nd (pi_range1 rfl c.z_range (pa_cons (pv 0) pa_nil)) (blkOk_by rfl) (fun _ _ _ _ _ => (pg_name (i := 1) nd rfl (by first | exact Or.inl rfl | exact Or.inr rfl))) (fun _ _ _ _ _ => pts_nil) (fun _ _ _ _ _ => (pe_call (ok_unit c) (by exact hr.mono (by decide)) rfl c.g_unit c.Ff_unit.kp c.bf_unit .nil pass0 (pa_cons (pv 0) (pa_cons (pv 1) pa_nil))))) pa_nil))))), fun x Q σ hx hs k => ?_⟩
  change Nat at x
  have hn : x < 16 := hx
  refine s_ret (ev_tuple (el_lc (U := fun i => tyVec x (Pb.e_ i)) hs (ei_rangeN (ea_cons (ev_var hs rfl) ea_nil) (by omega)) (fun H2 H3 _ e => trivial) (by omega) fun i σ' H' hi e s => ev_unit (ev_var s rfl) (ev_var s rfl) hn)) k
theorem sc_f_zeros : FnScope ["height", "width", "_"] ["height", "width"] (defScope sf_zeros) := ⟨rfl, rfl, rfl, by decide +kernel, rfl, by decide +kernel, by decide +kernel⟩
theorem ok_zeros (c : Cxt P K mg base) : Ok P w K mg base df_zeros 37 ["height", "width"] (sZeros K).sp := by
  have nd := (sc_f_zeros).nd
  refine okS c.Ff_zeros sc_f_zeros (sZeros K) (fun _ => rfl) fun cdv A outer s0 H E hr => ⟨_, PSs.nox ((pss_one (ps_ret (pe_callTy (call_tupleK K) (by rfl) c.z_tuple (by decide +kernel) (pa_cons (pe_lc (own := [("_", 2)]) (g := gName 2) (tt := tYes) rfl nd (pi_range1 rfl c.z_range (pa_cons (pv 0) pa_nil)) (blkOk_by rfl) (fun _ _ _ _ _ => (pg_name (i := 2) nd rfl (by first | exact Or.inl rfl | exact Or.inr rfl))) (fun _ _ _ _ _ => pts_nil) (fun _ _ _ _ _ => (pe_call (ok_zero c) (by exact hr.mono (by decide)) rfl c.g_zero c.Ff_zero.kp c.bf_zero .nil pass0 (pa_cons (pv 1) pa_nil)))) pa_nil))))), fun x Q σ hx hs k => ?_⟩
  obtain ⟨h, n⟩ := x
  obtain ⟨h1, h2⟩ : h < 16 ∧ n < 16 := hx
  refine s_ret (ev_tuple (el_lc (U := fun i => tyVec n fun _ => 0) hs (ei_rangeN (ea_cons (ev_var hs rfl) ea_nil) (by omega)) (fun H2 H3 _ e => trivial) (by omega) fun i σ' H' hi e s => ev_zero (ev_var s rfl) h2)) k
theorem sc_f_outer : FnScope ["a", "b", "x"] ["a", "b"] (defScope sf_outer) := ⟨rfl, rfl, rfl, by decide +kernel, rfl, by decide +kernel, by decide +kernel⟩
theorem ok_outer (c : Cxt P K mg base) : Ok P w K mg base df_outer 38 ["a", "b"] (sOuter K).sp := by
  have nd := (sc_f_outer).nd
  refine okS c.Ff_outer sc_f_outer (sOuter K) (fun _ => rfl) fun cdv A outer s0 H E hr => ⟨_, PSs.nox ((pss_one (ps_ret (pe_callTy (call_tupleK K) (by rfl) c.z_tuple (by decide +kernel) (pa_cons (pe_lc (own := [("x", 2)]) (g := gName 2) (tt := tYes) rfl nd (pi_tupK K (pv 0)) (blkOk_by rfl) (fun _ _ _ _ _ => (pg_name (i := 2) nd rfl (by first | exact Or.inl rfl | exact Or.inr rfl))) (fun _ _ _ _ _ => pts_nil) (fun _ _ _ _ _ => (pe_call (ok_scale c) (by exact hr.mono (by decide)) rfl c.g_scale c.Ff_scale.kp c.bf_scale .nil pass0 (pa_cons (pv 2) (pa_cons (pv 1) pa_nil))))) pa_nil))))), fun x Q σ hx hs k => ?_⟩
  obtain ⟨n, m, f, g⟩ := x
  obtain ⟨h1, h2⟩ := hx
  exact s_ret (ev_tuple (el_lc (U := fun i => tyVec m fun j => f i * g j) hs (ei_tup (ev_var hs rfl)) (fun H2 H3 _ e => ge_ex e) (by have := h1.ln; omega) fun i σ' H' hi e s => ev_scale (ev_var s rfl) (ev_var s rfl) (h1.at_ i hi) h2)) k
theorem sc_f_sum_of : FnScope ["first", "second", "one", "other"] ["first", "second"] (defScope sf_sum_of) := ⟨rfl, rfl, rfl, by decide +kernel, rfl, by decide +kernel, by decide +kernel⟩
theorem ok_sum_of (c : Cxt P K mg base) : Ok P w K mg base df_sum_of 38 ["first", "second"] (sSum K).sp := by
  have nd := (sc_f_sum_of).nd
  refine okS c.Ff_sum_of sc_f_sum_of (sSum K) (fun _ => rfl) fun cdv A outer s0 H E hr => ⟨_, PSs.nox ((pss_one (ps_ret (pe_callTy (call_tupleK K) (by rfl) c.z_tuple (by decide +kernel) (pa_cons (pe_lc (own := [("one", 2), ("other", 3)]) (g := gTup K 2 (gCons (gName 2) (gCons (gName 3) gNil))) (tt := tYes) rfl nd (pi_zipK K (by rfl) c.z_zip (pa_cons (pv 0) (pa_cons (pv 1) pa_nil))) (blkOk_by rfl) (fun _ _ _ _ _ => (pg_tupK K rfl (pgs_cons (pg_name (i := 2) nd rfl (by first | exact Or.inl rfl | exact Or.inr rfl)) (pgs_cons (pg_name (i := 3) nd rfl (by first | exact Or.inl rfl | exact Or.inr rfl)) pgs_nil)))) (fun _ _ _ _ _ => pts_nil) (fun _ _ _ _ _ => (pe_call (ok_plus c) (by exact hr.mono (by decide)) rfl c.g_plus c.Ff_plus.kp c.bf_plus .nil pass0 (pa_cons (pv 2) (pa_cons (pv 3) pa_nil))))) pa_nil))))), fun x Q σ hx hs k => ?_⟩
  obtain ⟨h, n, f, g⟩ := x
  obtain ⟨h1, h2⟩ := hx
  exact s_ret (ev_tuple (el_lc2 (by decide) (U := fun i => tyVec n fun j => f i j + g i j) hs (ei_zip (ea_cons (ev_var hs rfl) (ea_cons (ev_var hs rfl) ea_nil))) (fun H2 H3 _ e => ge_ex e) (by have := h1.lh; omega) fun i σ' H' hi e s => ev_plus (ev_var s rfl) (ev_var s rfl) (h1.row hi) (h2.row hi))) k
theorem sc_f_scaled : FnScope ["factor", "matrix", "row"] ["factor", "matrix"] (defScope sf_scaled) := ⟨rfl, rfl, rfl, by decide +kernel, rfl, by decide +kernel, by decide +kernel⟩
theorem ok_scaled (c : Cxt P K mg base) : Ok P w K mg base df_scaled 38 ["factor", "matrix"] (sScaled K).sp := by
  have nd := (sc_f_scaled).nd
  refine okS c.Ff_scaled sc_f_scaled (sScaled K) (fun _ => rfl) fun cdv A outer s0 H E hr => ⟨_, PSs.nox ((pss_one (ps_ret (pe_callTy (call_tupleK K) (by rfl) c.z_tuple (by decide +kernel) (pa_cons (pe_lc (own := [("row", 2)]) (g := gName 2) (tt := tYes) rfl nd (pi_tupK K (pv 1)) (blkOk_by rfl) (fun _ _ _ _ _ => (pg_name (i := 2) nd rfl (by first | exact Or.inl rfl | exact Or.inr rfl))) (fun _ _ _ _ _ => pts_nil) (fun _ _ _ _ _ => (pe_call (ok_scale c) (by exact hr.mono (by decide)) rfl c.g_scale c.Ff_scale.kp c.bf_scale .nil pass0 (pa_cons (pv 0) (pa_cons (pv 2) pa_nil))))) pa_nil))))), fun x Q σ hx hs k => ?_⟩
  obtain ⟨q, h, n, f⟩ := x
  obtain ⟨h1, h2⟩ := hx
  exact s_ret (ev_tuple (el_lc (U := fun i => tyVec n fun j => q * f i j) hs (ei_tup (ev_var hs rfl)) (fun H2 H3 _ e => ge_ex e) (by have := h2.lh; omega) fun i σ' H' hi e s => ev_scale (ev_var s rfl) (ev_var s rfl) h1 (h2.row hi))) k
theorem sc_f_is_zero : FnScope ["a", "x"] ["a"] (defScope sf_is_zero) := ⟨rfl, rfl, rfl, by decide +kernel, rfl, by decide +kernel, by decide +kernel⟩
theorem ok_is_zero (c : Cxt P K mg base) : Ok P w K mg base df_is_zero 33 ["a"] (sIsZero K).sp := by
  have nd := (sc_f_is_zero).nd
  refine okS c.Ff_is_zero sc_f_is_zero (sIsZero K) (fun _ => rfl) fun cdv A outer s0 H E hr => ⟨_, PSs.nox ((pss_cons (ps_for PassesOwn.never rfl (pi_tupK K (pv 0)) (pg_name (i := 1) nd rfl (by first | exact Or.inl rfl | exact Or.inr rfl)) (pss_one (ps_if (pt_cmpR op_ne (pe_fldK K (pv 1) rfl) pe_int (nomark _)) (pss_one (ps_ret pe_bl)) pss_nil)))
      (pss_one (ps_ret pe_bl)))), fun x Q σ hx hs k => ?_⟩
  obtain ⟨n, f, b⟩ := x
  have hb : b = true ↔ ∀ i, i < n → f i = 0 := hx
  refine q_for (ei_tup (ev_var hs rfl)) (fun H2 i σ' H' => Ex H2 H' ∧ Sat [some (tyVec n f), none] σ' H' ∧ ∀ j, j < i → f j = 0) (fun H2 e2 => ⟨Ex.refl _, hs.ex e2, fun j hj => by omega⟩) (fun H2 e2 i σ' H' _ p => ge_ex p.1)
    (fun H2 e2 i x σ' H' H'' hi p e3 y => ?_) (fun H2 e2 σ' H' p => ?_)
  · have s2 := (p.2.1.ex e3).set (i := 1) y
    refine s_if (b := !decide (f i = 0)) (et_cmp (Evl.ev_op (flat_ev (ev_top c (ev_var s2 rfl))) (flat_ev (K := K) ev_c) (rv_ne rfl)) ?_) (fun h H3 e4 => ?_) (fun h H3 e4 => ?_)
    · rw [dec_int]
      congr 1
      show ((f i).num == 0) = decide (f i = 0)
      by_cases h : f i = 0
      · rw [h]; rfl
      · rw [decide_eq_false h]
        have := Pb.num_nz h
        simpa using this
    · refine s_ret (ev_c (K := K)) fun v H' e5 z => k v H' ((e2.trans (p.1.trans e3)).trans (e4.trans e5)) ?_
      cases z
      have : f i ≠ 0 := by simpa using h
      have : b = false := by
        cases b with
        | false => rfl
        | true => exact absurd (hb.mp rfl i hi) this
      rw [this]
      rfl
    · refine ⟨(p.1.trans e3).trans e4, (s2.ex e4).forget (i := 1), fun j hj => ?_⟩
      by_cases q : j = i
      · rw [q]; simpa using h
      · exact p.2.2 j (by omega)
  · refine s_ret (ev_c (K := K)) fun v H'' e5 z => k v H'' (e2.trans (p.1.trans e5)) ?_
    cases z
    rw [hb.mpr p.2.2]
    rfl
end
end Pd

/-! The defs' promises: reduced forms. -/
namespace Pd
open PySem PySem.Spec PyProof.Rows L2 Evl Pt Pn
open Pb (Ht Sz entV entM)
section
variable {P : Program} {w : World} {K : PySem.W.Frag} {mg : Str → Option Value} {base : Heap}
/-- THE RULE for a def that changes nothing, and asks of the heap -/
theorem okH {d : He.DefD} {N ps : List Str} {k : Nat} (F : FunD K d.name d.qual d.params d.body d.scope (d.dvs K) (d.kws K) (He.fAd K d.at_) (fdA K d)) (S : FnScope N ps d.scope) (s : Sph K) (hl : ∀ x, (s.args x).length = ps.length)
    (body : ∀ (cdv : Value) (A : Around) (outer : List Env) (s0 : Shared) (H : Hp) (E : XK), Room k (A.deeper (envOfC d.qual d.scope s0.heap.objs.size (He.fAd K d.at_) cdv)) →
      ∃ t, PSs (cxOf CX0 P w K mg base N d.qual d.scope (He.fAd K d.at_) cdv A outer s0 H E).nox d.body t ∧
        ∀ (x : s.ι) (Q : VK) (σ : L2.St), s.side x H → Sat ((s.args x).map some ++ List.replicate (N.length - (s.args x).length) none) σ H → (∀ v H', Ex H H' → s.post x H v H' → Q v H') → t { nx := fun _ H' => Q .non H', rt := Q } σ H) :
    Ok P w K mg base d (k + 1) ps s.sp := by
  refine F.ok S (fun vs H Q E h => ?_) (fun cdv A outer s0 H vs Q E hr h => ?_)
  · obtain ⟨x, _, h, _⟩ := h
    rw [← hl x]
    exact (Paired.length h).symm
  · obtain ⟨t, h1, h2⟩ := body cdv A outer s0 H E hr
    obtain ⟨x, hx, h, k⟩ := h
    exact ⟨t, h1.nox, h2 x Q _ hx (sat_start h) k⟩
/-- the rows of a matrix in a list -/
structure Rows (K : PySem.W.Frag) (l : Addr) (xs : List V) (h w : Nat) (R : Nat → Nat → Rat) (H : Hp) : Prop where
  at_ : H l = some (.lst xs)
  ln : xs.length = h
  its : Its (K := K) (fun i => tyVec w (R i)) xs H
theorem Rows.ex {l : Addr} {xs : List V} {h n : Nat} {R : Nat → Nat → Rat} {H H' : Hp} (r : Rows K l xs h n R H) (e : Ex H H') : Rows K l xs h n R H' := ⟨e _ _ r.at_, r.ln, r.its.ex e⟩
structure LM where
  l : Addr
  xs : List V
  h : Nat
  w : Nat
  R : Nat → Nat → Rat
def sPivot (K : PySem.W.Frag) : Sph K := ⟨LM × Nat × Nat, fun x => [tyE (.ref x.1.l), tyInt x.2.1, tyInt x.2.2], fun x H => Rows K x.1.l x.1.xs x.1.h x.1.w x.1.R H ∧ x.1.h < 16 ∧ x.2.1 < 16 ∧ x.2.2 < x.1.w,
  fun x H v H' => (∃ f : Nat, x.2.1 ≤ f ∧ f < x.1.h ∧ x.1.R f x.2.2 ≠ 0 ∧ v = .int (f : Nat)) ∨ ((∀ i, x.2.1 ≤ i → i < x.1.h → x.1.R i x.2.2 = 0) ∧ v = .non)⟩
theorem ev_ixRow {l : Addr} {xs : List V} {h n i : Nat} {R : Nat → Nat → Rat} {σ : L2.St} {H : Hp} {te tb : TE} (r : Rows K l xs h n R H) (ha : EvP (K := K) te σ H (tyE (.ref l))) (hb : EvP (K := K) tb σ H (tyE (.int (i : Nat)))) (hi : i < h) : EvP (K := K) (tOp (rIxL K) te tb) σ H (tyVec n (R i)) :=
  ev_ixL (T := fun i => tyVec n (R i)) r.at_ r.its ha hb (by rw [r.ln]; exact hi)
/-- a Ratio is not 0, is 0 -/
theorem num0 (q : Rat) : (q.num == 0) = decide (q = 0) := by
  by_cases h : q = 0
  · rw [h]; rfl
  · rw [decide_eq_false h]
    have := Pb.num_nz h
    simpa using this
theorem et_nz {σ : L2.St} {H : Hp} {te : TE} {q : Rat} (c : Cxt P K mg base) (h : EvP (K := K) te σ H (tyRat q)) : EvT (tTest (tOp rNe (tFld K te "top") (tC (.int 0)))) σ H (!decide (q = 0)) :=
  et_cmp (Evl.ev_op (flat_ev (ev_top c h)) (flat_ev (K := K) ev_c) (rv_ne rfl)) (by rw [dec_int, num0])
theorem et_z {σ : L2.St} {H : Hp} {te : TE} {q : Rat} (c : Cxt P K mg base) (h : EvP (K := K) te σ H (tyRat q)) : EvT (tTest (tOp rEq (tFld K te "top") (tC (.int 0)))) σ H (decide (q = 0)) :=
  et_cmp (Evl.ev_op (flat_ev (ev_top c h)) (flat_ev (K := K) ev_c) (rv_eq rfl)) (by rw [dec_int, num0])
theorem et_eqN {σ : L2.St} {H : Hp} {ta tb : TE} {i j : Nat} (ha : EvP (K := K) ta σ H (tyInt (i : Nat))) (hb : EvP (K := K) tb σ H (tyInt (j : Nat))) : EvT (tTest (tOp rEq ta tb)) σ H (decide (i = j)) :=
  et_cmp (Evl.ev_op (flat_ev ha) (flat_ev hb) (rv_eq rfl)) (by rw [dec_int]; by_cases h : i = j <;> simp [h, Int.natCast_inj])
theorem sc_f_pivot_row : FnScope ["rows", "start", "column", "index"] ["rows", "start", "column"] (defScope sf_pivot_row) := ⟨rfl, rfl, rfl, by decide +kernel, rfl, by decide +kernel, by decide +kernel⟩
theorem ok_pivot_row (c : Cxt P K mg base) : Ok P w K mg base df_pivot_row 33 ["rows", "start", "column"] (sPivot K).sp := by
  have nd := (sc_f_pivot_row).nd
  refine okH c.Ff_pivot_row sc_f_pivot_row (sPivot K) (fun _ => rfl) fun cdv A outer s0 H E hr => ⟨_, PSs.nox ((pss_cons (ps_for PassesOwn.never rfl (pi_range2 rfl c.z_range (pa_cons (pv 1) (pa_cons (pe_callB (call_lenK K) (by rfl) c.z_len PySem.boot_len (pa_cons (pv 0) pa_nil)) pa_nil))) (pg_name (i := 3) nd rfl (by first | exact Or.inl rfl | exact Or.inr rfl)) (pss_one (ps_if (pt_cmpR op_ne (pe_fldK K (pe_ix (ix_tupK K) (pe_ix (ix_listK K) (pv 0) (pv 3) (fun _ _ => rfl)) (pv 2) (fun _ _ => rfl)) rfl) pe_int (nomark _)) (pss_one (ps_ret (pv 3))) pss_nil)))
      (pss_one (ps_ret pe_non)))), fun x Q σ hx hs k => ?_⟩
  obtain ⟨⟨l, xs, h, n, R⟩, st, co⟩ := x
  obtain ⟨rw0, h16, hst, hco⟩ : Rows K l xs h n R H ∧ h < 16 ∧ st < 16 ∧ co < n := hx
  have hs : Sat [some (tyE (.ref l)), some (tyInt st), some (tyInt co), none] σ H := hs
  have eL := ev_lenL (K := K) rw0.at_ (ev_var (i := 0) hs rfl)
  rw [rw0.ln] at eL
  refine q_for (ei_range2 (ea_cons (ev_var hs rfl) (ea_cons eL ea_nil)) (by omega)) (fun H2 i σ' H' => Ex H2 H' ∧ Sat [some (tyE (.ref l)), some (tyInt st), some (tyInt co), none] σ' H' ∧ ∀ j, st ≤ j → j < st + i → R j co = 0) (fun H2 e2 => ⟨Ex.refl _, hs.ex e2, fun j _ _ => by omega⟩) (fun _ _ _ _ _ _ _ => trivial)
    (fun H2 e2 i x σ' H' H'' hi p e3 y => ?_) (fun H2 e2 σ' H' p => ?_)
  · have eI : ((st : Nat) : Int) + (i : Nat) = ((st + i : Nat) : Int) := by omega
    rw [eI] at y
    have hi' : st + i < h := by omega
    have s2 := (p.2.1.ex e3).set (i := 3) y
    have r2 := rw0.ex (e2.trans (p.1.trans e3))
    refine s_if (et_nz c (ev_ixV (ev_ixRow r2 (ev_var s2 rfl) (ev_var s2 rfl) hi') (ev_var s2 rfl) hco)) (fun z H3 e4 => ?_) (fun z H3 e4 => ?_)
    · exact s_ret (ev_var (s2.ex e4) rfl) fun v H' e5 zv => k v H' ((e2.trans (p.1.trans e3)).trans (e4.trans e5)) (.inl ⟨st + i, Nat.le_add_right _ _, hi', by simpa using z, zv⟩)
    · refine ⟨(p.1.trans e3).trans e4, (s2.ex e4).forget (i := 3), fun j h1 h2 => ?_⟩
      by_cases q : j = st + i
      · rw [q]; simpa using z
      · exact p.2.2 j h1 (by omega)
  · refine s_ret (ev_c (K := K)) fun v H'' e5 z => k v H'' (e2.trans (p.1.trans e5)) (.inr ⟨fun i h1 (h2 : i < h) => p.2.2 i h1 (by have h1 : st ≤ i := h1; omega), z⟩)
def sCleared (K : PySem.W.Frag) : Sph K := ⟨LM × Nat × Nat × Nat, fun x => [tyE (.ref x.1.l), tyInt x.2.1, tyInt x.2.2.1],
  fun x H => Rows K x.1.l x.1.xs x.1.h x.1.w x.1.R H ∧ x.1.h < 16 ∧ x.1.w < 16 ∧ x.2.1 < x.1.h ∧ x.2.2.1 < x.1.w ∧ x.1.R x.2.1 x.2.2.1 ≠ 0 ∧ Ht x.2.2.2 (entM x.1.h x.1.w x.1.R) ∧ 4 * x.2.2.2 + 4 ≤ LIM,
  fun x H v H' => ∃ p ys, v = .ref p ∧ H p = none ∧ Rows K p ys x.1.h x.1.w (Pb.clr x.2.1 x.2.2.1 x.1.R) H'⟩
theorem Sz.inv {b : Nat} {q : Rat} (h : q ≠ 0) (z : Sz b q) : Sz b (1 / q) := by
  obtain ⟨f1, f2⟩ := Pb.fr_over (p := 1) h
  obtain ⟨g1, g2⟩ := Pb.fr_le (t := (1 : Rat).num * q.den) f1
  rw [f2] at g1 g2
  have e1 : (1 : Rat).num = 1 := rfl
  have e2 : ((1 : Rat).den : Int) = 1 := rfl
  rw [e1, Int.one_mul, Int.natAbs_natCast] at g1
  rw [e2, Int.one_mul] at g2
  exact ⟨Nat.lt_of_le_of_lt g1 z.2, Nat.lt_of_le_of_lt g2 z.1⟩
/-- the sizes on the way -/
theorem clr_sz {h n k co b : Nat} {R : Nat → Nat → Rat} (hk : k < h) (hco : co < n) (nz : R k co ≠ 0) (hb : Ht b (entM h n R)) (l : 4 * b + 4 ≤ LIM) :
    (∀ i j, i < h → j < n → Sz LIM (R i j)) ∧ Sz LIM (1 / R k co) ∧ (∀ j, j < n → Sz LIM (1 / R k co * R k j)) ∧ ∀ i j, i < h → j < n → Sz LIM (R i co * (1 / R k co * R k j)) := by
  have hc := Ht.clr hk hco nz hb
  have u : ∀ j, j < n → Sz (2 * b + 1) (1 / R k co * R k j) := fun j hj => hc.sz ⟨k, j, hk, hj, by unfold Pb.clr; rw [if_pos rfl]⟩
  refine ⟨fun i j hi hj => (hb.sz ⟨i, j, hi, hj, rfl⟩).mono (by omega), ?_, fun j hj => (u j hj).mono (by omega), fun i j hi hj => ?_⟩
  · exact (Sz.inv nz (hb.sz ⟨k, co, hk, hco, rfl⟩)).mono (by omega)
  · have q := ((hb.sz ⟨i, co, hi, hco, rfl⟩).ht.mul (u j hj).ht (Z := fun q => q = R i co * (1 / R k co * R k j)) fun q e => ⟨_, _, rfl, rfl, e.symm⟩).sz rfl
    exact q.mono (by omega)
theorem sc_f_cleared : FnScope ["rows", "place", "column", "lead", "unit", "out", "index", "row"] ["rows", "place", "column"] (defScope sf_cleared) := ⟨rfl, rfl, rfl, by decide +kernel, rfl, by decide +kernel, by decide +kernel⟩
theorem ok_cleared (c : Cxt P K mg base) : Ok P w K mg base df_cleared 38 ["rows", "place", "column"] (sCleared K).sp := by
  obtain ⟨ds1, vds, b1⟩ := bRI1 c
  have nd := (sc_f_cleared).nd
  refine okH c.Ff_cleared sc_f_cleared (sCleared K) (fun _ => rfl) fun cdv A outer s0 H E hr => ⟨_, PSs.nox ((pss_cons (ps_set (i := 3) nd rfl (by first | exact Or.inl rfl | exact Or.inr rfl) (pe_ix (ix_listK K) (pv 0) (pv 1) (fun _ _ => rfl)))
      (pss_cons (ps_set (i := 4) nd rfl (by first | exact Or.inl rfl | exact Or.inr rfl) (pe_call (ok_scale c) (by exact hr.mono (by decide)) rfl c.g_scale c.Ff_scale.kp c.bf_scale .nil pass0 (pa_cons (pe_meth (pe_make c.k_Ratio (ok_RInit c) (by exact hr.mono (by decide)) rfl c.g_Ratio b1 vds pass0 (pa_cons pe_int pa_nil)) c.c_Ratio c.m_Ratio_over (ok_over c) (by exact hr.mono (by decide)) c.bm_Ratio_over .nil pass0 (pa_cons (pe_ix (ix_tupK K) (pv 3) (pv 2) (fun _ _ => rfl)) pa_nil)) (pa_cons (pv 3) pa_nil))))
      (pss_cons (ps_set (i := 5) nd rfl (by first | exact Or.inl rfl | exact Or.inr rfl) (pe_lst pa_nil))
      (pss_cons (ps_for PassesOwn.never rfl (pi_enumK K (by rfl) c.z_enumerate (pa_cons (pv 0) pa_nil)) (pg_tupK K rfl (pgs_cons (pg_name (i := 6) nd rfl (by first | exact Or.inl rfl | exact Or.inr rfl)) (pgs_cons (pg_name (i := 7) nd rfl (by first | exact Or.inl rfl | exact Or.inr rfl)) pgs_nil))) (pss_one (ps_if (pt_cmpR op_eq (pv 6) (pv 1) (nomark _)) (pss_one (ps_expr (pe_bmK K PySem.F.plainAttrs_list PySem.F.slot_list_append PySem.F.type_list_append mt_append (pv 5) (pa_cons (pv 4) pa_nil)))) (pss_one (ps_if (pt_cmpR op_eq (pe_fldK K (pe_ix (ix_tupK K) (pv 7) (pv 2) (fun _ _ => rfl)) rfl) pe_int (nomark _)) (pss_one (ps_expr (pe_bmK K PySem.F.plainAttrs_list PySem.F.slot_list_append PySem.F.type_list_append mt_append (pv 5) (pa_cons (pv 7) pa_nil)))) (pss_one (ps_expr (pe_bmK K PySem.F.plainAttrs_list PySem.F.slot_list_append PySem.F.type_list_append mt_append (pv 5) (pa_cons (pe_call (ok_minus c) (by exact hr.mono (by decide)) rfl c.g_minus c.Ff_minus.kp c.bf_minus .nil pass0 (pa_cons (pv 7) (pa_cons (pe_call (ok_scale c) (by exact hr.mono (by decide)) rfl c.g_scale c.Ff_scale.kp c.bf_scale .nil pass0 (pa_cons (pe_ix (ix_tupK K) (pv 7) (pv 2) (fun _ _ => rfl)) (pa_cons (pv 4) pa_nil))) pa_nil))) pa_nil)))))))))
      (pss_one (ps_ret (pv 5)))))))), fun x Q σ hx hs k => ?_⟩
  obtain ⟨⟨l, xs, h, n, R⟩, pl, co, b⟩ := x
  obtain ⟨rw0, h16, n16, hpl, hco, nz, hb, hl⟩ : Rows K l xs h n R H ∧ h < 16 ∧ n < 16 ∧ pl < h ∧ co < n ∧ R pl co ≠ 0 ∧ Ht b (entM h n R) ∧ 4 * b + 4 ≤ LIM := hx
  have hs : Sat [some (tyE (.ref l)), some (tyInt pl), some (tyInt co), none, none, none, none, none] σ H := hs
  obtain ⟨z1, z2, z3, z4⟩ := clr_sz hpl hco nz hb hl
  refine q_asg hs (ev_ixRow rw0 (ev_var hs rfl) (ev_var hs rfl) hpl) fun σ1 H1 e1 s1 => ?_
  refine q_asg s1 (ev_scale (ev_over (ev_mk1 ev_c) (ev_ixV (ev_var s1 rfl) (ev_var s1 rfl) hco) (sz_int (i := 1) (by decide)) (z1 _ _ hpl hco) nz) (ev_var s1 rfl) z2 ⟨n16, fun j hj => z1 _ _ hpl hj⟩) fun σ2 H2 e2 s2 => ?_
  refine q_asgL s2 (el_nil (T := fun i => tyVec n (Pb.clr pl co R i))) fun p ys σ3 H3 hp e3 h3 l3 it3 s3 => ?_
  have hxs : SqL K H3 l xs := SqL.of ((e1.trans (e2.trans e3)) _ _ rw0.at_)
  have e03 := e1.trans (e2.trans e3)
  refine q_for (ei_enum (T := fun i => tyVec n (R i)) (ea_cons (ev_var s3 rfl) ea_nil) hxs ((rw0.ex e03).its))
    (fun H4 i σ' H' => Sat [some (tyE (.ref l)), some (tyInt pl), some (tyInt co), some (tyVec n (R pl)), some (tyVec n fun j => 1 / R pl co * R pl j), some (tyE (.ref p)), none, none] σ' H' ∧ ∃ ys, Own K H2 H4 p ys H' ∧ ys.length = i ∧ Its (fun i => tyVec n (Pb.clr pl co R i)) ys H')
    (fun H4 e4 => ⟨s3.ex e4, ys, ⟨hp, e3.trans e4, Ge.refl _, e4 _ _ h3⟩, l3, it3.ex e4⟩)
    (fun H4 e4 i σ' H' _ ⟨_, ys', o, _⟩ => ⟨SqL.of (o.ex _ _ ((e1.trans e2) _ _ rw0.at_)), (ge_ex e4).trans o.ge⟩)
    (fun H4 e4 i x σ' H' H'' hi ⟨sp, ys', o, hl', it'⟩ e5 y => ?_) (fun H4 e4 σ' H' ⟨sp, ys', o, hl', it'⟩ => ?_)
  · rw [rw0.ln] at hi
    refine g_pair y fun u v hu hv => ?_
    have s6 := ((sp.ex e5).set (i := 6) hu).set (i := 7) hv
    have o6 := o.on e5
    have fin : ∀ v H7, Ex H'' H7 → (tyVec (K := K) n (Pb.clr pl co R i)).p v H7 → ∀ σ7, Sat [some (tyE (.ref l)), some (tyInt pl), some (tyInt co), some (tyVec n (R pl)), some (tyVec n fun j => 1 / R pl co * R pl j), some (tyE (.ref p)), some (tyInt (i : Nat)), some (tyVec n (R i))] σ7 H'' →
        Sat [some (tyE (.ref l)), some (tyInt pl), some (tyInt co), some (tyVec n (R pl)), some (tyVec n fun j => 1 / R pl co * R pl j), some (tyE (.ref p)), none, none] σ7 (L2.upd H7 p (.lst (ys' ++ [v]))) ∧ ∃ ys, Own K H2 H4 p ys (L2.upd H7 p (.lst (ys' ++ [v]))) ∧ ys.length = i + 1 ∧ Its (fun i => tyVec n (Pb.clr pl co R i)) ys (L2.upd H7 p (.lst (ys' ++ [v]))) := fun v H7 e7 hv σ7 s7 => by
      have o7 := o6.on e7
      refine ⟨((s7.ex e7).st o7.geu).less (.cons (.inr rfl) (.cons (.inr rfl) (.cons (.inr rfl) (.cons (.inr rfl) (.cons (.inr rfl) (.cons (.inr rfl) (.cons (.inl rfl) (.cons (.inl rfl) .nil)))))))), _, o7.upd _, by rw [List.length_append, hl']; rfl, ?_⟩
      exact ((it'.ex (e5.trans e7)).app (by rw [hl']; exact hv)).st o7.geu
    have len : ys'.length < 100000 := by omega
    refine s_if (et_eqN (ev_var s6 rfl) (ev_var s6 rfl)) (fun z H7 e7 => ?_) (fun z H7 e7 => ?_)
    · have z : i = pl := of_decide_eq_true z
      refine s_app (o6.on e7).at_ (ev_var (s6.ex e7) rfl) (ev_var (s6.ex e7) rfl) len fun v H8 e8 zv _ => fin v H8 (e7.trans e8) (tyVec_cg zv fun j _ => ?_) _ s6
      unfold Pb.clr
      rw [if_pos z]
    · have z : i ≠ pl := of_decide_eq_false z
      refine s_if (et_z c (ev_ixV (ev_var (s6.ex e7) rfl) (ev_var (s6.ex e7) rfl) hco)) (fun z2 H8 e8 => ?_) (fun z2 H8 e8 => ?_)
      · have z2 : R i co = 0 := of_decide_eq_true z2
        have e78 := e7.trans e8
        refine s_app (o6.on e78).at_ (ev_var (s6.ex e78) rfl) (ev_var (s6.ex e78) rfl) len fun v H9 e9 zv _ => fin v H9 (e78.trans e9) (tyVec_cg zv fun j _ => ?_) _ s6
        unfold Pb.clr
        rw [if_neg z, z2]
        grind
      · have e78 := e7.trans e8
        have s8 := s6.ex e78
        refine s_app (o6.on e78).at_ (ev_var s8 rfl) (ev_minus (ev_var s8 rfl) (ev_scale (ev_ixV (ev_var s8 rfl) (ev_var s8 rfl) hco) (ev_var s8 rfl) (z1 _ _ hi hco) ⟨n16, z3⟩) ⟨n16, fun j hj => z1 _ _ hi hj⟩ ⟨n16, fun j hj => z4 _ _ hi hj⟩) len fun v H9 e9 zv _ => fin v H9 (e78.trans e9) (tyVec_cg zv fun j _ => ?_) _ s6
        unfold Pb.clr
        rw [if_neg z]
  · refine s_ret (ev_var sp rfl) fun v H5 e5 z => k v H5 ((e1.trans e2).trans (o.ex.trans e5)) ⟨p, ys', z, ?_, (e5 _ _ o.at_), by rw [hl', rw0.ln], it'.ex e5⟩
    exact Evl.fresh_back (e1.trans e2) o.fr
def sReduced (K : PySem.W.Frag) : Spc K := ⟨Nat × Nat × Nat × (Nat → Nat → Rat), fun x => [tyMat x.1 x.2.1 x.2.2.2, tyInt x.2.1],
  fun x => x.1 < 16 ∧ x.2.1 < 16 ∧ Ht x.2.2.1 (entM x.1 x.2.1 x.2.2.2) ∧ ∃ m, (x.1 ≤ m ∨ x.2.1 ≤ m) ∧ 4 * (2 ^ m * (x.2.2.1 + 1)) + 8 ≤ LIM,
  fun x => tyEx fun (y : Nat × (Nat → Nat) × (Nat → Nat → Rat)) => tyAnd (Pb.RedB x.1 x.2.1 x.2.2.1 x.2.2.2 y.1 y.2.1 y.2.2) (tyTup [tyMat y.1 x.2.1 y.2.2, tySeq y.1 fun t => tyInt (y.2.1 t : Nat)])⟩
/-- the state of reduced -/
structure RedSt (K : PySem.W.Frag) (H0 H2 : Hp) (h n b : Nat) (M : Nat → Nat → Rat) (c : Nat) (l q : Addr) (xs ys : List V) (k : Nat) (p : Nat → Nat) (R : Nat → Nat → Rat) (b' : Nat) (H' : Hp) : Prop where
  own : Own K H0 H2 q ys H'
  ln : ys.length = k
  piv : Its (K := K) (fun t => tyInt (p t : Nat)) ys H'
  fr : H0 l = none
  ne : l ≠ q
  rows : Rows K l xs h n R H'
  ech : Pb.Ech h n M R c k p
  bits : b' + 1 ≤ 2 ^ k * (b + 1)
  ht : Ht b' (entM h n R)
theorem ech_kc {h n c k : Nat} {M R : Nat → Nat → Rat} {p : Nat → Nat} (e : Pb.Ech h n M R c k p) : k ≤ c := Pb.asc_le (fun t ht => e.pc t ht) e.asc
theorem pow_le {k m b : Nat} (h : k ≤ m) : 2 ^ k * (b + 1) ≤ 2 ^ m * (b + 1) := Nat.mul_le_mul_right _ (Nat.pow_le_pow_right (by decide) h)
theorem Rows.swap {l : Addr} {xs : List V} {h n i j : Nat} {R : Nat → Nat → Rat} {H H1 : Hp} {x y : V} (r : Rows K l xs h n R H) (hx : xs[i]? = some x) (hy : xs[j]? = some y) (e : Ex H H1) : Rows K l ((xs.set i y).set j x) h n (Pb.swp i j R) (L2.upd H1 l (.lst ((xs.set i y).set j x))) := by
  refine ⟨upd_same, by simp [r.ln], ?_⟩
  refine Its.st (ge_lst (e _ _ r.at_)) fun t z hz => ?_
  have it := r.its.ex e
  rw [List.getElem?_set] at hz
  show (tyVec n (Pb.swp i j R t)).p z H1
  unfold Pb.swp
  split at hz
  · rename_i q
    subst q
    have lj : j < xs.length := (List.getElem?_eq_some_iff.mp hy).1
    rw [if_pos (by rw [List.length_set]; exact lj)] at hz
    cases hz
    split
    · rename_i q2
      subst q2
      exact it _ _ hx
    · rw [if_pos rfl]
      exact it _ _ hx
  · rename_i q
    rw [List.getElem?_set] at hz
    split at hz
    · rename_i q2
      subst q2
      have li : i < xs.length := (List.getElem?_eq_some_iff.mp hx).1
      rw [if_pos li] at hz
      cases hz
      rw [if_pos rfl]
      exact it _ _ hy
    · rename_i q2
      rw [if_neg (fun z => q2 z.symm), if_neg (fun z => q z.symm)]
      exact it _ _ hz
theorem sc_f_reduced : FnScope ["matrix", "width", "rows", "pivots", "column", "place", "found"] ["matrix", "width"] (defScope sf_reduced) := ⟨rfl, rfl, rfl, by decide +kernel, rfl, by decide +kernel, by decide +kernel⟩
theorem ok_reduced (c : Cxt P K mg base) : Ok P w K mg base df_reduced 39 ["matrix", "width"] (sReduced K).sp := by
  have nd := (sc_f_reduced).nd
  refine okS c.Ff_reduced sc_f_reduced (sReduced K) (fun _ => rfl) fun cdv A outer s0 H E hr => ⟨_, PSs.nox ((pss_cons (ps_set (i := 2) nd rfl (by first | exact Or.inl rfl | exact Or.inr rfl) (pe_callTy (call_listK K) (by rfl) c.z_list (by decide +kernel) (pa_cons (pv 0) pa_nil)))
      (pss_cons (ps_set (i := 3) nd rfl (by first | exact Or.inl rfl | exact Or.inr rfl) (pe_lst pa_nil))
      (pss_cons (ps_for PassesOwn.never rfl (pi_range1 rfl c.z_range (pa_cons (pv 1) pa_nil)) (pg_name (i := 4) nd rfl (by first | exact Or.inl rfl | exact Or.inr rfl)) (pss_cons (ps_set (i := 5) nd rfl (by first | exact Or.inl rfl | exact Or.inr rfl) (pe_callB (call_lenK K) (by rfl) c.z_len PySem.boot_len (pa_cons (pv 3) pa_nil)))
      (pss_cons (ps_set (i := 6) nd rfl (by first | exact Or.inl rfl | exact Or.inr rfl) (pe_call (ok_pivot_row c) (by exact hr.mono (by decide)) rfl c.g_pivot_row c.Ff_pivot_row.kp c.bf_pivot_row .nil pass0 (pa_cons (pv 2) (pa_cons (pv 5) (pa_cons (pv 4) pa_nil)))))
      (pss_one (ps_if (pt_cmpR op_notN (pv 6) pe_non (nomark _)) (pss_cons (ps_asg (pe_tup (pa_cons (pe_ix (ix_listK K) (pv 2) (pv 6) (fun _ _ => rfl)) (pa_cons (pe_ix (ix_listK K) (pv 2) (pv 5) (fun _ _ => rfl)) pa_nil))) (pg_tupK K rfl (pgs_cons (pg_sub (pv 2) (pv 5) set_list) (pgs_cons (pg_sub (pv 2) (pv 6) set_list) pgs_nil))))
      (pss_cons (ps_set (i := 2) nd rfl (by first | exact Or.inl rfl | exact Or.inr rfl) (pe_call (ok_cleared c) (by exact hr.mono (by decide)) rfl c.g_cleared c.Ff_cleared.kp c.bf_cleared .nil pass0 (pa_cons (pv 2) (pa_cons (pv 5) (pa_cons (pv 4) pa_nil)))))
      (pss_one (ps_expr (pe_bmK K PySem.F.plainAttrs_list PySem.F.slot_list_append PySem.F.type_list_append mt_append (pv 3) (pa_cons (pv 4) pa_nil)))))) pss_nil)))))
      (pss_one (ps_ret (pe_tup (pa_cons (pe_callTy (call_tupleK K) (by rfl) c.z_tuple (by decide +kernel) (pa_cons (pe_slice (sl_listK K) (pv 2) po_none (po_some (pe_callB (call_lenK K) (by rfl) c.z_len PySem.boot_len (pa_cons (pv 3) pa_nil)))) pa_nil)) (pa_cons (pe_callTy (call_tupleK K) (by rfl) c.z_tuple (by decide +kernel) (pa_cons (pv 3) pa_nil)) pa_nil))))))))), fun x Q σ hx hs k => ?_⟩
  have kk := k
  obtain ⟨h, n, b, M⟩ := x
  obtain ⟨h16, n16, hb, m, hm, hl⟩ : h < 16 ∧ n < 16 ∧ Ht b (entM h n M) ∧ ∃ m, (h ≤ m ∨ n ≤ m) ∧ 4 * (2 ^ m * (b + 1)) + 8 ≤ LIM := hx
  have hs : Sat [some (tyMat h n M), some (tyInt n), none, none, none, none, none] σ H := hs
  refine q_asgL hs (el_listT (ev_var hs rfl)) fun l xs σ1 H1 hp1 e1 h1 l1 it1 s1 => ?_
  refine q_asgL s1 (el_nil (T := fun t => tyInt ((0 : Nat) : Nat))) fun q ys σ2 H2 hq2 e2 h2 l2 it2 s2 => ?_
  have ys0 : ys = [] := List.length_eq_zero_iff.mp l2
  subst ys0
  refine q_for (ei_rangeN (m := n) (ea_cons (ev_var s2 rfl) ea_nil) (by omega))
    (fun H4 c σ' H' => ∃ l q xs ys k p R b', Sat [some (tyMat h n M), some (tyInt n), some (tyE (.ref l)), some (tyE (.ref q)), none, none, none] σ' H' ∧ RedSt K H H4 h n b M c l q xs ys k p R b' H')
    (fun H4 e4 => ⟨l, q, xs, [], 0, fun _ => 0, M, b, s2.ex e4, ⟨Evl.fresh_back e1 hq2, e1.trans (e2.trans e4), Ge.refl _, e4 _ _ h2⟩, rfl, Its.nil, hp1, (fun z => by rw [z] at h1; rw [hq2] at h1; cases h1), ⟨e4 _ _ (e2 _ _ h1), l1, it1.ex (e2.trans e4)⟩, Pb.Ech.start _ _ _ _, by omega, hb⟩)
    (fun _ _ _ _ _ _ _ => trivial) (fun H4 e4 c x σ' H' H'' hc ⟨l, q, xs, ys, k, p, R, b', sp, st⟩ e5 y => ?_) (fun H4 e4 σ' H' ⟨l, q, xs, ys, k, p, R, b', sp, st⟩ => ?_)
  · have s5 := (sp.ex e5).set (i := 4) y
    have o5 := st.own.on e5
    have r5 := st.rows.ex e5
    have kc := ech_kc st.ech
    have kh := st.ech.kh
    have eL := ev_lenL (K := K) o5.at_ (ev_var (i := 3) s5 rfl)
    rw [st.ln] at eL
    refine q_asg s5 eL fun σ6 H6 e6 s6 => ?_
    have o6 := o5.on e6
    have r6 := r5.ex e6
    refine q_asg (T := tyEx fun (o : Option Nat) => match o with
        | some f => tyAnd (k ≤ f ∧ f < h ∧ R f c ≠ 0) (tyInt (f : Nat))
        | none => tyAnd (∀ i, k ≤ i → i < h → R i c = 0) (tyE .non)) s6
      (ev_callH (s := sPivot K) (⟨l, xs, h, n, R⟩, k, c) (fun Hx ex => ⟨r6.ex ex, h16, by show k < 16; omega, hc⟩) (ea_cons (ev_var s6 rfl) (ea_cons (ev_var s6 rfl) (ea_cons (ev_var s6 rfl) ea_nil))) fun Hx v Hy _ _ po => ?_) fun σ7 H7 e7 s7 => ?_
    · rcases po with ⟨f, f1, f2, f3, rfl⟩ | ⟨z, rfl⟩
      · exact ⟨some f, ⟨f1, f2, f3⟩, rfl⟩
      · exact ⟨none, z, rfl⟩
    have o7 := o6.on e7
    have r7 := r6.ex e7
    have e57 := e5.trans (e6.trans e7)
    obtain ⟨v6, g6, t6⟩ := s7.get (i := 6) rfl
    obtain ⟨o, to⟩ := t6
    have keep : RedSt K H H4 h n b M c l q xs ys k p R b' H7 := ⟨o7, st.ln, st.piv.ex e57, st.fr, st.ne, r7, st.ech, st.bits, st.ht⟩
    have less : ∀ {A1 A2 A3 A4 A5 A6 A7 : Ty K} {σ8 H8}, Sat [some A1, some A2, some A3, some A4, some A5, some A6, some A7] σ8 H8 → Sat [some A1, some A2, some A3, some A4, none, none, none] σ8 H8 := fun z =>
      z.less (.cons (.inr rfl) (.cons (.inr rfl) (.cons (.inr rfl) (.cons (.inr rfl) (.cons (.inl rfl) (.cons (.inl rfl) (.cons (.inl rfl) .nil)))))))
    cases o with
    | none =>
      obtain ⟨hz, hv⟩ := to
      have s8 : Sat [some (tyMat h n M), some (tyInt n), some (tyE (.ref l)), some (tyE (.ref q)), some (tyInt c), some (tyInt k), some (tyE .non)] σ7 H7 := s7.as g6 hv
      refine s_if (b := false) (et_notN (ev_var s8 rfl) (by decide)) (fun z => by cases z) fun _ H8 e8 => ?_
      exact ⟨l, q, xs, ys, k, p, R, b', less (s8.ex e8), (keep.own.on e8), keep.ln, keep.piv.ex e8, keep.fr, keep.ne, keep.rows.ex e8, keep.ech.skip hz, keep.bits, keep.ht⟩
    | some f =>
      obtain ⟨⟨f1, f2, f3⟩, hv⟩ := to
      have s8 : Sat [some (tyMat h n M), some (tyInt n), some (tyE (.ref l)), some (tyE (.ref q)), some (tyInt c), some (tyInt k), some (tyInt f)] σ7 H7 := s7.as g6 hv
      refine s_if (b := true) (et_notN (ev_var s8 rfl) (by simp)) (fun _ H8 e8 => ?_) (fun z => by cases z)
      have s9 := s8.ex e8
      have o9 := o7.on e8
      have r9 := r7.ex e8
      obtain ⟨_, g2, rfl⟩ := s9.get (i := 2) rfl
      obtain ⟨_, g5, rfl⟩ := s9.get (i := 5) rfl
      obtain ⟨_, g6, rfl⟩ := s9.get (i := 6) rfl
      have hk : k < xs.length := by rw [r9.ln]; omega
      have hf : f < xs.length := by rw [r9.ln]; omega
      refine q_swap r9.at_ g2 g5 g6 (List.getElem?_eq_getElem hk) (List.getElem?_eq_getElem hf) fun H10 e10 => ?_
      have rA := r9.swap (List.getElem?_eq_getElem hk) (List.getElem?_eq_getElem hf) e10
      have hl9 := (e10 _ _ r9.at_)
      have sA := (s9.ex e10).st (ge_lst (o' := .lst ((xs.set k xs[f]).set f xs[k])) hl9)
      have oA : Own K H H4 q ys (L2.upd H10 l (.lst ((xs.set k xs[f]).set f xs[k]))) := ⟨o9.fr, Ex.mut (o9.ex.trans e10) st.fr, (o9.ge.trans (ge_ex e10)).trans (ge_lst hl9), by rw [upd_ne (fun z => st.ne z.symm)]; exact e10 _ _ o9.at_⟩
      have echA := st.ech.swap f1 f2
      have htA : Ht b' (entM h n (Pb.swp k f R)) := Ht.swp (by omega) f2 st.ht
      have nz : Pb.swp k f R k c ≠ 0 := by unfold Pb.swp; rw [if_pos rfl]; exact f3
      have kh' : k < h := by omega
      have bl : 4 * b' + 4 ≤ LIM := by
        have a1 := st.bits
        have a2 : 2 ^ k * (b + 1) ≤ 2 ^ m * (b + 1) := pow_le (by omega)
        omega
      refine q_asgL sA (el_callH (s := sCleared K) (n := h) (T := fun i => tyVec n (Pb.clr k c (Pb.swp k f R) i)) (⟨l, _, h, n, Pb.swp k f R⟩, k, c, b') (fun Hx ex => ⟨rA.ex ex, h16, n16, kh', hc, nz, htA, bl⟩) (ea_cons (ev_var sA rfl) (ea_cons (ev_var sA rfl) (ea_cons (ev_var sA rfl) ea_nil)))
        fun Hx v Hy _ _ ⟨p', zs, e1, e2, e3⟩ => ⟨p', zs, e1, e2, e3.at_, e3.ln, e3.its⟩) fun l' zs σB HB hpB eB hB lB itB sB => ?_
      have oB := oA.on eB
      have hn : l' ≠ q := fun z => by rw [z, oA.at_] at hpB; cases hpB
      have fr' : H l' = none := by
        cases hq : H l' with
        | none => rfl
        | some o => rw [oA.ex _ _ hq] at hpB; cases hpB
      refine s_app oB.at_ (ev_var sB rfl) (ev_var sB rfl) (by have := st.ln; omega) fun v HC eC zv _ => ?_
      have oC := oB.on eC
      have eA : Ge K H'' (L2.upd H10 l (.lst ((xs.set k xs[f]).set f xs[k]))) := (ge_ex ((e6.trans (e7.trans (e8.trans e10))))).trans (ge_lst hl9)
      have pv : Its (K := K) (fun t => tyInt ((if t = k then c else p t : Nat) : Nat)) (ys ++ [v]) (L2.upd HC q (.lst (ys ++ [v]))) := by
        refine Its.st oC.geu (Its.app (fun t x hx => ?_) ?_)
        · have lt : t < k := by rw [← st.ln]; exact (List.getElem?_eq_some_iff.mp hx).1
          have q0 := ((st.piv.ex e5).st (eA.trans (ge_ex (eB.trans eC)))) t x hx
          show x = .int ((if t = k then c else p t : Nat) : Nat)
          rw [if_neg (by omega)]
          exact q0
        · show v = _
          rw [st.ln, if_pos rfl]
          exact zv
      refine ⟨l', q, zs, ys ++ [v], k + 1, (fun t => if t = k then c else p t), Pb.clr k c (Pb.swp k f R), 2 * b' + 1, (less (sB.ex eC)).st oC.geu, ⟨oC.upd _, by rw [List.length_append, st.ln]; rfl, pv, fr', hn, ⟨?_, lB, (itB.ex eC).st oC.geu⟩, echA.clear kh' nz, ?_, Ht.clr kh' hc nz htA⟩⟩
      · rw [upd_ne hn]
        exact eC _ _ hB
      · have := st.bits
        rw [Nat.pow_succ, Nat.mul_right_comm]
        omega
  · have eq_ := ev_var (i := 3) sp rfl
    have kh := st.ech.kh
    have eL := ev_lenL (K := K) st.own.at_ (ev_var (i := 3) sp rfl)
    rw [st.ln] at eL
    refine s_ret (ev_pair (ev_tuple (el_take (T := fun i => tyVec n (R i)) st.rows.at_ st.rows.its (ev_var sp rfl) eL (by rw [st.rows.ln]; exact kh))) (ev_tupL st.own.at_ st.piv (ev_var sp rfl))) fun v H5 e5 z => kk v H5 (st.own.ex.trans e5) ⟨(_, p, R), Pb.Ech.redB st.ech st.bits st.ht, by rw [st.ln] at z; exact z⟩
theorem ev_reduced {σ : L2.St} {H : Hp} {ta tb : TE} {h n b m : Nat} {M : Nat → Nat → Rat} (ha : EvP (K := K) ta σ H (tyMat h n M)) (hb : EvP (K := K) tb σ H (tyInt n)) (h16 : h < 16) (n16 : n < 16) (ht : Ht b (entM h n M)) (hm : h ≤ m ∨ n ≤ m) (hl : 4 * (2 ^ m * (b + 1)) + 8 ≤ LIM) :
    EvP (K := K) (tCall (sReduced K).sp [] E0 (tCons ta (tCons tb tNil))) σ H (tyEx fun (y : Nat × (Nat → Nat) × (Nat → Nat → Rat)) => tyAnd (Pb.RedB h n b M y.1 y.2.1 y.2.2) (tyTup [tyMat y.1 n y.2.2, tySeq y.1 fun t => tyInt (y.2.1 t : Nat)])) :=
  ev_call (s := sReduced K) (h, n, b, M) ⟨h16, n16, ht, m, hm, hl⟩ (ea_cons ha (ea_cons hb ea_nil))
/-- a vector of any numbers -/
abbrev tyAny (K : PySem.W.Frag) : Ty K := tyEx fun (q : Rat) => tyRat q
def sKernel (K : PySem.W.Frag) : Sph K := ⟨Nat × Nat × Nat × (Nat → Nat → Rat), fun x => [tyMat x.1 x.2.1 x.2.2.2, tyInt x.2.1],
  fun x _ => x.1 < 16 ∧ x.2.1 < 16 ∧ Ht x.2.2.1 (entM x.1 x.2.1 x.2.2.2) ∧ ∃ m, (x.1 ≤ m ∨ x.2.1 ≤ m) ∧ 4 * (2 ^ m * (x.2.2.1 + 1)) + 8 ≤ LIM,
  fun x _ v H' => ∃ p ys, v = .ref p ∧ H' p = some (.lst ys) ∧ (ys = [] → ∃ k p F, Pb.RedB x.1 x.2.1 x.2.2.1 x.2.2.2 k p F ∧ ∀ j, j < x.2.1 → ∃ t, t < k ∧ p t = j)⟩
theorem sc_f_kernel : FnScope ["matrix", "width", "rows", "pivots", "found", "free", "vector", "_", "index", "column"] ["matrix", "width"] (defScope sf_kernel) := ⟨rfl, rfl, rfl, by decide +kernel, rfl, by decide +kernel, by decide +kernel⟩
theorem ok_kernel (c : Cxt P K mg base) : Ok P w K mg base df_kernel 40 ["matrix", "width"] (sKernel K).sp := by
  obtain ⟨ds1, vds, b1⟩ := bRI1 c
  have nd := (sc_f_kernel).nd
  refine okH c.Ff_kernel sc_f_kernel (sKernel K) (fun _ => rfl) fun cdv A outer s0 H E hr => ⟨_, PSs.nox ((pss_cons (ps_asg (pe_call (ok_reduced c) (by exact hr.mono (by decide)) rfl c.g_reduced c.Ff_reduced.kp c.bf_reduced .nil pass0 (pa_cons (pv 0) (pa_cons (pv 1) pa_nil))) (pg_tupK K rfl (pgs_cons (pg_name (i := 2) nd rfl (by first | exact Or.inl rfl | exact Or.inr rfl)) (pgs_cons (pg_name (i := 3) nd rfl (by first | exact Or.inl rfl | exact Or.inr rfl)) pgs_nil))))
      (pss_cons (ps_set (i := 4) nd rfl (by first | exact Or.inl rfl | exact Or.inr rfl) (pe_lst pa_nil))
      (pss_cons (ps_for PassesOwn.never rfl (pi_range1 rfl c.z_range (pa_cons (pv 1) pa_nil)) (pg_name (i := 5) nd rfl (by first | exact Or.inl rfl | exact Or.inr rfl)) (pss_cons (ps_if (pt_cmpR (op_inK K) (pv 5) (pv 3) (by rfl)) (pss_one ps_continue) pss_nil)
      (pss_cons (ps_setLc (i := 6) (own := [("_", 7)]) (g := gName 7) (tt := tYes) rfl nd rfl rfl (sw_true rfl rfl rfl (by decide +kernel)) (pi_range1 rfl c.z_range (pa_cons (pv 1) pa_nil)) (blkOk_by rfl) (fun _ _ _ _ _ => (pg_name (i := 7) nd rfl (by first | exact Or.inl rfl | exact Or.inr rfl))) (fun _ _ _ _ _ => pts_nil) (fun _ _ _ _ _ => (pe_make c.k_Ratio (ok_RInit c) (by exact hr.mono (by decide)) rfl c.g_Ratio b1 vds pass0 (pa_cons pe_int pa_nil))))
      (pss_cons (ps_asg (pe_make c.k_Ratio (ok_RInit c) (by exact hr.mono (by decide)) rfl c.g_Ratio b1 vds pass0 (pa_cons pe_int pa_nil)) (pg_sub (pv 6) (pv 5) set_list))
      (pss_cons (ps_for PassesOwn.never rfl (pi_enumT K (by rfl) c.z_enumerate (pa_cons (pv 3) pa_nil)) (pg_tupK K rfl (pgs_cons (pg_name (i := 8) nd rfl (by first | exact Or.inl rfl | exact Or.inr rfl)) (pgs_cons (pg_name (i := 9) nd rfl (by first | exact Or.inl rfl | exact Or.inr rfl)) pgs_nil))) (pss_one (ps_asg (pe_un (un_rNeg c (by exact hr.mono (by decide))) (pe_ix (ix_tupK K) (pe_ix (ix_tupK K) (pv 2) (pv 8) (fun _ _ => rfl)) (pv 5) (fun _ _ => rfl))) (pg_sub (pv 6) (pv 9) set_list))))
      (pss_one (ps_expr (pe_bmK K PySem.F.plainAttrs_list PySem.F.slot_list_append PySem.F.type_list_append mt_append (pv 4) (pa_cons (pe_callTy (call_tupleK K) (by rfl) c.z_tuple (by decide +kernel) (pa_cons (pv 6) pa_nil)) pa_nil)))))))))
      (pss_one (ps_ret (pv 4))))))), fun x Q σ hx hs k => ?_⟩
  have kk := k
  obtain ⟨h, n, b, M⟩ := x
  obtain ⟨h16, n16, hb, m, hm, hl⟩ : h < 16 ∧ n < 16 ∧ Ht b (entM h n M) ∧ ∃ m, (h ≤ m ∨ n ≤ m) ∧ 4 * (2 ^ m * (b + 1)) + 8 ≤ LIM := hx
  have hs : Sat [some (tyMat h n M), some (tyInt n), none, none, none, none, none, none, none, none] σ H := hs
  refine (ev_reduced (ev_var hs rfl) (ev_var hs rfl) h16 n16 hb hm hl) H (Ex.refl _) _ fun v H1 e1 ⟨⟨k, p, F⟩, rb, tt⟩ => g_pair tt fun u u' hu hu' => ?_
  have kn : k ≤ n := Pb.asc_le rb.red.lt rb.red.asc
  have s1 : Sat [some (tyMat h n M), some (tyInt n), some (tyMat k n F), some (tySeq k fun t => tyInt (p t : Nat)), none, none, none, none, none, none] _ H1 := ((hs.ex e1).set (i := 2) hu).set (i := 3) hu'
  refine q_asgL s1 (el_nil (T := fun _ => tyAny K)) fun q ys σ2 H2 hq2 e2 h2 l2 _ s2 => ?_
  refine q_for (ei_rangeN (m := n) (ea_cons (ev_var s2 rfl) ea_nil) (by omega))
    (fun H4 c σ' H' => ∃ ys, Sat [some (tyMat h n M), some (tyInt n), some (tyMat k n F), some (tySeq k fun t => tyInt (p t : Nat)), some (tyE (.ref q)), none, none, none, none, none] σ' H' ∧ Own K H1 H4 q ys H' ∧ ys.length ≤ c ∧ (ys = [] → ∀ j, j < c → ∃ t, t < k ∧ p t = j))
    (fun H4 e4 => ⟨ys, s2.ex e4, ⟨hq2, e2.trans e4, Ge.refl _, e4 _ _ h2⟩, by omega, fun _ j hj => by omega⟩)
    (fun _ _ _ _ _ _ _ => trivial) (fun H4 e4 c x σ' H' H'' hc ⟨ys, sp, o, hlen, hall⟩ e5 y => ?_) (fun H4 e4 σ' H' ⟨ys, sp, o, hlen, hall⟩ => ?_)
  · have s5 := (sp.ex e5).set (i := 5) y
    have o5 := o.on e5
    refine Pt.q_if (et_of (ev_inInts (ev_var s5 rfl) (ev_var s5 rfl))) (fun z H6 e6 => ?_) (fun z H6 e6 => ?_)
    · have z := of_decide_eq_true z
      refine ⟨ys, (s5.ex e6).less (.cons (.inr rfl) (.cons (.inr rfl) (.cons (.inr rfl) (.cons (.inr rfl) (.cons (.inr rfl) (.cons (.inl rfl) (.cons (.inr rfl) (.cons (.inr rfl) (.cons (.inr rfl) (.cons (.inr rfl) .nil)))))))))), o5.on e6, by omega, fun h0 j hj => ?_⟩
      by_cases q : j = c
      · rw [q]; exact z
      · exact hall h0 j (by omega)
    · have s6 := s5.ex e6
      have o6 := o5.on e6
      refine q_asgL s6 (el_lc (U := fun i => tyRat ((0 : Int) : Rat)) s6 (ei_rangeN (m := n) (ea_cons (ev_var s6 rfl) ea_nil) (by omega)) (fun H2 H3 _ e => trivial) (by omega) fun i σ' H' hi e s => ev_mk1 ev_c) fun vq vs σ7 H7 hq7 e7 h7 l7 it7 s7 => ?_
      have o7 := o6.on e7
      have nq : vq ≠ q := fun z => by rw [z, o6.at_] at hq7; cases hq7
      have it7' : Its (K := K) (fun _ => tyAny K) vs H7 := fun i x hx => ⟨_, it7 i x hx⟩
      have fr7 : H1 vq = none := by
        cases hq : H1 vq with
        | none => rfl
        | some o => rw [o6.ex _ _ hq] at hq7; cases hq7
      refine q_setI h7 (ev_mk1 ev_c) (ev_var s7 rfl) (ev_var s7 rfl) (by omega) fun v H8 e8 hv => ?_
      have own8 : Own K H1 H7 vq (vs.set c v) (L2.upd H8 vq (.lst (vs.set c v))) := ⟨fr7, Ex.mut (o7.ex.trans e8) fr7, (ge_ex e8).trans (ge_lst (e8 _ _ h7)), upd_same⟩
      have s8 := (s7.ex e8).st (ge_lst (o' := .lst (vs.set c v)) (e8 _ _ h7))
      have it8 : Its (K := K) (fun _ => tyAny K) (vs.set c v) (L2.upd H8 vq (.lst (vs.set c v))) := (Its.set (U := fun _ => tyAny K) (it7'.ex e8) ⟨_, hv⟩ fun _ _ _ _ z => z).st (ge_lst (e8 _ _ h7))
      have q8 : (L2.upd H8 vq (.lst (vs.set c v))) q = some (.lst ys) := by rw [upd_ne nq.symm]; exact e8 _ _ o7.at_
      refine q_for (ei_enumT (ea_cons (ev_var s8 rfl) ea_nil))
        (fun H9 i σ' H' => ∃ vs, Sat [some (tyMat h n M), some (tyInt n), some (tyMat k n F), some (tySeq k fun t => tyInt (p t : Nat)), some (tyE (.ref q)), some (tyInt c), some (tyE (.ref vq)), none, none, none] σ' H' ∧ Own K H1 H9 vq vs H' ∧ vs.length = n ∧ Its (fun _ => tyAny K) vs H' ∧ H' q = some (.lst ys) ∧ Ge K H4 H')
        (fun H9 e9 => ⟨vs.set c v, s8.ex e9, ⟨fr7, own8.ex.trans e9, Ge.refl _, e9 _ _ own8.at_⟩, by rw [List.length_set]; exact l7, it8.ex e9, e9 _ _ q8, (o7.ge.trans own8.ge).trans (ge_ex e9)⟩)
        (fun H9 e9 i σ' H' _ ⟨_, _, o, _⟩ => o.ge) (fun H9 e9 i x σ' H' H'' hi ⟨vs, sp, o, hl', it', hq', hg'⟩ eA y => ?_) (fun H9 e9 σ' H' ⟨vs, sp, o, hl', it', hq', hg'⟩ => ?_)
      · refine g_pair y fun a a' ha ha' => ?_
        have sA := ((sp.ex eA).set (i := 8) ha).set (i := 9) ha'
        have oA := o.on eA
        refine s_setI oA.at_ (ev_rneg (ev_ixV (ev_ixM (ev_var sA rfl) (ev_var sA rfl) hi) (ev_var sA rfl) hc)) (ev_var sA rfl) (ev_var sA rfl) (by have : p i < n := rb.red.lt i hi; omega) fun v HB eB hv => ?_
        have oB := oA.on eB
        refine ⟨vs.set (p i) v, ((sA.ex eB).st oB.geu).less (.cons (.inr rfl) (.cons (.inr rfl) (.cons (.inr rfl) (.cons (.inr rfl) (.cons (.inr rfl) (.cons (.inr rfl) (.cons (.inr rfl) (.cons (.inr rfl) (.cons (.inl rfl) (.cons (.inl rfl) .nil)))))))))), oB.upd _, by rw [List.length_set]; exact hl', (Its.set (U := fun _ => tyAny K) (it'.ex (eA.trans eB)) ⟨_, hv⟩ fun _ _ _ _ z => z).st oB.geu, by rw [upd_ne nq.symm]; exact eB _ _ (eA _ _ hq'), (hg'.trans (ge_ex (eA.trans eB))).trans oB.geu⟩
      · refine s_app hq' (ev_var sp rfl) (ev_tupL o.at_ it' (ev_var sp rfl)) (by omega) fun v HA eA zv hqA => ?_
        refine ⟨ys ++ [v], ((sp.ex eA).st (ge_lst hqA)).less (.cons (.inr rfl) (.cons (.inr rfl) (.cons (.inr rfl) (.cons (.inr rfl) (.cons (.inr rfl) (.cons (.inl rfl) (.cons (.inl rfl) (.cons (.inr rfl) (.cons (.inr rfl) (.cons (.inr rfl) .nil)))))))))), ⟨hq2, Ex.mut (o.ex.trans eA) hq2, (hg'.trans (ge_ex eA)).trans (ge_lst hqA), upd_same⟩, by rw [List.length_append]; show _ + 1 ≤ _; omega, fun h0 => by simp at h0⟩
  · exact s_ret (ev_var sp rfl) fun v H5 e5 z => kk v H5 (e1.trans (o.ex.trans e5)) ⟨q, ys, z, e5 _ _ o.at_, fun h0 => ⟨k, p, F, rb, hall h0⟩⟩
end
end Pd

/-! The defs' promises: pseudo-inverses. -/
namespace Pd
open PySem PySem.Spec PyProof.Rows L2 Evl Pt Pn
open Pb (Ht Sz entV entM)
section
variable {P : Program} {w : World} {K : PySem.W.Frag} {mg : Str → Option Value} {base : Heap}
section
variable {σ : L2.St} {H : Hp} {ta tb te : TE}
/-- the first, the second of a pair told with a fact -/
theorem ev_fst {α : Type} {C : α → Prop} {A B : α → Ty K} (h : EvP te σ H (tyEx fun y => tyAnd (C y) (tyTup [A y, B y]))) : EvP (tOp (rIxT K) te (tC (.int 0))) σ H (tyEx fun y => tyAnd (C y) (A y)) := fun H1 e Q q =>
  h H1 e _ fun v H2 e2 ⟨y, hc, a, xs, e3, h3, ty⟩ => by
    cases ty with
    | cons z zs =>
      subst e3
      exact ⟨a, _, ((0 : Nat) : Int), _, rfl, rfl, SqT.of h3, atI_nat rfl, q _ H2 e2 ⟨y, hc, z⟩⟩
theorem ev_mulN {i j : Nat} (hi : i < 2 ^ 60) (hj : j < 2 ^ 60) (ha : EvP (K := K) ta σ H (tyInt (i : Nat))) (hb : EvP (K := K) tb σ H (tyInt (j : Nat))) : EvP (K := K) (tOp (rI CMulX fun a b => V.int (a * b)) ta tb) σ H (tyInt ((i * j : Nat) : Int)) := by
  have q := ev_I (K := K) (C := CMulX) (g := fun a b => V.int (a * b)) (mulx_ok (a := 60) (b := 60) (by simpa using hi) (by simpa using hj) (by decide)) ha hb
  rw [Int.natCast_mul]
  exact q
end
def sInv (K : PySem.W.Frag) : Spc K := ⟨Nat × Nat × (Nat → Nat → Rat), fun x => [tyMat x.1 x.1 x.2.2],
  fun x => 0 < x.1 ∧ x.1 < 8 ∧ Ht x.2.1 (entM x.1 x.1 x.2.2) ∧ Pb.Inj x.1 x.2.2 ∧ 4 * (2 ^ x.1 * (x.2.1 + 1)) + 8 ≤ LIM,
  fun x => tyEx fun (X : Nat → Nat → Rat) => tyAnd (Pb.InvB x.1 x.2.1 x.2.2 X) (tyMat x.1 x.1 X)⟩
theorem sc_f_inverse_of : FnScope ["matrix", "size", "joined", "row", "unit", "rows"] ["matrix"] (defScope sf_inverse_of) := ⟨rfl, rfl, rfl, by decide +kernel, rfl, by decide +kernel, by decide +kernel⟩
theorem ok_inverse_of (c : Cxt P K mg base) : Ok P w K mg base df_inverse_of 40 ["matrix"] (sInv K).sp := by
  have nd := (sc_f_inverse_of).nd
  refine okS c.Ff_inverse_of sc_f_inverse_of (sInv K) (fun _ => rfl) fun cdv A outer s0 H E hr => ⟨_, PSs.nox ((pss_cons (ps_set (i := 1) nd rfl (by first | exact Or.inl rfl | exact Or.inr rfl) (pe_callB (call_lenK K) (by rfl) c.z_len PySem.boot_len (pa_cons (pv 0) pa_nil)))
      (pss_cons (ps_set (i := 2) nd rfl (by first | exact Or.inl rfl | exact Or.inr rfl) (pe_callTy (call_tupleK K) (by rfl) c.z_tuple (by decide +kernel) (pa_cons (pe_lc (own := [("row", 3), ("unit", 4)]) (g := gTup K 2 (gCons (gName 3) (gCons (gName 4) gNil))) (tt := tYes) rfl nd (pi_zipK K (by rfl) c.z_zip (pa_cons (pv 0) (pa_cons (pe_call (ok_identity c) (by exact hr.mono (by decide)) rfl c.g_identity c.Ff_identity.kp c.bf_identity .nil pass0 (pa_cons (pv 1) pa_nil)) pa_nil))) (blkOk_by rfl) (fun _ _ _ _ _ => (pg_tupK K rfl (pgs_cons (pg_name (i := 3) nd rfl (by first | exact Or.inl rfl | exact Or.inr rfl)) (pgs_cons (pg_name (i := 4) nd rfl (by first | exact Or.inl rfl | exact Or.inr rfl)) pgs_nil)))) (fun _ _ _ _ _ => pts_nil) (fun _ _ _ _ _ => (pe_op (op_catU K) (pv 3) (pv 4)))) pa_nil)))
      (pss_cons (ps_set (i := 5) nd rfl (by first | exact Or.inl rfl | exact Or.inr rfl) (pe_ix (ix_tupK K) (pe_call (ok_reduced c) (by exact hr.mono (by decide)) rfl c.g_reduced c.Ff_reduced.kp c.bf_reduced .nil pass0 (pa_cons (pv 2) (pa_cons (pe_op op_mulX pe_int (pv 1)) pa_nil))) pe_int (fun _ _ => rfl)))
      (pss_one (ps_ret (pe_callTy (call_tupleK K) (by rfl) c.z_tuple (by decide +kernel) (pa_cons (pe_lc (own := [("row", 3)]) (g := gName 3) (tt := tYes) rfl nd (pi_tupK K (pv 5)) (blkOk_by rfl) (fun _ _ _ _ _ => (pg_name (i := 3) nd rfl (by first | exact Or.inl rfl | exact Or.inr rfl))) (fun _ _ _ _ _ => pts_nil) (fun _ _ _ _ _ => (pe_slice (sl_tupK K) (pv 3) (po_some (pv 1)) po_none))) pa_nil)))))))), fun x Q σ hx hs k => ?_⟩
  have kk := k
  obtain ⟨n, b, M⟩ := x
  obtain ⟨n0, n8, hb, inj, hl⟩ : 0 < n ∧ n < 8 ∧ Ht b (entM n n M) ∧ Pb.Inj n M ∧ 4 * (2 ^ n * (b + 1)) + 8 ≤ LIM := hx
  have hs : Sat [some (tyMat n n M), none, none, none, none, none] σ H := hs
  refine q_asg hs (ev_lenT (ev_var hs rfl)) fun σ1 H1 e1 s1 => ?_
  refine q_asg s1 (ev_tuple (el_lc2 (by decide) (U := fun i => tyVec (n + n) (Pb.beside n M i)) s1 (ei_zip (U := fun i => tyVec n (Pb.e_ i)) (ea_cons (ev_var s1 rfl) (ea_cons (ev_ident (ev_var s1 rfl) (by omega)) ea_nil))) (fun H2 H3 _ e => ge_ex e) (by omega) fun i σ' H' hi e s =>
    ev_catV (ev_var s rfl) (ev_var s rfl) (by omega) (fun j hj => by unfold Pb.beside; rw [if_pos hj]) fun j hj => by
      unfold Pb.beside
      rw [if_neg (by omega), Nat.add_sub_cancel_left]
      unfold Pb.e_
      by_cases q : j = i
      · rw [if_pos q, if_pos q.symm]
      · rw [if_neg q, if_neg (fun z => q z.symm)])) fun σ2 H2 e2 s2 => ?_
  have e2n := ev_mulN (K := K) (i := 2) (j := n) (by decide) (by omega) (ev_c (σ := σ2) (H := H2)) (ev_var (i := 1) s2 rfl)
  rw [Nat.two_mul] at e2n
  refine (ev_fst (ev_reduced (m := n) (ev_var s2 rfl) e2n (by omega) (by omega) (Pb.Ht.beside hb) (.inl (Nat.le_refl _)) hl)) H2 (Ex.refl _) _ fun v H3 e3 ⟨⟨k, p, F⟩, rb, tv⟩ => ?_
  obtain ⟨ek, iv⟩ := rb.invB inj
  have ek : k = n := ek
  have tv : (tyMat (K := K) k (n + n) F).p v H3 := tv
  rw [ek] at tv
  have s3 : Sat _ _ H3 := (s2.ex e3).set (i := 5) tv
  refine s_ret (ev_tuple (el_lc (U := fun i => tyVec n fun j => F i (n + j)) s3 (ei_tup (ev_var s3 rfl)) (fun H2 H3 _ e => ge_ex e) (by omega) fun i σ' H' hi e s =>
    ev_drop (T := fun j => tyRat (F i j)) (ev_var s rfl) (ev_var s rfl) n0)) fun v H4 e4 z => kk v H4 ((e1.trans e2).trans (e3.trans e4)) ⟨_, iv, z⟩
def sAddTerm (K : PySem.W.Frag) : Spc K := ⟨Nat × (Nat → Nat → Rat) × (Nat → Rat) × Rat, fun x => [tyMat x.1 x.1 x.2.1, tyVec x.1 x.2.2.1, tyRat x.2.2.2],
  fun x => SzM x.1 x.1 x.2.1 ∧ SzV x.1 x.2.2.1 ∧ Sz LIM x.2.2.2 ∧ (SzM x.1 x.1 fun i j => x.2.2.1 i * x.2.2.1 j) ∧ SzM x.1 x.1 fun i j => x.2.2.2 * (x.2.2.1 i * x.2.2.1 j), fun x => tyMat x.1 x.1 (Pb.plusT x.2.1 x.2.2.1 x.2.2.2)⟩
theorem sc_f_add_term : FnScope ["matrix", "row", "weight"] ["matrix", "row", "weight"] (defScope sf_add_term) := ⟨rfl, rfl, rfl, by decide +kernel, rfl, by decide +kernel, by decide +kernel⟩
theorem ok_add_term (c : Cxt P K mg base) : Ok P w K mg base df_add_term 39 ["matrix", "row", "weight"] (sAddTerm K).sp := by
  have nd := (sc_f_add_term).nd
  refine okS c.Ff_add_term sc_f_add_term (sAddTerm K) (fun _ => rfl) fun cdv A outer s0 H E hr => ⟨_, PSs.nox ((pss_one (ps_ret (pe_call (ok_sum_of c) (by exact hr.mono (by decide)) rfl c.g_sum_of c.Ff_sum_of.kp c.bf_sum_of .nil pass0 (pa_cons (pv 0) (pa_cons (pe_call (ok_scaled c) (by exact hr.mono (by decide)) rfl c.g_scaled c.Ff_scaled.kp c.bf_scaled .nil pass0 (pa_cons (pv 2) (pa_cons (pe_call (ok_outer c) (by exact hr.mono (by decide)) rfl c.g_outer c.Ff_outer.kp c.bf_outer .nil pass0 (pa_cons (pv 1) (pa_cons (pv 1) pa_nil))) pa_nil))) pa_nil)))))), fun x Q σ hx hs k => ?_⟩
  have kk := k
  obtain ⟨n, M, a, q⟩ := x
  obtain ⟨z1, z2, z3, z4, z5⟩ := hx
  have hs : Sat [some (tyMat n n M), some (tyVec n a), some (tyRat q)] σ H := hs
  exact s_ret (ev_sum (ev_var hs rfl) (ev_scaled (ev_var hs rfl) (ev_outer (ev_var hs rfl) (ev_var hs rfl) z2 z2) z3 z4) z1 z5) k
theorem ev_inv {σ : L2.St} {H : Hp} {ta : TE} {n b : Nat} {M : Nat → Nat → Rat} (ha : EvP (K := K) ta σ H (tyMat n n M)) (n0 : 0 < n) (n8 : n < 8) (hb : Ht b (entM n n M)) (inj : Pb.Inj n M) (hl : 4 * (2 ^ n * (b + 1)) + 8 ≤ LIM) :
    EvP (K := K) (tCall (sInv K).sp [] E0 (tCons ta tNil)) σ H (tyEx fun (X : Nat → Nat → Rat) => tyAnd (Pb.InvB n b M X) (tyMat n n X)) := ev_call (s := sInv K) (n, b, M) ⟨n0, n8, hb, inj, hl⟩ (ea_cons ha ea_nil)
def sPinv (K : PySem.W.Frag) : Spc K := ⟨Nat × Nat × (Nat → Nat → Rat), fun x => [tyMat x.1 x.1 x.2.2, tyInt x.1],
  fun x => x.1 < 8 ∧ Ht x.2.1 (entM x.1 x.1 x.2.2) ∧ 4 * Pb.pinvBits x.1 x.2.1 + 8 ≤ LIM,
  fun x => tyEx fun (P : Nat → Nat → Rat) => tyAnd (Pb.Pen x.1 x.2.2 P) (tyMat x.1 x.1 P)⟩
theorem pbits {n k b : Nat} (h : k ≤ n) : 4 * (2 ^ k * (b + 1)) ≤ 4 * Pb.pinvBits n b ∧ 4 * (2 ^ k * (2 * (2 ^ k * (b + 1)) + 4 + 1)) ≤ 4 * Pb.pinvBits n b ∧ 4 * (2 ^ k * (2 * b + 4 + 1)) ≤ 4 * Pb.pinvBits n b ∧ b + 4 ≤ Pb.pinvBits n b ∧
    2 ^ k * (b + 1) + (2 ^ k * (2 * (2 ^ k * (b + 1)) + 4 + 1) + 2 ^ k * (2 * b + 4 + 1) + 4 + b + 4) + 4 ≤ Pb.pinvBits n b := by
  have m : 2 ^ k ≤ 2 ^ n := Nat.pow_le_pow_right (by decide) h
  have m1 : 2 ^ k * (b + 1) ≤ 2 ^ n * (b + 1) := Nat.mul_le_mul_right _ m
  have m2 : 2 ^ k * (2 * (2 ^ k * (b + 1)) + 4 + 1) ≤ 2 ^ n * (2 * (2 ^ n * (b + 1)) + 5) := Nat.mul_le_mul m (by omega)
  have m3 : 2 ^ k * (2 * b + 4 + 1) ≤ 2 ^ n * (2 * b + 5) := Nat.mul_le_mul_right _ m
  unfold Pb.pinvBits
  omega
theorem sc_f_pseudo_inverse : FnScope ["matrix", "width", "height", "lower", "pivots", "size", "columns", "row", "pivot", "turned", "first", "across", "second", "middle"] ["matrix", "width"] (defScope sf_pseudo_inverse) := ⟨rfl, rfl, rfl, by decide +kernel, rfl, by decide +kernel, by decide +kernel⟩
theorem ok_pseudo_inverse (c : Cxt P K mg base) : Ok P w K mg base df_pseudo_inverse 41 ["matrix", "width"] (sPinv K).sp := by
  have nd := (sc_f_pseudo_inverse).nd
  refine okS c.Ff_pseudo_inverse sc_f_pseudo_inverse (sPinv K) (fun _ => rfl) fun cdv A outer s0 H E hr => ⟨_, PSs.nox ((pss_cons (ps_set (i := 2) nd rfl (by first | exact Or.inl rfl | exact Or.inr rfl) (pe_callB (call_lenK K) (by rfl) c.z_len PySem.boot_len (pa_cons (pv 0) pa_nil)))
      (pss_cons (ps_asg (pe_call (ok_reduced c) (by exact hr.mono (by decide)) rfl c.g_reduced c.Ff_reduced.kp c.bf_reduced .nil pass0 (pa_cons (pv 0) (pa_cons (pv 1) pa_nil))) (pg_tupK K rfl (pgs_cons (pg_name (i := 3) nd rfl (by first | exact Or.inl rfl | exact Or.inr rfl)) (pgs_cons (pg_name (i := 4) nd rfl (by first | exact Or.inl rfl | exact Or.inr rfl)) pgs_nil))))
      (pss_cons (ps_set (i := 5) nd rfl (by first | exact Or.inl rfl | exact Or.inr rfl) (pe_callB (call_lenK K) (by rfl) c.z_len PySem.boot_len (pa_cons (pv 4) pa_nil)))
      (pss_cons (ps_if (pt_cmpR op_eq (pv 5) pe_int (nomark _)) (pss_one (ps_ret (pe_call (ok_zeros c) (by exact hr.mono (by decide)) rfl c.g_zeros c.Ff_zeros.kp c.bf_zeros .nil pass0 (pa_cons (pv 1) (pa_cons (pv 2) pa_nil))))) pss_nil)
      (pss_cons (ps_set (i := 6) nd rfl (by first | exact Or.inl rfl | exact Or.inr rfl) (pe_callTy (call_tupleK K) (by rfl) c.z_tuple (by decide +kernel) (pa_cons (pe_lc (own := [("row", 7)]) (g := gName 7) (tt := tYes) rfl nd (pi_tupK K (pv 0)) (blkOk_by rfl) (fun _ _ _ _ _ => (pg_name (i := 7) nd rfl (by first | exact Or.inl rfl | exact Or.inr rfl))) (fun _ _ _ _ _ => pts_nil) (fun _ _ _ _ _ => (pe_callTy (call_tupleK K) (by rfl) c.z_tuple (by decide +kernel) (pa_cons (pe_lc (own := [("pivot", 8)]) (g := gName 8) (tt := tYes) rfl nd (pi_tupK K (pv 4)) (blkOk_by rfl) (fun _ _ _ _ _ => (pg_name (i := 8) nd rfl (by first | exact Or.inl rfl | exact Or.inr rfl))) (fun _ _ _ _ _ => pts_nil) (fun _ _ _ _ _ => (pe_ix (ix_tupK K) (pv 7) (pv 8) (fun _ _ => rfl)))) pa_nil)))) pa_nil)))
      (pss_cons (ps_set (i := 9) nd rfl (by first | exact Or.inl rfl | exact Or.inr rfl) (pe_call (ok_transpose c) (by exact hr.mono (by decide)) rfl c.g_transpose c.Ff_transpose.kp c.bf_transpose .nil pass0 (pa_cons (pv 3) (pa_cons (pv 1) pa_nil))))
      (pss_cons (ps_set (i := 10) nd rfl (by first | exact Or.inl rfl | exact Or.inr rfl) (pe_call (ok_inverse_of c) (by exact hr.mono (by decide)) rfl c.g_inverse_of c.Ff_inverse_of.kp c.bf_inverse_of .nil pass0 (pa_cons (pe_call (ok_product c) (by exact hr.mono (by decide)) rfl c.g_product c.Ff_product.kp c.bf_product .nil pass0 (pa_cons (pv 3) (pa_cons (pv 9) (pa_cons (pv 5) pa_nil)))) pa_nil)))
      (pss_cons (ps_set (i := 11) nd rfl (by first | exact Or.inl rfl | exact Or.inr rfl) (pe_call (ok_transpose c) (by exact hr.mono (by decide)) rfl c.g_transpose c.Ff_transpose.kp c.bf_transpose .nil pass0 (pa_cons (pv 6) (pa_cons (pv 5) pa_nil))))
      (pss_cons (ps_set (i := 12) nd rfl (by first | exact Or.inl rfl | exact Or.inr rfl) (pe_call (ok_inverse_of c) (by exact hr.mono (by decide)) rfl c.g_inverse_of c.Ff_inverse_of.kp c.bf_inverse_of .nil pass0 (pa_cons (pe_call (ok_product c) (by exact hr.mono (by decide)) rfl c.g_product c.Ff_product.kp c.bf_product .nil pass0 (pa_cons (pv 11) (pa_cons (pv 6) (pa_cons (pv 5) pa_nil)))) pa_nil)))
      (pss_cons (ps_set (i := 13) nd rfl (by first | exact Or.inl rfl | exact Or.inr rfl) (pe_call (ok_product c) (by exact hr.mono (by decide)) rfl c.g_product c.Ff_product.kp c.bf_product .nil pass0 (pa_cons (pv 10) (pa_cons (pv 12) (pa_cons (pv 5) pa_nil)))))
      (pss_one (ps_ret (pe_call (ok_product c) (by exact hr.mono (by decide)) rfl c.g_product c.Ff_product.kp c.bf_product .nil pass0 (pa_cons (pv 9) (pa_cons (pe_call (ok_product c) (by exact hr.mono (by decide)) rfl c.g_product c.Ff_product.kp c.bf_product .nil pass0 (pa_cons (pv 13) (pa_cons (pv 11) (pa_cons (pv 2) pa_nil)))) (pa_cons (pv 2) pa_nil))))))))))))))))), fun x Q σ hx hs k => ?_⟩
  have kk := k
  obtain ⟨n, b, M⟩ := x
  obtain ⟨n8, hb, hl⟩ : n < 8 ∧ Ht b (entM n n M) ∧ 4 * Pb.pinvBits n b + 8 ≤ LIM := hx
  have hs : Sat [some (tyMat n n M), some (tyInt n), none, none, none, none, none, none, none, none, none, none, none, none] σ H := hs
  refine q_asg hs (ev_lenT (ev_var hs rfl)) fun σ1 H1 e1 s1 => ?_
  refine (ev_reduced (m := n) (ev_var s1 rfl) (ev_var s1 rfl) (by omega) (by omega) hb (.inl (Nat.le_refl _)) (by have := (pbits (n := n) (b := b) (Nat.le_refl n)).1; omega)) H1 (Ex.refl _) _ fun v H2 e2 ⟨⟨k, p, F⟩, rb, tt⟩ => g_pair tt fun u u' hu hu' => ?_
  have rb : Pb.RedB n n b M k p F := rb
  have kn : k ≤ n := rb.red.kh
  obtain ⟨b1, b2, b3, b4, b5⟩ := pbits (b := b) kn
  have s2 := ((s1.ex e2).set (i := 3) hu).set (i := 4) hu'
  refine q_asg s2 (ev_lenT (ev_var s2 rfl)) fun σ3 H3 e3 s3 => ?_
  refine Pt.q_if (et_eqN (j := 0) (ev_var s3 rfl) ev_c) (fun z H4 e4 => ?_) (fun z H4 e4 => ?_)
  · have z : k = 0 := of_decide_eq_true z
    refine s_ret (ev_zeros (ev_var (s3.ex e4) rfl) (ev_var (s3.ex e4) rfl) (by omega) (by omega)) fun v H5 e5 zv => kk v H5 ((e1.trans e2).trans ((e3.trans e4).trans e5)) ⟨fun _ _ => 0, ?_, zv⟩
    rw [z] at rb
    have q := Pb.pen_formula (X := fun _ _ => 0) (Y := fun _ _ => 0) rb.red (fun i j hi => by omega) (fun i j hi => by omega)
    exact q
  · have k0 : k ≠ 0 := of_decide_eq_false z
    have s4 := s3.ex e4
    refine q_asg s4 (ev_tuple (el_lc (U := fun i => tyVec k (Pb.pcol M p i)) s4 (ei_tup (ev_var s4 rfl)) (fun H2 H3 _ e => ge_ex e) (by omega) fun i σ' H' hi e s =>
      ev_tuple (el_lc (U := fun t => tyRat (M i (p t))) s (ei_tup (ev_var s rfl)) (fun H2 H3 _ e => ge_ex e) (by omega) fun t σ2 H2 ht e2 s2 => ev_ixV (ev_var s2 rfl) (ev_var s2 rfl) (rb.red.lt t ht)))) fun σ5 H5 e5 s5 => ?_
    refine q_asg s5 (ev_trans (ev_var s5 rfl) (ev_var s5 rfl) (by omega) (by omega)) fun σ6 H6 e6 s6 => ?_
    have hF := rb.ht
    have hg := Ht.gr (by omega) hF
    refine (ev_inv (M := Pb.gr n F) (ev_prod (ev_var s6 rfl) (ev_var s6 rfl) (ev_var s6 rfl) ⟨⟨_, _, hF, hF.tr, by omega⟩, by omega, by omega, by omega⟩) (by omega) (by omega) hg rb.red.gr_inj (by omega)) H6 (Ex.refl _) _ fun v H7 e7 ⟨X, hX, tX⟩ => ?_
    have s7 := (s6.ex e7).set (i := 10) tX
    refine q_asg s7 (ev_trans (ev_var s7 rfl) (ev_var s7 rfl) (by omega) (by omega)) fun σ8 H8 e8 s8 => ?_
    have hC := hb.cols rb.red.lt
    have hgc := Ht.gc (by omega) hC
    refine (ev_inv (M := Pb.gc n (Pb.pcol M p)) (ev_prod (ev_var s8 rfl) (ev_var s8 rfl) (ev_var s8 rfl) ⟨⟨_, _, hC.tr, hC, by omega⟩, by omega, by omega, by omega⟩) (by omega) (by omega) hgc rb.red.gc_inj (by omega)) H8 (Ex.refl _) _ fun v H9 e9 ⟨Y, hY, tY⟩ => ?_
    have s9 := (s8.ex e9).set (i := 12) tY
    have h1 := Ht.mm (k := k) (by omega) hX.ht hY.ht
    have h2 := Ht.mm (k := k) (by omega) h1 hC.tr
    refine q_asg s9 (ev_prod (ev_var s9 rfl) (ev_var s9 rfl) (ev_var s9 rfl) ⟨⟨_, _, hX.ht, hY.ht, by omega⟩, by omega, by omega, by omega⟩) fun σA HA eA sA => ?_
    refine s_ret (ev_prod (ev_var sA rfl) (ev_prod (ev_var sA rfl) (ev_var sA rfl) (ev_var sA rfl) ⟨⟨_, _, h1, hC.tr, by omega⟩, by omega, by omega, by omega⟩) (ev_var sA rfl) ⟨⟨_, _, hF.tr, h2, by omega⟩, by omega, by omega, by omega⟩) fun v HB eB zv =>
      kk v HB ((e1.trans e2).trans ((e3.trans e4).trans ((e5.trans e6).trans ((e7.trans e8).trans ((e9.trans eA).trans eB))))) ⟨_, Pb.pen_formula rb.red hX.inv hY.inv, zv⟩
theorem Sz.mul {b c : Nat} {p q : Rat} (hp : Sz b p) (hq : Sz c q) : Sz (b + c) (p * q) := (hp.ht.mul hq.ht (Z := fun x => p * q = x) fun _ e => ⟨_, _, rfl, rfl, e⟩).sz rfl
theorem Sz.add {b c : Nat} {p q : Rat} (hp : Sz b p) (hq : Sz c q) : Sz (b + c + 1) (p + q) := (hp.ht.add hq.ht (Z := fun x => p + q = x) fun _ e => ⟨_, _, rfl, rfl, e⟩).sz rfl
theorem Sz.neg {b : Nat} {p : Rat} (hp : Sz b p) : Sz b (-p) := (hp.ht.neg (Z := fun x => x = -p) fun _ e => by rw [e]; exact Rat.neg_neg p).sz rfl
theorem ev_m1 {σ : L2.St} {H : Hp} : EvP (K := K) (tUn (rU fun i => V.int (-i)) (tC (V.int 1))) σ H (tyInt (-1)) := ev_flat (Evl.ev_un (flat_ev (K := K) ev_c) ru_neg)
theorem sz1 (i : Int) (h : i.natAbs < 2) : Sz 1 (i : Rat) := by
  have e : ((i : Rat)).num = i := by simp
  have e2 : ((i : Rat)).den = 1 := by simp
  exact ⟨by rw [e]; exact h, by rw [e2]; decide⟩
theorem Sz.one : Sz 1 (1 : Rat) := ⟨by decide, by decide⟩
theorem Sz.div {b c : Nat} {p q : Rat} (hp : Sz b p) (h : q ≠ 0) (hq : Sz c q) : Sz (b + c) (p / q) := by
  have e : p / q = p * (1 / q) := by grind
  rw [e]
  exact Sz.mul hp (Sz.inv h hq)
/-- what with_added is handed: sizes b of the matrix, r of the row and of the weight, B of the pseudo-inverse -/
structure HAdd (n b r B : Nat) (M P : Nat → Nat → Rat) (a : Nat → Rat) (q : Rat) : Prop where
  ln : n < 16
  hM : Ht b (entM n n M)
  ha : Ht r (entV n a)
  hP : Ht B (entM n n P)
  hq : Sz r q
  pos : 0 < q
  pen : Pb.Pen n M P
  sym : Pb.Sym n M
  psd : ∀ x, 0 ≤ Pb.dot n x (Pb.mv n M x)
  lim : 10 * B + 40 * (b + r) + 1000 ≤ LIM
def sWith (K : PySem.W.Frag) : Spc K := ⟨Nat × Nat × Nat × Nat × (Nat → Nat → Rat) × (Nat → Nat → Rat) × (Nat → Rat) × Rat, fun x => [tyMat x.1 x.1 x.2.2.2.2.1, tyMat x.1 x.1 x.2.2.2.2.2.1, tyVec x.1 x.2.2.2.2.2.2.1, tyRat x.2.2.2.2.2.2.2],
  fun x => HAdd x.1 x.2.1 x.2.2.1 x.2.2.2.1 x.2.2.2.2.1 x.2.2.2.2.2.1 x.2.2.2.2.2.2.1 x.2.2.2.2.2.2.2, fun x => tyEx fun (R : Nat → Nat → Rat) => tyAnd (Pb.Pen x.1 (Pb.plusT x.2.2.2.2.1 x.2.2.2.2.2.2.1 x.2.2.2.2.2.2.2) R) (tyMat x.1 x.1 R)⟩
theorem sc_f_with_added : FnScope ["matrix", "inverse", "row", "weight", "image", "rest", "share", "factor", "way", "found"] ["matrix", "inverse", "row", "weight"] (defScope sf_with_added) := ⟨rfl, rfl, rfl, by decide +kernel, rfl, by decide +kernel, by decide +kernel⟩
theorem ok_with_added (c : Cxt P K mg base) : Ok P w K mg base df_with_added 39 ["matrix", "inverse", "row", "weight"] (sWith K).sp := by
  obtain ⟨ds1, vds, b1⟩ := bRI1 c
  have nd := (sc_f_with_added).nd
  refine okS c.Ff_with_added sc_f_with_added (sWith K) (fun _ => rfl) fun cdv A outer s0 H E hr => ⟨_, PSs.nox ((pss_cons (ps_set (i := 4) nd rfl (by first | exact Or.inl rfl | exact Or.inr rfl) (pe_call (ok_apply c) (by exact hr.mono (by decide)) rfl c.g_apply c.Ff_apply.kp c.bf_apply .nil pass0 (pa_cons (pv 1) (pa_cons (pv 2) pa_nil))))
      (pss_cons (ps_set (i := 5) nd rfl (by first | exact Or.inl rfl | exact Or.inr rfl) (pe_call (ok_minus c) (by exact hr.mono (by decide)) rfl c.g_minus c.Ff_minus.kp c.bf_minus .nil pass0 (pa_cons (pv 2) (pa_cons (pe_call (ok_apply c) (by exact hr.mono (by decide)) rfl c.g_apply c.Ff_apply.kp c.bf_apply .nil pass0 (pa_cons (pv 0) (pa_cons (pv 4) pa_nil))) pa_nil))))
      (pss_cons (ps_set (i := 6) nd rfl (by first | exact Or.inl rfl | exact Or.inr rfl) (pe_call (ok_dot c) (by exact hr.mono (by decide)) rfl c.g_dot c.Ff_dot.kp c.bf_dot .nil pass0 (pa_cons (pv 2) (pa_cons (pv 4) pa_nil))))
      (pss_cons (ps_if (pt_val (pe_call (ok_is_zero c) (by exact hr.mono (by decide)) rfl c.g_is_zero c.Ff_is_zero.kp c.bf_is_zero .nil pass0 (pa_cons (pv 5) pa_nil))) (pss_cons (ps_set (i := 7) nd rfl (by first | exact Or.inl rfl | exact Or.inr rfl) (pe_meth (pv 3) c.c_Ratio c.m_Ratio_over (ok_over c) (by exact hr.mono (by decide)) c.bm_Ratio_over .nil pass0 (pa_cons (pe_op (op_rAdd c (by exact hr.mono (by decide))) (pe_make c.k_Ratio (ok_RInit c) (by exact hr.mono (by decide)) rfl c.g_Ratio b1 vds pass0 (pa_cons pe_int pa_nil)) (pe_op (op_rMul c (by exact hr.mono (by decide))) (pv 3) (pv 6))) pa_nil)))
      (pss_one (ps_ret (pe_call (ok_sum_of c) (by exact hr.mono (by decide)) rfl c.g_sum_of c.Ff_sum_of.kp c.bf_sum_of .nil pass0 (pa_cons (pv 1) (pa_cons (pe_call (ok_scaled c) (by exact hr.mono (by decide)) rfl c.g_scaled c.Ff_scaled.kp c.bf_scaled .nil pass0 (pa_cons (pe_un (un_rNeg c (by exact hr.mono (by decide))) (pv 7)) (pa_cons (pe_call (ok_outer c) (by exact hr.mono (by decide)) rfl c.g_outer c.Ff_outer.kp c.bf_outer .nil pass0 (pa_cons (pv 4) (pa_cons (pv 4) pa_nil))) pa_nil))) pa_nil)))))) pss_nil)
      (pss_cons (ps_set (i := 8) nd rfl (by first | exact Or.inl rfl | exact Or.inr rfl) (pe_call (ok_scale c) (by exact hr.mono (by decide)) rfl c.g_scale c.Ff_scale.kp c.bf_scale .nil pass0 (pa_cons (pe_meth (pe_make c.k_Ratio (ok_RInit c) (by exact hr.mono (by decide)) rfl c.g_Ratio b1 vds pass0 (pa_cons pe_int pa_nil)) c.c_Ratio c.m_Ratio_over (ok_over c) (by exact hr.mono (by decide)) c.bm_Ratio_over .nil pass0 (pa_cons (pe_call (ok_dot c) (by exact hr.mono (by decide)) rfl c.g_dot c.Ff_dot.kp c.bf_dot .nil pass0 (pa_cons (pv 5) (pa_cons (pv 5) pa_nil))) pa_nil)) (pa_cons (pv 5) pa_nil))))
      (pss_cons (ps_set (i := 9) nd rfl (by first | exact Or.inl rfl | exact Or.inr rfl) (pe_call (ok_sum_of c) (by exact hr.mono (by decide)) rfl c.g_sum_of c.Ff_sum_of.kp c.bf_sum_of .nil pass0 (pa_cons (pv 1) (pa_cons (pe_call (ok_scaled c) (by exact hr.mono (by decide)) rfl c.g_scaled c.Ff_scaled.kp c.bf_scaled .nil pass0 (pa_cons (pe_make c.k_Ratio (ok_RInit c) (by exact hr.mono (by decide)) rfl c.g_Ratio b1 vds pass0 (pa_cons (pe_un un_neg pe_int) pa_nil)) (pa_cons (pe_call (ok_outer c) (by exact hr.mono (by decide)) rfl c.g_outer c.Ff_outer.kp c.bf_outer .nil pass0 (pa_cons (pv 8) (pa_cons (pv 4) pa_nil))) pa_nil))) pa_nil))))
      (pss_cons (ps_set (i := 9) nd rfl (by first | exact Or.inl rfl | exact Or.inr rfl) (pe_call (ok_sum_of c) (by exact hr.mono (by decide)) rfl c.g_sum_of c.Ff_sum_of.kp c.bf_sum_of .nil pass0 (pa_cons (pv 9) (pa_cons (pe_call (ok_scaled c) (by exact hr.mono (by decide)) rfl c.g_scaled c.Ff_scaled.kp c.bf_scaled .nil pass0 (pa_cons (pe_make c.k_Ratio (ok_RInit c) (by exact hr.mono (by decide)) rfl c.g_Ratio b1 vds pass0 (pa_cons (pe_un un_neg pe_int) pa_nil)) (pa_cons (pe_call (ok_outer c) (by exact hr.mono (by decide)) rfl c.g_outer c.Ff_outer.kp c.bf_outer .nil pass0 (pa_cons (pv 4) (pa_cons (pv 8) pa_nil))) pa_nil))) pa_nil))))
      (pss_one (ps_ret (pe_call (ok_sum_of c) (by exact hr.mono (by decide)) rfl c.g_sum_of c.Ff_sum_of.kp c.bf_sum_of .nil pass0 (pa_cons (pv 9) (pa_cons (pe_call (ok_scaled c) (by exact hr.mono (by decide)) rfl c.g_scaled c.Ff_scaled.kp c.bf_scaled .nil pass0 (pa_cons (pe_op (op_rAdd c (by exact hr.mono (by decide))) (pe_meth (pe_make c.k_Ratio (ok_RInit c) (by exact hr.mono (by decide)) rfl c.g_Ratio b1 vds pass0 (pa_cons pe_int pa_nil)) c.c_Ratio c.m_Ratio_over (ok_over c) (by exact hr.mono (by decide)) c.bm_Ratio_over .nil pass0 (pa_cons (pv 3) pa_nil)) (pv 6)) (pa_cons (pe_call (ok_outer c) (by exact hr.mono (by decide)) rfl c.g_outer c.Ff_outer.kp c.bf_outer .nil pass0 (pa_cons (pv 8) (pa_cons (pv 8) pa_nil))) pa_nil))) pa_nil))))))))))))), fun x Q σ hx hs k => ?_⟩
  have kk := k
  obtain ⟨n, b, r, B, M, P, a, q⟩ := x
  obtain ⟨n16, hM, ha, hP, hq, q0, pen, sym, psd, lim⟩ : HAdd n b r B M P a q := hx
  have hs : Sat [some (tyMat n n M), some (tyMat n n P), some (tyVec n a), some (tyRat q), none, none, none, none, none, none] σ H := hs
  have hg := Ht.mv (h := n) n16 hP ha
  have hMg := Ht.mv (h := n) n16 hM hg
  have hu : Ht (r + (b + (B + r + 4) + 4) + 1) (entV n fun i => a i - Pb.mv n M (Pb.mv n P a) i) := ha.minus hMg fun _ ⟨i, hi, e⟩ => ⟨_, _, ⟨i, hi, rfl⟩, ⟨i, hi, rfl⟩, e⟩
  have hsh : Sz (r + (B + r + 4) + 4) (Pb.dot n a (Pb.mv n P a)) := (ha.dots (Z := fun q => Pb.dot n a (Pb.mv n P a) = q) n16 hg fun _ e => ⟨_, _, n, Nat.le_refl _, fun i hi => ⟨i, hi, rfl⟩, fun i hi => ⟨i, hi, rfl⟩, e⟩).sz rfl
  have svg : SzV n (Pb.mv n P a) := .of n16 hg (by omega)
  refine q_asg hs (ev_apply (ev_var hs rfl) (ev_var hs rfl) ⟨⟨_, _, hP, ha, by omega⟩, n16, n16⟩) fun σ1 H1 e1 s1 => ?_
  refine q_asg s1 (ev_minus (ev_var s1 rfl) (ev_apply (ev_var s1 rfl) (ev_var s1 rfl) ⟨⟨_, _, hM, hg, by omega⟩, n16, n16⟩) (.of n16 ha (by omega)) (.of n16 hMg (by omega))) fun σ2 H2 e2 s2 => ?_
  refine q_asg s2 (ev_dot (ev_var s2 rfl) (ev_var s2 rfl) ⟨⟨_, _, ha, hg, by omega⟩, n16⟩) fun σ3 H3 e3 s3 => ?_
  by_cases hz : ∀ i, i < n → a i - Pb.mv n M (Pb.mv n P a) i = 0
  · refine Pt.q_if (b := true) (et_of (ev_isZero (ev_var s3 rfl) ⟨fun _ => hz, fun _ => rfl⟩)) (fun _ H4 e4 => ?_) (fun z => by cases z)
    have s4 := s3.ex e4
    obtain ⟨nz, pp⟩ := Pb.pen_add0 (a := a) pen sym psd q0 fun i hi => by have := hz i hi; grind
    have sg : ∀ i, i < n → Sz (B + r + 4) (Pb.mv n P a i) := fun i hi => hg.sz ⟨i, hi, rfl⟩
    have hd := Sz.add Sz.one (Sz.mul hq hsh)
    have hf := Sz.neg (Sz.div hq nz hd)
    have sO : ∀ i j, i < n → j < n → Sz _ (Pb.mv n P a i * Pb.mv n P a j) := fun i j hi hj => Sz.mul (sg i hi) (sg j hj)
    have sF : ∀ i j, i < n → j < n → Sz _ (-(q / (1 + q * Pb.dot n a (Pb.mv n P a))) * (Pb.mv n P a i * Pb.mv n P a j)) := fun i j hi hj => Sz.mul hf (sO i j hi hj)
    refine q_asg s4 (ev_over (ev_var s4 rfl) (ev_add (ev_mk1 ev_c) (ev_mul (ev_var s4 rfl) (ev_var s4 rfl) (hq.mono (by omega)) (hsh.mono (by omega))) (sz_int (i := 1) (by decide)) ((Sz.mul hq hsh).mono (by omega))) (hq.mono (by omega)) (hd.mono (by omega)) nz) fun σ5 H5 e5 s5 => ?_
    exact s_ret (ev_sum (ev_var s5 rfl) (ev_scaled (ev_rneg (ev_var s5 rfl)) (ev_outer (ev_var s5 rfl) (ev_var s5 rfl) svg svg) (hf.mono (by omega)) ⟨n16, n16, fun i j hi hj => (sO i j hi hj).mono (by omega)⟩) (.of n16 n16 hP (by omega)) ⟨n16, n16, fun i j hi hj => (sF i j hi hj).mono (by omega)⟩)
      fun v H6 e6 z => kk v H6 ((e1.trans e2).trans ((e3.trans e4).trans (e5.trans e6))) ⟨_, pp, z⟩
  · refine Pt.q_if (b := false) (et_of (ev_isZero (ev_var s3 rfl) ⟨fun z => (by cases z), fun z => absurd z hz⟩)) (fun z => by cases z) (fun _ H4 e4 => ?_)
    have s4 := s3.ex e4
    obtain ⟨nz, pp⟩ := Pb.pen_add1 (a := a) (w := q) pen sym q0 (u := fun i => a i - Pb.mv n M (Pb.mv n P a) i) (c := fun i => 1 / Pb.dot n (fun i => a i - Pb.mv n M (Pb.mv n P a) i) (fun i => a i - Pb.mv n M (Pb.mv n P a) i) * (a i - Pb.mv n M (Pb.mv n P a) i)) (fun _ _ => rfl) hz fun _ _ => rfl
    generalize hU : (fun i => a i - Pb.mv n M (Pb.mv n P a) i) = u at nz pp s4 hu
    have hU' : ∀ i, a i - Pb.mv n M (Pb.mv n P a) i = u i := fun i => by rw [← hU]
    simp only [hU'] at pp
    generalize hB' : r + (b + (B + r + 4) + 4) + 1 = Bu at hu
    have sg : ∀ i, i < n → Sz (B + r + 4) (Pb.mv n P a i) := fun i hi => hg.sz ⟨i, hi, rfl⟩
    have su : ∀ i, i < n → Sz Bu (u i) := fun i hi => hu.sz ⟨i, hi, rfl⟩
    have hd : Sz (Bu + Bu + 4) (Pb.dot n u u) := (hu.dots (Z := fun q => Pb.dot n u u = q) n16 hu fun _ e => ⟨_, _, n, Nat.le_refl _, fun i hi => ⟨i, hi, rfl⟩, fun i hi => ⟨i, hi, rfl⟩, e⟩).sz rfl
    have hi := Sz.inv nz hd
    generalize hC : (fun i => 1 / Pb.dot n u u * u i) = cc at pp
    have sc : ∀ i, i < n → Sz (Bu + Bu + 4 + Bu) (cc i) := fun i h => by rw [← hC]; exact Sz.mul hi (su i h)
    have sG : SzV n (Pb.mv n P a) := svg
    have s1G : ∀ i j, i < n → j < n → Sz _ (cc i * Pb.mv n P a j) := fun i j hi hj => Sz.mul (sc i hi) (sg j hj)
    have s1N : ∀ i j, i < n → j < n → Sz _ (((-1 : Int) : Rat) * (cc i * Pb.mv n P a j)) := fun i j hi hj => Sz.mul (sz1 (-1) (by decide)) (s1G i j hi hj)
    have s2G : ∀ i j, i < n → j < n → Sz _ (Pb.mv n P a i * cc j) := fun i j hi hj => Sz.mul (sg i hi) (sc j hj)
    have s2N : ∀ i j, i < n → j < n → Sz _ (((-1 : Int) : Rat) * (Pb.mv n P a i * cc j)) := fun i j hi hj => Sz.mul (sz1 (-1) (by decide)) (s2G i j hi hj)
    have sP : ∀ i j, i < n → j < n → Sz B (P i j) := fun i j hi hj => hP.sz ⟨i, j, hi, hj, rfl⟩
    have f1 : ∀ i j, i < n → j < n → Sz _ (P i j + ((-1 : Int) : Rat) * (cc i * Pb.mv n P a j)) := fun i j hi hj => Sz.add (sP i j hi hj) (s1N i j hi hj)
    have f2 : ∀ i j, i < n → j < n → Sz _ (P i j + ((-1 : Int) : Rat) * (cc i * Pb.mv n P a j) + ((-1 : Int) : Rat) * (Pb.mv n P a i * cc j)) := fun i j hi hj => Sz.add (f1 i j hi hj) (s2N i j hi hj)
    have qn : q ≠ 0 := fun z => by rw [z] at q0; exact absurd q0 (by decide)
    have hk := Sz.add (Sz.inv qn hq) hsh
    have sCC : ∀ i j, i < n → j < n → Sz _ (cc i * cc j) := fun i j hi hj => Sz.mul (sc i hi) (sc j hj)
    have sKC : ∀ i j, i < n → j < n → Sz _ ((1 / q + Pb.dot n a (Pb.mv n P a)) * (cc i * cc j)) := fun i j hi hj => Sz.mul hk (sCC i j hi hj)
    refine q_asg (T := tyVec n cc) s4 ((ev_scale (ev_over (ev_mk1 ev_c) (ev_dot (ev_var s4 rfl) (ev_var s4 rfl) ⟨⟨_, _, hu, hu, by omega⟩, n16⟩) (sz_int (i := 1) (by decide)) (hd.mono (by omega)) nz) (ev_var s4 rfl) (hi.mono (by omega)) (.of n16 hu (by omega))).to fun v H' _ z => by rw [← hC]; exact z) fun σ5 H5 e5 s5 => ?_
    have vC : SzV n cc := ⟨n16, fun i hi => (sc i hi).mono (by omega)⟩
    refine q_asg s5 (ev_sum (ev_var s5 rfl) (ev_scaled (ev_mk1 (t := -1) ev_m1) (ev_outer (ev_var s5 rfl) (ev_var s5 rfl) vC sG) ((sz1 (-1) (by decide)).mono (by omega)) ⟨n16, n16, fun i j hi hj => (s1G i j hi hj).mono (by omega)⟩) (.of n16 n16 hP (by omega)) ⟨n16, n16, fun i j hi hj => (s1N i j hi hj).mono (by omega)⟩) fun σ6 H6 e6 s6 => ?_
    refine q_asg s6 (ev_sum (ev_var s6 rfl) (ev_scaled (ev_mk1 (t := -1) ev_m1) (ev_outer (ev_var s6 rfl) (ev_var s6 rfl) sG vC) ((sz1 (-1) (by decide)).mono (by omega)) ⟨n16, n16, fun i j hi hj => (s2G i j hi hj).mono (by omega)⟩) ⟨n16, n16, fun i j hi hj => (f1 i j hi hj).mono (by omega)⟩ ⟨n16, n16, fun i j hi hj => (s2N i j hi hj).mono (by omega)⟩) fun σ7 H7 e7 s7 => ?_
    refine s_ret (ev_sum (ev_var s7 rfl) (ev_scaled (ev_add (ev_over (ev_mk1 ev_c) (ev_var s7 rfl) (sz_int (i := 1) (by decide)) (hq.mono (by omega)) qn) (ev_var s7 rfl) ((Sz.inv qn hq).mono (by omega)) (hsh.mono (by omega))) (ev_outer (ev_var s7 rfl) (ev_var s7 rfl) vC vC) (hk.mono (by omega)) ⟨n16, n16, fun i j hi hj => (sCC i j hi hj).mono (by omega)⟩) ⟨n16, n16, fun i j hi hj => (f2 i j hi hj).mono (by omega)⟩ ⟨n16, n16, fun i j hi hj => (sKC i j hi hj).mono (by omega)⟩)
      fun v H8 e8 z => kk v H8 ((e1.trans e2).trans ((e3.trans e4).trans ((e5.trans e6).trans (e7.trans e8)))) ⟨_, pp, z⟩
end
end Pd

/-! The defs' promises: readings, forms, blocks. -/
namespace Pd
open PySem PySem.Spec PyProof.Rows L2 Evl Pt Pn
open Pb (Ht Sz entV entM)
section
variable {P : Program} {w : World} {K : PySem.W.Frag} {mg : Str → Option Value} {base : Heap}
abbrev gR (K : PySem.W.Frag) : Addr := He.ga K "Reading"
abbrev gF (K : PySem.W.Frag) : Addr := He.ga K "Form"
def spForm (K : PySem.W.Frag) : Sp := fun vs H Q _ => ∃ (p dx : Addr) (n m v c : V), vs = [.ref p, n, m, v, c] ∧ H p = some (.ins (gF K) dx []) ∧ Q .non (upd H p (.ins (gF K) dx [("names", n), ("matrix", m), ("vector", v), ("constant", c)]))
def spRead (K : PySem.W.Frag) : Sp := fun vs H Q _ => ∃ (p dx : Addr) (n m v c : V), vs = [.ref p, n, m, v, c] ∧ H p = some (.ins (gR K) dx []) ∧ Q .non (upd H p (.ins (gR K) dx [("name", n), ("terms", m), ("value", v), ("weight", c)]))
theorem put4 {f1 f2 f3 f4 : Str} {a1 a2 a3 a4 : V} (h12 : f1 ≠ f2) (h13 : f1 ≠ f3) (h14 : f1 ≠ f4) (h23 : f2 ≠ f3) (h24 : f2 ≠ f4) (h34 : f3 ≠ f4) : putF f4 a4 (putF f3 a3 (putF f2 a2 (putF f1 a1 []))) = [(f1, a1), (f2, a2), (f3, a3), (f4, a4)] := by
  simp [putF, h12, h13, h14, h23, h24, h34]
theorem putForm (n m v c : V) : putF "constant" c (putF "vector" v (putF "matrix" m (putF "names" n []))) = ([("names", n), ("matrix", m), ("vector", v), ("constant", c)] : List (Str × V)) :=
  put4 (by decide +kernel) (by decide +kernel) (by decide +kernel) (by decide +kernel) (by decide +kernel) (by decide +kernel)
theorem putRead (n m v c : V) : putF "weight" c (putF "value" v (putF "terms" m (putF "name" n []))) = ([("name", n), ("terms", m), ("value", v), ("weight", c)] : List (Str × V)) :=
  put4 (by decide +kernel) (by decide +kernel) (by decide +kernel) (by decide +kernel) (by decide +kernel) (by decide +kernel)
theorem sc_m_Form_init : FnScope ["self", "names", "matrix", "vector", "constant"] ["self", "names", "matrix", "vector", "constant"] (defScope sm_Form_init) := ⟨rfl, rfl, rfl, by decide +kernel, rfl, by decide +kernel, by decide +kernel⟩
theorem ok_Form_init (c : Cxt P K mg base) : Ok P w K mg base dm_Form_init 33 ["self", "names", "matrix", "vector", "constant"] (spForm K) := by
  have nd := (sc_m_Form_init).nd
  refine (c.Fm_Form_init).ok sc_m_Form_init (fun vs H Q E h => ?_) (fun cdv A outer s0 H vs Q E hr h => ⟨_, PSs.nox ((pss_cons (ps_fld (pv 0) (pv 1) rfl)
      (pss_cons (ps_fld (pv 0) (pv 2) rfl)
      (pss_cons (ps_fld (pv 0) (pv 3) rfl)
      (pss_one (ps_fld (pv 0) (pv 4) rfl)))))), ?_⟩)
  · obtain ⟨p, dx, n, m, v, cc, rfl, _⟩ := h
    rfl
  · obtain ⟨p, dx, n, m, v, cc, rfl, hp, q⟩ := h
    refine ⟨_, rfl, _, rfl, p, _, dx, _, rfl, hp, c.c_Form, c.n_Form_names, by decide, _, rfl, _, rfl, p, _, dx, _, rfl, upd_same, c.c_Form, c.n_Form_matrix, (by show 1 < 1000; decide), _, rfl, _, rfl, p, _, dx, _, rfl, upd_same, c.c_Form, c.n_Form_vector, (by show 2 < 1000; decide), _, rfl, _, rfl, p, _, dx, _, rfl, upd_same, c.c_Form, c.n_Form_constant, (by show 3 < 1000; decide), ?_⟩
    rw [upd_upd, upd_upd, upd_upd, putForm]
    exact q
theorem sc_m_Reading_init : FnScope ["self", "name", "terms", "value", "weight"] ["self", "name", "terms", "value", "weight"] (defScope sm_Reading_init) := ⟨rfl, rfl, rfl, by decide +kernel, rfl, by decide +kernel, by decide +kernel⟩
theorem ok_Reading_init (c : Cxt P K mg base) : Ok P w K mg base dm_Reading_init 33 ["self", "name", "terms", "value", "weight"] (spRead K) := by
  have nd := (sc_m_Reading_init).nd
  refine (c.Fm_Reading_init).ok sc_m_Reading_init (fun vs H Q E h => ?_) (fun cdv A outer s0 H vs Q E hr h => ⟨_, PSs.nox ((pss_cons (ps_fld (pv 0) (pv 1) rfl)
      (pss_cons (ps_fld (pv 0) (pv 2) rfl)
      (pss_cons (ps_fld (pv 0) (pv 3) rfl)
      (pss_one (ps_fld (pv 0) (pv 4) rfl)))))), ?_⟩)
  · obtain ⟨p, dx, n, m, v, cc, rfl, _⟩ := h
    rfl
  · obtain ⟨p, dx, n, m, v, cc, rfl, hp, q⟩ := h
    refine ⟨_, rfl, _, rfl, p, _, dx, _, rfl, hp, c.c_Reading, c.n_Reading_name, by decide, _, rfl, _, rfl, p, _, dx, _, rfl, upd_same, c.c_Reading, c.n_Reading_terms, (by show 1 < 1000; decide), _, rfl, _, rfl, p, _, dx, _, rfl, upd_same, c.c_Reading, c.n_Reading_value, (by show 2 < 1000; decide), _, rfl, _, rfl, p, _, dx, _, rfl, upd_same, c.c_Reading, c.n_Reading_weight, (by show 3 < 1000; decide), ?_⟩
    rw [upd_upd, upd_upd, upd_upd, putRead]
    exact q
/-- a form -/
def tyForm (K : PySem.W.Frag) (ns : List Str) (A : Nat → Nat → Rat) (b : Nat → Rat) (q : Rat) : Ty K := tyObj (gF K) (.inr (.inr rfl)) [("names", tyNms ns), ("matrix", tyMat ns.length ns.length A), ("vector", tyVec ns.length b), ("constant", tyRat q)]
/-- a reading's terms: names and whole coefficients -/
abbrev tyTerms (K : PySem.W.Frag) (ts : List (Str × Int)) : Ty K := tyPin ts.length fun i => tyTup [tyE (.str (ts.getD i default).1), tyE (.int (ts.getD i default).2)]
structure Rdg where
  name : Str
  ts : List (Str × Int)
  val : Rat
  wt : Rat
instance : Inhabited Rdg := ⟨⟨default, [], 0, 0⟩⟩
def tyRead (K : PySem.W.Frag) (r : Rdg) : Ty K := tyObj (gR K) (.inr (.inl rfl)) [("name", tyE (.str r.name)), ("terms", tyTerms K r.ts), ("value", tyRat r.val), ("weight", tyRat r.wt)]
section
variable {σ : L2.St} {H : Hp} {ta tb tc td te : TE}
theorem ev_mk4 {C : Addr} {hC : Im K C} {f1 f2 f3 f4 : Str} {A B D E : Ty K} {sp : Sp} (hsp : ∀ (vs : List V) (H : Hp) (Q : VK) (e : XK), (∃ (p dx : Addr) (n m v c : V), vs = [.ref p, n, m, v, c] ∧ H p = some (.ins C dx []) ∧ Q .non (upd H p (.ins C dx [(f1, n), (f2, m), (f3, v), (f4, c)]))) → sp vs H Q e)
    (ha : EvP ta σ H A) (hb : EvP tb σ H B) (hc : EvP tc σ H D) (hd : EvP td σ H E) : EvP (tMake C sp [] E0 (tCons ta (tCons tb (tCons tc (tCons td tNil))))) σ H (tyObj C hC [(f1, A), (f2, B), (f3, D), (f4, E)]) := fun H1 e Q q =>
  ha H1 e _ fun v1 H2 e2 z1 => hb H2 (e.trans e2) _ fun v2 H3 e3 z2 => hc H3 ((e.trans e2).trans e3) _ fun v3 H4 e4 z3 => hd H4 (((e.trans e2).trans e3).trans e4) _ fun v4 H5 e5 z4 => fun x dx nx ndx ne => hsp _ _ _ _ (by
    refine ⟨x, dx, v1, v2, v3, v4, rfl, upd_same, rfl, ?_⟩
    rw [upd_upd]
    have ex : Ex H5 (upd (upd H5 dx (.own x)) x (.ins C dx [(f1, v1), (f2, v2), (f3, v3), (f4, v4)])) := (Ex.new ndx).trans (Ex.new (by rw [upd_ne ne.symm]; exact nx))
    exact q _ _ ((e2.trans (e3.trans (e4.trans e5))).trans ex) ⟨x, dx, _, rfl, upd_same, .cons ⟨rfl, A.st _ _ _ (ge_ex ((e3.trans (e4.trans e5)).trans ex)) z1⟩ (.cons ⟨rfl, B.st _ _ _ (ge_ex ((e4.trans e5).trans ex)) z2⟩ (.cons ⟨rfl, D.st _ _ _ (ge_ex (e5.trans ex)) z3⟩ (.cons ⟨rfl, E.st _ _ _ (ge_ex ex) z4⟩ .nil)))⟩)
/-- the i-th of four fields -/
def Look4 (α : Type) (f1 f2 f3 f4 : Str) : Prop := ∀ a1 a2 a3 a4 : α, List.lookup f1 [(f1, a1), (f2, a2), (f3, a3), (f4, a4)] = some a1 ∧ List.lookup f2 [(f1, a1), (f2, a2), (f3, a3), (f4, a4)] = some a2 ∧ List.lookup f3 [(f1, a1), (f2, a2), (f3, a3), (f4, a4)] = some a3 ∧ List.lookup f4 [(f1, a1), (f2, a2), (f3, a3), (f4, a4)] = some a4
theorem look4 {α : Type} {f1 f2 f3 f4 : Str} (h12 : (f2 == f1) = false) (h13 : (f3 == f1) = false) (h14 : (f4 == f1) = false) (h23 : (f3 == f2) = false) (h24 : (f4 == f2) = false) (h34 : (f4 == f3) = false) : Look4 α f1 f2 f3 f4 := fun a1 a2 a3 a4 => by
  refine ⟨?_, ?_, ?_, ?_⟩ <;> simp only [List.lookup, h12, h13, h14, h23, h24, h34, beq_self_eq_true]
theorem lookF {α : Type} : Look4 α "names" "matrix" "vector" "constant" := look4 (by decide +kernel) (by decide +kernel) (by decide +kernel) (by decide +kernel) (by decide +kernel) (by decide +kernel)
theorem lookR {α : Type} : Look4 α "name" "terms" "value" "weight" := look4 (by decide +kernel) (by decide +kernel) (by decide +kernel) (by decide +kernel) (by decide +kernel) (by decide +kernel)
variable {ns : List Str} {A : Nat → Nat → Rat} {b : Nat → Rat} {q : Rat} {r : Rdg}
theorem ev_Fn (c : Cxt P K mg base) (h : EvP te σ H (tyForm K ns A b q)) : EvP (K := K) (tFld K te "names") σ H (tyNms ns) := ev_fldO h c.c_Form c.n_Form_names (lookF _ _ _ _).1
theorem ev_Fm (c : Cxt P K mg base) (h : EvP te σ H (tyForm K ns A b q)) : EvP (K := K) (tFld K te "matrix") σ H (tyMat ns.length ns.length A) := ev_fldO h c.c_Form c.n_Form_matrix (lookF _ _ _ _).2.1
theorem ev_Fv (c : Cxt P K mg base) (h : EvP te σ H (tyForm K ns A b q)) : EvP (K := K) (tFld K te "vector") σ H (tyVec ns.length b) := ev_fldO h c.c_Form c.n_Form_vector (lookF _ _ _ _).2.2.1
theorem ev_Fc (c : Cxt P K mg base) (h : EvP te σ H (tyForm K ns A b q)) : EvP (K := K) (tFld K te "constant") σ H (tyRat q) := ev_fldO h c.c_Form c.n_Form_constant (lookF _ _ _ _).2.2.2
theorem ev_Rn (c : Cxt P K mg base) (h : EvP te σ H (tyRead K r)) : EvP (K := K) (tFld K te "name") σ H (tyE (.str r.name)) := ev_fldO h c.c_Reading c.n_Reading_name (lookR _ _ _ _).1
theorem ev_Rt (c : Cxt P K mg base) (h : EvP te σ H (tyRead K r)) : EvP (K := K) (tFld K te "terms") σ H (tyTerms K r.ts) := ev_fldO h c.c_Reading c.n_Reading_terms (lookR _ _ _ _).2.1
theorem ev_Rv (c : Cxt P K mg base) (h : EvP te σ H (tyRead K r)) : EvP (K := K) (tFld K te "value") σ H (tyRat r.val) := ev_fldO h c.c_Reading c.n_Reading_value (lookR _ _ _ _).2.2.1
theorem ev_Rw (c : Cxt P K mg base) (h : EvP te σ H (tyRead K r)) : EvP (K := K) (tFld K te "weight") σ H (tyRat r.wt) := ev_fldO h c.c_Reading c.n_Reading_weight (lookR _ _ _ _).2.2.2
theorem ev_mkForm (ha : EvP (K := K) ta σ H (tyNms ns)) (hb : EvP (K := K) tb σ H (tyMat ns.length ns.length A)) (hc : EvP (K := K) tc σ H (tyVec ns.length b)) (hd : EvP (K := K) td σ H (tyRat q)) : EvP (tMake (gF K) (spForm K) [] E0 (tCons ta (tCons tb (tCons tc (tCons td tNil))))) σ H (tyForm K ns A b q) :=
  ev_mk4 (fun vs H Q e h => h) ha hb hc hd
theorem ev_mkRead (ha : EvP (K := K) ta σ H (tyE (.str r.name))) (hb : EvP (K := K) tb σ H (tyTerms K r.ts)) (hc : EvP (K := K) tc σ H (tyRat r.val)) (hd : EvP (K := K) td σ H (tyRat r.wt)) : EvP (tMake (gR K) (spRead K) [] E0 (tCons ta (tCons tb (tCons tc (tCons td tNil))))) σ H (tyRead K r) :=
  ev_mk4 (fun vs H Q e h => h) ha hb hc hd
end
/-! ### blocks -/
/-- numbers in a list -/
structure IntL (K : PySem.W.Frag) (l : Addr) (n : Nat) (f : Nat → Nat) (H : Hp) : Prop where
  at_ : ∃ xs, H l = some (.lst xs) ∧ xs.length = n ∧ Its (K := K) (fun i => tyInt (f i : Nat)) xs H
theorem IntL.ex {l : Addr} {n : Nat} {f : Nat → Nat} {H H' : Hp} (h : IntL K l n f H) (e : Ex H H') : IntL K l n f H' := let ⟨xs, a, b, d⟩ := h.at_; ⟨xs, e _ _ a, b, d.ex e⟩
theorem ei_ints {σ : L2.St} {H : Hp} {tl : TE} {l : Addr} {n : Nat} {f : Nat → Nat} (hl : IntL K l n f H) (h : EvP (K := K) tl σ H (tyE (.ref l))) : EvI (K := K) (iList K tl) σ H n (fun i => tyInt (f i : Nat)) (fun H2 H3 => H3 l = H2 l) := fun H1 e R q =>
  h H1 e _ fun v H2 e2 z => by
    cases z
    obtain ⟨xs, h2, l2, i2⟩ := (hl.ex (e.trans e2)).at_
    subst l2
    refine ⟨l, rfl, ⟨xs, SqL.of h2⟩, q _ H2 e2 (walk_list.mono (fun H3 g => SqL.of (g.trans h2)) fun i H3 x H4 hi g y => ?_)⟩
    obtain ⟨e4, e5⟩ := y
    subst e4
    exact ⟨Ex.refl _, i2 i x e5⟩
theorem IntL.same {l : Addr} {n : Nat} {f : Nat → Nat} {H H2 H3 : Hp} (h : IntL K l n f H) (e : Ex H H2) (e2 : Ex H2 H3) : H3 l = H2 l := by
  obtain ⟨xs, a, _⟩ := h.at_
  rw [e2 _ _ (e _ _ a), e _ _ a]
def sPick (K : PySem.W.Frag) : Sph K := ⟨(Nat × (Nat → Rat)) × Addr × Nat × (Nat → Nat), fun x => [tyVec x.1.1 x.1.2, tyE (.ref x.2.1)], fun x H => IntL K x.2.1 x.2.2.1 x.2.2.2 H ∧ x.2.2.1 < 16 ∧ ∀ i, i < x.2.2.1 → x.2.2.2 i < x.1.1,
  fun x _ v H' => (tyVec (K := K) x.2.2.1 fun i => x.1.2 (x.2.2.2 i)).p v H'⟩
theorem sc_f_pick : FnScope ["vector", "places", "place"] ["vector", "places"] (defScope sf_pick) := ⟨rfl, rfl, rfl, by decide +kernel, rfl, by decide +kernel, by decide +kernel⟩
theorem ok_pick (c : Cxt P K mg base) : Ok P w K mg base df_pick 33 ["vector", "places"] (sPick K).sp := by
  have nd := (sc_f_pick).nd
  refine okH c.Ff_pick sc_f_pick (sPick K) (fun _ => rfl) fun cdv A outer s0 H E hr => ⟨_, PSs.nox ((pss_one (ps_ret (pe_callTy (call_tupleK K) (by rfl) c.z_tuple (by decide +kernel) (pa_cons (pe_lc (own := [("place", 2)]) (g := gName 2) (tt := tYes) rfl nd (pi_listK K (pv 1)) (blkOk_by rfl) (fun _ _ _ _ _ => (pg_name (i := 2) nd rfl (by first | exact Or.inl rfl | exact Or.inr rfl))) (fun _ _ _ _ _ => pts_nil) (fun _ _ _ _ _ => (pe_ix (ix_tupK K) (pv 0) (pv 2) (fun _ _ => rfl)))) pa_nil))))), fun x Q σ hx hs k => ?_⟩
  have kk := k
  obtain ⟨⟨n, f⟩, l, m, g⟩ := x
  obtain ⟨hl, m16, hg⟩ : IntL K l m g H ∧ m < 16 ∧ ∀ i, i < m → g i < n := hx
  have hs : Sat [some (tyVec n f), some (tyE (.ref l)), none] σ H := hs
  exact s_ret (ev_tuple (el_lc (U := fun i => tyRat (f (g i))) hs (ei_ints hl (ev_var hs rfl)) (fun H2 H3 a e => hl.same a e) (by omega) fun i σ' H' hi e s => ev_ixV (ev_var s rfl) (ev_var s rfl) (hg i hi))) kk
def sBlock (K : PySem.W.Frag) : Sph K := ⟨(Nat × Nat × (Nat → Nat → Rat)) × (Addr × Nat × (Nat → Nat)) × (Addr × Nat × (Nat → Nat)), fun x => [tyMat x.1.1 x.1.2.1 x.1.2.2, tyE (.ref x.2.1.1), tyE (.ref x.2.2.1)],
  fun x H => IntL K x.2.1.1 x.2.1.2.1 x.2.1.2.2 H ∧ IntL K x.2.2.1 x.2.2.2.1 x.2.2.2.2 H ∧ x.2.1.2.1 < 16 ∧ x.2.2.2.1 < 16 ∧ (∀ i, i < x.2.1.2.1 → x.2.1.2.2 i < x.1.1) ∧ ∀ i, i < x.2.2.2.1 → x.2.2.2.2 i < x.1.2.1,
  fun x _ v H' => (tyMat (K := K) x.2.1.2.1 x.2.2.2.1 fun i j => x.1.2.2 (x.2.1.2.2 i) (x.2.2.2.2 j)).p v H'⟩
theorem sc_f_block : FnScope ["matrix", "rows", "columns", "row", "column"] ["matrix", "rows", "columns"] (defScope sf_block) := ⟨rfl, rfl, rfl, by decide +kernel, rfl, by decide +kernel, by decide +kernel⟩
theorem ok_block (c : Cxt P K mg base) : Ok P w K mg base df_block 33 ["matrix", "rows", "columns"] (sBlock K).sp := by
  have nd := (sc_f_block).nd
  refine okH c.Ff_block sc_f_block (sBlock K) (fun _ => rfl) fun cdv A outer s0 H E hr => ⟨_, PSs.nox ((pss_one (ps_ret (pe_callTy (call_tupleK K) (by rfl) c.z_tuple (by decide +kernel) (pa_cons (pe_lc (own := [("row", 3)]) (g := gName 3) (tt := tYes) rfl nd (pi_listK K (pv 1)) (blkOk_by rfl) (fun _ _ _ _ _ => (pg_name (i := 3) nd rfl (by first | exact Or.inl rfl | exact Or.inr rfl))) (fun _ _ _ _ _ => pts_nil) (fun _ _ _ _ _ => (pe_callTy (call_tupleK K) (by rfl) c.z_tuple (by decide +kernel) (pa_cons (pe_lc (own := [("column", 4)]) (g := gName 4) (tt := tYes) rfl nd (pi_listK K (pv 2)) (blkOk_by rfl) (fun _ _ _ _ _ => (pg_name (i := 4) nd rfl (by first | exact Or.inl rfl | exact Or.inr rfl))) (fun _ _ _ _ _ => pts_nil) (fun _ _ _ _ _ => (pe_ix (ix_tupK K) (pe_ix (ix_tupK K) (pv 0) (pv 3) (fun _ _ => rfl)) (pv 4) (fun _ _ => rfl)))) pa_nil)))) pa_nil))))), fun x Q σ hx hs k => ?_⟩
  have kk := k
  obtain ⟨⟨h, n, f⟩, ⟨l, m, g⟩, l', m', g'⟩ := x
  obtain ⟨hl, hl', m16, m16', hg, hg'⟩ : IntL K l m g H ∧ IntL K l' m' g' H ∧ m < 16 ∧ m' < 16 ∧ (∀ i, i < m → g i < h) ∧ ∀ i, i < m' → g' i < n := hx
  have hs : Sat [some (tyMat h n f), some (tyE (.ref l)), some (tyE (.ref l')), none, none] σ H := hs
  exact s_ret (ev_tuple (el_lc (U := fun i => tyVec m' fun j => f (g i) (g' j)) hs (ei_ints hl (ev_var hs rfl)) (fun H2 H3 a e => hl.same a e) (by omega) fun i σ' H' hi e s =>
    ev_tuple (el_lc (U := fun j => tyRat (f (g i) (g' j))) s (ei_ints (hl'.ex e) (ev_var s rfl)) (fun H2 H3 a e' => (hl'.ex e).same a e') (by omega) fun j σ2 H2 hj e2 s2 => ev_ixV (ev_ixM (ev_var s2 rfl) (ev_var s2 rfl) (hg i hi)) (ev_var s2 rfl) (hg' j hj)))) kk
theorem ev_pick {σ : L2.St} {H : Hp} {ta tb : TE} {n m : Nat} {f : Nat → Rat} {g : Nat → Nat} {l : Addr} (hl : IntL K l m g H) (m16 : m < 16) (hg : ∀ i, i < m → g i < n) (ha : EvP (K := K) ta σ H (tyVec n f)) (hb : EvP (K := K) tb σ H (tyE (.ref l))) : EvP (K := K) (tCall (sPick K).sp [] E0 (tCons ta (tCons tb tNil))) σ H (tyVec m fun i => f (g i)) :=
  ev_callH (s := sPick K) ((n, f), l, m, g) (fun H1 e => ⟨hl.ex e, m16, hg⟩) (ea_cons ha (ea_cons hb ea_nil)) fun _ _ _ _ _ z => z
theorem ev_block {σ : L2.St} {H : Hp} {ta tb tc : TE} {h n m m' : Nat} {f : Nat → Nat → Rat} {g g' : Nat → Nat} {l l' : Addr} (hl : IntL K l m g H) (hl' : IntL K l' m' g' H) (m16 : m < 16) (m16' : m' < 16) (hg : ∀ i, i < m → g i < h) (hg' : ∀ i, i < m' → g' i < n) (ha : EvP (K := K) ta σ H (tyMat h n f)) (hb : EvP (K := K) tb σ H (tyE (.ref l))) (hc : EvP (K := K) tc σ H (tyE (.ref l'))) :
    EvP (K := K) (tCall (sBlock K).sp [] E0 (tCons ta (tCons tb (tCons tc tNil)))) σ H (tyMat m m' fun i j => f (g i) (g' j)) :=
  ev_callH (s := sBlock K) ((h, n, f), (l, m, g), l', m', g') (fun H1 e => ⟨hl.ex e, hl'.ex e, m16, m16', hg, hg'⟩) (ea_cons ha (ea_cons hb (ea_cons hc ea_nil))) fun _ _ _ _ _ z => z
end
end Pd

/-! The defs' promises: books read. -/
namespace Pd
open PySem PySem.Spec PyProof.Rows L2 Evl Pt Pn
open Pb (Ht Sz entV entM)
/-- the coefficient of a name -/
def coef : List (Str × Int) → Str → Int
  | [], _ => 0
  | (m, c) :: r, n => if m = n then c else coef r n
theorem coef_none {n : Str} : ∀ {ts : List (Str × Int)}, n ∉ ts.map (·.1) → coef ts n = 0
  | [], _ => rfl
  | (m, c) :: r, h => by
    have h1 : m ≠ n := fun e => h (by simp [e])
    rw [coef, if_neg h1]
    exact coef_none fun z => h (by simp only [List.map_cons, List.mem_cons]; exact .inr z)
theorem coef_at {n : Str} {c : Int} : ∀ {ts : List (Str × Int)}, (ts.map (·.1)).Nodup → (n, c) ∈ ts → coef ts n = c
  | [], _, h => by cases h
  | (m, d) :: r, nd, h => by
    rw [List.map_cons, List.nodup_cons] at nd
    rw [coef]
    rcases List.mem_cons.mp h with e | e
    · cases e
      rw [if_pos rfl]
    · have h1 : m ≠ n := fun q => nd.1 (by rw [q]; exact List.mem_map.mpr ⟨_, e, rfl⟩)
      rw [if_neg h1]
      exact coef_at nd.2 e
theorem merge_new : ∀ (more acc : List (Key × V)), (more.map (·.1)).Nodup → (∀ k, k ∈ more.map (·.1) → valV acc k = none) → mergeK acc more = acc ++ more
  | [], acc, _, _ => by simp [mergeK]
  | (k, v) :: more, acc, nd, h => by
    rw [List.map_cons, List.nodup_cons] at nd
    have h0 := h k (by simp)
    show mergeK (putK acc k v) more = _
    rw [putK_new v h0, merge_new more (acc ++ [(k, v)]) nd.2 fun k' hk' => ?_, List.append_assoc]
    · rfl
    · rw [valV_snoc k k' v acc h0, if_neg (fun e => nd.1 (by rw [← e]; exact hk'))]
      exact h k' (by simp only [List.map_cons, List.mem_cons]; exact .inr hk')
section
variable {P : Program} {w : World} {K : PySem.W.Frag} {mg : Str → Option Value} {base : Heap}
abbrev gB (K : PySem.W.Frag) : Addr := He.ga K "Book"
/-- where a book's parts stand -/
structure BkA where
  b : Addr
  dx : Addr
  lp : Addr
  da : Addr
  lr : Addr
  kvs : List (Key × V)
  rs : List V
def bkF (A : BkA) : List (Str × V) := [("points", .ref A.lp), ("approximations", .ref A.da), ("readings", .ref A.lr)]
structure Bk (K : PySem.W.Frag) (A : BkA) (pts : List Str) (app : Str → Rat) (rds : List Rdg) (H : Hp) : Prop where
  at_ : H A.b = some (.ins (gB K) A.dx (bkF A))
  pt : H A.lp = some (.lst (pts.map V.str))
  ap : Dct K A.da pts (fun n => tyRat (app n)) A.kvs H
  rd : H A.lr = some (.lst A.rs)
  ln : A.rs.length = rds.length
  its : Its (K := K) (fun i => tyRead K (rds.getD i default)) A.rs H
theorem Bk.ex {A : BkA} {pts : List Str} {app : Str → Rat} {rds : List Rdg} {H H' : Hp} (h : Bk K A pts app rds H) (e : Ex H H') : Bk K A pts app rds H' := ⟨e _ _ h.at_, e _ _ h.pt, h.ap.ex e, e _ _ h.rd, h.ln, h.its.ex e⟩
theorem lookB {A : BkA} : (bkF A).lookup ("points" : Str) = some (.ref A.lp) ∧ (bkF A).lookup ("approximations" : Str) = some (.ref A.da) ∧ (bkF A).lookup ("readings" : Str) = some (.ref A.lr) := by
  have h1 : (("approximations" : Str) == "points") = false := by decide +kernel
  have h2 : (("readings" : Str) == "points") = false := by decide +kernel
  have h3 : (("readings" : Str) == "approximations") = false := by decide +kernel
  unfold bkF
  refine ⟨?_, ?_, ?_⟩ <;> simp only [List.lookup, h1, h2, h3, beq_self_eq_true]
section
variable {σ : L2.St} {H : Hp} {te ta tb : TE} {A : BkA} {pts : List Str} {app : Str → Rat} {rds : List Rdg}
theorem ev_Bp (c : Cxt P K mg base) (b : Bk K A pts app rds H) (h : EvP (K := K) te σ H (tyE (.ref A.b))) : EvP (K := K) (tFld K te "points") σ H (tyE (.ref A.lp)) := ev_fldB b.at_ h c.c_Book c.n_Book_points lookB.1
theorem ev_Ba (c : Cxt P K mg base) (b : Bk K A pts app rds H) (h : EvP (K := K) te σ H (tyE (.ref A.b))) : EvP (K := K) (tFld K te "approximations") σ H (tyE (.ref A.da)) := ev_fldB b.at_ h c.c_Book c.n_Book_approximations lookB.2.1
theorem ev_Br (c : Cxt P K mg base) (b : Bk K A pts app rds H) (h : EvP (K := K) te σ H (tyE (.ref A.b))) : EvP (K := K) (tFld K te "readings") σ H (tyE (.ref A.lr)) := ev_fldB b.at_ h c.c_Book c.n_Book_readings lookB.2.2
/-- dict(terms) -/
theorem terms_dict {r : List (Str × Int)} {H : Hp} {vs : List V} (nd : (r.map (·.1)).Nodup) (l : vs.length = r.length) (it : Its (K := K) (fun i => tyTup [tyE (.str (r.getD i default).1), tyE (.int (r.getD i default).2)]) vs H) :
    ∃ ps kvs, vs = ps.map V.ref ∧ Paired (fun p kv => SqT K H p [kV kv.1, kv.2]) ps kvs ∧ mergeK [] kvs = kvs ∧ DctE (K := K) (r.map (·.1)) (fun n => tyE (.int (coef r n))) kvs H := by
  have main : ∀ (q : List (Str × Int)) (vs : List V), vs.length = q.length → (∀ x, x ∈ q → x ∈ r) → Its (K := K) (fun i => tyTup [tyE (.str (q.getD i default).1), tyE (.int (q.getD i default).2)]) vs H →
      ∃ ps, vs = ps.map V.ref ∧ Paired (fun p kv => SqT K H p [kV kv.1, kv.2]) ps (q.map fun x => ((.inr x.1 : Key), V.int x.2)) ∧ DctE (K := K) (q.map (·.1)) (fun n => tyE (.int (coef r n))) (q.map fun x => ((.inr x.1 : Key), V.int x.2)) H := by
    intro q
    induction q with
    | nil =>
      intro vs l _ _
      have : vs = [] := List.length_eq_zero_iff.mp l
      subst this
      exact ⟨[], rfl, .nil, .nil⟩
    | cons x q ih =>
      intro vs l sub it
      cases vs with
      | nil => cases l
      | cons v vs =>
        obtain ⟨a, xs, e, ha, ty⟩ := it 0 v rfl
        cases ty with
        | cons z1 zs =>
          cases zs with
          | cons z2 zs =>
            cases zs
            cases z1
            cases z2
            subst e
            obtain ⟨ps, e1, e2, e3⟩ := ih vs (by simpa using l) (fun y hy => sub y (List.mem_cons_of_mem _ hy)) fun i y hy => it (i + 1) y hy
            subst e1
            refine ⟨a :: ps, rfl, .cons (SqT.of ha) e2, .cons ⟨rfl, ?_⟩ e3⟩
            show V.int x.2 = V.int (coef r x.1)
            rw [coef_at nd (sub x List.mem_cons_self)]
  obtain ⟨ps, e1, e2, e3⟩ := main r vs l (fun _ h => h) it
  refine ⟨ps, _, e1, e2, ?_, e3⟩
  have nd2 : ((r.map fun x => ((.inr x.1 : Key), V.int x.2)).map (·.1)).Nodup := by
    rw [List.map_map]
    have : ((fun x : Key × V => x.1) ∘ fun x : Str × Int => ((.inr x.1 : Key), V.int x.2)) = (fun n : Str => (.inr n : Key)) ∘ (fun x : Str × Int => x.1) := rfl
    rw [this, ← List.map_map]
    exact List.Pairwise.map _ (fun a b h e => h (Sum.inr.inj e)) nd
  rw [merge_new _ [] nd2 (fun _ _ => rfl), List.nil_append]
theorem q_dictT {Ts : TEnv K} {i : Nat} {D : Ends} {tz : TS} {r : List (Str × Int)} (hs : Sat Ts σ H) (h : EvP (K := K) te σ H (tyTerms K r)) (nd : (r.map (·.1)).Nodup)
    (k : ∀ p kvs σ' H', H p = none → Ex H H' → Dct K p (r.map (·.1)) (fun n => tyE (.int (coef r n))) kvs H' → Sat (Ts.set i (some (tyE (.ref p)))) σ' H' → tz D σ' H') : tSeq (tAsg (tCB (rDctT K) (tCons te tNil)) (gName i)) tz D σ H :=
  h H (Ex.refl _) _ fun v H1 e ⟨a, o, vs, ea, ha, hd, l, it⟩ => by
    obtain ⟨ps, kvs, e1, e2, e3, e4⟩ := terms_dict nd l it
    subst e1 ea
    refine ⟨a, o, ps, kvs, rfl, ha, hd, e2, fun p hp => ?_⟩
    have ex := Ex.new (o := .dK (mergeK [] kvs)) hp
    refine k p kvs _ _ (Evl.fresh_back e hp) (e.trans ex) ⟨?_, e4.st (ge_ex ex)⟩ ((hs.ex (e.trans ex)).set rfl)
    rw [e3]
    exact upd_same
end
def sRowOf (K : PySem.W.Frag) : Sph K := ⟨(BkA × List Str × (Str → Rat) × List Rdg) × Rdg, fun x => [tyE (.ref x.1.1.b), tyRead K x.2], fun x H => Bk K x.1.1 x.1.2.1 x.1.2.2.1 x.1.2.2.2 H ∧ x.1.2.1.length < 16 ∧ (x.2.ts.map (·.1)).Nodup,
  fun x _ v H' => (tyVec (K := K) x.1.2.1.length fun i => (coef x.2.ts (x.1.2.1.getD i default) : Rat)).p v H'⟩
theorem sc_f_row_of : FnScope ["book", "reading", "found", "name"] ["book", "reading"] (defScope sf_row_of) := ⟨rfl, rfl, rfl, by decide +kernel, rfl, by decide +kernel, by decide +kernel⟩
theorem ok_row_of (c : Cxt P K mg base) : Ok P w K mg base df_row_of 36 ["book", "reading"] (sRowOf K).sp := by
  obtain ⟨ds1, vds, b1⟩ := bRI1 c
  have nd := (sc_f_row_of).nd
  refine okH c.Ff_row_of sc_f_row_of (sRowOf K) (fun _ => rfl) fun cdv A outer s0 H E hr => ⟨_, PSs.nox ((pss_cons (ps_set (i := 2) nd rfl (by first | exact Or.inl rfl | exact Or.inr rfl) (pe_callTy (call_dictTK K rfl) (by rfl) c.z_dict (by decide +kernel) (pa_cons (pe_fldK K (pv 1) rfl) pa_nil)))
      (pss_one (ps_ret (pe_callTy (call_tupleK K) (by rfl) c.z_tuple (by decide +kernel) (pa_cons (pe_lc (own := [("name", 3)]) (g := gName 3) (tt := tYes) rfl nd (pi_listK K (pe_fldK K (pv 0) rfl)) (blkOk_by rfl) (fun _ _ _ _ _ => (pg_name (i := 3) nd rfl (by first | exact Or.inl rfl | exact Or.inr rfl))) (fun _ _ _ _ _ => pts_nil) (fun _ _ _ _ _ => (pe_make c.k_Ratio (ok_RInit c) (by exact hr.mono (by decide)) rfl c.g_Ratio b1 vds pass0 (pa_cons (pe_dget2 (hu_of hr) (pv 2) (pv 3) pe_int ⟨rfl, rfl, rfl, rfl⟩) pa_nil)))) pa_nil)))))), fun x Q σ hx hs k => ?_⟩
  have kk := k
  obtain ⟨⟨A, pts, app, rds⟩, r⟩ := x
  obtain ⟨bk, n16, nd2⟩ : Bk K A pts app rds H ∧ pts.length < 16 ∧ (List.map (fun x : Str × Int => x.1) r.ts).Nodup := hx
  have hs : Sat [some (tyE (.ref A.b)), some (tyRead K r), none, none] σ H := hs
  refine q_dictT hs (ev_Rt c (ev_var hs rfl)) nd2 fun p kvs σ1 H1 hp e1 dc s1 => ?_
  have b1' := bk.ex e1
  refine s_ret (ev_tuple (el_lc (U := fun i => tyRat ((coef r.ts (pts.getD i default) : Int) : Rat)) s1 (ei_strs (ev_Bp c b1' (ev_var s1 rfl)) b1'.pt) (fun H2 H3 a e => ⟨SqL.of ((a.trans e) _ _ b1'.pt), ge_ex (a.trans e)⟩) (by omega) fun i σ' H' hi e s =>
    ev_mk1 (ev_dget2 (dc.ex e) (ev_var s rfl) (ev_var s rfl) (ev_c (K := K)) (fun _ v H' z => z) fun hn v H' z => by rw [z, coef_none hn]; rfl))) fun v H2 e2 z => kk v H2 (e1.trans e2) z
theorem ev_rowOf {σ : L2.St} {H : Hp} {ta tb : TE} {A : BkA} {pts : List Str} {app : Str → Rat} {rds : List Rdg} {r : Rdg} (b : Bk K A pts app rds H) (n16 : pts.length < 16) (nd : (r.ts.map fun x => x.1).Nodup) (ha : EvP (K := K) ta σ H (tyE (.ref A.b))) (hb : EvP tb σ H (tyRead K r)) :
    EvP (K := K) (tCall (sRowOf K).sp [] E0 (tCons ta (tCons tb tNil))) σ H (tyVec pts.length fun i => (coef r.ts (pts.getD i default) : Rat)) :=
  ev_callH (s := sRowOf K) ((A, pts, app, rds), r) (fun H1 e => ⟨b.ex e, n16, nd⟩) (ea_cons ha (ea_cons hb ea_nil)) fun _ _ _ _ _ z => z
/-! ### the rows of a list of readings -/
def rowA (pts : List Str) (rds : List Rdg) : Nat → Nat → Rat := fun k i => (coef (rds.getD k default).ts (pts.getD i default) : Rat)
def rowW (rds : List Rdg) : Nat → Rat := fun k => (rds.getD k default).wt
def rowV (rds : List Rdg) : Nat → Rat := fun k => (rds.getD k default).val
/-- a reading that the law may make -/
structure RdOk (r : Rdg) : Prop where
  nd : (r.ts.map fun x => x.1).Nodup
  co : ∀ x, x ∈ r.ts → x.2.natAbs ≤ 3 ∧ x.2 ≠ 0
  wt : Pb.IntD 2 8 r.wt
  pos : 0 < r.wt
  val : Pb.IntD 6 36 r.val
theorem coef_le {n : Str} : ∀ {ts : List (Str × Int)}, (∀ x, x ∈ ts → x.2.natAbs ≤ 3 ∧ x.2 ≠ 0) → (coef ts n).natAbs ≤ 3
  | [], _ => by simp [coef]
  | (m, c) :: r, h => by
    rw [coef]
    split
    · exact (h _ List.mem_cons_self).1
    · exact coef_le fun x hx => h x (List.mem_cons_of_mem _ hx)
theorem getD_mem {α : Type} [Inhabited α] {l : List α} {i : Nat} (h : i < l.length) : l.getD i default ∈ l := by
  rw [List.getD_eq_getElem?_getD, List.getElem?_eq_getElem h]
  exact List.getElem_mem h
theorem rowsOk {n : Nat} {pts : List Str} {rds : List Rdg} (h : ∀ r, r ∈ rds → RdOk r) (l : rds.length < 16) : Pb.RowsOk n rds.length (rowA pts rds) (rowW rds) (rowV rds) := by
  refine ⟨l, fun k i hk _ => ?_, fun k hk => (h _ (getD_mem hk)).wt, fun k hk => (h _ (getD_mem hk)).val, fun k hk => (h _ (getD_mem hk)).pos⟩
  exact (Pb.IntD.int _).mono (coef_le (h _ (getD_mem hk)).co)
/-- a book that the law may make -/
structure BkOk (pts : List Str) (rds : List Rdg) : Prop where
  n16 : pts.length < 16
  m16 : rds.length < 16
  rd : ∀ r, r ∈ rds → RdOk r
def sSums (K : PySem.W.Frag) : Sph K := ⟨BkA × List Str × (Str → Rat) × List Rdg, fun x => [tyE (.ref x.1.b)], fun x H => Bk K x.1 x.2.1 x.2.2.1 x.2.2.2 H ∧ BkOk x.2.1 x.2.2.2,
  fun x _ v H' => (tyTup (K := K) [tyMat x.2.1.length x.2.1.length (Pb.gN x.2.2.2.length (rowA x.2.1 x.2.2.2) (rowW x.2.2.2)), tyVec x.2.1.length (Pb.gR x.2.2.2.length (rowA x.2.1 x.2.2.2) (rowW x.2.2.2) (rowV x.2.2.2)), tyRat (Pb.gT x.2.2.2.length (rowW x.2.2.2) (rowV x.2.2.2))]).p v H'⟩
theorem ei_reads {σ : L2.St} {H : Hp} {tl : TE} {A : BkA} {pts : List Str} {app : Str → Rat} {rds : List Rdg} (b : Bk K A pts app rds H) (h : EvP (K := K) tl σ H (tyE (.ref A.lr))) : EvI (K := K) (iList K tl) σ H rds.length (fun i => tyRead K (rds.getD i default)) (fun H2 H3 => SqL K H3 A.lr A.rs ∧ Ge K H H3) := by
  have q := ei_list (T := fun i => tyRead K (rds.getD i default)) h (SqL.of b.rd) b.its
  rw [b.ln] at q
  exact q
theorem ev_addTerm {σ : L2.St} {H : Hp} {ta tb tc : TE} {n : Nat} {M : Nat → Nat → Rat} {a : Nat → Rat} {q : Rat} (ha : EvP (K := K) ta σ H (tyMat n n M)) (hb : EvP (K := K) tb σ H (tyVec n a)) (hc : EvP (K := K) tc σ H (tyRat q)) (z1 : SzM n n M) (z2 : SzV n a) (z3 : Sz LIM q)
    (z4 : SzM n n fun i j => a i * a j) (z5 : SzM n n fun i j => q * (a i * a j)) : EvP (K := K) (tCall (sAddTerm K).sp [] E0 (tCons ta (tCons tb (tCons tc tNil)))) σ H (tyMat n n (Pb.plusT M a q)) := ev_call (s := sAddTerm K) (n, M, a, q) ⟨z1, z2, z3, z4, z5⟩ (ea_cons ha (ea_cons hb (ea_cons hc ea_nil)))
theorem sc_f_sums_of : FnScope ["book", "width", "normal", "right", "constant", "reading", "row"] ["book"] (defScope sf_sums_of) := ⟨rfl, rfl, rfl, by decide +kernel, rfl, by decide +kernel, by decide +kernel⟩
theorem ok_sums_of (c : Cxt P K mg base) : Ok P w K mg base df_sums_of 40 ["book"] (sSums K).sp := by
  obtain ⟨ds1, vds, b1⟩ := bRI1 c
  have nd := (sc_f_sums_of).nd
  refine okH c.Ff_sums_of sc_f_sums_of (sSums K) (fun _ => rfl) fun cdv A outer s0 H E hr => ⟨_, PSs.nox ((pss_cons (ps_set (i := 1) nd rfl (by first | exact Or.inl rfl | exact Or.inr rfl) (pe_callB (call_lenK K) (by rfl) c.z_len PySem.boot_len (pa_cons (pe_fldK K (pv 0) rfl) pa_nil)))
      (pss_cons (ps_set (i := 2) nd rfl (by first | exact Or.inl rfl | exact Or.inr rfl) (pe_call (ok_zeros c) (by exact hr.mono (by decide)) rfl c.g_zeros c.Ff_zeros.kp c.bf_zeros .nil pass0 (pa_cons (pv 1) (pa_cons (pv 1) pa_nil))))
      (pss_cons (ps_set (i := 3) nd rfl (by first | exact Or.inl rfl | exact Or.inr rfl) (pe_call (ok_zero c) (by exact hr.mono (by decide)) rfl c.g_zero c.Ff_zero.kp c.bf_zero .nil pass0 (pa_cons (pv 1) pa_nil)))
      (pss_cons (ps_set (i := 4) nd rfl (by first | exact Or.inl rfl | exact Or.inr rfl) (pe_make c.k_Ratio (ok_RInit c) (by exact hr.mono (by decide)) rfl c.g_Ratio b1 vds pass0 (pa_cons pe_int pa_nil)))
      (pss_cons (ps_for PassesOwn.never rfl (pi_listK K (pe_fldK K (pv 0) rfl)) (pg_name (i := 5) nd rfl (by first | exact Or.inl rfl | exact Or.inr rfl)) (pss_cons (ps_set (i := 6) nd rfl (by first | exact Or.inl rfl | exact Or.inr rfl) (pe_call (ok_row_of c) (by exact hr.mono (by decide)) rfl c.g_row_of c.Ff_row_of.kp c.bf_row_of .nil pass0 (pa_cons (pv 0) (pa_cons (pv 5) pa_nil))))
      (pss_cons (ps_set (i := 2) nd rfl (by first | exact Or.inl rfl | exact Or.inr rfl) (pe_call (ok_add_term c) (by exact hr.mono (by decide)) rfl c.g_add_term c.Ff_add_term.kp c.bf_add_term .nil pass0 (pa_cons (pv 2) (pa_cons (pv 6) (pa_cons (pe_fldK K (pv 5) rfl) pa_nil)))))
      (pss_cons (ps_set (i := 3) nd rfl (by first | exact Or.inl rfl | exact Or.inr rfl) (pe_call (ok_plus c) (by exact hr.mono (by decide)) rfl c.g_plus c.Ff_plus.kp c.bf_plus .nil pass0 (pa_cons (pv 3) (pa_cons (pe_call (ok_scale c) (by exact hr.mono (by decide)) rfl c.g_scale c.Ff_scale.kp c.bf_scale .nil pass0 (pa_cons (pe_op (op_rMul c (by exact hr.mono (by decide))) (pe_fldK K (pv 5) rfl) (pe_fldK K (pv 5) rfl)) (pa_cons (pv 6) pa_nil))) pa_nil))))
      (pss_one (ps_set (i := 4) nd rfl (by first | exact Or.inl rfl | exact Or.inr rfl) (pe_op (op_rAdd c (by exact hr.mono (by decide))) (pv 4) (pe_op (op_rMul c (by exact hr.mono (by decide))) (pe_op (op_rMul c (by exact hr.mono (by decide))) (pe_fldK K (pv 5) rfl) (pe_fldK K (pv 5) rfl)) (pe_fldK K (pv 5) rfl)))))))))
      (pss_one (ps_ret (pe_tup (pa_cons (pv 2) (pa_cons (pv 3) (pa_cons (pv 4) pa_nil)))))))))))), fun x Q σ hx hs k => ?_⟩
  have kk := k
  obtain ⟨A, pts, app, rds⟩ := x
  obtain ⟨bk, ok⟩ : Bk K A pts app rds H ∧ BkOk pts rds := hx
  have hs : Sat [some (tyE (.ref A.b)), none, none, none, none, none, none] σ H := hs
  have n16 := ok.n16
  have RO := rowsOk (n := pts.length) (pts := pts) ok.rd ok.m16
  generalize ha : rowA pts rds = a at RO kk
  generalize hw : rowW rds = ww at RO kk
  generalize hv : rowV rds = vv at RO kk
  have eL := ev_lenL (K := K) bk.pt (ev_Bp c bk (ev_var (i := 0) hs rfl))
  rw [List.length_map] at eL
  refine q_asg hs eL fun σ1 H1 e1 s1 => ?_
  refine q_asg s1 (ev_zeros (ev_var s1 rfl) (ev_var s1 rfl) n16 n16) fun σ2 H2 e2 s2 => ?_
  refine q_asg s2 (ev_zero (ev_var s2 rfl) n16) fun σ3 H3 e3 s3 => ?_
  refine q_asg s3 (ev_mk1 ev_c) fun σ4 H4 e4 s4 => ?_
  have e04 := (e1.trans e2).trans (e3.trans e4)
  have b4 := bk.ex e04
  refine q_for (ei_reads b4 (ev_Br c b4 (ev_var s4 rfl)))
    (fun H5 i σ' H' => Ex H5 H' ∧ Sat [some (tyE (.ref A.b)), some (tyInt pts.length), some (tyMat pts.length pts.length (Pb.gN i a ww)), some (tyVec pts.length (Pb.gR i a ww vv)), some (tyRat (Pb.gT i ww vv)), none, none] σ' H')
    (fun H5 e5 => ⟨Ex.refl _, s4.ex e5⟩) (fun H5 e5 i σ' H' _ p => ⟨SqL.of ((e5.trans p.1) _ _ b4.rd), ge_ex (e5.trans p.1)⟩) (fun H5 e5 i x σ' H' H'' hi p e6 y => ?_) (fun H5 e5 σ' H' p => ?_)
  · have R := RO.less (Nat.le_of_lt hi)
    have R1 := RO.less (l := i + 1) hi
    have s6 := (p.2.ex e6).set (i := 5) y
    have b6 := b4.ex (e5.trans (p.1.trans e6))
    have nd := (ok.rd _ (getD_mem hi)).nd
    have ea : (fun j => (coef (rds.getD i default).ts (pts.getD j default) : Rat)) = a i := by rw [← ha]; rfl
    have ew : (rds.getD i default).wt = ww i := by rw [← hw]; rfl
    have ev : (rds.getD i default).val = vv i := by rw [← hv]; rfl
    have er := ev_rowOf b6 n16 nd (ev_var (i := 0) s6 rfl) (ev_var (i := 5) s6 rfl)
    rw [ea] at er
    refine q_asg s6 er fun σ7 H7 e7 s7 => ?_
    have eW := ev_Rw c (ev_var (i := 5) s7 rfl)
    have hRow := R1.row (Nat.lt_succ_self i)
    have hW : Sz 4 (ww i) := (Pb.IntD.ht (D := 2) (B := 8) (b := 4) (X := fun q => ww i = q) (by decide) (by decide) (by decide) fun q e => by rw [← e]; exact R1.hw i (Nat.lt_succ_self i)).sz rfl
    have hV : Sz 6 (vv i) := (Pb.IntD.ht (D := 6) (B := 36) (b := 6) (X := fun q => vv i = q) (by decide) (by decide) (by decide) fun q e => by rw [← e]; exact R1.hv i (Nat.lt_succ_self i)).sz rfl
    rw [ew] at eW
    have eV := ev_Rv c (ev_var (i := 5) s7 rfl)
    rw [ev] at eV
    have sA : ∀ j, j < pts.length → Sz 2 (a i j) := fun j hj => hRow.sz ⟨j, hj, rfl⟩
    have s4' : ∀ j l, j < pts.length → l < pts.length → Sz _ (a i j * a i l) := fun j l hj hl => Sz.mul (sA j hj) (sA l hl)
    have s5' : ∀ j l, j < pts.length → l < pts.length → Sz _ (ww i * (a i j * a i l)) := fun j l hj hl => Sz.mul hW (s4' j l hj hl)
    have hL : 100 ≤ LIM := by decide
    refine q_asg (T := tyMat pts.length pts.length (Pb.gN (i + 1) a ww)) s7 ((ev_addTerm (ev_var s7 rfl) (ev_var s7 rfl) eW (.of n16 n16 R.gN (by omega)) (.of n16 hRow (by omega)) (hW.mono (by omega)) ⟨n16, n16, fun j l hj hl => (s4' j l hj hl).mono (by omega)⟩ ⟨n16, n16, fun j l hj hl => (s5' j l hj hl).mono (by omega)⟩).to fun v H' _ z => z) fun σ8 H8 e8 s8 => ?_
    have eW8 := ev_Rw c (ev_var (i := 5) s8 rfl)
    rw [ew] at eW8
    have eV8 := ev_Rv c (ev_var (i := 5) s8 rfl)
    rw [ev] at eV8
    have hWV := Sz.mul hW hV
    refine q_asg (T := tyVec pts.length (Pb.gR (i + 1) a ww vv)) s8 ((ev_plus (ev_var s8 rfl) (ev_scale (ev_mul eW8 eV8 (hW.mono (by omega)) (hV.mono (by omega))) (ev_var s8 rfl) (hWV.mono (by omega)) (.of n16 hRow (by omega))) (.of n16 R.gR (by omega)) ⟨n16, fun j hj => (Sz.mul hWV (sA j hj)).mono (by omega)⟩).to fun v H' _ z => z) fun σ9 H9 e9 s9 => ?_
    have eW9 := ev_Rw c (ev_var (i := 5) s9 rfl)
    rw [ew] at eW9
    have eV9 := ev_Rv c (ev_var (i := 5) s9 rfl)
    rw [ev] at eV9
    refine s_asg (T := tyRat (Pb.gT (i + 1) ww vv)) s9 (ev_add (ev_var s9 rfl) (ev_mul (ev_mul eW9 eV9 (hW.mono (by omega)) (hV.mono (by omega))) eV9 (hWV.mono (by omega)) (hV.mono (by omega))) ((R.gT.sz rfl).mono (by omega)) ((Sz.mul hWV hV).mono (by omega))) fun σA HA eA sA' => ⟨p.1.trans (e6.trans ((e7.trans e8).trans (e9.trans eA))), (sA'.forget (i := 5)).forget (i := 6)⟩
  · refine s_ret (ev_trip (ev_var p.2 rfl) (ev_var p.2 rfl) (ev_var p.2 rfl)) fun v H6 e6 z => kk v H6 (e04.trans (e5.trans (p.1.trans e6))) (by subst ha hw hv; exact z)
theorem ev_sums {σ : L2.St} {H : Hp} {ta : TE} {A : BkA} {pts : List Str} {app : Str → Rat} {rds : List Rdg} (b : Bk K A pts app rds H) (ok : BkOk pts rds) (ha : EvP (K := K) ta σ H (tyE (.ref A.b))) :
    EvP (K := K) (tCall (sSums K).sp [] E0 (tCons ta tNil)) σ H (tyTup [tyMat pts.length pts.length (Pb.gN rds.length (rowA pts rds) (rowW rds)), tyVec pts.length (Pb.gR rds.length (rowA pts rds) (rowW rds) (rowV rds)), tyRat (Pb.gT rds.length (rowW rds) (rowV rds))]) :=
  ev_callH (s := sSums K) (A, pts, app, rds) (fun H1 e => ⟨b.ex e, ok⟩) (ea_cons ha ea_nil) fun _ _ _ _ _ z => z
end
end Pd

/-! The defs' promises: places, points required. -/
namespace Pd
open PySem PySem.Spec PyProof.Rows L2 Evl Pt Pn
open Pb (Ht Sz entV entM)
theorem getD_app1 {ns inn : List Str} {k : Nat} (h : k < ns.length) : (ns ++ inn).getD k default = ns.getD k default := by
  rw [List.getD_eq_getElem?_getD, List.getD_eq_getElem?_getD, List.getElem?_append_left h]
theorem getD_app2 {ns inn : List Str} (k : Nat) : (ns ++ inn).getD (ns.length + k) default = inn.getD k default := by
  rw [List.getD_eq_getElem?_getD, List.getD_eq_getElem?_getD, List.getElem?_append_right (by omega), Nat.add_sub_cancel_left]
theorem getD_get {l : List Str} {k : Nat} (h : k < l.length) : l[k]? = some (l.getD k default) := by
  rw [List.getD_eq_getElem?_getD, List.getElem?_eq_getElem h]
  rfl
theorem filt_places {ns inn : List Str} (nd : (ns ++ inn).Nodup) : (List.range (ns ++ inn).length).filter (fun k => !decide ((ns ++ inn).getD k default ∈ ns)) = (List.range inn.length).map (ns.length + ·) := by
  rw [List.length_append, List.range_add, List.filter_append]
  have e1 : (List.range ns.length).filter (fun k => !decide ((ns ++ inn).getD k default ∈ ns)) = [] := by
    rw [List.filter_eq_nil_iff]
    intro k hk
    have hk := List.mem_range.mp hk
    rw [getD_app1 hk]
    have := getD_mem hk
    simpa using this
  have e2 : ((List.range inn.length).map (ns.length + ·)).filter (fun k => !decide ((ns ++ inn).getD k default ∈ ns)) = (List.range inn.length).map (ns.length + ·) := by
    rw [List.filter_eq_self]
    intro k hk
    obtain ⟨i, hi, rfl⟩ := List.mem_map.mp hk
    have hi := List.mem_range.mp hi
    rw [getD_app2]
    have : inn.getD i default ∉ ns := fun h => (List.nodup_append.mp nd).2.2 _ h _ (getD_mem hi) rfl
    simpa using this
  rw [e1, e2, List.nil_append]
section
variable {P : Program} {w : World} {K : PySem.W.Frag} {mg : Str → Option Value} {base : Heap}
theorem q_raw {te : TE} {i : Nat} {D : Ends} {tz : TS} {σ : L2.St} {H : Hp} (h : te σ H fun v H1 => tz D (σ.set i (some v)) H1) : tSeq (tAsg te (gName i)) tz D σ H := h
def sPlaces (K : PySem.W.Frag) : Sph K := ⟨(BkA × List Str × (Str → Rat) × List Rdg) × Addr × List Str × List Str, fun x => [tyE (.ref x.1.1.b), tyE (.ref x.2.1)],
  fun x H => Bk K x.1.1 x.1.2.1 x.1.2.2.1 x.1.2.2.2 H ∧ Nms x.2.1 x.2.2.1 H ∧ x.1.2.1 = x.2.2.1 ++ x.2.2.2 ∧ x.1.2.1.Nodup ∧ x.1.2.1.length < 16,
  fun x _ v H' => ∃ t l l', v = .ref t ∧ H' t = some (.tup [.ref l, .ref l']) ∧ IntL K l x.2.2.2.length (x.2.2.1.length + ·) H' ∧ IntL K l' x.2.2.1.length id H'⟩
theorem sc_f_places_of : FnScope ["book", "names", "inner", "place", "name"] ["book", "names"] (defScope sf_places_of) := ⟨rfl, rfl, rfl, by decide +kernel, rfl, by decide +kernel, by decide +kernel⟩
theorem ok_places_of (c : Cxt P K mg base) : Ok P w K mg base df_places_of 33 ["book", "names"] (sPlaces K).sp := by
  have nd := (sc_f_places_of).nd
  refine okH c.Ff_places_of sc_f_places_of (sPlaces K) (fun _ => rfl) fun cdv A outer s0 H E hr => ⟨_, PSs.nox ((pss_cons (ps_setLc (i := 2) (own := [("place", 3), ("name", 4)]) (g := gTup K 2 (gCons (gName 3) (gCons (gName 4) gNil))) rfl nd rfl rfl (sw_true rfl rfl rfl (by decide +kernel)) (pi_enumK K (by rfl) c.z_enumerate (pa_cons (pe_fldK K (pv 0) rfl) pa_nil)) (blkOk_by rfl) (fun _ _ _ _ _ => (pg_tupK K rfl (pgs_cons (pg_name (i := 3) nd rfl (by first | exact Or.inl rfl | exact Or.inr rfl)) (pgs_cons (pg_name (i := 4) nd rfl (by first | exact Or.inl rfl | exact Or.inr rfl)) pgs_nil)))) (fun _ _ _ _ _ => (pts_one (pt_cmpR (op_notInK K) (pv 4) (pv 1) (by rfl)))) (fun _ _ _ _ _ => (pv 3)))
      (pss_one (ps_ret (pe_tup (pa_cons (pv 2) (pa_cons (pe_lc (own := [("name", 4)]) (g := gName 4) (tt := tYes) rfl nd (pi_seqK K (pv 1)) (blkOk_by rfl) (fun _ _ _ _ _ => (pg_name (i := 4) nd rfl (by first | exact Or.inl rfl | exact Or.inr rfl))) (fun _ _ _ _ _ => pts_nil) (fun _ _ _ _ _ => (pe_bmK K PySem.F.plainAttrs_list PySem.F.slot_list_index PySem.F.type_list_index (mt_indexK K) (pe_fldK K (pv 0) rfl) (pa_cons (pv 4) pa_nil)))) pa_nil))))))), fun x Q σ hx hs k => ?_⟩
  have kk := k
  obtain ⟨⟨A, pts, app, rds⟩, p, ns, inn⟩ := x
  obtain ⟨bk, hp, hpts, nd, n16⟩ : Bk K A pts app rds H ∧ Nms p ns H ∧ pts = ns ++ inn ∧ pts.Nodup ∧ pts.length < 16 := hx
  have hs : Sat [some (tyE (.ref A.b)), some (tyE (.ref p)), none, none, none] σ H := hs
  have hz : (pts.map V.str).length = pts.length := List.length_map _
  have ei := ei_enum (K := K) (σ := σ) (T := fun i => tyE (K := K) (.str (pts.getD i default))) (ta := tCons (tFld K (tVar 0) "points") tNil) (ea_cons (ev_Bp c bk (ev_var (i := 0) hs rfl)) ea_nil) (SqL.of bk.pt) its_strs
  rw [hz] at ei
  refine q_raw (el_lc2F (i := 3) (j := 4) (by decide) (b := fun k => !decide (pts.getD k default ∈ ns)) (U := fun k => tyInt (K := K) (k : Nat)) hs ei (fun H2 H3 a e => ⟨SqL.of ((a.trans e) _ _ bk.pt), ge_ex (a.trans e)⟩) (by omega) (fun i σ' H' hi e s => ?_) (fun i σ' H' hi hb e s => ev_var (i := 3) s rfl) H (Ex.refl _) _ fun l xs H1 hl e1 h1 f1 => ?_)
  · exact et_of (ev_inNms (neg := true) (hp.ex e) (ev_var s rfl) (ev_var s rfl))
  · have i1 : IntL K l inn.length (ns.length + ·) H1 := by
      rw [hpts, filt_places (by rw [← hpts]; exact nd)] at f1
      refine ⟨xs, h1, by rw [f1.1]; simp, fun j x hx => ?_⟩
      have hj : j < inn.length := by
        have h2 := f1.1
        have h3 := (List.getElem?_eq_some_iff.mp hx).1
        simp at h2
        omega
      exact f1.2 j (ns.length + j) x (by rw [List.getElem?_map, List.getElem?_range hj]; rfl) hx
    have s1 := (hs.ex e1).set (i := 2) (T := tyE (.ref l)) rfl
    have b1 := bk.ex e1
    obtain ⟨_, g2, rfl⟩ := s1.get (i := 2) rfl
    have ln : ns.length ≤ pts.length := by rw [hpts, List.length_append]; omega
    refine ⟨_, g2, (el_lc (j := 4) (U := fun i => tyInt (K := K) (i : Nat)) s1 (ei_seq (ev_var (i := 1) s1 rfl) (hp.ex e1)) (fun H2 H3 a e => (hp.ex e1).same a e) (by omega) fun i σ' H' hi e s => ?_) H1 (Ex.refl _) _ fun l' xs' H2 hl2 e2 h2 l2 it2 => ⟨by simp [sizeLine], fun t ht => ?_⟩⟩
    · refine ev_index (K := K) (ns := pts) (j := i) (b1.ex e).pt (ev_Bp c (b1.ex e) (ev_var s rfl)) (ev_var s rfl) ?_ fun m hm h => ?_
      · rw [hpts, List.getElem?_append_left hi, getD_get hi]
      · have hm' : m < ns.length := by omega
        rw [hpts, List.getElem?_append_left hm', getD_get hm'] at h
        have h := Option.some.inj h
        have nd2 : ns.Nodup := (List.nodup_append.mp (by rw [← hpts]; exact nd)).1
        have e5 : ns[m]? = ns[i]? := by rw [getD_get hm', getD_get hi, h]
        have := (List.getElem?_inj hm' nd2).mp e5
        omega
    · have e3 := Ex.new (o := .tup [.ref l, .ref l']) ht
      exact kk _ _ (e1.trans (e2.trans e3)) ⟨t, l, l', rfl, upd_same, i1.ex (e2.trans e3), ⟨xs', e3 _ _ h2, l2, Its.ex (T := fun i => tyInt (K := K) (i : Nat)) e3 it2⟩⟩
def sRequire (K : PySem.W.Frag) : Sph K := ⟨(BkA × List Str × (Str → Rat) × List Rdg) × Addr × List Str, fun x => [tyE (.ref x.1.1.b), tyE (.ref x.2.1)],
  fun x H => Bk K x.1.1 x.1.2.1 x.1.2.2.1 x.1.2.2.2 H ∧ H x.2.1 = some (.lst (x.2.2.map V.str)) ∧ ∀ n, n ∈ x.2.2 → n ∈ x.1.2.1, fun _ _ _ _ => True⟩
theorem sc_f_require_points : FnScope ["book", "names", "name"] ["book", "names"] (defScope sf_require_points) := ⟨rfl, rfl, rfl, by decide +kernel, rfl, by decide +kernel, by decide +kernel⟩
theorem ok_require_points (c : Cxt P K mg base) : Ok P w K mg base df_require_points 33 ["book", "names"] (sRequire K).sp := by
  have nd := (sc_f_require_points).nd
  refine okH c.Ff_require_points sc_f_require_points (sRequire K) (fun _ => rfl) fun cdv A outer s0 H E hr => ⟨_, PSs.nox ((pss_one (ps_for PassesOwn.never rfl (pi_listK K (pv 1)) (pg_name (i := 2) nd rfl (by first | exact Or.inl rfl | exact Or.inr rfl)) (pss_one (ps_if (pt_cmp (pc_dnotin (hu_of hr) (pv 2) (pe_fldK K (pv 0) rfl))) (pss_one ps_never) pss_nil))))), fun x Q σ hx hs k => ?_⟩
  have kk := k
  obtain ⟨⟨A, pts, app, rds⟩, p, ns⟩ := x
  obtain ⟨bk, hp, sub⟩ : Bk K A pts app rds H ∧ H p = some (.lst (ns.map V.str)) ∧ ∀ n, n ∈ ns → n ∈ pts := hx
  have hs : Sat [some (tyE (.ref A.b)), some (tyE (.ref p)), none] σ H := hs
  refine s_for (ei_strs (ev_var (i := 1) hs rfl) hp) (fun H2 i σ' H' => Ex H2 H' ∧ Sat [some (tyE (.ref A.b)), some (tyE (.ref p)), none] σ' H') (fun H2 e2 => ⟨Ex.refl _, hs.ex e2⟩) (fun H2 e2 i σ' H' _ q => ⟨SqL.of ((e2.trans q.1) _ _ hp), ge_ex (e2.trans q.1)⟩)
    (fun H2 e2 i x σ' H' H'' hi q e3 y => ?_) (fun H2 e2 σ' H' q => kk _ _ (e2.trans q.1) trivial)
  have s3 := (q.2.ex e3).set (i := 2) y
  have b3 := bk.ex (e2.trans (q.1.trans e3))
  have hm := sub _ (getD_mem hi)
  refine s_if (b := false) (et_of (by
    have z := ev_dnotin b3.ap (ev_Ba c b3 (ev_var (i := 0) s3 rfl)) (ev_var (K := K) (i := 2) s3 rfl)
    rw [decide_eq_true hm] at z
    exact z)) (fun z => by cases z) fun _ H4 e4 => ⟨q.1.trans (e3.trans e4), (s3.ex e4).forget (i := 2)⟩
end
end Pd

/-! The defs' promises: border forms. -/
namespace Pd
open PySem PySem.Spec PyProof.Rows L2 Evl Pt Pn
open Pb (Ht Sz entV entM)
open LamX (Tabs ExtN TabB)
/-- the tables of code objects, and what their objects are named -/
def TT (K : PySem.W.Frag) : List (Addr × Str) := tf.map fun p => ((He.cT K p).2, (p.1 ++ ".<locals>.") ++ "<lambda>")
theorem ge_extN {K : PySem.W.Frag} {H H' : Hp} (e : ExtN H H') : Ge K H H' := fun a o h i => e a o h fun ps z => by rw [z] at i; exact i
theorem extN_ex {H H' : Hp} (e : Ex H H') : ExtN H H' := ExtN.of e
section
variable {P : Program} {w : World} {K : PySem.W.Frag} {mg : Str → Option Value} {base : Heap}
/-- a promise that asks of the heap and may write tables of code objects -/
structure Spn (K : PySem.W.Frag) where
  ι : Type
  args : ι → List (Ty K)
  side : ι → Hp → Prop
  post : ι → Hp → V → Hp → Prop
def Spn.sp (s : Spn K) : Sp := fun vs H Q _ => ∃ x : s.ι, s.side x H ∧ Tabs (TT K) H ∧ Tys (s.args x) vs H ∧ ∀ v H', ExtN H H' → Tabs (TT K) H' → s.post x H v H' → Q v H'
theorem tb_at (c : Cxt P K mg base) : (tf.map fun p => (He.cT K p).2).Nodup := by
  have m := (He.ba (He.ba (He.ba c.more).2).2).2
  unfold tbB at m
  exact of_decide_eq_true m
theorem map_inj_of {α β : Type} {f : α → β} : ∀ {l : List α}, (l.map f).Nodup → ∀ {a b : α}, a ∈ l → b ∈ l → f a = f b → a = b
  | [], _, a, b, h, _, _ => by cases h
  | x :: l, nd, a, b, ha, hb, e => by
    rw [List.map_cons, List.nodup_cons] at nd
    rcases List.mem_cons.mp ha with h1 | h1
    · rcases List.mem_cons.mp hb with h2 | h2
      · rw [h1, h2]
      · exact absurd (by rw [← h1, e]; exact List.mem_map.mpr ⟨b, h2, rfl⟩) nd.1
    · rcases List.mem_cons.mp hb with h2 | h2
      · exact absurd (by rw [← h2, ← e]; exact List.mem_map.mpr ⟨a, h1, rfl⟩) nd.1
      · exact map_inj_of nd.2 h1 h2 e
theorem okN {d : He.DefD} {N ps : List Str} {k : Nat} {p : He.Defn} (c : Cxt P K mg base) (hp : p ∈ tf) (hat : d.at_ = p) (hq : d.qual = p.1) (F : FunD K d.name d.qual d.params d.body d.scope (d.dvs K) (d.kws K) (He.fAd K d.at_) (fdA K d)) (S : FnScope N ps d.scope) (s : Spn K) (hl : ∀ x, (s.args x).length = ps.length)
    (body : ∀ (cd : Addr), TabB base mg cd (He.cT K p).2 → ((He.cT K p).2, (d.qual ++ ".<locals>.") ++ "<lambda>") ∈ TT K → (∀ q ∈ TT K, q.1 = (He.cT K p).2 → q.2 = (d.qual ++ ".<locals>.") ++ "<lambda>") →
      ∀ (A : Around) (outer : List Env) (s0 : Shared) (H : Hp) (E : XK), Room k (A.deeper (envOfC d.qual d.scope s0.heap.objs.size (He.fAd K d.at_) (.ref cd))) →
      ∃ t, PSs (cxOf CX0 P w K mg base N d.qual d.scope (He.fAd K d.at_) (.ref cd) A outer s0 H E).nox d.body t ∧
        ∀ (x : s.ι) (Q : VK) (σ : L2.St), s.side x H → Tabs (TT K) H → Sat ((s.args x).map some ++ List.replicate (N.length - (s.args x).length) none) σ H → (∀ v H', ExtN H H' → Tabs (TT K) H' → s.post x H v H' → Q v H') → t { nx := fun _ H' => Q .non H', rt := Q } σ H) :
    Ok P w K mg base d (k + 1) ps s.sp := by
  refine okC F S (fun vs H Q E h => ?_) (fun cd A outer s0 H vs Q E hcd hr h => ?_)
  · obtain ⟨x, _, _, h, _⟩ := h
    rw [← hl x]
    exact (Paired.length h).symm
  · have e1 : (He.cT K p).1 = cd := by
      obtain ⟨oc, od, dV, kV, doc, pm, an, cdv, ct, osl, e, lk, _⟩ := F.ex
      rw [hat] at lk
      exact He.codeOf_eq lk hcd
    have TB := c.tabs p hp
    rw [e1] at TB
    have hm : ((He.cT K p).2, (d.qual ++ ".<locals>.") ++ "<lambda>") ∈ TT K := List.mem_map.mpr ⟨p, hp, by rw [hq]⟩
    have hu : ∀ q ∈ TT K, q.1 = (He.cT K p).2 → q.2 = (d.qual ++ ".<locals>.") ++ "<lambda>" := fun q hq' e => by
      obtain ⟨r, hr', rfl⟩ := List.mem_map.mp hq'
      have e2 : r = p := map_inj_of (tb_at c) hr' hp e
      rw [e2, hq]
    obtain ⟨t, h1, h2⟩ := body cd TB hm hu A outer s0 H E hr
    obtain ⟨x, hx, hT, h, k⟩ := h
    exact ⟨t, h1.nox, h2 x Q _ hx hT (sat_start h) k⟩
section
variable {σ : L2.St} {H H' : Hp} {Ts : TEnv K} {te : TE} {p : Addr} {ns : List Str} {T : List (Addr × Str)} {D : Ends} {tz : TS} {i : Nat}
theorem Sat.exN (hs : Sat Ts σ H) (e : ExtN H H') : Sat Ts σ H' := hs.st (ge_extN e)
theorem Bk.exN {A : BkA} {pts : List Str} {app : Str → Rat} {rds : List Rdg} (h : Bk K A pts app rds H) (e : ExtN H H') : Bk K A pts app rds H' :=
  ⟨e _ _ h.at_ (fun _ z => by cases z), e _ _ h.pt (fun _ z => by cases z), ⟨e _ _ h.ap.at_ (fun _ z => by cases z), h.ap.e.st (ge_extN e)⟩, e _ _ h.rd (fun _ z => by cases z), h.ln, h.its.st (ge_extN e)⟩
/-- names = tuple(sorted(l, key=..)) -/
theorem q_srtT (hs : Sat Ts σ H) (hT : Tabs T H) (ha : EvP (K := K) te σ H (tyE (.ref p))) (hp : H p = some (.lst (ns.map V.str))) (ho : SrtN ns) (hl : ns.length ≤ 100)
    (k : ∀ σ' H', ExtN H H' → Tabs T H' → Sat (Ts.set i (some (tyNms ns))) σ' H' → tz D σ' H') : tSeq (tAsg (tCB (rTupF K) (tCons (tSrt K T te) tNil)) (gName i)) tz D σ H :=
  ha H (Ex.refl _) _ fun v H1 e1 z => by
    cases z
    refine ⟨p, ns, rfl, .inl (SqL.of (e1 _ _ hp)), ho, hl, hT.ext e1, fun H2 l eN T2 hl2 => ?_⟩
    refine ⟨l, ns.map V.str, rfl, SqL.of upd_same, fun t o ht hd => ?_⟩
    have x1 := Ex.new (o := .lst (ns.map V.str)) hl2
    have x2 := Ex.new (o := .frz o (.tup (ns.map V.str))) ht
    have eA := ((extN_ex e1).trans eN).trans ((extN_ex x1).trans (extN_ex x2))
    exact k _ _ eA ((T2.ext x1).ext x2) ((Sat.exN hs eA).set ⟨t, o, rfl, upd_same, hd⟩)
end
section
variable {σ : L2.St} {H : Hp} {ta tb te : TE}
theorem ev_pinv {n b : Nat} {M : Nat → Nat → Rat} (ha : EvP (K := K) ta σ H (tyMat n n M)) (hb : EvP (K := K) tb σ H (tyInt n)) (n8 : n < 8) (ht : Ht b (entM n n M)) (hl : 4 * Pb.pinvBits n b + 8 ≤ LIM) :
    EvP (K := K) (tCall (sPinv K).sp [] E0 (tCons ta (tCons tb tNil))) σ H (tyEx fun (P : Nat → Nat → Rat) => tyAnd (Pb.Pen n M P) (tyMat n n P)) := ev_call (s := sPinv K) (n, b, M) ⟨n8, ht, hl⟩ (ea_cons ha (ea_cons hb ea_nil))
/-- three names for a triple -/
theorem g_trip {A B D : Ty K} {v : V} {i j k : Nat} {Q : L2.St → Hp → Prop} (h : (tyTup [A, B, D]).p v H) (q : ∀ x y z, A.p x H → B.p y H → D.p z H → Q (((σ.set i (some x)).set j (some y)).set k (some z)) H) : gTup K 3 (gCons (gName i) (gCons (gName j) (gCons (gName k) gNil))) v σ H Q := by
  obtain ⟨a, xs, e, h1, t⟩ := h
  cases t with
  | cons z zs =>
    cases zs with
    | cons z' zs =>
      cases zs with
      | cons z'' zs =>
        cases zs
        exact ⟨a, _, e, SqT.of h1, rfl, _, _, rfl, _, _, rfl, _, _, rfl, rfl, q _ _ _ z z' z''⟩
theorem q_drop {D : Ends} {tz : TS} (h : te σ H fun _ H' => tz D σ H') : tSeq (tDrop te) tz D σ H := h
theorem ev_lenI {l : Addr} {n : Nat} {f : Nat → Nat} (hl : IntL K l n f H) (ha : EvP (K := K) ta σ H (tyE (.ref l))) : EvP (K := K) (tCB (Pt.rLen K) (tCons ta tNil)) σ H (tyInt n) := by
  obtain ⟨xs, h, l1, _⟩ := hl.at_
  subst l1
  exact ev_lenL h ha
end
/-- the forms of a part -/
abbrev tyForms (K : PySem.W.Frag) (ns : List Str) (ni : Nat) (rds : List Rdg) (pts : List Str) : Ty K :=
  tyEx fun (P : Nat → Nat → Rat) => tyAnd (Pb.Pen ni (Pb.gN rds.length (Pb.inn ns.length (rowA pts rds)) (rowW rds)) P) (tyForm K ns (Pb.formA ns.length ni rds.length (rowA pts rds) (rowW rds) P) (Pb.formB ns.length ni rds.length (rowA pts rds) (rowW rds) (rowV rds) P) (Pb.formC ns.length ni rds.length (rowA pts rds) (rowW rds) (rowV rds) P))
/-- a part: its border names first, then its own -/
structure PartOk (pts ns inn : List Str) (rds : List Rdg) : Prop where
  eq : pts = ns ++ inn
  nd : pts.Nodup
  ok : BkOk pts rds
  i2 : inn.length ≤ 2
  b3 : ns.length ≤ 3
  srt : SrtN ns
def sBorder (K : PySem.W.Frag) : Spn K := ⟨(BkA × List Str × (Str → Rat) × List Rdg) × Addr × List Str × List Str, fun x => [tyE (.ref x.1.1.b), tyE (.ref x.2.1)],
  fun x H => Bk K x.1.1 x.1.2.1 x.1.2.2.1 x.1.2.2.2 H ∧ H x.2.1 = some (.lst (x.2.2.1.map V.str)) ∧ PartOk x.1.2.1 x.2.2.1 x.2.2.2 x.1.2.2.2,
  fun x _ v H' => (tyForms K x.2.2.1 x.2.2.2.length x.1.2.2.2 x.1.2.1).p v H'⟩
theorem extN_tr {H H1 H2 : Hp} (a : ExtN H H1) (b : Ex H1 H2) : ExtN H H2 := a.trans (extN_ex b)
theorem sc_f_border_form : FnScope ["book", "border", "names", "inner", "outer_places", "normal", "right", "constant", "inverse", "across", "turned", "known", "taken", "matrix", "vector"] ["book", "border"] (defScope sf_border_form) := ⟨rfl, rfl, rfl, by decide +kernel, rfl, by decide +kernel, by decide +kernel⟩
theorem ok_border_form (c : Cxt P K mg base) : Ok P w K mg base df_border_form 42 ["book", "border"] (sBorder K).sp := by
  obtain ⟨ds1, vds, b1⟩ := bRI1 c
  have nd := (sc_f_border_form).nd
  refine okN (p := ("border_form", none)) c (by decide +kernel) rfl rfl c.Ff_border_form sc_f_border_form (sBorder K) (fun _ => rfl) fun cdv TB hmT hu A outer s0 H E hr => ⟨_, PSs.nox ((pss_cons (ps_expr (pe_call (ok_require_points c) (by exact hr.mono (by decide)) rfl c.g_require_points c.Ff_require_points.kp c.bf_require_points .nil pass0 (pa_cons (pv 0) (pa_cons (pv 1) pa_nil))))
      (pss_cons (ps_set (i := 2) nd rfl (by first | exact Or.inl rfl | exact Or.inr rfl) (pe_callTy (call_tupleFK K) (by rfl) c.z_tuple (by decide +kernel) (pa_cons (pe_sortK K (T := TT K) (k := 29) rfl (pv 1) rfl c.z_sorted c.z_str TB rfl hmT hu (by exact hr.mono (by decide))) pa_nil)))
      (pss_cons (ps_asg (pe_call (ok_places_of c) (by exact hr.mono (by decide)) rfl c.g_places_of c.Ff_places_of.kp c.bf_places_of .nil pass0 (pa_cons (pv 0) (pa_cons (pv 2) pa_nil))) (pg_tupK K rfl (pgs_cons (pg_name (i := 3) nd rfl (by first | exact Or.inl rfl | exact Or.inr rfl)) (pgs_cons (pg_name (i := 4) nd rfl (by first | exact Or.inl rfl | exact Or.inr rfl)) pgs_nil))))
      (pss_cons (ps_asg (pe_call (ok_sums_of c) (by exact hr.mono (by decide)) rfl c.g_sums_of c.Ff_sums_of.kp c.bf_sums_of .nil pass0 (pa_cons (pv 0) pa_nil)) (pg_tupK K rfl (pgs_cons (pg_name (i := 5) nd rfl (by first | exact Or.inl rfl | exact Or.inr rfl)) (pgs_cons (pg_name (i := 6) nd rfl (by first | exact Or.inl rfl | exact Or.inr rfl)) (pgs_cons (pg_name (i := 7) nd rfl (by first | exact Or.inl rfl | exact Or.inr rfl)) pgs_nil)))))
      (pss_cons (ps_set (i := 8) nd rfl (by first | exact Or.inl rfl | exact Or.inr rfl) (pe_call (ok_pseudo_inverse c) (by exact hr.mono (by decide)) rfl c.g_pseudo_inverse c.Ff_pseudo_inverse.kp c.bf_pseudo_inverse .nil pass0 (pa_cons (pe_call (ok_block c) (by exact hr.mono (by decide)) rfl c.g_block c.Ff_block.kp c.bf_block .nil pass0 (pa_cons (pv 5) (pa_cons (pv 3) (pa_cons (pv 3) pa_nil)))) (pa_cons (pe_callB (call_lenK K) (by rfl) c.z_len PySem.boot_len (pa_cons (pv 3) pa_nil)) pa_nil))))
      (pss_cons (ps_set (i := 9) nd rfl (by first | exact Or.inl rfl | exact Or.inr rfl) (pe_call (ok_block c) (by exact hr.mono (by decide)) rfl c.g_block c.Ff_block.kp c.bf_block .nil pass0 (pa_cons (pv 5) (pa_cons (pv 4) (pa_cons (pv 3) pa_nil)))))
      (pss_cons (ps_set (i := 10) nd rfl (by first | exact Or.inl rfl | exact Or.inr rfl) (pe_call (ok_transpose c) (by exact hr.mono (by decide)) rfl c.g_transpose c.Ff_transpose.kp c.bf_transpose .nil pass0 (pa_cons (pv 9) (pa_cons (pe_callB (call_lenK K) (by rfl) c.z_len PySem.boot_len (pa_cons (pv 3) pa_nil)) pa_nil))))
      (pss_cons (ps_set (i := 11) nd rfl (by first | exact Or.inl rfl | exact Or.inr rfl) (pe_call (ok_apply c) (by exact hr.mono (by decide)) rfl c.g_apply c.Ff_apply.kp c.bf_apply .nil pass0 (pa_cons (pv 8) (pa_cons (pe_call (ok_pick c) (by exact hr.mono (by decide)) rfl c.g_pick c.Ff_pick.kp c.bf_pick .nil pass0 (pa_cons (pv 6) (pa_cons (pv 3) pa_nil))) pa_nil))))
      (pss_cons (ps_set (i := 12) nd rfl (by first | exact Or.inl rfl | exact Or.inr rfl) (pe_call (ok_product c) (by exact hr.mono (by decide)) rfl c.g_product c.Ff_product.kp c.bf_product .nil pass0 (pa_cons (pe_call (ok_product c) (by exact hr.mono (by decide)) rfl c.g_product c.Ff_product.kp c.bf_product .nil pass0 (pa_cons (pv 9) (pa_cons (pv 8) (pa_cons (pe_callB (call_lenK K) (by rfl) c.z_len PySem.boot_len (pa_cons (pv 3) pa_nil)) pa_nil)))) (pa_cons (pv 10) (pa_cons (pe_callB (call_lenK K) (by rfl) c.z_len PySem.boot_len (pa_cons (pv 2) pa_nil)) pa_nil)))))
      (pss_cons (ps_set (i := 13) nd rfl (by first | exact Or.inl rfl | exact Or.inr rfl) (pe_call (ok_sum_of c) (by exact hr.mono (by decide)) rfl c.g_sum_of c.Ff_sum_of.kp c.bf_sum_of .nil pass0 (pa_cons (pe_call (ok_block c) (by exact hr.mono (by decide)) rfl c.g_block c.Ff_block.kp c.bf_block .nil pass0 (pa_cons (pv 5) (pa_cons (pv 4) (pa_cons (pv 4) pa_nil)))) (pa_cons (pe_call (ok_scaled c) (by exact hr.mono (by decide)) rfl c.g_scaled c.Ff_scaled.kp c.bf_scaled .nil pass0 (pa_cons (pe_make c.k_Ratio (ok_RInit c) (by exact hr.mono (by decide)) rfl c.g_Ratio b1 vds pass0 (pa_cons (pe_un un_neg pe_int) pa_nil)) (pa_cons (pv 12) pa_nil))) pa_nil))))
      (pss_cons (ps_set (i := 14) nd rfl (by first | exact Or.inl rfl | exact Or.inr rfl) (pe_call (ok_minus c) (by exact hr.mono (by decide)) rfl c.g_minus c.Ff_minus.kp c.bf_minus .nil pass0 (pa_cons (pe_call (ok_pick c) (by exact hr.mono (by decide)) rfl c.g_pick c.Ff_pick.kp c.bf_pick .nil pass0 (pa_cons (pv 6) (pa_cons (pv 4) pa_nil))) (pa_cons (pe_call (ok_apply c) (by exact hr.mono (by decide)) rfl c.g_apply c.Ff_apply.kp c.bf_apply .nil pass0 (pa_cons (pv 9) (pa_cons (pv 11) pa_nil))) pa_nil))))
      (pss_one (ps_ret (pe_make c.k_Form (ok_Form_init c) (by exact hr.mono (by decide)) rfl c.g_Form c.bm_Form_init .nil pass0 (pa_cons (pv 2) (pa_cons (pv 13) (pa_cons (pv 14) (pa_cons (pe_op (op_rSub c (by exact hr.mono (by decide))) (pv 7) (pe_call (ok_dot c) (by exact hr.mono (by decide)) rfl c.g_dot c.Ff_dot.kp c.bf_dot .nil pass0 (pa_cons (pe_call (ok_pick c) (by exact hr.mono (by decide)) rfl c.g_pick c.Ff_pick.kp c.bf_pick .nil pass0 (pa_cons (pv 6) (pa_cons (pv 3) pa_nil))) (pa_cons (pv 11) pa_nil)))) pa_nil))))))))))))))))))), fun x Q σ hx hT hs k => ?_⟩
  have kk := k
  obtain ⟨⟨A, pts, app, rds⟩, p, ns, inn⟩ := x
  obtain ⟨bk, hp, PO⟩ : Bk K A pts app rds H ∧ H p = some (.lst (ns.map V.str)) ∧ PartOk pts ns inn rds := hx
  have hs : Sat [some (tyE (.ref A.b)), some (tyE (.ref p)), none, none, none, none, none, none, none, none, none, none, none, none, none] σ H := hs
  obtain ⟨hpts, nd, ok, i2, b3, srt⟩ := PO
  have len : pts.length = ns.length + inn.length := by rw [hpts, List.length_append]
  have n16 := ok.n16
  refine q_drop (call_post (s := sRequire K) ((A, pts, app, rds), p, ns) (fun H1 e => ⟨bk.ex e, e _ _ hp, fun n hn => by rw [hpts]; exact List.mem_append_left _ hn⟩) (ea_cons (ev_var hs rfl) (ea_cons (ev_var hs rfl) ea_nil)) fun H0 v H1 e0 e1 _ => ?_)
  have e01 := e0.trans e1
  refine q_srtT (hs.ex e01) (hT.ext e01) (ev_var (hs.ex e01) rfl) (e01 _ _ hp) srt (by omega) fun σ2 H2 eN T2 s2 => ?_
  have eN2 := (extN_ex e01).trans eN
  have b2 := Bk.exN bk eN2
  obtain ⟨vn, gn, a, o, rfl, ha, hd⟩ := s2.get (i := 2) rfl
  have s2' : Sat [some (tyE (.ref A.b)), some (tyE (.ref p)), some (tyE (.ref a)), none, none, none, none, none, none, none, none, none, none, none, none] σ2 H2 := s2.as gn rfl
  refine (call_post (s := sPlaces K) ((A, pts, app, rds), a, ns, inn) (fun H1 e => ⟨b2.ex e, .inr ⟨o, e _ _ ha⟩, hpts, nd, n16⟩) (ea_cons (ev_var s2' rfl) (ea_cons (ev_var s2' rfl) ea_nil)) fun H3a v H3 e3a e3b ⟨t, l, l', ev, ht, hl, hl'⟩ => ?_)
  have hl : IntL K l inn.length (ns.length + ·) H3 := hl
  have hl' : IntL K l' ns.length id H3 := hl'
  have e3 := e3a.trans e3b
  refine ⟨t, _, ev, SqT.of ht, rfl, _, _, rfl, _, _, rfl, rfl, ?_⟩
  have b3' := b2.ex e3
  have s3 : Sat [some (tyE (.ref A.b)), some (tyE (.ref p)), some (tyNms ns), some (tyE (.ref l)), some (tyE (.ref l')), none, none, none, none, none, none, none, none, none, none] _ H3 := ((s2.ex e3).set (i := 3) (T := tyE (.ref l)) rfl).set (i := 4) (T := tyE (.ref l')) rfl
  refine (ev_sums b3' ok (ev_var (i := 0) s3 rfl)) H3 (Ex.refl _) _ fun v H4 e4 tv => g_trip tv fun x y z hx hy hz => ?_
  have RO := rowsOk (n := pts.length) (pts := pts) ok.rd ok.m16
  rw [len] at RO
  have s4 := (((s3.ex e4).set (i := 5) hx).set (i := 6) hy).set (i := 7) hz
  have hL : 100000 ≤ LIM := by decide
  have hlI := hl.ex e4
  have hlO := hl'.ex e4
  have gi : ∀ i, i < inn.length → ns.length + i < pts.length := fun i hi => by omega
  have go : ∀ i, i < ns.length → id i < pts.length := fun i hi => by show i < _; omega
  refine (ev_pinv (M := Pb.gN rds.length (Pb.inn ns.length (rowA pts rds)) (rowW rds)) ((ev_block hlI hlI (by omega) (by omega) gi gi (ev_var (i := 5) s4 rfl) (ev_var (i := 3) s4 rfl) (ev_var (i := 3) s4 rfl)).to fun v H' _ z => z) (ev_lenI hlI (ev_var (i := 3) s4 rfl)) (by omega) RO.inn.gN (by have := Pb.pb2 i2; omega)) H4 (Ex.refl _) _ fun v H5 e5 ⟨P, pen, tP⟩ => ?_
  have F := RO.form i2 (by omega) pen
  have s5 := (s4.ex e5).set (i := 8) tP
  refine q_asg (T := tyMat ns.length inn.length (Pb.acr ns.length rds.length (rowA pts rds) (rowW rds))) s5 ((ev_block (hlO.ex e5) (hlI.ex e5) (by omega) (by omega) go gi (ev_var (i := 5) s5 rfl) (ev_var (i := 4) s5 rfl) (ev_var (i := 3) s5 rfl)).to fun v H' _ z => z) fun σ6 H6 e6 s6 => ?_
  have i6 := (hlI.ex e5).ex e6
  have o6 := (hlO.ex e5).ex e6
  refine q_asg s6 (ev_trans (ev_var (i := 9) s6 rfl) (ev_lenI i6 (ev_var (i := 3) s6 rfl)) (by omega) (by omega)) fun σ7 H7 e7 s7 => ?_
  have i7 := i6.ex e7
  have o7 := o6.ex e7
  have hRi := RO.inn.gR
  refine q_asg (T := tyVec inn.length (Pb.mv inn.length P (Pb.gR rds.length (Pb.inn ns.length (rowA pts rds)) (rowW rds) (rowV rds)))) s7 ((ev_apply (ev_var (i := 8) s7 rfl) (ev_pick i7 (by omega) gi (ev_var (i := 6) s7 rfl) (ev_var (i := 3) s7 rfl)) ⟨⟨_, _, F.hP, hRi, by omega⟩, by omega, by omega⟩).to fun v H' _ z => z) fun σ8 H8 e8 s8 => ?_
  refine q_asg s8 (ev_prod (ev_prod (ev_var (i := 9) s8 rfl) (ev_var (i := 8) s8 rfl) (ev_lenI (i7.ex e8) (ev_var (i := 3) s8 rfl)) ⟨⟨_, _, RO.acr, F.hP, by omega⟩, by omega, by omega, by omega⟩) (ev_var (i := 10) s8 rfl) (ev_lenNms (ev_var (i := 2) s8 rfl)) ⟨⟨_, _, F.h1, RO.acr.tr, by omega⟩, by omega, by omega, by omega⟩) fun σ9 H9 e9 s9 => ?_
  have i9 := (i7.ex e8).ex e9
  have o9 := (o7.ex e8).ex e9
  refine q_asg (T := tyMat ns.length ns.length (Pb.formA ns.length inn.length rds.length (rowA pts rds) (rowW rds) P)) s9 ((ev_sum (ev_block o9 o9 (by omega) (by omega) go go (ev_var (i := 5) s9 rfl) (ev_var (i := 4) s9 rfl) (ev_var (i := 4) s9 rfl)) (ev_scaled (ev_mk1 (t := -1) ev_m1) (ev_var (i := 12) s9 rfl) ((sz1 (-1) (by decide)).mono (by omega)) (.of (by omega) (by omega) F.h2 (by omega)))
    (.of (by omega) (by omega) RO.out.gN (by omega)) (.of (by omega) (by omega) F.h3 (by omega))).to fun v H' _ z => z) fun σA HA eA sA => ?_
  have iA := i9.ex eA
  have oA := o9.ex eA
  refine q_asg (T := tyVec ns.length (Pb.formB ns.length inn.length rds.length (rowA pts rds) (rowW rds) (rowV rds) P)) sA ((ev_minus (ev_pick oA (by omega) go (ev_var (i := 6) sA rfl) (ev_var (i := 4) sA rfl)) (ev_apply (ev_var (i := 9) sA rfl) (ev_var (i := 11) sA rfl) ⟨⟨_, _, RO.acr, F.h4, by omega⟩, by omega, by omega⟩) (.of (by omega) RO.out.gR (by omega)) (.of (by omega) F.h5 (by omega))).to fun v H' _ z => z) fun σB HB eB sB => ?_
  have iB := iA.ex eB
  have e3B := (e3.trans e4).trans ((e5.trans e6).trans ((e7.trans e8).trans ((e9.trans eA).trans eB)))
  refine s_ret (ev_mkForm (q := Pb.formC ns.length inn.length rds.length (rowA pts rds) (rowW rds) (rowV rds) P) (ev_var (i := 2) sB rfl) (ev_var (i := 13) sB rfl) (ev_var (i := 14) sB rfl) ((ev_sub (ev_var (i := 7) sB rfl) (ev_dot (ev_pick iB (by omega) gi (ev_var (i := 6) sB rfl) (ev_var (i := 3) sB rfl)) (ev_var (i := 11) sB rfl) ⟨⟨_, _, hRi, F.h4, by omega⟩, by omega⟩) ((RO.gT.sz rfl).mono (by omega)) ((F.h6.sz rfl).mono (by omega))).to fun v H' _ z => z)) fun v HC eC zv => ?_
  have eBC := e3B.trans eC
  exact kk v HC (eN2.trans (extN_ex eBC)) (T2.ext eBC) ⟨P, pen, zv⟩
end
end Pd

/-! The defs' promises: forms joined, least, values. -/
namespace Pd
open PySem PySem.Spec PyProof.Rows L2 Evl Pt Pn
open Pb (Ht Sz entV entM)
open LamX (Tabs ExtN TabB)
section
variable {P : Program} {w : World} {K : PySem.W.Frag} {mg : Str → Option Value} {base : Heap}
def sEntry (K : PySem.W.Frag) : Spc K := ⟨(Nat × Nat × (Nat → Nat → Rat)) × Nat × Nat, fun x => [tyMat x.1.1 x.1.2.1 x.1.2.2, tyInt x.2.1, tyInt x.2.2], fun x => x.2.1 < x.1.1 ∧ x.2.2 < x.1.2.1, fun x => tyRat (x.1.2.2 x.2.1 x.2.2)⟩
theorem sc_f_entry : FnScope ["matrix", "row", "column"] ["matrix", "row", "column"] (defScope sf_entry) := ⟨rfl, rfl, rfl, by decide +kernel, rfl, by decide +kernel, by decide +kernel⟩
theorem ok_entry (c : Cxt P K mg base) : Ok P w K mg base df_entry 36 ["matrix", "row", "column"] (sEntry K).sp := by
  obtain ⟨ds1, vds, b1⟩ := bRI1 c
  have nd := (sc_f_entry).nd
  refine okS c.Ff_entry sc_f_entry (sEntry K) (fun _ => rfl) fun cdv A outer s0 H E hr => ⟨_, PSs.nox ((pss_cons (ps_if (PW.pt (pw_or (pt_cmpR op_isN (pv 1) pe_non (nomark _)) (pw_or1 (pt_cmpR op_isN (pv 2) pe_non (nomark _))))) (pss_one (ps_ret (pe_make c.k_Ratio (ok_RInit c) (by exact hr.mono (by decide)) rfl c.g_Ratio b1 vds pass0 (pa_cons pe_int pa_nil)))) pss_nil)
      (pss_one (ps_ret (pe_ix (ix_tupK K) (pe_ix (ix_tupK K) (pv 0) (pv 1) (fun _ _ => rfl)) (pv 2) (fun _ _ => rfl)))))), fun x Q σ hx hs k => ?_⟩
  have kk := k
  obtain ⟨⟨h, n, f⟩, i, j⟩ := x
  obtain ⟨hi, hj⟩ : i < h ∧ j < n := hx
  have hs : Sat [some (tyMat h n f), some (tyInt i), some (tyInt j)] σ H := hs
  refine Pt.q_if (b := false || false) (Evl.et_or (et_isN (ev_var (i := 1) hs rfl) (by simp)) fun _ => et_isN (ev_var (i := 2) hs rfl) (by simp)) (fun z => by cases z) fun _ H1 e1 => ?_
  exact s_ret (ev_ixV (ev_ixM (ev_var (hs.ex e1) rfl) (ev_var (hs.ex e1) rfl) hi) (ev_var (hs.ex e1) rfl) hj) fun v H2 e2 z => kk v H2 (e1.trans e2) z
theorem nodup_first {ns : List Str} (nd : ns.Nodup) {i : Nat} (hi : i < ns.length) : ns[i]? = some (ns.getD i default) ∧ ∀ m, m < i → ns[m]? ≠ some (ns.getD i default) := by
  refine ⟨getD_get hi, fun m hm h => ?_⟩
  have hm' : m < ns.length := by omega
  have e5 : ns[m]? = ns[i]? := by rw [h, getD_get hi]
  have := (List.getElem?_inj hm' nd).mp e5
  omega
theorem intL_of {l : Addr} {xs : List V} {n : Nat} {f : Nat → Nat} {H : Hp} (h : H l = some (.lst xs)) (e : xs.length = n) (it : Its (K := K) (fun i => tyInt (f i : Nat)) xs H) : IntL K l n f H := ⟨xs, h, e, it⟩
def sSpread (K : PySem.W.Frag) : Spc K := ⟨List Str × (Nat → Nat → Rat) × (Nat → Rat) × Rat, fun x => [tyForm K x.1 x.2.1 x.2.2.1 x.2.2.2, tyNms x.1], fun x => x.1.Nodup ∧ x.1.length < 16, fun x => tyTup [tyMat x.1.length x.1.length x.2.1, tyVec x.1.length x.2.2.1]⟩
theorem sc_f_spread : FnScope ["form", "names", "places", "name", "rows", "row", "column", "place"] ["form", "names"] (defScope sf_spread) := ⟨rfl, rfl, rfl, by decide +kernel, rfl, by decide +kernel, by decide +kernel⟩
theorem ok_spread (c : Cxt P K mg base) : Ok P w K mg base df_spread 37 ["form", "names"] (sSpread K).sp := by
  obtain ⟨ds1, vds, b1⟩ := bRI1 c
  have nd := (sc_f_spread).nd
  refine okS c.Ff_spread sc_f_spread (sSpread K) (fun _ => rfl) fun cdv A outer s0 H E hr => ⟨_, PSs.nox ((pss_cons (ps_setLc (i := 2) (own := [("name", 3)]) (g := gName 3) (tt := tYes) rfl nd rfl rfl (sw_true rfl rfl rfl (by decide +kernel)) (pi_tupK K (pv 1)) (blkOk_by rfl) (fun _ _ _ _ _ => (pg_name (i := 3) nd rfl (by first | exact Or.inl rfl | exact Or.inr rfl))) (fun _ _ _ _ _ => pts_nil) (fun _ _ _ _ _ => (pe_ifExp (pt_cmpR (op_inK K) (pv 3) (pe_fldK K (pv 0) rfl) (by rfl)) (pe_bmT PySem.F.plainAttrs_tuple PySem.F.slot_tuple_index PySem.F.type_tuple_index (mt_tindexK K) (pe_fldK K (pv 0) rfl) (pa_cons (pv 3) pa_nil)) pe_non)))
      (pss_cons (ps_set (i := 4) nd rfl (by first | exact Or.inl rfl | exact Or.inr rfl) (pe_lst pa_nil))
      (pss_cons (ps_for PassesOwn.never rfl (pi_listK K (pv 2)) (pg_name (i := 5) nd rfl (by first | exact Or.inl rfl | exact Or.inr rfl)) (pss_one (ps_expr (pe_bmK K PySem.F.plainAttrs_list PySem.F.slot_list_append PySem.F.type_list_append mt_append (pv 4) (pa_cons (pe_callTy (call_tupleK K) (by rfl) c.z_tuple (by decide +kernel) (pa_cons (pe_lc (own := [("column", 6)]) (g := gName 6) (tt := tYes) rfl nd (pi_listK K (pv 2)) (blkOk_by rfl) (fun _ _ _ _ _ => (pg_name (i := 6) nd rfl (by first | exact Or.inl rfl | exact Or.inr rfl))) (fun _ _ _ _ _ => pts_nil) (fun _ _ _ _ _ => (pe_call (ok_entry c) (by exact hr.mono (by decide)) rfl c.g_entry c.Ff_entry.kp c.bf_entry .nil pass0 (pa_cons (pe_fldK K (pv 0) rfl) (pa_cons (pv 5) (pa_cons (pv 6) pa_nil)))))) pa_nil)) pa_nil)))))
      (pss_one (ps_ret (pe_tup (pa_cons (pe_callTy (call_tupleK K) (by rfl) c.z_tuple (by decide +kernel) (pa_cons (pv 4) pa_nil)) (pa_cons (pe_callTy (call_tupleK K) (by rfl) c.z_tuple (by decide +kernel) (pa_cons (pe_lc (own := [("place", 7)]) (g := gName 7) (tt := tYes) rfl nd (pi_listK K (pv 2)) (blkOk_by rfl) (fun _ _ _ _ _ => (pg_name (i := 7) nd rfl (by first | exact Or.inl rfl | exact Or.inr rfl))) (fun _ _ _ _ _ => pts_nil) (fun _ _ _ _ _ => (pe_ifExp (pt_cmpR op_isN (pv 7) pe_non (nomark _)) (pe_make c.k_Ratio (ok_RInit c) (by exact hr.mono (by decide)) rfl c.g_Ratio b1 vds pass0 (pa_cons pe_int pa_nil)) (pe_ix (ix_tupK K) (pe_fldK K (pv 0) rfl) (pv 7) (fun _ _ => rfl))))) pa_nil)) pa_nil))))))))), fun x Q σ hx hs k => ?_⟩
  have kk := k
  obtain ⟨ns, A, b, q⟩ := x
  obtain ⟨nd2, n16⟩ : ns.Nodup ∧ ns.length < 16 := hx
  have hs : Sat [some (tyForm K ns A b q), some (tyNms ns), none, none, none, none, none, none] σ H := hs
  refine q_asgL hs (el_lc (j := 3) (U := fun i => tyInt (K := K) (i : Nat)) hs (ei_nms (ev_var (i := 1) hs rfl)) (fun H2 H3 _ e => ge_ex e) (by omega) fun i σ' H' hi e s => ?_) fun l xs σ1 H1 hp e1 h1 l1 it1 s1 => ?_
  · obtain ⟨f1, f2⟩ := nodup_first nd2 hi
    have eN := ev_Fn c (ev_var (i := 0) s rfl)
    refine ev_ifP (b := true) (et_of (by
      have z := ev_inNmsT (neg := false) (ev_var (K := K) (i := 3) s rfl) eN
      rw [decide_eq_true (getD_mem hi)] at z
      exact z)) (fun _ => ev_tindex eN (ev_var (K := K) (i := 3) s rfl) f1 f2) fun z => by cases z
  have iL : IntL K l ns.length id H1 := intL_of h1 l1 it1
  refine q_asgL s1 (el_nil (T := fun i => tyVec (K := K) ns.length (A i))) fun r ys σ2 H2 hr e2 h2 l2 it2 s2 => ?_
  have i2 := iL.ex e2
  refine q_for (ei_ints i2 (ev_var (i := 2) s2 rfl)) (fun H3 i σ' H' => Sat [some (tyForm K ns A b q), some (tyNms ns), some (tyE (.ref l)), none, some (tyE (.ref r)), none, none, none] σ' H' ∧ ∃ ys, Own K H1 H3 r ys H' ∧ ys.length = i ∧ Its (fun i => tyVec ns.length (A i)) ys H')
    (fun H3 e3 => ⟨s2.ex e3, ys, ⟨hr, e2.trans e3, Ge.refl _, e3 _ _ h2⟩, l2, it2.ex e3⟩) (fun H3 e3 i σ' H' _ ⟨_, ys', o, _⟩ => by rw [e3 _ _ (e2 _ _ h1)]; exact o.ex _ _ h1) (fun H3 e3 i x σ' H' H'' hi ⟨sp, ys', o, hl', it'⟩ e4 y => ?_) (fun H3 e3 σ' H' ⟨sp, ys', o, hl', it'⟩ => ?_)
  · have s4 := (sp.ex e4).set (i := 5) y
    have o4 := o.on e4
    have i4 : IntL K l ns.length id H'' := iL.ex o4.ex
    refine s_app o4.at_ (ev_var s4 rfl) (ev_tuple (el_lc (j := 6) (U := fun j => tyRat (A i j)) s4 (ei_ints i4 (ev_var (i := 2) s4 rfl)) (fun H2 H3 a e => i4.same a e) (by omega) fun j σ5 H5 hj e5 s5 =>
      ev_call (s := sEntry K) ((ns.length, ns.length, A), i, j) ⟨hi, hj⟩ (ea_cons (ev_Fm c (ev_var (i := 0) s5 rfl)) (ea_cons (ev_var (i := 5) s5 rfl) (ea_cons (ev_var (i := 6) s5 rfl) ea_nil))))) (by omega) fun v H6 e6 hv _ => ?_
    have o6 := o4.on e6
    refine ⟨((s4.ex e6).st o6.geu).less (.cons (.inr rfl) (.cons (.inr rfl) (.cons (.inr rfl) (.cons (.inr rfl) (.cons (.inr rfl) (.cons (.inl rfl) (.cons (.inr rfl) (.cons (.inr rfl) .nil)))))))), _, o6.upd _, by rw [List.length_append, hl']; rfl, ?_⟩
    exact ((it'.ex (e4.trans e6)).app (by rw [hl']; exact hv)).st o6.geu
  · have i5 : IntL K l ns.length id H' := iL.ex o.ex
    refine s_ret (ev_pair (ev_tupL o.at_ it' (ev_var (i := 4) sp rfl)) (ev_tuple (el_lc (j := 7) (U := fun j => tyRat (b j)) sp (ei_ints i5 (ev_var (i := 2) sp rfl)) (fun H2 H3 a e => i5.same a e) (by omega) fun j σ5 H5 hj e5 s5 =>
      ev_ifP (b := false) (et_isN (ev_var (i := 7) s5 rfl) (by simp)) (fun z => by cases z) fun _ => ev_ixV (ev_Fv c (ev_var (i := 0) s5 rfl)) (ev_var (i := 7) s5 rfl) hj))) fun v H6 e6 z => kk v H6 (e1.trans (o.ex.trans e6)) (by rw [hl'] at z; exact z)
theorem ev_spread {σ : L2.St} {H : Hp} {ta tb : TE} {ns : List Str} {A : Nat → Nat → Rat} {b : Nat → Rat} {q : Rat} (nd : ns.Nodup) (n16 : ns.length < 16) (ha : EvP ta σ H (tyForm K ns A b q)) (hb : EvP (K := K) tb σ H (tyNms ns)) :
    EvP (K := K) (tCall (sSpread K).sp [] E0 (tCons ta (tCons tb tNil))) σ H (tyTup [tyMat ns.length ns.length A, tyVec ns.length b]) := ev_call (s := sSpread K) (ns, A, b, q) ⟨nd, n16⟩ (ea_cons ha (ea_cons hb ea_nil))
/-- the first, the second of a pair -/
theorem ev_p0 {σ : L2.St} {H : Hp} {te : TE} {A B : Ty K} (h : EvP te σ H (tyTup [A, B])) : EvP (tOp (rIxT K) te (tC (.int 0))) σ H A := fun H1 e Q q =>
  h H1 e _ fun v H2 e2 ⟨a, xs, e3, h3, ty⟩ => by
    cases ty with
    | cons z zs =>
      subst e3
      exact ⟨a, _, ((0 : Nat) : Int), _, rfl, rfl, SqT.of h3, atI_nat rfl, q _ H2 e2 z⟩
theorem ev_p1 {σ : L2.St} {H : Hp} {te : TE} {A B : Ty K} (h : EvP te σ H (tyTup [A, B])) : EvP (tOp (rIxT K) te (tC (.int 1))) σ H B := fun H1 e Q q =>
  h H1 e _ fun v H2 e2 ⟨a, xs, e3, h3, ty⟩ => by
    cases ty with
    | cons z zs =>
      cases zs with
      | cons z' zs =>
        subst e3
        exact ⟨a, _, ((1 : Nat) : Int), _, rfl, rfl, SqT.of h3, atI_nat rfl, q _ H2 e2 z'⟩
/-- list(names) -/
theorem q_listN {σ : L2.St} {H : Hp} {te : TE} {Ts : TEnv K} {ns : List Str} {i : Nat} {D : Ends} {tz : TS} (hs : Sat Ts σ H) (ha : EvP (K := K) te σ H (tyNms ns)) (k : ∀ p σ' H', H p = none → Ex H H' → H' p = some (.lst (ns.map V.str)) → Sat (Ts.set i (some (tyE (.ref p)))) σ' H' → tz D σ' H') :
    tSeq (tAsg (tCB (rLstOf K) (tCons te tNil)) (gName i)) tz D σ H :=
  ha H (Ex.refl _) _ fun v H1 e1 ⟨a, o, ea, h1, hd⟩ => by
    subst ea
    refine ⟨a, ns.map V.str, rfl, .inr (.inl (.inr ⟨o, h1⟩)), fun p hp => ?_⟩
    have e2 := Ex.new (o := .lst (ns.map V.str)) hp
    exact k p _ _ (Evl.fresh_back e1 hp) (e1.trans e2) upd_same ((hs.ex (e1.trans e2)).set rfl)
/-- what join is handed -/
structure JoinOk (ns : List Str) (B : Nat) (A A' : Nat → Nat → Rat) (b b' : Nat → Rat) (q q' : Rat) : Prop where
  nd : ns.Nodup
  n16 : ns.length ≤ 3
  srt : SrtN ns
  hA : Ht B (entM ns.length ns.length A)
  hA' : Ht B (entM ns.length ns.length A')
  hb : Ht B (entV ns.length b)
  hb' : Ht B (entV ns.length b')
  hq : Sz B q
  hq' : Sz B q'
  lim : B ≤ LIM
def sJoin (K : PySem.W.Frag) : Spn K := ⟨List Str × Nat × ((Nat → Nat → Rat) × (Nat → Rat) × Rat) × ((Nat → Nat → Rat) × (Nat → Rat) × Rat), fun x => [tyForm K x.1 x.2.2.1.1 x.2.2.1.2.1 x.2.2.1.2.2, tyForm K x.1 x.2.2.2.1 x.2.2.2.2.1 x.2.2.2.2.2],
  fun x _ => JoinOk x.1 x.2.1 x.2.2.1.1 x.2.2.2.1 x.2.2.1.2.1 x.2.2.2.2.1 x.2.2.1.2.2 x.2.2.2.2.2,
  fun x _ v H' => (tyForm K x.1 (fun i j => x.2.2.1.1 i j + x.2.2.2.1 i j) (fun i => x.2.2.1.2.1 i + x.2.2.2.2.1 i) (x.2.2.1.2.2 + x.2.2.2.2.2)).p v H'⟩
theorem sc_f_join : FnScope ["first", "second", "names", "name", "one", "other"] ["first", "second"] (defScope sf_join) := ⟨rfl, rfl, rfl, by decide +kernel, rfl, by decide +kernel, by decide +kernel⟩
theorem ok_join (c : Cxt P K mg base) : Ok P w K mg base df_join 39 ["first", "second"] (sJoin K).sp := by
  have nd := (sc_f_join).nd
  refine okN (p := ("join", none)) c (by decide +kernel) rfl rfl c.Ff_join sc_f_join (sJoin K) (fun _ => rfl) fun cdv TB hmT hu A outer s0 H E hr => ⟨_, PSs.nox ((pss_cons (ps_set (i := 2) nd rfl (by first | exact Or.inl rfl | exact Or.inr rfl) (pe_callTy (call_listK K) (by rfl) c.z_list (by decide +kernel) (pa_cons (pe_fldK K (pv 0) rfl) pa_nil)))
      (pss_cons (ps_for PassesOwn.never rfl (pi_tupK K (pe_fldK K (pv 1) rfl)) (pg_name (i := 3) nd rfl (by first | exact Or.inl rfl | exact Or.inr rfl)) (pss_one (ps_if (pt_cmpR (op_notInK K) (pv 3) (pv 2) (by rfl)) (pss_one (ps_expr (pe_bmK K PySem.F.plainAttrs_list PySem.F.slot_list_append PySem.F.type_list_append mt_append (pv 2) (pa_cons (pv 3) pa_nil)))) pss_nil)))
      (pss_cons (ps_set (i := 2) nd rfl (by first | exact Or.inl rfl | exact Or.inr rfl) (pe_callTy (call_tupleFK K) (by rfl) c.z_tuple (by decide +kernel) (pa_cons (pe_sortK K (T := TT K) (k := 29) rfl (pv 2) rfl c.z_sorted c.z_str TB rfl hmT hu (by exact hr.mono (by decide))) pa_nil)))
      (pss_cons (ps_set (i := 4) nd rfl (by first | exact Or.inl rfl | exact Or.inr rfl) (pe_call (ok_spread c) (by exact hr.mono (by decide)) rfl c.g_spread c.Ff_spread.kp c.bf_spread .nil pass0 (pa_cons (pv 0) (pa_cons (pv 2) pa_nil))))
      (pss_cons (ps_set (i := 5) nd rfl (by first | exact Or.inl rfl | exact Or.inr rfl) (pe_call (ok_spread c) (by exact hr.mono (by decide)) rfl c.g_spread c.Ff_spread.kp c.bf_spread .nil pass0 (pa_cons (pv 1) (pa_cons (pv 2) pa_nil))))
      (pss_one (ps_ret (pe_make c.k_Form (ok_Form_init c) (by exact hr.mono (by decide)) rfl c.g_Form c.bm_Form_init .nil pass0 (pa_cons (pv 2) (pa_cons (pe_call (ok_sum_of c) (by exact hr.mono (by decide)) rfl c.g_sum_of c.Ff_sum_of.kp c.bf_sum_of .nil pass0 (pa_cons (pe_ix (ix_tupK K) (pv 4) pe_int (fun _ _ => rfl)) (pa_cons (pe_ix (ix_tupK K) (pv 5) pe_int (fun _ _ => rfl)) pa_nil))) (pa_cons (pe_call (ok_plus c) (by exact hr.mono (by decide)) rfl c.g_plus c.Ff_plus.kp c.bf_plus .nil pass0 (pa_cons (pe_ix (ix_tupK K) (pv 4) pe_int (fun _ _ => rfl)) (pa_cons (pe_ix (ix_tupK K) (pv 5) pe_int (fun _ _ => rfl)) pa_nil))) (pa_cons (pe_op (op_rAdd c (by exact hr.mono (by decide))) (pe_fldK K (pv 0) rfl) (pe_fldK K (pv 1) rfl)) pa_nil))))))))))))), fun x Q σ hx hT hs k => ?_⟩
  have kk := k
  obtain ⟨ns, B, ⟨A, b, q⟩, A', b', q'⟩ := x
  obtain ⟨nd2, n3, srt, hA, hA', hb, hb', hq, hq', lim⟩ : JoinOk ns B A A' b b' q q' := hx
  have hs : Sat [some (tyForm K ns A b q), some (tyForm K ns A' b' q'), none, none, none, none] σ H := hs
  refine q_listN hs (ev_Fn c (ev_var (i := 0) hs rfl)) fun l σ1 H1 hl e1 h1 s1 => ?_
  refine q_for (ei_nms (ev_Fn c (ev_var (i := 1) s1 rfl))) (fun H2 i σ' H' => Ex H2 H' ∧ Sat [some (tyForm K ns A b q), some (tyForm K ns A' b' q'), some (tyE (.ref l)), none, none, none] σ' H')
    (fun H2 e2 => ⟨Ex.refl _, s1.ex e2⟩) (fun H2 e2 i σ' H' _ p => ge_ex p.1) (fun H2 e2 i x σ' H' H'' hi p e3 y => ?_) (fun H2 e2 σ' H' p => ?_)
  · have s3 := (p.2.ex e3).set (i := 3) y
    refine s_if (b := false) (et_of (by
      have z := ev_inNms (K := K) (neg := true) (.inl ((e2.trans (p.1.trans e3)) _ _ h1)) (ev_var (i := 3) s3 rfl) (ev_var (i := 2) s3 rfl)
      rw [decide_eq_true (getD_mem hi)] at z
      exact z)) (fun z => by cases z) fun _ H4 e4 => ⟨p.1.trans (e3.trans e4), (s3.ex e4).forget (i := 3)⟩
  · have eA := e1.trans (e2.trans p.1)
    refine q_srtT p.2 (hT.ext eA) (ev_var (i := 2) p.2 rfl) ((e2.trans p.1) _ _ h1) srt (by omega) fun σ3 H3 eN T3 s3 => ?_
    refine q_asg s3 (ev_spread nd2 (by omega) (ev_var (i := 0) s3 rfl) (ev_var (i := 2) s3 rfl)) fun σ4 H4 e4 s4 => ?_
    refine q_asg s4 (ev_spread nd2 (by omega) (ev_var (i := 1) s4 rfl) (ev_var (i := 2) s4 rfl)) fun σ5 H5 e5 s5 => ?_
    refine s_ret (ev_mkForm (ev_var (i := 2) s5 rfl) (ev_sum (ev_p0 (ev_var (i := 4) s5 rfl)) (ev_p0 (ev_var (i := 5) s5 rfl)) (.of (by omega) (by omega) hA lim) (.of (by omega) (by omega) hA' lim)) (ev_plus (ev_p1 (ev_var (i := 4) s5 rfl)) (ev_p1 (ev_var (i := 5) s5 rfl)) (.of (by omega) hb lim) (.of (by omega) hb' lim)) (ev_add (ev_Fc c (ev_var (i := 0) s5 rfl)) (ev_Fc c (ev_var (i := 1) s5 rfl)) (hq.mono lim) (hq'.mono lim))) fun v H6 e6 z => ?_
    exact kk v H6 (((extN_ex eA).trans eN).trans (extN_ex (e4.trans (e5.trans e6)))) (T3.ext (e4.trans (e5.trans e6))) z
def sNear (K : PySem.W.Frag) : Spc K := ⟨Nat × Nat × Nat × (Nat → Nat → Rat) × (Nat → Rat) × (Nat → Rat), fun x => [tyMat x.1 x.1 x.2.2.2.1, tyVec x.1 x.2.2.2.2.1, tyVec x.1 x.2.2.2.2.2],
  fun x => x.1 < 8 ∧ Ht x.2.1 (entM x.1 x.1 x.2.2.2.1) ∧ Ht x.2.2.1 (entV x.1 x.2.2.2.2.1) ∧ Ht x.2.2.1 (entV x.1 x.2.2.2.2.2) ∧ 4 * Pb.pinvBits x.1 x.2.1 + 40 * x.2.1 + 40 * x.2.2.1 + 100 ≤ LIM,
  fun x => tyEx fun (P : Nat → Nat → Rat) => tyAnd (Pb.Pen x.1 x.2.2.2.1 P) (tyVec x.1 fun i => x.2.2.2.2.2 i + Pb.mv x.1 P (fun i => x.2.2.2.2.1 i - Pb.mv x.1 x.2.2.2.1 x.2.2.2.2.2 i) i)⟩
theorem sc_f_nearest : FnScope ["matrix", "vector", "start", "inverse"] ["matrix", "vector", "start"] (defScope sf_nearest) := ⟨rfl, rfl, rfl, by decide +kernel, rfl, by decide +kernel, by decide +kernel⟩
theorem ok_nearest (c : Cxt P K mg base) : Ok P w K mg base df_nearest 42 ["matrix", "vector", "start"] (sNear K).sp := by
  have nd := (sc_f_nearest).nd
  refine okS c.Ff_nearest sc_f_nearest (sNear K) (fun _ => rfl) fun cdv A outer s0 H E hr => ⟨_, PSs.nox ((pss_cons (ps_set (i := 3) nd rfl (by first | exact Or.inl rfl | exact Or.inr rfl) (pe_call (ok_pseudo_inverse c) (by exact hr.mono (by decide)) rfl c.g_pseudo_inverse c.Ff_pseudo_inverse.kp c.bf_pseudo_inverse .nil pass0 (pa_cons (pv 0) (pa_cons (pe_callB (call_lenK K) (by rfl) c.z_len PySem.boot_len (pa_cons (pv 2) pa_nil)) pa_nil))))
      (pss_one (ps_ret (pe_call (ok_plus c) (by exact hr.mono (by decide)) rfl c.g_plus c.Ff_plus.kp c.bf_plus .nil pass0 (pa_cons (pv 2) (pa_cons (pe_call (ok_apply c) (by exact hr.mono (by decide)) rfl c.g_apply c.Ff_apply.kp c.bf_apply .nil pass0 (pa_cons (pv 3) (pa_cons (pe_call (ok_minus c) (by exact hr.mono (by decide)) rfl c.g_minus c.Ff_minus.kp c.bf_minus .nil pass0 (pa_cons (pv 1) (pa_cons (pe_call (ok_apply c) (by exact hr.mono (by decide)) rfl c.g_apply c.Ff_apply.kp c.bf_apply .nil pass0 (pa_cons (pv 0) (pa_cons (pv 2) pa_nil))) pa_nil))) pa_nil))) pa_nil))))))), fun x Q σ hx hs k => ?_⟩
  have kk := k
  obtain ⟨n, b, bv, M, v, st⟩ := x
  obtain ⟨n8, hM, hv, hst, lim⟩ : n < 8 ∧ Ht b (entM n n M) ∧ Ht bv (entV n v) ∧ Ht bv (entV n st) ∧ 4 * Pb.pinvBits n b + 40 * b + 40 * bv + 100 ≤ LIM := hx
  have hs : Sat [some (tyMat n n M), some (tyVec n v), some (tyVec n st), none] σ H := hs
  refine (ev_pinv (ev_var (i := 0) hs rfl) (ev_lenT (ev_var (i := 2) hs rfl)) n8 hM (by omega)) H (Ex.refl _) _ fun x H1 e1 ⟨P, pen, tP⟩ => ?_
  have s1 := (hs.ex e1).set (i := 3) tP
  have hP := pen.ht (by omega) hM
  have h1 := Ht.mv (h := n) (w := n) (by omega) hM hst
  have h2 := hv.minus (Z := entV n fun i => v i - Pb.mv n M st i) h1 fun _ ⟨i, hi, e⟩ => ⟨_, _, ⟨i, hi, rfl⟩, ⟨i, hi, rfl⟩, e⟩
  have h3 := Ht.mv (h := n) (w := n) (by omega) hP h2
  exact s_ret (ev_plus (ev_var (i := 2) s1 rfl) (ev_apply (ev_var (i := 3) s1 rfl) (ev_minus (ev_var (i := 1) s1 rfl) (ev_apply (ev_var (i := 0) s1 rfl) (ev_var (i := 2) s1 rfl) ⟨⟨_, _, hM, hst, by omega⟩, by omega, by omega⟩) (.of (by omega) hv (by omega)) (.of (by omega) h1 (by omega))) ⟨⟨_, _, hP, h2, by omega⟩, by omega, by omega⟩) (.of (by omega) hst (by omega)) (.of (by omega) h3 (by omega))) fun x H2 e2 z => kk x H2 (e1.trans e2) ⟨P, pen, z⟩
def sValue (K : PySem.W.Frag) : Sph K := ⟨(List Str × (Nat → Nat → Rat) × (Nat → Rat) × Rat) × Addr × List Str × (Str → Rat) × List (Key × V) × Nat, fun x => [tyForm K x.1.1 x.1.2.1 x.1.2.2.1 x.1.2.2.2, tyE (.ref x.2.1)],
  fun x H => Dct K x.2.1 x.2.2.1 (fun n => tyRat (x.2.2.2.1 n)) x.2.2.2.2.1 H ∧ (∀ n, n ∈ x.1.1 → n ∈ x.2.2.1) ∧ x.1.1.length < 16 ∧ Ht x.2.2.2.2.2 (entM x.1.1.length x.1.1.length x.1.2.1) ∧ Ht x.2.2.2.2.2 (entV x.1.1.length x.1.2.2.1) ∧ Sz x.2.2.2.2.2 x.1.2.2.2 ∧ Ht x.2.2.2.2.2 (entV x.1.1.length fun i => x.2.2.2.1 (x.1.1.getD i default)) ∧ 8 * x.2.2.2.2.2 + 100 ≤ LIM,
  fun x _ v H' => (tyRat (K := K) (Pb.dot x.1.1.length (fun i => x.2.2.2.1 (x.1.1.getD i default)) (Pb.mv x.1.1.length x.1.2.1 fun i => x.2.2.2.1 (x.1.1.getD i default)) - ((2 : Int) : Rat) * Pb.dot x.1.1.length x.1.2.2.1 (fun i => x.2.2.2.1 (x.1.1.getD i default)) + x.1.2.2.2)).p v H'⟩
theorem sc_f_value_at : FnScope ["form", "heights", "x", "name"] ["form", "heights"] (defScope sf_value_at) := ⟨rfl, rfl, rfl, by decide +kernel, rfl, by decide +kernel, by decide +kernel⟩
theorem ok_value_at (c : Cxt P K mg base) : Ok P w K mg base df_value_at 39 ["form", "heights"] (sValue K).sp := by
  obtain ⟨ds1, vds, b1⟩ := bRI1 c
  have nd := (sc_f_value_at).nd
  refine okH c.Ff_value_at sc_f_value_at (sValue K) (fun _ => rfl) fun cdv A outer s0 H E hr => ⟨_, PSs.nox ((pss_cons (ps_set (i := 2) nd rfl (by first | exact Or.inl rfl | exact Or.inr rfl) (pe_callTy (call_tupleK K) (by rfl) c.z_tuple (by decide +kernel) (pa_cons (pe_lc (own := [("name", 3)]) (g := gName 3) (tt := tYes) rfl nd (pi_tupK K (pe_fldK K (pv 0) rfl)) (blkOk_by rfl) (fun _ _ _ _ _ => (pg_name (i := 3) nd rfl (by first | exact Or.inl rfl | exact Or.inr rfl))) (fun _ _ _ _ _ => pts_nil) (fun _ _ _ _ _ => (pe_dget (hu_of hr) (pv 1) (pv 3) (fun _ _ => rfl)))) pa_nil)))
      (pss_one (ps_ret (pe_op (op_rAdd c (by exact hr.mono (by decide))) (pe_op (op_rSub c (by exact hr.mono (by decide))) (pe_call (ok_dot c) (by exact hr.mono (by decide)) rfl c.g_dot c.Ff_dot.kp c.bf_dot .nil pass0 (pa_cons (pv 2) (pa_cons (pe_call (ok_apply c) (by exact hr.mono (by decide)) rfl c.g_apply c.Ff_apply.kp c.bf_apply .nil pass0 (pa_cons (pe_fldK K (pv 0) rfl) (pa_cons (pv 2) pa_nil))) pa_nil))) (pe_op (op_rMul c (by exact hr.mono (by decide))) (pe_make c.k_Ratio (ok_RInit c) (by exact hr.mono (by decide)) rfl c.g_Ratio b1 vds pass0 (pa_cons pe_int pa_nil)) (pe_call (ok_dot c) (by exact hr.mono (by decide)) rfl c.g_dot c.Ff_dot.kp c.bf_dot .nil pass0 (pa_cons (pe_fldK K (pv 0) rfl) (pa_cons (pv 2) pa_nil))))) (pe_fldK K (pv 0) rfl)))))), fun x Q σ hx hs k => ?_⟩
  have kk := k
  obtain ⟨⟨ns, A, b, q⟩, d, ms, h, kvs, B⟩ := x
  obtain ⟨dc, sub, n16, hA, hb, hq, hh, lim⟩ : Dct K d ms (fun n => tyRat (h n)) kvs H ∧ (∀ n, n ∈ ns → n ∈ ms) ∧ ns.length < 16 ∧ Ht B (entM ns.length ns.length A) ∧ Ht B (entV ns.length b) ∧ Sz B q ∧ Ht B (entV ns.length fun i => h (ns.getD i default)) ∧ 8 * B + 100 ≤ LIM := hx
  have hs : Sat [some (tyForm K ns A b q), some (tyE (.ref d)), none, none] σ H := hs
  refine q_asg (T := tyVec ns.length fun i => h (ns.getD i default)) hs (ev_tuple (el_lc (j := 3) (U := fun i => tyRat (h (ns.getD i default))) hs (ei_nms (ev_Fn c (ev_var (i := 0) hs rfl))) (fun H2 H3 _ e => ge_ex e) (by omega) fun i σ' H' hi e s =>
    ev_dget (dc.ex e) (ev_var (i := 1) s rfl) (ev_var (K := K) (i := 3) s rfl) (sub _ (getD_mem hi)))) fun σ1 H1 e1 s1 => ?_
  generalize hg : (fun i => h (ns.getD i default)) = y at s1 hh kk
  have h1 := Ht.mv (h := ns.length) (w := ns.length) n16 hA hh
  have d1 := (hh.dots (n := ns.length) (Z := fun q => Pb.dot ns.length y (Pb.mv ns.length A y) = q) n16 h1 fun _ e => ⟨_, _, _, Nat.le_refl _, fun i hi => ⟨i, hi, rfl⟩, fun i hi => ⟨i, hi, rfl⟩, e⟩).sz rfl
  have d2 := (hb.dots (n := ns.length) (Z := fun q => Pb.dot ns.length b y = q) n16 hh fun _ e => ⟨_, _, _, Nat.le_refl _, fun i hi => ⟨i, hi, rfl⟩, fun i hi => ⟨i, hi, rfl⟩, e⟩).sz rfl
  have s2' : Sz 2 (((2 : Int) : Rat)) := ⟨by simp, by simp⟩
  have d3 := Sz.mul s2' d2
  have d4 := Sz.add d1 (Sz.neg d3)
  rw [← Rat.sub_eq_add_neg] at d4
  refine s_ret (ev_add (ev_sub (ev_dot (ev_var (i := 2) s1 rfl) (ev_apply (ev_Fm c (ev_var (i := 0) s1 rfl)) (ev_var (i := 2) s1 rfl) ⟨⟨_, _, hA, hh, by omega⟩, n16, n16⟩) ⟨⟨_, _, hh, h1, by omega⟩, n16⟩) (ev_mul (ev_mk1 (t := 2) ev_c) (ev_dot (ev_Fv c (ev_var (i := 0) s1 rfl)) (ev_var (i := 2) s1 rfl) ⟨⟨_, _, hb, hh, by omega⟩, n16⟩) (s2'.mono (by omega)) (d2.mono (by omega))) (d1.mono (by omega)) (d3.mono (by omega))) (ev_Fc c (ev_var (i := 0) s1 rfl)) (d4.mono (by omega)) (hq.mono (by omega))) fun v H2 e2 z => kk v H2 (e1.trans e2) (by subst hg; exact z)
end
end Pd

/-! The defs' promises: the least of a form, inner heights. -/
namespace Pd
open PySem PySem.Spec PyProof.Rows L2 Evl Pt Pn
open Pb (Ht Sz entV entM)
open LamX (Tabs ExtN TabB)
/-- the value for a name, told by its place -/
def hOf (ns : List Str) (f : Nat → Rat) : Str → Rat := fun n => f (ns.idxOf n)
theorem hOf_at {ns : List Str} {f : Nat → Rat} (nd : ns.Nodup) {i : Nat} (hi : i < ns.length) : hOf ns f (ns.getD i default) = f i := by
  unfold hOf
  have e : ns.getD i default = ns[i] := by rw [List.getD_eq_getElem?_getD, List.getElem?_eq_getElem hi]; rfl
  rw [e, nd.idxOf_getElem]
theorem getD_inj {ns : List Str} (nd : ns.Nodup) {k l : Nat} (hk : k < ns.length) (hl : l < ns.length) (e : ns.getD k default = ns.getD l default) : k = l := by
  have e5 : ns[k]? = ns[l]? := by rw [getD_get hk, getD_get hl, e]
  exact (List.getElem?_inj hk nd).mp e5
section
variable {P : Program} {w : World} {K : PySem.W.Frag} {mg : Str → Option Value} {base : Heap}
/-- the heights nearest's answer gives -/
abbrev nearV (n : Nat) (M P : Nat → Nat → Rat) (v st : Nat → Rat) : Nat → Rat := fun i => st i + Pb.mv n P (fun i => v i - Pb.mv n M st i) i
theorem near_ht {n b bv : Nat} {M P : Nat → Nat → Rat} {v st : Nat → Rat} (n16 : n < 16) (hM : Ht b (entM n n M)) (hv : Ht bv (entV n v)) (hst : Ht bv (entV n st)) (pen : Pb.Pen n M P) : Ht (Pb.pinvBits n b + b + 3 * bv + 20) (entV n (nearV n M P v st)) := by
  have hP := pen.ht n16 hM
  have h1 := Ht.mv (h := n) (w := n) n16 hM hst
  have h2 := hv.minus (Z := entV n fun i => v i - Pb.mv n M st i) h1 fun _ ⟨i, hi, e⟩ => ⟨_, _, ⟨i, hi, rfl⟩, ⟨i, hi, rfl⟩, e⟩
  have h3 := Ht.mv (h := n) (w := n) n16 hP h2
  have h4 := hst.add (Z := entV n (nearV n M P v st)) h3 fun _ ⟨i, hi, e⟩ => ⟨_, _, ⟨i, hi, rfl⟩, ⟨i, hi, rfl⟩, e⟩
  exact h4.mono (by omega)
abbrev formAt (n : Nat) (A : Nat → Nat → Rat) (b : Nat → Rat) (q : Rat) (x : Nat → Rat) : Rat := Pb.dot n x (Pb.mv n A x) - ((2 : Int) : Rat) * Pb.dot n b x + q
theorem formAt_cg {n : Nat} {A : Nat → Nat → Rat} {b : Nat → Rat} {q : Rat} {x y : Nat → Rat} (h : ∀ i, i < n → x i = y i) : formAt n A b q x = formAt n A b q y := by
  unfold formAt
  rw [Pb.dot_congr (x := b) (fun _ _ => rfl) h, Pb.mv_congr h, Pb.dot_congr h (fun _ _ => rfl)]
/-- what least_of is handed -/
structure LeastOk (ns ms : List Str) (B : Nat) (A : Nat → Nat → Rat) (b : Nat → Rat) (q : Rat) (app : Str → Rat) : Prop where
  sub : ∀ n, n ∈ ns → n ∈ ms
  nd : ns.Nodup
  n3 : ns.length ≤ 3
  hA : Ht B (entM ns.length ns.length A)
  hb : Ht B (entV ns.length b)
  hq : Sz B q
  ha : Ht B (entV ns.length fun i => app (ns.getD i default))
  lim : B ≤ 3000
theorem pb3 {n b : Nat} (h : n ≤ 3) (hb : b ≤ 3000) : Pb.pinvBits n b ≤ 460000 := by
  have m : 2 ^ n ≤ 8 := Nat.le_trans (Nat.pow_le_pow_right (n := 2) (by decide) h) (by decide)
  have a1 : 2 ^ n * (b + 1) ≤ 8 * 3001 := Nat.mul_le_mul m (by omega)
  have a2 : 2 ^ n * (2 * (2 ^ n * (b + 1)) + 5) ≤ 8 * (2 * (8 * 3001) + 5) := Nat.mul_le_mul m (by omega)
  have a3 : 2 ^ n * (2 * b + 5) ≤ 8 * 6005 := Nat.mul_le_mul m (by omega)
  unfold Pb.pinvBits
  omega
def sLeast (K : PySem.W.Frag) : Sph K := ⟨(List Str × (Nat → Nat → Rat) × (Nat → Rat) × Rat) × Addr × List Str × (Str → Rat) × List (Key × V) × Nat, fun x => [tyForm K x.1.1 x.1.2.1 x.1.2.2.1 x.1.2.2.2, tyE (.ref x.2.1)],
  fun x H => Dct K x.2.1 x.2.2.1 (fun n => tyRat (x.2.2.2.1 n)) x.2.2.2.2.1 H ∧ LeastOk x.1.1 x.2.2.1 x.2.2.2.2.2 x.1.2.1 x.1.2.2.1 x.1.2.2.2 x.2.2.2.1,
  fun x _ v H' => ∃ (t dh : Addr) (vq : V) (kv2 : List (Key × V)) (P : Nat → Nat → Rat), v = .ref t ∧ H' t = some (.tup [.ref dh, vq]) ∧ Pb.Pen x.1.1.length x.1.2.1 P ∧
    Dct K dh x.1.1 (fun n => tyRat (hOf x.1.1 (nearV x.1.1.length x.1.2.1 P x.1.2.2.1 fun i => x.2.2.2.1 (x.1.1.getD i default)) n)) kv2 H' ∧
    (tyRat (K := K) (formAt x.1.1.length x.1.2.1 x.1.2.2.1 x.1.2.2.2 (nearV x.1.1.length x.1.2.1 P x.1.2.2.1 fun i => x.2.2.2.1 (x.1.1.getD i default)))).p vq H'⟩
theorem sc_f_least_of : FnScope ["form", "approximations", "start", "name", "found", "heights", "height"] ["form", "approximations"] (defScope sf_least_of) := ⟨rfl, rfl, rfl, by decide +kernel, rfl, by decide +kernel, by decide +kernel⟩
theorem ok_least_of (c : Cxt P K mg base) : Ok P w K mg base df_least_of 43 ["form", "approximations"] (sLeast K).sp := by
  have nd := (sc_f_least_of).nd
  refine okH c.Ff_least_of sc_f_least_of (sLeast K) (fun _ => rfl) fun cdv A outer s0 H E hr => ⟨_, PSs.nox ((pss_cons (ps_set (i := 2) nd rfl (by first | exact Or.inl rfl | exact Or.inr rfl) (pe_callTy (call_tupleK K) (by rfl) c.z_tuple (by decide +kernel) (pa_cons (pe_lc (own := [("name", 3)]) (g := gName 3) (tt := tYes) rfl nd (pi_tupK K (pe_fldK K (pv 0) rfl)) (blkOk_by rfl) (fun _ _ _ _ _ => (pg_name (i := 3) nd rfl (by first | exact Or.inl rfl | exact Or.inr rfl))) (fun _ _ _ _ _ => pts_nil) (fun _ _ _ _ _ => (pe_dget (hu_of hr) (pv 1) (pv 3) (fun _ _ => rfl)))) pa_nil)))
      (pss_cons (ps_set (i := 4) nd rfl (by first | exact Or.inl rfl | exact Or.inr rfl) (pe_call (ok_nearest c) (by exact hr.mono (by decide)) rfl c.g_nearest c.Ff_nearest.kp c.bf_nearest .nil pass0 (pa_cons (pe_fldK K (pv 0) rfl) (pa_cons (pe_fldK K (pv 0) rfl) (pa_cons (pv 2) pa_nil)))))
      (pss_cons (ps_setDc (i := 5) (own := [("name", 3), ("height", 6)]) (g := gTup K 2 (gCons (gName 3) (gCons (gName 6) gNil))) (tt := tYes) rfl nd rfl rfl (sw_trueD rfl rfl rfl (by decide +kernel)) (pi_zipK K (by rfl) c.z_zip (pa_cons (pe_fldK K (pv 0) rfl) (pa_cons (pv 4) pa_nil))) (blkOk_by rfl) (fun _ _ _ _ _ => (pg_tupK K rfl (pgs_cons (pg_name (i := 3) nd rfl (by first | exact Or.inl rfl | exact Or.inr rfl)) (pgs_cons (pg_name (i := 6) nd rfl (by first | exact Or.inl rfl | exact Or.inr rfl)) pgs_nil)))) (fun _ _ _ _ _ => pts_nil) (fun _ _ _ _ _ => (pv 3)) (fun _ _ _ _ _ => (pv 6)))
      (pss_one (ps_ret (pe_tup (pa_cons (pv 5) (pa_cons (pe_call (ok_value_at c) (by exact hr.mono (by decide)) rfl c.g_value_at c.Ff_value_at.kp c.bf_value_at .nil pass0 (pa_cons (pv 0) (pa_cons (pv 5) pa_nil))) pa_nil))))))))), fun x Q σ hx hs k => ?_⟩
  have kk := k
  obtain ⟨⟨ns, A, b, q⟩, d, ms, app, kvs, B⟩ := x
  obtain ⟨dc, sub, nd2, n3, hA, hb, hq, ha, lim⟩ : Dct K d ms (fun n => tyRat (app n)) kvs H ∧ LeastOk ns ms B A b q app := hx
  have hs : Sat [some (tyForm K ns A b q), some (tyE (.ref d)), none, none, none, none, none] σ H := hs
  have pb := pb3 n3 lim
  have hL : 60000000 ≤ LIM := by decide
  refine q_asg (T := tyVec ns.length fun i => app (ns.getD i default)) hs (ev_tuple (el_lc (j := 3) (U := fun i => tyRat (app (ns.getD i default))) hs (ei_nms (ev_Fn c (ev_var (i := 0) hs rfl))) (fun H2 H3 _ e => ge_ex e) (by omega) fun i σ' H' hi e s =>
    ev_dget (dc.ex e) (ev_var (i := 1) s rfl) (ev_var (K := K) (i := 3) s rfl) (sub _ (getD_mem hi)))) fun σ1 H1 e1 s1 => ?_
  generalize hg : (fun i => app (ns.getD i default)) = st at s1 ha kk
  refine (ev_call (s := sNear K) (ns.length, B, B, A, b, st) ⟨by show ns.length < 8; omega, hA, hb, ha, by show 4 * Pb.pinvBits ns.length B + 40 * B + 40 * B + 100 ≤ LIM; omega⟩ (ea_cons (ev_Fm c (ev_var (i := 0) s1 rfl)) (ea_cons (ev_Fv c (ev_var (i := 0) s1 rfl)) (ea_cons (ev_var (i := 2) s1 rfl) ea_nil)))) H1 (Ex.refl _) _ fun v H2 e2 ⟨P, pen, tP⟩ => ?_
  have pen : Pb.Pen ns.length A P := pen
  have hX := near_ht (by omega) hA hb ha pen
  generalize hx : nearV ns.length A P b st = xx at hX
  have tP : (tyVec (K := K) ns.length xx).p v H2 := by rw [← hx]; exact tP
  have s2 := (s1.ex e2).set (i := 4) tP
  have ed := el_dc2 (K := K) (i := 3) (j := 6) (tk := tVar 3) (tv := tVar 6) (by decide) (nm := fun k => ns.getD k default) (Dv := fun n => tyRat (hOf ns xx n)) s2 (ei_zipN (ev_Fn c (ev_var (i := 0) s2 rfl)) (ev_var (i := 4) s2 rfl)) (fun H2 H3 _ e => ge_ex e) (by omega) (fun k l hk hl e => getD_inj nd2 hk hl e)
    (fun k σ' H' hk e s => ev_var s rfl) (fun k σ' H' hk e s => by
      have z := ev_var (K := K) (i := 6) (T := tyRat (xx k)) s rfl
      rw [← hOf_at (f := xx) nd2 hk] at z
      exact z)
  rw [Pt.map_getD] at ed
  refine q_asgD s2 ed fun dh kv2 σ3 H3 hdh e3 dc3 s3 => ?_
  have heq : ∀ i, i < ns.length → hOf ns xx (ns.getD i default) = xx i := fun i hi => hOf_at nd2 hi
  have hXh : Ht (Pb.pinvBits ns.length B + B + 3 * B + 20) (entV ns.length fun i => hOf ns xx (ns.getD i default)) := hX.cgV heq
  have hle : B ≤ Pb.pinvBits ns.length B + B + 3 * B + 20 := by omega
  refine s_ret (ev_pair (ev_var (i := 5) s3 rfl) (ev_callH (s := sValue K) (B := tyRat (formAt ns.length A b q xx)) ((ns, A, b, q), dh, ns, hOf ns xx, kv2, Pb.pinvBits ns.length B + B + 3 * B + 20)
    (fun H1 e => ⟨dc3.ex e, fun n hn => hn, by show ns.length < 16; omega, hA.mono hle, hb.mono hle, hq.mono hle, hXh, by show 8 * (Pb.pinvBits ns.length B + B + 3 * B + 20) + 100 ≤ LIM; omega⟩) (ea_cons (ev_var (i := 0) s3 rfl) (ea_cons (ev_var (i := 5) s3 rfl) ea_nil)) fun H1 v H2 _ _ z => ?_)) fun v H4 e4 z => ?_
  · have z : (tyRat (K := K) (formAt ns.length A b q fun i => hOf ns xx (ns.getD i default))).p v H2 := z
    rw [formAt_cg (y := xx) heq] at z
    exact z
  · obtain ⟨t, xs, ev, ht, ty⟩ := z
    cases ty with
    | cons z1 zs =>
      cases zs with
      | cons z2 zs =>
        cases zs
        cases z1
        refine kk v H4 (e1.trans (e2.trans (e3.trans e4))) ⟨t, dh, _, kv2, P, ev, ht, pen, ?_, ?_⟩
        · have := dc3.ex e4
          rw [← hx] at this
          subst hg
          exact this
        · rw [← hx] at z2
          subst hg
          exact z2
end
end Pd

/-! The defs' promises: inner heights. -/
namespace Pd
open PySem PySem.Spec PyProof.Rows L2 Evl Pt Pn
open Pb (Ht Sz entV entM)
open LamX (Tabs ExtN TabB)
section
variable {P : Program} {w : World} {K : PySem.W.Frag} {mg : Str → Option Value} {base : Heap}
theorem Dct.exN {d : Addr} {ns : List Str} {D : Str → Ty K} {kvs : List (Key × V)} {H H' : Hp} (h : Dct K d ns D kvs H) (e : ExtN H H') : Dct K d ns D kvs H' := ⟨e _ _ h.at_ (fun _ z => by cases z), h.e.st (ge_extN e)⟩
/-- names = sorted(d, key=..) -/
theorem q_srtD {σ : L2.St} {H : Hp} {Ts : TEnv K} {te : TE} {d : Addr} {ns : List Str} {D' : Str → Ty K} {kvs : List (Key × V)} {T : List (Addr × Str)} {D : Ends} {tz : TS} {i : Nat} (hs : Sat Ts σ H) (hT : Tabs T H) (ha : EvP (K := K) te σ H (tyE (.ref d))) (hd : Dct K d ns D' kvs H) (ho : SrtN ns) (hl : ns.length ≤ 100)
    (k : ∀ l σ' H', ExtN H H' → Tabs T H' → H' l = some (.lst (ns.map V.str)) → Sat (Ts.set i (some (tyE (.ref l)))) σ' H' → tz D σ' H') : tSeq (tAsg (tSrt K T te) (gName i)) tz D σ H :=
  ha H (Ex.refl _) _ fun v H1 e1 z => by
    cases z
    have hk : ∀ {ns : List Str} {kvs : List (Key × V)}, DctE (K := K) ns D' kvs H → kvs.map (·.1) = ns.map Sum.inr := by
      intro ns kvs h
      unfold DctE at h
      induction h with
      | nil => rfl
      | cons a _ ih => rw [List.map_cons, List.map_cons, ih, a.1]
    refine ⟨d, ns, rfl, .inr ⟨kvs, e1 _ _ hd.at_, hk hd.e⟩, ho, hl, hT.ext e1, fun H2 l eN T2 hl2 => ?_⟩
    have x1 := Ex.new (o := .lst (ns.map V.str)) hl2
    have eA := ((extN_ex e1).trans eN).trans (extN_ex x1)
    exact k l _ _ eA (T2.ext x1) upd_same ((Sat.exN hs eA).set rfl)
structure InnOk (pts ns inn : List Str) (rds : List Rdg) (app : Str → Rat) (h : Str → Rat) (B : Nat) : Prop where
  part : PartOk pts ns inn rds
  hh : Ht B (entV ns.length fun i => h (ns.getD i default))
  ha : Ht 6 (entV inn.length fun i => app (inn.getD i default))
  lim : B ≤ 500000
def sInner (K : PySem.W.Frag) : Spn K := ⟨(BkA × List Str × (Str → Rat) × List Rdg) × (Addr × List Str × List Str) × (Str → Rat) × List (Key × V) × Nat, fun x => [tyE (.ref x.1.1.b), tyE (.ref x.2.1.1)],
  fun x H => Bk K x.1.1 x.1.2.1 x.1.2.2.1 x.1.2.2.2 H ∧ Dct K x.2.1.1 x.2.1.2.1 (fun n => tyRat (x.2.2.1 n)) x.2.2.2.1 H ∧ InnOk x.1.2.1 x.2.1.2.1 x.2.1.2.2 x.1.2.2.2 x.1.2.2.1 x.2.2.1 x.2.2.2.2,
  fun x _ v H' => ∃ (dh : Addr) (kv2 : List (Key × V)) (P : Nat → Nat → Rat), v = .ref dh ∧ Pb.Pen x.2.1.2.2.length (Pb.gN x.1.2.2.2.length (Pb.inn x.2.1.2.1.length (rowA x.1.2.1 x.1.2.2.2)) (rowW x.1.2.2.2)) P ∧
    Dct K dh x.2.1.2.2 (fun n => tyRat (hOf x.2.1.2.2 (nearV x.2.1.2.2.length (Pb.gN x.1.2.2.2.length (Pb.inn x.2.1.2.1.length (rowA x.1.2.1 x.1.2.2.2)) (rowW x.1.2.2.2)) P
      (Pb.want x.2.1.2.1.length x.1.2.2.2.length (rowA x.1.2.1 x.1.2.2.2) (rowW x.1.2.2.2) (rowV x.1.2.2.2) fun i => x.2.2.1 (x.2.1.2.1.getD i default)) fun i => x.1.2.2.1 (x.2.1.2.2.getD i default)) n)) kv2 H'⟩
theorem sc_f_inner_heights : FnScope ["book", "heights", "names", "inner", "outer_places", "normal", "right", "_", "given", "name", "wanted", "start", "place", "found", "height"] ["book", "heights"] (defScope sf_inner_heights) := ⟨rfl, rfl, rfl, by decide +kernel, rfl, by decide +kernel, by decide +kernel⟩
theorem ok_inner_heights (c : Cxt P K mg base) : Ok P w K mg base df_inner_heights 43 ["book", "heights"] (sInner K).sp := by
  have nd := (sc_f_inner_heights).nd
  refine okN (p := ("inner_heights", none)) c (by decide +kernel) rfl rfl c.Ff_inner_heights sc_f_inner_heights (sInner K) (fun _ => rfl) fun cdv TB hmT hu A outer s0 H E hr => ⟨_, PSs.nox ((pss_cons (ps_set (i := 2) nd rfl (by first | exact Or.inl rfl | exact Or.inr rfl) (pe_sortK K (T := TT K) (k := 29) rfl (pv 1) rfl c.z_sorted c.z_str TB rfl hmT hu (by exact hr.mono (by decide))))
      (pss_cons (ps_expr (pe_call (ok_require_points c) (by exact hr.mono (by decide)) rfl c.g_require_points c.Ff_require_points.kp c.bf_require_points .nil pass0 (pa_cons (pv 0) (pa_cons (pv 2) pa_nil))))
      (pss_cons (ps_asg (pe_call (ok_places_of c) (by exact hr.mono (by decide)) rfl c.g_places_of c.Ff_places_of.kp c.bf_places_of .nil pass0 (pa_cons (pv 0) (pa_cons (pv 2) pa_nil))) (pg_tupK K rfl (pgs_cons (pg_name (i := 3) nd rfl (by first | exact Or.inl rfl | exact Or.inr rfl)) (pgs_cons (pg_name (i := 4) nd rfl (by first | exact Or.inl rfl | exact Or.inr rfl)) pgs_nil))))
      (pss_cons (ps_asg (pe_call (ok_sums_of c) (by exact hr.mono (by decide)) rfl c.g_sums_of c.Ff_sums_of.kp c.bf_sums_of .nil pass0 (pa_cons (pv 0) pa_nil)) (pg_tupK K rfl (pgs_cons (pg_name (i := 5) nd rfl (by first | exact Or.inl rfl | exact Or.inr rfl)) (pgs_cons (pg_name (i := 6) nd rfl (by first | exact Or.inl rfl | exact Or.inr rfl)) (pgs_cons (pg_name (i := 7) nd rfl (by first | exact Or.inl rfl | exact Or.inr rfl)) pgs_nil)))))
      (pss_cons (ps_set (i := 8) nd rfl (by first | exact Or.inl rfl | exact Or.inr rfl) (pe_callTy (call_tupleK K) (by rfl) c.z_tuple (by decide +kernel) (pa_cons (pe_lc (own := [("name", 9)]) (g := gName 9) (tt := tYes) rfl nd (pi_listK K (pv 2)) (blkOk_by rfl) (fun _ _ _ _ _ => (pg_name (i := 9) nd rfl (by first | exact Or.inl rfl | exact Or.inr rfl))) (fun _ _ _ _ _ => pts_nil) (fun _ _ _ _ _ => (pe_dget (hu_of hr) (pv 1) (pv 9) (fun _ _ => rfl)))) pa_nil)))
      (pss_cons (ps_set (i := 10) nd rfl (by first | exact Or.inl rfl | exact Or.inr rfl) (pe_call (ok_minus c) (by exact hr.mono (by decide)) rfl c.g_minus c.Ff_minus.kp c.bf_minus .nil pass0 (pa_cons (pe_call (ok_pick c) (by exact hr.mono (by decide)) rfl c.g_pick c.Ff_pick.kp c.bf_pick .nil pass0 (pa_cons (pv 6) (pa_cons (pv 3) pa_nil))) (pa_cons (pe_call (ok_apply c) (by exact hr.mono (by decide)) rfl c.g_apply c.Ff_apply.kp c.bf_apply .nil pass0 (pa_cons (pe_call (ok_block c) (by exact hr.mono (by decide)) rfl c.g_block c.Ff_block.kp c.bf_block .nil pass0 (pa_cons (pv 5) (pa_cons (pv 3) (pa_cons (pv 4) pa_nil)))) (pa_cons (pv 8) pa_nil))) pa_nil))))
      (pss_cons (ps_set (i := 11) nd rfl (by first | exact Or.inl rfl | exact Or.inr rfl) (pe_callTy (call_tupleK K) (by rfl) c.z_tuple (by decide +kernel) (pa_cons (pe_lc (own := [("place", 12)]) (g := gName 12) (tt := tYes) rfl nd (pi_listK K (pv 3)) (blkOk_by rfl) (fun _ _ _ _ _ => (pg_name (i := 12) nd rfl (by first | exact Or.inl rfl | exact Or.inr rfl))) (fun _ _ _ _ _ => pts_nil) (fun _ _ _ _ _ => (pe_dget (hu_of hr) (pe_fldK K (pv 0) rfl) (pe_ix (ix_listK K) (pe_fldK K (pv 0) rfl) (pv 12) (fun _ _ => rfl)) (fun _ _ => rfl)))) pa_nil)))
      (pss_cons (ps_set (i := 13) nd rfl (by first | exact Or.inl rfl | exact Or.inr rfl) (pe_call (ok_nearest c) (by exact hr.mono (by decide)) rfl c.g_nearest c.Ff_nearest.kp c.bf_nearest .nil pass0 (pa_cons (pe_call (ok_block c) (by exact hr.mono (by decide)) rfl c.g_block c.Ff_block.kp c.bf_block .nil pass0 (pa_cons (pv 5) (pa_cons (pv 3) (pa_cons (pv 3) pa_nil)))) (pa_cons (pv 10) (pa_cons (pv 11) pa_nil)))))
      (pss_one (ps_ret (pe_dc (own := [("place", 12), ("height", 14)]) (g := gTup K 2 (gCons (gName 12) (gCons (gName 14) gNil))) (tt := tYes) rfl nd (pi_zipM K (by rfl) c.z_zip (pa_cons (pv 3) (pa_cons (pv 13) pa_nil))) (blkOk_by rfl) (fun _ _ _ _ _ => (pg_tupK K rfl (pgs_cons (pg_name (i := 12) nd rfl (by first | exact Or.inl rfl | exact Or.inr rfl)) (pgs_cons (pg_name (i := 14) nd rfl (by first | exact Or.inl rfl | exact Or.inr rfl)) pgs_nil)))) (fun _ _ _ _ _ => pts_nil) (fun _ _ _ _ _ => (pe_ix (ix_listK K) (pe_fldK K (pv 0) rfl) (pv 12) (fun _ _ => rfl))) (fun _ _ _ _ _ => (pv 14)))))))))))))), fun x Q σ hx hT hs k => ?_⟩
  have kk := k
  obtain ⟨⟨A, pts, app, rds⟩, ⟨d, ns, inn⟩, h, kvs, B⟩ := x
  obtain ⟨bk, dc, ⟨hpts, nd, ok, i2, b3, srt⟩, hh, ha, lim⟩ : Bk K A pts app rds H ∧ Dct K d ns (fun n => tyRat (h n)) kvs H ∧ InnOk pts ns inn rds app h B := hx
  have hs : Sat [some (tyE (.ref A.b)), some (tyE (.ref d)), none, none, none, none, none, none, none, none, none, none, none, none, none] σ H := hs
  have len : pts.length = ns.length + inn.length := by rw [hpts, List.length_append]
  have n16 := ok.n16
  have hL : 60000000 ≤ LIM := by decide
  refine q_srtD hs hT (ev_var (i := 1) hs rfl) dc srt (by omega) fun ln σ2 H2 eN T2 hln s2 => ?_
  have b2 := Bk.exN bk eN
  have dc2 := Dct.exN dc eN
  refine q_drop (call_post (s := sRequire K) ((A, pts, app, rds), ln, ns) (fun H1 e => ⟨b2.ex e, e _ _ hln, fun n hn => by rw [hpts]; exact List.mem_append_left _ hn⟩) (ea_cons (ev_var (i := 0) s2 rfl) (ea_cons (ev_var (i := 2) s2 rfl) ea_nil)) fun H0 v H1 e0 e1 _ => ?_)
  have e01 := e0.trans e1
  have s1 := s2.ex e01
  have b1' := b2.ex e01
  refine (call_post (s := sPlaces K) ((A, pts, app, rds), ln, ns, inn) (fun H1 e => ⟨b1'.ex e, .inl (e _ _ (e01 _ _ hln)), hpts, nd, n16⟩) (ea_cons (ev_var (i := 0) s1 rfl) (ea_cons (ev_var (i := 2) s1 rfl) ea_nil)) fun H3a v H3 e3a e3b ⟨t, l, l', ev, ht, hl, hl'⟩ => ?_)
  have hl : IntL K l inn.length (ns.length + ·) H3 := hl
  have hl' : IntL K l' ns.length id H3 := hl'
  have e3 := e3a.trans e3b
  refine ⟨t, _, ev, SqT.of ht, rfl, _, _, rfl, _, _, rfl, rfl, ?_⟩
  have b3' := b1'.ex e3
  have s3 : Sat [some (tyE (.ref A.b)), some (tyE (.ref d)), some (tyE (.ref ln)), some (tyE (.ref l)), some (tyE (.ref l')), none, none, none, none, none, none, none, none, none, none] _ H3 := ((s1.ex e3).set (i := 3) (T := tyE (.ref l)) rfl).set (i := 4) (T := tyE (.ref l')) rfl
  refine (ev_sums b3' ok (ev_var (i := 0) s3 rfl)) H3 (Ex.refl _) _ fun v H4 e4 tv => g_trip tv fun x y z hx hy hz => ?_
  have RO := rowsOk (n := pts.length) (pts := pts) ok.rd ok.m16
  rw [len] at RO
  have s4 := (((s3.ex e4).set (i := 5) hx).set (i := 6) hy).set (i := 7) hz
  have gi : ∀ i, i < inn.length → ns.length + i < pts.length := fun i hi => by omega
  have go : ∀ i, i < ns.length → id i < pts.length := fun i hi => by show i < _; omega
  have eA4 := (e01.trans e3).trans e4
  have dc4 := dc2.ex eA4
  have b4 := b3'.ex e4
  have hlI := hl.ex e4
  have hlO := hl'.ex e4
  refine q_asg (T := tyVec ns.length fun i => h (ns.getD i default)) s4 (ev_tuple (el_lc (j := 9) (U := fun i => tyRat (h (ns.getD i default))) s4 (ei_strs (ev_var (i := 2) s4 rfl) (eA4 _ _ hln)) (fun H2 H3 a e => ⟨SqL.of ((a.trans e) _ _ (eA4 _ _ hln)), ge_ex (a.trans e)⟩) (by omega) fun i σ' H' hi e s =>
    ev_dget (dc4.ex e) (ev_var (i := 1) s rfl) (ev_var (K := K) (i := 9) s rfl) (getD_mem hi))) fun σ5 H5 e5 s5 => ?_
  have iA5 := hlI.ex e5
  have oA5 := hlO.ex e5
  generalize hgx : (fun i => h (ns.getD i default)) = xx at s5 hh kk
  have hblk : Ht 11 (entM inn.length ns.length fun i j => Pb.gN rds.length (rowA pts rds) (rowW rds) (ns.length + i) (id j)) := RO.gN.sub fun q ⟨i, j, hi, hj, e⟩ => ⟨ns.length + i, j, by omega, by omega, e⟩
  have hmv := Ht.mv (h := inn.length) (w := ns.length) (by omega) hblk hh
  have hwant : ∀ i, i < inn.length → Pb.gR rds.length (rowA pts rds) (rowW rds) (rowV rds) (ns.length + i) - Pb.mv ns.length (fun i j => Pb.gN rds.length (rowA pts rds) (rowW rds) (ns.length + i) (id j)) xx i = Pb.want ns.length rds.length (rowA pts rds) (rowW rds) (rowV rds) xx i := fun i hi => by
    have e1 : Pb.mv ns.length (fun i j => Pb.gN rds.length (rowA pts rds) (rowW rds) (ns.length + i) (id j)) xx i = Pb.mv ns.length (Pb.tr (Pb.acr ns.length rds.length (rowA pts rds) (rowW rds))) xx i :=
      Pb.dot_congr (fun j hj => Pb.gN_sym (n := pts.length) (ns.length + i) j (by omega) (by omega)) fun _ _ => rfl
    rw [e1]
    rfl
  have hRi := RO.inn.gR
  have hW : Ht (14 + (11 + B + 4) + 1) (entV inn.length (Pb.want ns.length rds.length (rowA pts rds) (rowW rds) (rowV rds) xx)) :=
    (hRi.minus (Z := entV inn.length fun i => Pb.gR rds.length (rowA pts rds) (rowW rds) (rowV rds) (ns.length + i) - Pb.mv ns.length (fun i j => Pb.gN rds.length (rowA pts rds) (rowW rds) (ns.length + i) (id j)) xx i) hmv fun _ ⟨i, hi, e⟩ => ⟨_, _, ⟨i, hi, rfl⟩, ⟨i, hi, rfl⟩, e⟩).cgV fun i hi => (hwant i hi).symm
  refine q_asg (T := tyVec inn.length (Pb.want ns.length rds.length (rowA pts rds) (rowW rds) (rowV rds) xx)) s5 ((ev_minus (ev_pick iA5 (by omega) gi (ev_var (i := 6) s5 rfl) (ev_var (i := 3) s5 rfl)) (ev_apply (ev_block iA5 oA5 (by omega) (by omega) gi go (ev_var (i := 5) s5 rfl) (ev_var (i := 3) s5 rfl) (ev_var (i := 4) s5 rfl)) (ev_var (i := 8) s5 rfl) ⟨⟨_, _, hblk, hh, by omega⟩, by omega, by omega⟩) (.of (by omega) hRi (by omega)) (.of (by omega) hmv (by omega))).to fun v H' _ z => tyVec_cg z hwant) fun σ6 H6 e6 s6 => ?_
  have i6 := iA5.ex e6
  have b6 := (b4.ex e5).ex e6
  have key : ∀ {σ' : L2.St} {H' : Hp} {te : TE} {i : Nat}, i < inn.length → Bk K A pts app rds H' → EvP (K := K) (tVar 0) σ' H' (tyE (.ref A.b)) → EvP (K := K) te σ' H' (tyInt ((ns.length + i : Nat) : Int)) → EvP (K := K) (tOp (rIxL K) (tFld K (tVar 0) "points") te) σ' H' (tyE (.str (inn.getD i default))) := fun {σ' H' te i} hi bb h0 hp => by
    have z := ev_ixL (K := K) (T := fun j => tyE (.str (pts.getD j default))) (xs := pts.map V.str) (i := ns.length + i) bb.pt its_strs (ev_Bp c bb h0) hp (by rw [List.length_map]; omega)
    have e : pts.getD (ns.length + i) default = inn.getD i default := by rw [hpts]; exact getD_app2 i
    simp only [e] at z
    exact z
  have inm : ∀ i, i < inn.length → inn.getD i default ∈ pts := fun i hi => by rw [hpts]; exact List.mem_append_right _ (getD_mem hi)
  refine q_asg (T := tyVec inn.length fun i => app (inn.getD i default)) s6 (ev_tuple (el_lc (j := 12) (U := fun i => tyRat (app (inn.getD i default))) s6 (ei_ints i6 (ev_var (i := 3) s6 rfl)) (fun H2 H3 a e => i6.same a e) (by omega) fun i σ' H' hi e s =>
    ev_dget (b6.ex e).ap (ev_Ba c (b6.ex e) (ev_var (i := 0) s rfl)) (key hi (b6.ex e) (ev_var (i := 0) s rfl) (ev_var (i := 12) s rfl)) (inm i hi))) fun σ7 H7 e7 s7 => ?_
  have i7 := i6.ex e7
  have b7 := b6.ex e7
  have pb := Pb.pb2 i2
  refine (ev_call (s := sNear K) (inn.length, 11, 14 + (11 + B + 4) + 1, Pb.gN rds.length (Pb.inn ns.length (rowA pts rds)) (rowW rds), Pb.want ns.length rds.length (rowA pts rds) (rowW rds) (rowV rds) xx, fun i => app (inn.getD i default))
    ⟨by show inn.length < 8; omega, RO.inn.gN, hW, ha.mono (by show 6 ≤ 14 + (11 + B + 4) + 1; omega), by show 4 * Pb.pinvBits inn.length 11 + 40 * 11 + 40 * (14 + (11 + B + 4) + 1) + 100 ≤ LIM; omega⟩ (ea_cons ((ev_block i7 i7 (by omega) (by omega) gi gi (ev_var (i := 5) s7 rfl) (ev_var (i := 3) s7 rfl) (ev_var (i := 3) s7 rfl)).to fun v H' _ z => z) (ea_cons (ev_var (i := 10) s7 rfl) (ea_cons (ev_var (i := 11) s7 rfl) ea_nil)))) H7 (Ex.refl _) _ fun v H8 e8 ⟨P, pen, tP⟩ => ?_
  have pen : Pb.Pen inn.length (Pb.gN rds.length (Pb.inn ns.length (rowA pts rds)) (rowW rds)) P := pen
  generalize hyy : nearV inn.length (Pb.gN rds.length (Pb.inn ns.length (rowA pts rds)) (rowW rds)) P (Pb.want ns.length rds.length (rowA pts rds) (rowW rds) (rowV rds) xx) (fun i => app (inn.getD i default)) = yy
  have tP : (tyVec (K := K) inn.length yy).p v H8 := by rw [← hyy]; exact tP
  have s8 := (s7.ex e8).set (i := 13) tP
  have i8 := i7.ex e8
  have b8 := b7.ex e8
  obtain ⟨xs, hx8, lx, ix⟩ := i8.at_
  have ndI : inn.Nodup := (List.nodup_append.mp (by rw [← hpts]; exact nd)).2.1
  have ez := ei_zipM (K := K) (T := fun i => tyInt ((ns.length + i : Nat) : Int)) (U := fun i => tyRat (yy i)) (xs := xs) (ev_var (i := 3) s8 rfl) (by rw [lx]; exact ev_var (i := 13) s8 rfl) (SqL.of hx8) ix
  rw [lx] at ez
  have ed := el_dc2 (K := K) (i := 12) (j := 14) (tv := tVar 14) (by decide) (nm := fun k => inn.getD k default) (Dv := fun n => tyRat (hOf inn yy n)) s8 ez (fun H2 H3 a e => ⟨SqL.of ((a.trans e) _ _ hx8), ge_ex e⟩) (by omega) (fun k l hk hl e => getD_inj ndI hk hl e)
    (fun k σ' H' hk e s => key hk (b8.ex e) (ev_var (i := 0) s rfl) (ev_var (i := 12) s rfl)) (fun k σ' H' hk e s => by
      have z := ev_var (K := K) (i := 14) (T := tyRat (yy k)) s rfl
      rw [← hOf_at (f := yy) ndI hk] at z
      exact z)
  rw [Pt.map_getD] at ed
  refine ed H8 (Ex.refl _) _ fun dh kv2 H9 hdh e9 dc9 => ?_
  have eF := (e01.trans e3).trans (e4.trans (e5.trans (e6.trans (e7.trans (e8.trans e9)))))
  refine kk (.ref dh) H9 (eN.trans (extN_ex eF)) (T2.ext eF) ⟨dh, kv2, P, rfl, pen, ?_⟩
  rw [← hyy] at dc9
  subst hgx
  exact dc9
end
end Pd

/-! The defs' promises: nets made. -/
namespace Pd
open PySem PySem.Spec PyProof.Rows L2 Evl Pt Pn
open Pb (Ht Sz entV entM)
section
variable {P : Program} {w : World} {K : PySem.W.Frag} {mg : Str → Option Value} {base : Heap}
abbrev gNt (K : PySem.W.Frag) : Addr := He.ga K "Net"
/-- a matrix of zeros -/
def sWide (K : PySem.W.Frag) : Spc K := ⟨Nat, fun n => [tyMat n n fun _ _ => 0], fun n => n < 15, fun n => tyMat (n + 1) (n + 1) fun _ _ => 0⟩
theorem sc_f_widened : FnScope ["matrix", "rows", "row", "_"] ["matrix"] (defScope sf_widened) := ⟨rfl, rfl, rfl, by decide +kernel, rfl, by decide +kernel, by decide +kernel⟩
theorem ok_widened (c : Cxt P K mg base) : Ok P w K mg base df_widened 36 ["matrix"] (sWide K).sp := by
  obtain ⟨ds1, vds, b1⟩ := bRI1 c
  have nd := (sc_f_widened).nd
  refine okS c.Ff_widened sc_f_widened (sWide K) (fun _ => rfl) fun cdv A outer s0 H E hr => ⟨_, PSs.nox ((pss_cons (ps_setLc (i := 1) (own := [("row", 2)]) (g := gName 2) (tt := tYes) rfl nd rfl rfl (sw_true rfl rfl rfl (by decide +kernel)) (pi_tupK K (pv 0)) (blkOk_by rfl) (fun _ _ _ _ _ => (pg_name (i := 2) nd rfl (by first | exact Or.inl rfl | exact Or.inr rfl))) (fun _ _ _ _ _ => pts_nil) (fun _ _ _ _ _ => (pe_op (op_catU K) (pv 2) (pe_tup (pa_cons (pe_make c.k_Ratio (ok_RInit c) (by exact hr.mono (by decide)) rfl c.g_Ratio b1 vds pass0 (pa_cons pe_int pa_nil)) pa_nil)))))
      (pss_cons (ps_expr (pe_bmK K PySem.F.plainAttrs_list PySem.F.slot_list_append PySem.F.type_list_append mt_append (pv 1) (pa_cons (pe_callTy (call_tupleK K) (by rfl) c.z_tuple (by decide +kernel) (pa_cons (pe_lc (own := [("_", 3)]) (g := gName 3) (tt := tYes) rfl nd (pi_range1 rfl c.z_range (pa_cons (pe_op op_add (pe_callB (call_lenK K) (by rfl) c.z_len PySem.boot_len (pa_cons (pv 0) pa_nil)) pe_int) pa_nil)) (blkOk_by rfl) (fun _ _ _ _ _ => (pg_name (i := 3) nd rfl (by first | exact Or.inl rfl | exact Or.inr rfl))) (fun _ _ _ _ _ => pts_nil) (fun _ _ _ _ _ => (pe_make c.k_Ratio (ok_RInit c) (by exact hr.mono (by decide)) rfl c.g_Ratio b1 vds pass0 (pa_cons pe_int pa_nil)))) pa_nil)) pa_nil)))
      (pss_one (ps_ret (pe_callTy (call_tupleK K) (by rfl) c.z_tuple (by decide +kernel) (pa_cons (pv 1) pa_nil))))))), fun x Q σ hx hs k => ?_⟩
  have kk := k
  change Nat at x
  have hx : x < 15 := hx
  have hs : Sat [some (tyMat x x fun _ _ => 0), none, none, none] σ H := hs
  have z0 : ∀ {σ' H'}, EvP (K := K) (tMake (rc K) (spRInit K) [.int 1] E0 (tCons (tC (.int 0)) tNil)) σ' H' (tyRat 0) := ev_mk1 (t := 0) ev_c
  refine q_asgL hs (el_lc (j := 2) (U := fun i => tyVec (K := K) (x + 1) fun _ => 0) hs (ei_tup (ev_var (i := 0) hs rfl)) (fun H2 H3 _ e => ge_ex e) (by omega) fun i σ' H' hi e s => ev_catV (f := fun _ => 0) (g := fun _ => 0) (ev_var (i := 2) s rfl) (ev_one z0) (by omega) (fun _ _ => rfl) fun _ _ => rfl) fun l xs σ1 H1 hl e1 h1 l1 it1 s1 => ?_
  have eL := ev_lenT (K := K) (ev_var (i := 0) s1 rfl)
  have eL1 : EvP (K := K) (tOp (rI0 fun a b => V.int (a + b)) (tCB (Pt.rLen K) (tCons (tVar 0) tNil)) (tC (.int 1))) σ1 H1 (tyInt ((x + 1 : Nat) : Int)) := (ev_I0 (g := fun a b => V.int (a + b)) eL (ev_c (K := K) (v := .int 1)))
  refine q_app h1 (ev_var (i := 1) s1 rfl) (ev_tuple (el_lc (j := 3) (U := fun i => tyRat 0) s1 (ei_rangeN (m := x + 1) (ea_cons eL1 ea_nil) (by omega)) (fun H2 H3 _ e => trivial) (by omega) fun i σ' H' hi e s => z0)) (by omega) fun v H2 e2 hv h2 => ?_
  have s2 := (s1.ex e2).st (ge_lst (o' := .lst (xs ++ [v])) h2)
  have it2 : Its (fun i => tyVec (K := K) (x + 1) fun _ => 0) (xs ++ [v]) (L2.upd H2 l (.lst (xs ++ [v]))) := ((it1.ex e2).app hv).st (ge_lst h2)
  refine s_ret (ev_tupL (l := l) upd_same it2 (ev_var (i := 1) s2 rfl)) fun v H3 e3 z => kk v H3 (Ex.trans (Ex.mut (e1.trans e2) hl) e3) (by rw [List.length_append, l1] at z; exact z)
structure NtA where
  nt : Addr
  dx : Addr
  lp : Addr
  lr : Addr
  av : V
  nv : V
  iv : V
  rv : V
  tv : V
  rs : List V
def ntF (A : NtA) : List (Str × V) := [("points", .ref A.lp), ("approximations", A.av), ("readings", .ref A.lr), ("normal", A.nv), ("inverse", A.iv), ("right", A.rv), ("total", A.tv)]
theorem not_im (c : Cxt P K mg base) (dx : Addr) (fs : List (Str × V)) : ¬ immO K (.ins (gNt K) dx fs) := by
  have m := (He.ba (He.ba (He.ba c.more).2).2).1
  unfold dstB at m
  have nd := of_decide_eq_true m
  simp only [List.nodup_cons, List.mem_cons, List.not_mem_nil, or_false, not_or] at nd
  obtain ⟨⟨_, _, h1, _⟩, ⟨_, h2, _⟩, ⟨h3, _⟩, _⟩ := nd
  rintro (h | h | h)
  · exact h1 h.symm
  · exact h2 h.symm
  · exact h3 h.symm
theorem lookN {A : NtA} : (ntF A).lookup ("points" : Str) = some (.ref A.lp) ∧ (ntF A).lookup ("approximations" : Str) = some A.av ∧ (ntF A).lookup ("readings" : Str) = some (.ref A.lr) ∧ (ntF A).lookup ("normal" : Str) = some A.nv ∧
    (ntF A).lookup ("inverse" : Str) = some A.iv ∧ (ntF A).lookup ("right" : Str) = some A.rv ∧ (ntF A).lookup ("total" : Str) = some A.tv := by
  have h : (["points", "approximations", "readings", "normal", "inverse", "right", "total"] : List Str).Nodup := by decide +kernel
  simp only [List.nodup_cons, List.mem_cons, List.not_mem_nil, or_false, not_or] at h
  obtain ⟨⟨a1, a2, a3, a4, a5, a6⟩, ⟨b1, b2, b3, b4, b5⟩, ⟨c1, c2, c3, c4⟩, ⟨d1, d2, d3⟩, ⟨e1, e2⟩, f1, _⟩ := h
  have q : ∀ {x y : Str}, x ≠ y → (y == x) = false := fun h => beq_eq_false_iff_ne.mpr fun z => h z.symm
  unfold ntF
  refine ⟨?_, ?_, ?_, ?_, ?_, ?_, ?_⟩ <;> simp only [List.lookup, q a1, q a2, q a3, q a4, q a5, q a6, q b1, q b2, q b3, q b4, q b5, q c1, q c2, q c3, q c4, q d1, q d2, q d3, q e1, q e2, q f1, beq_self_eq_true]
theorem putN {A : NtA} {v : V} : putF "approximations" v (ntF A) = ntF { A with av := v } ∧ putF "normal" v (ntF A) = ntF { A with nv := v } ∧ putF "inverse" v (ntF A) = ntF { A with iv := v } ∧ putF "right" v (ntF A) = ntF { A with rv := v } ∧ putF "total" v (ntF A) = ntF { A with tv := v } := by
  have h : (["points", "approximations", "readings", "normal", "inverse", "right", "total"] : List Str).Nodup := by decide +kernel
  simp only [List.nodup_cons, List.mem_cons, List.not_mem_nil, or_false, not_or] at h
  obtain ⟨⟨a1, a2, a3, a4, a5, a6⟩, ⟨b1, b2, b3, b4, b5⟩, ⟨c1, c2, c3, c4⟩, ⟨d1, d2, d3⟩, ⟨e1, e2⟩, f1, _⟩ := h
  unfold ntF
  refine ⟨?_, ?_, ?_, ?_, ?_⟩ <;> simp [putF, a1, a2, a3, a4, a5, a6, b1, b2, b3, b4, b5, c1, c2, c3, c4, d1, d2, d3, e1, e2, f1]
/-- a net on the way -/
structure NtS (K : PySem.W.Frag) (A : NtA) (pts : List Str) (app : Nat → Rat) (M Pi : Nat → Nat → Rat) (r : Nat → Rat) (tot : Rat) (H : Hp) : Prop where
  at_ : H A.nt = some (.ins (gNt K) A.dx (ntF A))
  pt : H A.lp = some (.lst (pts.map V.str))
  rd : H A.lr = some (.lst A.rs)
  av : (tyVec (K := K) pts.length app).p A.av H
  nv : (tyMat (K := K) pts.length pts.length M).p A.nv H
  iv : (tyMat (K := K) pts.length pts.length Pi).p A.iv H
  rv : (tyVec (K := K) pts.length r).p A.rv H
  tv : (tyRat (K := K) tot).p A.tv H
section
variable {A : NtA} {pts : List Str} {app : Nat → Rat} {M Pi M' : Nat → Nat → Rat} {r r' : Nat → Rat} {tot tot' : Rat} {H H' : Hp} {v : V} {σ : L2.St} {te ta : TE}
theorem NtS.ex (s : NtS K A pts app M Pi r tot H) (e : Ex H H') : NtS K A pts app M Pi r tot H' :=
  ⟨e _ _ s.at_, e _ _ s.pt, e _ _ s.rd, Ty.st _ _ _ _ (ge_ex e) s.av, Ty.st _ _ _ _ (ge_ex e) s.nv, Ty.st _ _ _ _ (ge_ex e) s.iv, Ty.st _ _ _ _ (ge_ex e) s.rv, Ty.st _ _ _ _ (ge_ex e) s.tv⟩
theorem NtS.ne (s : NtS K A pts app M Pi r tot H) : A.nt ≠ A.lp ∧ A.nt ≠ A.lr := by
  refine ⟨fun z => ?_, fun z => ?_⟩
  · have h1 := s.at_; have h2 := s.pt; rw [z, h2] at h1; cases h1
  · have h1 := s.at_; have h2 := s.rd; rw [z, h2] at h1; cases h1
theorem NtS.ge (c : Cxt P K mg base) (s : NtS K A pts app M Pi r tot H) {o : HO} : Ge K H (upd H A.nt o) := ge_upd s.at_ (not_im c _ _)
theorem NtS.setN (c : Cxt P K mg base) (s : NtS K A pts app M Pi r tot H) (hv : (tyMat (K := K) pts.length pts.length M').p v H) : NtS K { A with nv := v } pts app M' Pi r tot (upd H A.nt (.ins (gNt K) A.dx (putF "normal" v (ntF A)))) := by
  obtain ⟨n1, n2⟩ := s.ne
  refine ⟨by rw [putN.2.1]; exact upd_same, by rw [upd_ne n1.symm]; exact s.pt, by rw [upd_ne n2.symm]; exact s.rd, Ty.st _ _ _ _ (s.ge c) s.av, Ty.st _ _ _ _ (s.ge c) hv, Ty.st _ _ _ _ (s.ge c) s.iv, Ty.st _ _ _ _ (s.ge c) s.rv, Ty.st _ _ _ _ (s.ge c) s.tv⟩
theorem NtS.setI (c : Cxt P K mg base) (s : NtS K A pts app M Pi r tot H) (hv : (tyMat (K := K) pts.length pts.length M').p v H) : NtS K { A with iv := v } pts app M M' r tot (upd H A.nt (.ins (gNt K) A.dx (putF "inverse" v (ntF A)))) := by
  obtain ⟨n1, n2⟩ := s.ne
  refine ⟨by rw [putN.2.2.1]; exact upd_same, by rw [upd_ne n1.symm]; exact s.pt, by rw [upd_ne n2.symm]; exact s.rd, Ty.st _ _ _ _ (s.ge c) s.av, Ty.st _ _ _ _ (s.ge c) s.nv, Ty.st _ _ _ _ (s.ge c) hv, Ty.st _ _ _ _ (s.ge c) s.rv, Ty.st _ _ _ _ (s.ge c) s.tv⟩
theorem NtS.setR (c : Cxt P K mg base) (s : NtS K A pts app M Pi r tot H) (hv : (tyVec (K := K) pts.length r').p v H) : NtS K { A with rv := v } pts app M Pi r' tot (upd H A.nt (.ins (gNt K) A.dx (putF "right" v (ntF A)))) := by
  obtain ⟨n1, n2⟩ := s.ne
  refine ⟨by rw [putN.2.2.2.1]; exact upd_same, by rw [upd_ne n1.symm]; exact s.pt, by rw [upd_ne n2.symm]; exact s.rd, Ty.st _ _ _ _ (s.ge c) s.av, Ty.st _ _ _ _ (s.ge c) s.nv, Ty.st _ _ _ _ (s.ge c) s.iv, Ty.st _ _ _ _ (s.ge c) hv, Ty.st _ _ _ _ (s.ge c) s.tv⟩
theorem NtS.setT (c : Cxt P K mg base) (s : NtS K A pts app M Pi r tot H) (hv : (tyRat (K := K) tot').p v H) : NtS K { A with tv := v } pts app M Pi r tot' (upd H A.nt (.ins (gNt K) A.dx (putF "total" v (ntF A)))) := by
  obtain ⟨n1, n2⟩ := s.ne
  refine ⟨by rw [putN.2.2.2.2]; exact upd_same, by rw [upd_ne n1.symm]; exact s.pt, by rw [upd_ne n2.symm]; exact s.rd, Ty.st _ _ _ _ (s.ge c) s.av, Ty.st _ _ _ _ (s.ge c) s.nv, Ty.st _ _ _ _ (s.ge c) s.iv, Ty.st _ _ _ _ (s.ge c) s.rv, Ty.st _ _ _ _ (s.ge c) hv⟩
/-- self.f = e -/
theorem q_fldN {f : Str} {T : Ty K} {D : Ends} {tz : TS} (c : Cxt P K mg base) (nf : NoAttr K (gNt K) f) (s : NtS K A pts app M Pi r tot H) (h0 : EvP (K := K) ta σ H (tyE (.ref A.nt))) (h : EvP te σ H T)
    (k : ∀ v H', Ex H H' → T.p v H' → NtS K A pts app M Pi r tot H' → tz D σ (upd H' A.nt (.ins (gNt K) A.dx (putF f v (ntF A))))) : tSeq (sFld K ta te f) tz D σ H :=
  h H (Ex.refl _) _ fun v H1 e1 z => h0 H1 e1 _ fun x H2 e2 z0 => by
    cases z0
    have s2 := s.ex (e1.trans e2)
    exact ⟨A.nt, gNt K, A.dx, ntF A, rfl, s2.at_, c.c_Net, nf, by show 7 < 1000; decide, k v H2 (e1.trans e2) (T.st _ _ _ (ge_ex e2) z) s2⟩
/-- the typed fields -/
theorem ev_val {T : Ty K} {f : Str} (s : NtS K A pts app M Pi r tot H) (h : EvP (K := K) te σ H (tyE (.ref A.nt))) (c : Cxt P K mg base) (n : NoAttr K (gNt K) f) (l : (ntF A).lookup f = some v) (hv : T.p v H) : EvP (K := K) (tFld K te f) σ H T := fun H1 e Q q =>
  h H1 e _ fun x H2 e2 z => by
    cases z
    exact ⟨A.nt, gNt K, A.dx, ntF A, v, rfl, (e.trans e2) _ _ s.at_, c.c_Net, n, l, q v H2 e2 (T.st _ _ _ (ge_ex (e.trans e2)) hv)⟩
end
end
end Pd

/-! The defs' promises: nets made and grown. -/
namespace Pd
open PySem PySem.Spec PyProof.Rows L2 Evl Pt Pn
open Pb (Ht Sz entV entM)
/-- all but these stay -/
def Fr (S : List Addr) (H H' : Hp) : Prop := ∀ a o, a ∉ S → H a = some o → H' a = some o
theorem Fr.of {S : List Addr} {H H' : Hp} (e : Ex H H') : Fr S H H' := fun a o _ h => e a o h
theorem Fr.trans {S : List Addr} {H H1 H2 : Hp} (a : Fr S H H1) (b : Fr S H1 H2) : Fr S H H2 := fun x o n h => b x o n (a x o n h)
theorem Fr.upd {S : List Addr} {H : Hp} {p : Addr} {o : HO} (h : p ∈ S) : Fr S H (upd H p o) := fun a u n e => by rw [upd_ne (fun z => n (by rw [z]; exact h))]; exact e
section
variable {P : Program} {w : World} {K : PySem.W.Frag} {mg : Str → Option Value} {base : Heap}
section
variable {σ : L2.St} {H : Hp} {te : TE} {T : Ty K}
theorem ev_nilT {U : Nat → Ty K} : EvP (K := K) (tTup tNil) σ H (tySeq 0 U) := fun H1 e Q q => ⟨Nat.zero_le _, fun p hp => q _ _ (Ex.new hp) ⟨p, [], rfl, upd_same, rfl, fun i x h => by simp at h⟩⟩
theorem q_fld0 {p dx : Addr} {fs : List (Str × V)} {f : Str} {D : Ends} {tz : TS} (c : Cxt P K mg base) (nf : NoAttr K (gNt K) f) (h0 : σ[0]? = some (some (.ref p))) (hp : H p = some (.ins (gNt K) dx fs)) (hl : fs.length < 1000) (h : EvP te σ H T)
    (k : ∀ v H', Ex H H' → T.p v H' → tz D σ (upd H' p (.ins (gNt K) dx (putF f v fs)))) : tSeq (sFld K (tVar 0) te f) tz D σ H :=
  h H (Ex.refl _) _ fun v H1 e1 z => ⟨_, h0, p, gNt K, dx, fs, rfl, e1 _ _ hp, c.c_Net, nf, hl, k v H1 e1 z⟩
theorem s_fld0 {p dx : Addr} {fs : List (Str × V)} {f : Str} {D : Ends} (c : Cxt P K mg base) (nf : NoAttr K (gNt K) f) (h0 : σ[0]? = some (some (.ref p))) (hp : H p = some (.ins (gNt K) dx fs)) (hl : fs.length < 1000) (h : EvP te σ H T)
    (k : ∀ v H', Ex H H' → T.p v H' → D.nx σ (upd H' p (.ins (gNt K) dx (putF f v fs)))) : sFld K (tVar 0) te f D σ H :=
  h H (Ex.refl _) _ fun v H1 e1 z => ⟨_, h0, p, gNt K, dx, fs, rfl, e1 _ _ hp, c.c_Net, nf, hl, k v H1 e1 z⟩
theorem q_fld0L {p dx : Addr} {fs : List (Str × V)} {f : Str} {D : Ends} {tz : TS} {n : Nat} {U : Nat → Ty K} (c : Cxt P K mg base) (nf : NoAttr K (gNt K) f) (h0 : σ[0]? = some (some (.ref p))) (hp : H p = some (.ins (gNt K) dx fs)) (hl : fs.length < 1000) (h : EvPL te σ H n U)
    (k : ∀ l xs H', H l = none → Ex H H' → H' l = some (.lst xs) → xs.length = n → tz D σ (upd H' p (.ins (gNt K) dx (putF f (.ref l) fs)))) : tSeq (sFld K (tVar 0) te f) tz D σ H :=
  h H (Ex.refl _) _ fun l xs H1 hl1 e1 h1 ln it => ⟨_, h0, p, gNt K, dx, fs, rfl, e1 _ _ hp, c.c_Net, nf, hl, k l xs H1 hl1 e1 h1 ln⟩
end
def spNInit (K : PySem.W.Frag) : Sp := fun vs H Q _ => ∃ (p dx : Addr), vs = [.ref p] ∧ H p = some (.ins (gNt K) dx []) ∧
  ∀ (A : NtA) (H' : Hp), A.nt = p → A.rs = [] → NtS K A [] (fun _ => 0) (fun _ _ => 0) (fun _ _ => 0) (fun _ => 0) 0 H' → H A.lp = none → H A.lr = none → A.lp ≠ A.lr → Fr [p] H H' → Q .non H'
theorem put7 {v1 v2 v3 v4 v5 v6 v7 : V} : putF "total" v7 (putF "right" v6 (putF "inverse" v5 (putF "normal" v4 (putF "readings" v3 (putF "approximations" v2 (putF "points" v1 [])))))) = ([("points", v1), ("approximations", v2), ("readings", v3), ("normal", v4), ("inverse", v5), ("right", v6), ("total", v7)] : List (Str × V)) := by
  have h : (["points", "approximations", "readings", "normal", "inverse", "right", "total"] : List Str).Nodup := by decide +kernel
  simp only [List.nodup_cons, List.mem_cons, List.not_mem_nil, or_false, not_or] at h
  obtain ⟨⟨a1, a2, a3, a4, a5, a6⟩, ⟨b1, b2, b3, b4, b5⟩, ⟨c1, c2, c3, c4⟩, ⟨d1, d2, d3⟩, ⟨e1, e2⟩, f1, _⟩ := h
  simp [putF, a1, a2, a3, a4, a5, a6, b1, b2, b3, b4, b5, c1, c2, c3, c4, d1, d2, d3, e1, e2, f1]
theorem putF_len (f : Str) (v : V) : ∀ fs : List (Str × V), (putF f v fs).length ≤ fs.length + 1
  | [] => by simp [putF]
  | (g, x) :: r => by
    have := putF_len f v r
    unfold putF
    split <;> simp <;> omega
theorem putLen {f : Str} {v : V} {fs : List (Str × V)} {n : Nat} (h : fs.length ≤ n) : (putF f v fs).length ≤ n + 1 := by
  have := putF_len f v fs
  omega
/-- p is written, then things are made -/
theorem fr_step (c : Cxt P K mg base) {p dx : Addr} {fs : List (Str × V)} {o : HO} {Ha Hb : Hp} (h : Ha p = some (.ins (gNt K) dx fs)) (e : Ex (upd Ha p o) Hb) : Fr [p] Ha Hb ∧ Ge K Ha Hb :=
  ⟨fun a u n q => e _ _ (by rw [upd_ne (fun z => n (by simp [z]))]; exact q), (ge_upd h (not_im c _ _)).trans (ge_ex e)⟩
theorem sc_m_Net_init : FnScope ["self"] ["self"] (defScope sm_Net_init) := ⟨rfl, rfl, rfl, by decide +kernel, rfl, by decide +kernel, by decide +kernel⟩
theorem ok_Net_init (c : Cxt P K mg base) : Ok P w K mg base dm_Net_init 36 ["self"] (spNInit K) := by
  obtain ⟨ds1, vds, b1⟩ := bRI1 c
  have nd := (sc_m_Net_init).nd
  refine (c.Fm_Net_init).ok sc_m_Net_init (fun vs H Q E h => ?_) (fun cdv A outer s0 H vs Q E hr h => ⟨_, PSs.nox ((pss_cons (ps_fld (pv 0) (pe_lst pa_nil) rfl)
      (pss_cons (ps_fld (pv 0) (pe_tup pa_nil) rfl)
      (pss_cons (ps_fld (pv 0) (pe_lst pa_nil) rfl)
      (pss_cons (ps_fld (pv 0) (pe_tup pa_nil) rfl)
      (pss_cons (ps_fld (pv 0) (pe_tup pa_nil) rfl)
      (pss_cons (ps_fld (pv 0) (pe_tup pa_nil) rfl)
      (pss_one (ps_fld (pv 0) (pe_make c.k_Ratio (ok_RInit c) (by exact hr.mono (by decide)) rfl c.g_Ratio b1 vds pass0 (pa_cons pe_int pa_nil)) rfl))))))))), ?_⟩)
  · obtain ⟨p, dx, rfl, _⟩ := h
    rfl
  · obtain ⟨p, dx, rfl, hp, q⟩ := h
    have i0 : (L2.start ["self"] [V.ref p])[0]? = some (some (.ref p)) := rfl
    generalize L2.start ["self"] [V.ref p] = σ at i0
    have l1 : ∀ {n}, n ≤ 7 → n < 1000 := fun h => by omega
    refine q_fld0L (n := 0) (U := fun _ => tyRat 0) c c.n_Net_points i0 hp (by decide) el_nil fun lp xs1 H1 hl1 e1 h1 n1 => ?_
    have x1 : xs1 = [] := List.length_eq_zero_iff.mp n1
    subst x1
    have np : lp ≠ p := fun z => by rw [← z, hl1] at hp; cases hp
    have p1 := e1 _ _ hp
    refine q_fld0 (T := tyVec 0 fun _ => 0) c c.n_Net_approximations i0 upd_same (Nat.lt_of_le_of_lt (putLen (Nat.le_refl 0)) (by decide)) ev_nilT fun v2 H2 e2 t2 => ?_
    obtain ⟨f2, g2⟩ := fr_step c p1 e2
    have p2 := e2 _ _ upd_same
    refine q_fld0L (n := 0) (U := fun _ => tyRat 0) c c.n_Net_readings i0 upd_same (Nat.lt_of_le_of_lt (putLen (putLen (Nat.le_refl 0))) (by decide)) el_nil fun lr xs3 H3 hl3 e3 h3 n3 => ?_
    have x3 : xs3 = [] := List.length_eq_zero_iff.mp n3
    subst x3
    obtain ⟨f3, g3⟩ := fr_step c p2 e3
    have p3 := e3 _ _ upd_same
    have nr : lr ≠ p := fun z => by rw [z, upd_same] at hl3; cases hl3
    refine q_fld0 (T := tyMat 0 0 fun _ _ => 0) c c.n_Net_normal i0 upd_same (Nat.lt_of_le_of_lt (putLen (putLen (putLen (Nat.le_refl 0)))) (by decide)) ev_nilT fun v4 H4 e4 t4 => ?_
    obtain ⟨f4, g4⟩ := fr_step c p3 e4
    have p4 := e4 _ _ upd_same
    refine q_fld0 (T := tyMat 0 0 fun _ _ => 0) c c.n_Net_inverse i0 upd_same (Nat.lt_of_le_of_lt (putLen (putLen (putLen (putLen (Nat.le_refl 0))))) (by decide)) ev_nilT fun v5 H5 e5 t5 => ?_
    obtain ⟨f5, g5⟩ := fr_step c p4 e5
    have p5 := e5 _ _ upd_same
    refine q_fld0 (T := tyVec 0 fun _ => 0) c c.n_Net_right i0 upd_same (Nat.lt_of_le_of_lt (putLen (putLen (putLen (putLen (putLen (Nat.le_refl 0)))))) (by decide)) ev_nilT fun v6 H6 e6 t6 => ?_
    obtain ⟨f6, g6⟩ := fr_step c p5 e6
    have p6 := e6 _ _ upd_same
    refine (s_fld0 (T := tyRat 0) c c.n_Net_total i0 upd_same (Nat.lt_of_le_of_lt (putLen (putLen (putLen (putLen (putLen (putLen (Nat.le_refl 0))))))) (by decide)) (ev_mk1 (t := 0) ev_c) fun v7 H7 e7 t7 => ?_)
    obtain ⟨f7, g7⟩ := fr_step c p6 e7
    have p7 := e7 _ _ upd_same
    rw [put7] at *
    have gZ : ∀ {o}, Ge K H7 (L2.upd H7 p o) := ge_upd p7 (not_im c _ _)
    have fz : ∀ {o : HO}, Fr [p] H7 (L2.upd H7 p o) := Fr.upd (by simp)
    have lpn : lp ∉ [p] := by simp [np]
    have lrn : lr ∉ [p] := by simp [nr]
    have f27 := (((f2.trans f3).trans (f4.trans f5)).trans (f6.trans f7))
    have f37 := (f4.trans f5).trans (f6.trans f7)
    refine q ⟨p, dx, lp, lr, v2, v4, v5, v6, v7, []⟩ _ rfl rfl ⟨upd_same, fz _ _ lpn (f27 _ _ lpn h1), fz _ _ lrn (f37 _ _ lrn h3), Ty.st _ _ _ _ ((((g3.trans g4).trans (g5.trans g6)).trans g7).trans gZ) t2, Ty.st _ _ _ _ (((g5.trans g6).trans g7).trans gZ) t4, Ty.st _ _ _ _ ((g6.trans g7).trans gZ) t5, Ty.st _ _ _ _ (g7.trans gZ) t6, Ty.st _ _ _ _ gZ t7⟩ hl1 ?_ ?_ ?_
    · show H lr = none
      cases hh : H lr with
      | none => rfl
      | some o =>
        have := f2 _ _ lrn (e1 _ _ hh)
        rw [upd_ne nr] at hl3
        rw [hl3] at this
        cases this
    · intro z
      have z : lp = lr := z
      have := f2 _ _ lpn h1
      rw [upd_ne nr, ← z, this] at hl3
      cases hl3
    · exact ((Fr.of e1).trans f27).trans fz
/-- a promise that writes some objects -/
structure Spw (K : PySem.W.Frag) where
  ι : Type
  args : ι → List (Ty K)
  side : ι → Hp → Prop
  S : ι → List Addr
  post : ι → Hp → V → Hp → Prop
def Spw.sp (s : Spw K) : Sp := fun vs H Q _ => ∃ x : s.ι, s.side x H ∧ Tys (s.args x) vs H ∧ ∀ v H', Fr (s.S x) H H' → s.post x H v H' → Q v H'
theorem okW {d : He.DefD} {N ps : List Str} {k : Nat} (F : FunD K d.name d.qual d.params d.body d.scope (d.dvs K) (d.kws K) (He.fAd K d.at_) (fdA K d)) (S : FnScope N ps d.scope) (s : Spw K) (hl : ∀ x, (s.args x).length = ps.length)
    (body : ∀ (cdv : Value) (A : Around) (outer : List Env) (s0 : Shared) (H : Hp) (E : XK), Room k (A.deeper (envOfC d.qual d.scope s0.heap.objs.size (He.fAd K d.at_) cdv)) →
      ∃ t, PSs (cxOf CX0 P w K mg base N d.qual d.scope (He.fAd K d.at_) cdv A outer s0 H E).nox d.body t ∧
        ∀ (x : s.ι) (Q : VK) (σ : L2.St), s.side x H → Sat ((s.args x).map some ++ List.replicate (N.length - (s.args x).length) none) σ H → (∀ v H', Fr (s.S x) H H' → s.post x H v H' → Q v H') → t { nx := fun _ H' => Q .non H', rt := Q } σ H) :
    Ok P w K mg base d (k + 1) ps s.sp := by
  refine F.ok S (fun vs H Q E h => ?_) (fun cdv A outer s0 H vs Q E hr h => ?_)
  · obtain ⟨x, _, h, _⟩ := h
    rw [← hl x]
    exact (Paired.length h).symm
  · obtain ⟨t, h1, h2⟩ := body cdv A outer s0 H E hr
    obtain ⟨x, hx, h, k⟩ := h
    exact ⟨t, h1.nox, h2 x Q _ hx (sat_start h) k⟩
theorem ev_ty {σ : L2.St} {H : Hp} {te : TE} {v : V} {T : Ty K} (h : EvP (K := K) te σ H (tyE v)) (hv : T.p v H) : EvP te σ H T := fun H1 e Q q => h H1 e _ fun v' H2 e2 z => by
  cases z
  exact q v H2 e2 (T.st _ _ _ (ge_ex (e.trans e2)) hv)
abbrev zM : Nat → Nat → Rat := fun _ _ => 0
abbrev zV : Nat → Rat := fun _ => 0
section
variable {σ : L2.St} {H : Hp} {te : TE} {T : Ty K} {p dx : Addr} {fs fs' : List (Str × V)} {f : Str} {D : Ends} {tz : TS}
/-- what is known behind self.f = e -/
structure FldSet (K : PySem.W.Frag) (p dx : Addr) (fs : List (Str × V)) (T : Ty K) (v : V) (H H' : Hp) : Prop where
  at_ : H' p = some (.ins (gNt K) dx fs)
  fr : Fr [p] H H'
  ge : Ge K H H'
  ty : T.p v H'
theorem fldSet (c : Cxt P K mg base) {H1 : Hp} {v : V} (hp : H p = some (.ins (gNt K) dx fs)) (e : Ex H H1) (z : T.p v H1) (hf : putF f v fs = fs') : FldSet K p dx fs' T v H (upd H1 p (.ins (gNt K) dx (putF f v fs))) := by
  have g : Ge K H1 (upd H1 p (.ins (gNt K) dx (putF f v fs))) := ge_upd (e _ _ hp) (not_im c _ _)
  exact ⟨by rw [upd_same, hf], (Fr.of e).trans (Fr.upd (by simp)), (ge_ex e).trans g, T.st _ _ _ g z⟩
theorem q_fld1 (F : V → List (Str × V)) (c : Cxt P K mg base) (nf : NoAttr K (gNt K) f) (h0 : σ[0]? = some (some (.ref p))) (hp : H p = some (.ins (gNt K) dx fs)) (hl : fs.length < 1000) (hf : ∀ v, putF f v fs = F v) (h : EvP te σ H T)
    (k : ∀ v H', FldSet K p dx (F v) T v H H' → tz D σ H') : tSeq (sFld K (tVar 0) te f) tz D σ H :=
  q_fld0 c nf h0 hp hl h fun v H1 e z => k v _ (fldSet c hp e z (hf v))
theorem s_fld1 (F : V → List (Str × V)) (c : Cxt P K mg base) (nf : NoAttr K (gNt K) f) (h0 : σ[0]? = some (some (.ref p))) (hp : H p = some (.ins (gNt K) dx fs)) (hl : fs.length < 1000) (hf : ∀ v, putF f v fs = F v) (h : EvP te σ H T)
    (k : ∀ v H', FldSet K p dx (F v) T v H H' → D.nx σ H') : sFld K (tVar 0) te f D σ H :=
  s_fld0 c nf h0 hp hl h fun v H1 e z => k v _ (fldSet c hp e z (hf v))
end
def sAddPt (K : PySem.W.Frag) : Spw K := ⟨NtA × List Str × (Nat → Rat) × Str × Rat, fun x => [tyE (.ref x.1.nt), tyE (.str x.2.2.2.1), tyRat x.2.2.2.2],
  fun x H => NtS K x.1 x.2.1 x.2.2.1 zM zM zV 0 H ∧ x.2.2.2.1 ∉ x.2.1 ∧ x.2.1.length < 12 ∧ x.1.lp ≠ x.1.lr, fun x => [x.1.nt, x.1.lp],
  fun x _ v H' => ∃ A', A'.nt = x.1.nt ∧ A'.lp = x.1.lp ∧ A'.lr = x.1.lr ∧ A'.rs = x.1.rs ∧ NtS K A' (x.2.1 ++ [x.2.2.2.1]) (fun i => if i < x.2.1.length then x.2.2.1 i else x.2.2.2.2) zM zM zV 0 H'⟩
theorem sc_m_Net_add_point : FnScope ["self", "name", "approximation"] ["self", "name", "approximation"] (defScope sm_Net_add_point) := ⟨rfl, rfl, rfl, by decide +kernel, rfl, by decide +kernel, by decide +kernel⟩
theorem ok_Net_add_point (c : Cxt P K mg base) : Ok P w K mg base dm_Net_add_point 37 ["self", "name", "approximation"] (sAddPt K).sp := by
  obtain ⟨ds1, vds, b1⟩ := bRI1 c
  have nd := (sc_m_Net_add_point).nd
  refine okW c.Fm_Net_add_point sc_m_Net_add_point (sAddPt K) (fun _ => rfl) fun cdv A outer s0 H E hr => ⟨_, PSs.nox ((pss_cons (ps_if (pt_cmpR (op_inK K) (pv 1) (pe_fldK K (pv 0) rfl) (by rfl)) (pss_one ps_never) pss_nil)
      (pss_cons (ps_if (pt_cmpR op_eq (pe_callB (call_lenK K) (by rfl) c.z_len PySem.boot_len (pa_cons (pe_fldK K (pv 0) rfl) pa_nil)) (C8.pe_gc rfl (gint c.i_MOST_POINTS_adjust)) (nomark _)) (pss_one ps_never) pss_nil)
      (pss_cons (ps_expr (pe_bmK K PySem.F.plainAttrs_list PySem.F.slot_list_append PySem.F.type_list_append mt_append (pe_fldK K (pv 0) rfl) (pa_cons (pv 1) pa_nil)))
      (pss_cons (ps_fld (pv 0) (pe_op (op_catU K) (pe_fldK K (pv 0) rfl) (pe_tup (pa_cons (pv 2) pa_nil))) rfl)
      (pss_cons (ps_fld (pv 0) (pe_call (ok_widened c) (by exact hr.mono (by decide)) rfl c.g_widened c.Ff_widened.kp c.bf_widened .nil pass0 (pa_cons (pe_fldK K (pv 0) rfl) pa_nil)) rfl)
      (pss_cons (ps_fld (pv 0) (pe_call (ok_widened c) (by exact hr.mono (by decide)) rfl c.g_widened c.Ff_widened.kp c.bf_widened .nil pass0 (pa_cons (pe_fldK K (pv 0) rfl) pa_nil)) rfl)
      (pss_one (ps_fld (pv 0) (pe_op (op_catU K) (pe_fldK K (pv 0) rfl) (pe_tup (pa_cons (pe_make c.k_Ratio (ok_RInit c) (by exact hr.mono (by decide)) rfl c.g_Ratio b1 vds pass0 (pa_cons pe_int pa_nil)) pa_nil))) rfl))))))))), fun x Q σ hx hs k => ?_⟩
  have kk := k
  obtain ⟨A, pts, app, nm, q⟩ := x
  obtain ⟨S, hn, hl, hlr⟩ : NtS K A pts app zM zM zV 0 H ∧ nm ∉ pts ∧ pts.length < 12 ∧ A.lp ≠ A.lr := hx
  have hs : Sat [some (tyE (.ref A.nt)), some (tyE (.str nm)), some (tyRat q)] σ H := hs
  obtain ⟨n1, n2⟩ := S.ne
  obtain ⟨_, g0, rfl⟩ := hs.get (i := 0) rfl
  obtain ⟨lk1, lk2, lk3, lk4, lk5, lk6, lk7⟩ := lookN (A := A)
  refine Pt.q_if (b := false) (et_of (by
    have z := ev_inNms (K := K) (neg := false) (.inl S.pt) (ev_var (i := 1) hs rfl) (ev_fldB S.at_ (ev_var (i := 0) hs rfl) c.c_Net c.n_Net_points lk1)
    rw [decide_eq_false hn] at z
    exact z)) (fun z => by cases z) fun _ H1 e1 => ?_
  have s1 := hs.ex e1
  have S1 := S.ex e1
  have eL := ev_lenL (K := K) S1.pt (ev_fldB S1.at_ (ev_var (i := 0) s1 rfl) c.c_Net c.n_Net_points lk1)
  rw [List.length_map] at eL
  refine Pt.q_if (b := false) (et_cmp (Evl.ev_op (flat_ev eL) (flat_ev (K := K) ev_c) (rv_eq rfl)) (by rw [dec_int]; simp; omega)) (fun z => by cases z) fun _ H2 e2 => ?_
  have s2 := s1.ex e2
  have S2 := S1.ex e2
  refine q_app S2.pt (ev_fldB S2.at_ (ev_var (i := 0) s2 rfl) c.c_Net c.n_Net_points lk1) (ev_var (i := 1) s2 rfl) (by rw [List.length_map]; omega) fun v H3 e3 hv h3 => ?_
  have hv : v = .str nm := hv
  subst hv
  have S3 := S2.ex e3
  have g4 : Ge K H3 (L2.upd H3 A.lp (.lst (pts.map V.str ++ [.str nm]))) := ge_lst h3
  have s4 := (s2.ex e3).st g4
  have at4 : (L2.upd H3 A.lp (.lst (pts.map V.str ++ [.str nm]))) A.nt = some (.ins (gNt K) A.dx (ntF A)) := by rw [upd_ne n1]; exact S3.at_
  have gq4 := (ge_ex e3).trans g4
  have av4 : (tyVec (K := K) pts.length app).p A.av _ := Ty.st _ _ _ _ gq4 S2.av
  have nv4 : (tyMat (K := K) pts.length pts.length zM).p A.nv _ := Ty.st _ _ _ _ gq4 S2.nv
  have iv4 : (tyMat (K := K) pts.length pts.length zM).p A.iv _ := Ty.st _ _ _ _ gq4 S2.iv
  have rv4 : (tyVec (K := K) pts.length zV).p A.rv _ := Ty.st _ _ _ _ gq4 S2.rv
  have tv4 : (tyRat (K := K) 0).p A.tv _ := Ty.st _ _ _ _ gq4 S2.tv
  have lp4 : (L2.upd H3 A.lp (.lst (pts.map V.str ++ [.str nm]))) A.lp = some (.lst ((pts ++ [nm]).map V.str)) := by rw [upd_same, List.map_append]; rfl
  have lr4 : (L2.upd H3 A.lp (.lst (pts.map V.str ++ [.str nm]))) A.lr = some (.lst A.rs) := by rw [upd_ne hlr.symm]; exact S3.rd
  have fr4 : Fr [A.nt, A.lp] H (L2.upd H3 A.lp (.lst (pts.map V.str ++ [.str nm]))) := (Fr.of (e1.trans (e2.trans e3))).trans (Fr.upd (by simp))
  generalize L2.upd H3 A.lp (.lst (pts.map V.str ++ [.str nm])) = H4 at *
  have lnt : A.lp ∉ [A.nt] := by simp [n1.symm]
  have rnt : A.lr ∉ [A.nt] := by simp [n2.symm]
  have sub1 : ∀ {Ha Hb : Hp}, Fr [A.nt] Ha Hb → Fr [A.nt, A.lp] Ha Hb := fun f a o n h => f a o (fun z => n (by simp at z; simp [z])) h
  have z0 : ∀ {σ' H'}, EvP (K := K) (tMake (rc K) (spRInit K) [.int 1] E0 (tCons (tC (.int 0)) tNil)) σ' H' (tyRat 0) := ev_mk1 (t := 0) ev_c
  have l7 : ∀ {B : NtA}, (ntF B).length < 1000 := by intro B; show 7 < 1000; decide
  refine q_fld1 (fun v => ntF { A with av := v }) (T := tyVec (pts.length + 1) fun i => if i < pts.length then app i else q) c c.n_Net_approximations g0 at4 l7 (fun v => putN.1) (ev_catV (f := app) (g := fun _ => q) (ev_ty (ev_fldB at4 (ev_var (i := 0) s4 rfl) c.c_Net c.n_Net_approximations lk2) av4) (ev_one (ev_var (i := 2) s4 rfl)) (by omega) (fun i hi => by rw [if_pos hi]) fun i _ => by rw [if_neg (by omega)]) fun v5 H5 F5 => ?_
  have s5 := s4.st F5.ge
  refine q_fld1 (fun v => ntF { A with av := v5, nv := v }) (T := tyMat (pts.length + 1) (pts.length + 1) zM) c c.n_Net_normal g0 F5.at_ l7 (fun v => putN.2.1) (ev_call (s := sWide K) pts.length (by show pts.length < 15; omega) (ea_cons (ev_ty (ev_fldB F5.at_ (ev_var (i := 0) s5 rfl) c.c_Net c.n_Net_normal lookN.2.2.2.1) (Ty.st _ _ _ _ F5.ge nv4)) ea_nil)) fun v7 H7 F7 => ?_
  have s7 := s5.st F7.ge
  refine q_fld1 (fun v => ntF { A with av := v5, nv := v7, iv := v }) (T := tyMat (pts.length + 1) (pts.length + 1) zM) c c.n_Net_inverse g0 F7.at_ l7 (fun v => putN.2.2.1) (ev_call (s := sWide K) pts.length (by show pts.length < 15; omega) (ea_cons (ev_ty (ev_fldB F7.at_ (ev_var (i := 0) s7 rfl) c.c_Net c.n_Net_inverse lookN.2.2.2.2.1) (Ty.st _ _ _ _ (F5.ge.trans F7.ge) iv4)) ea_nil)) fun v9 H9 F9 => ?_
  have s9 := s7.st F9.ge
  refine s_fld1 (fun v => ntF { A with av := v5, nv := v7, iv := v9, rv := v }) (T := tyVec (pts.length + 1) zV) c c.n_Net_right g0 F9.at_ l7 (fun v => putN.2.2.2.1) (ev_catV (f := zV) (g := zV) (ev_ty (ev_fldB F9.at_ (ev_var (i := 0) s9 rfl) c.c_Net c.n_Net_right lookN.2.2.2.2.2.1) (Ty.st _ _ _ _ ((F5.ge.trans F7.ge).trans F9.ge) rv4)) (ev_one z0) (by omega) (fun _ _ => rfl) fun _ _ => rfl) fun vB HB FB => ?_
  have fAll := ((F5.fr.trans F7.fr).trans F9.fr).trans FB.fr
  have ln : (pts ++ [nm]).length = pts.length + 1 := by rw [List.length_append]; rfl
  refine kk .non _ (fr4.trans (sub1 fAll)) ⟨{ A with av := v5, nv := v7, iv := v9, rv := vB }, rfl, rfl, rfl, rfl, FB.at_, fAll _ _ lnt lp4, fAll _ _ rnt lr4, ?_, ?_, ?_, ?_, Ty.st _ _ _ _ (((F5.ge.trans F7.ge).trans F9.ge).trans FB.ge) tv4⟩
  · rw [ln]; exact Ty.st _ _ _ _ ((F7.ge.trans F9.ge).trans FB.ge) F5.ty
  · rw [ln]; exact Ty.st _ _ _ _ (F9.ge.trans FB.ge) F7.ty
  · rw [ln]; exact Ty.st _ _ _ _ FB.ge F9.ty
  · rw [ln]; exact FB.ty
end
end Pd

/-! The defs' promises: readings put into a net. -/
namespace Pd
open PySem PySem.Spec PyProof.Rows L2 Evl Pt Pn
open Pb (Ht Sz entV entM)
theorem coef_snoc {m n : Str} {c : Int} : ∀ {l : List (Str × Int)}, m ∉ l.map (·.1) → coef (l ++ [(m, c)]) n = if m = n then c else coef l n
  | [], _ => by simp [coef]
  | (a, d) :: l, h => by
    have h1 : a ≠ m := fun e => h (by simp [e])
    have h2 : m ∉ l.map (·.1) := fun z => h (by simp only [List.map_cons, List.mem_cons]; exact .inr z)
    rw [List.cons_append, coef, coef]
    by_cases q : a = n
    · rw [if_pos q, if_neg (fun z => h1 (by rw [q, z])), if_pos q]
    · rw [if_neg q, coef_snoc h2, if_neg q]
theorem idx_of {pts : List Str} (nd : pts.Nodup) {n : Str} (h : n ∈ pts) : ∃ j, j < pts.length ∧ pts.getD j default = n ∧ pts[j]? = some n ∧ ∀ m, m < j → pts[m]? ≠ some n := by
  obtain ⟨j, hj, e⟩ := List.mem_iff_getElem.mp h
  have e2 : pts.getD j default = n := by rw [List.getD_eq_getElem?_getD, List.getElem?_eq_getElem hj]; exact e
  obtain ⟨f1, f2⟩ := nodup_first nd hj
  rw [e2] at f1 f2
  exact ⟨j, hj, e2, f1, f2⟩
section
variable {P : Program} {w : World} {K : PySem.W.Frag} {mg : Str → Option Value} {base : Heap}
/-- a reading of these points -/
structure RdIn (pts : List Str) (r : Rdg) : Prop where
  nd : (r.ts.map fun x => x.1).Nodup
  sub : ∀ n, n ∈ r.ts.map (fun x => x.1) → n ∈ pts
def sNRow (K : PySem.W.Frag) : Sph K := ⟨NtA × List Str × Rdg, fun x => [tyE (.ref x.1.nt), tyRead K x.2.2],
  fun x H => H x.1.nt = some (.ins (gNt K) x.1.dx (ntF x.1)) ∧ H x.1.lp = some (.lst (x.2.1.map V.str)) ∧ x.2.1.Nodup ∧ x.2.1.length < 16 ∧ RdIn x.2.1 x.2.2,
  fun x _ v H' => (tyVec (K := K) x.2.1.length fun i => (coef x.2.2.ts (x.2.1.getD i default) : Rat)).p v H'⟩
theorem sc_m_Net_row : FnScope ["self", "reading", "found", "_", "name", "coefficient"] ["self", "reading"] (defScope sm_Net_row) := ⟨rfl, rfl, rfl, by decide +kernel, rfl, by decide +kernel, by decide +kernel⟩
theorem ok_Net_row (c : Cxt P K mg base) : Ok P w K mg base dm_Net_row 36 ["self", "reading"] (sNRow K).sp := by
  obtain ⟨ds1, vds, b1⟩ := bRI1 c
  have nd := (sc_m_Net_row).nd
  refine okH c.Fm_Net_row sc_m_Net_row (sNRow K) (fun _ => rfl) fun cdv A outer s0 H E hr => ⟨_, PSs.nox ((pss_cons (ps_setLc (i := 2) (own := [("_", 3)]) (g := gName 3) (tt := tYes) rfl nd rfl rfl (sw_true rfl rfl rfl (by decide +kernel)) (pi_listK K (pe_fldK K (pv 0) rfl)) (blkOk_by rfl) (fun _ _ _ _ _ => (pg_name (i := 3) nd rfl (by first | exact Or.inl rfl | exact Or.inr rfl))) (fun _ _ _ _ _ => pts_nil) (fun _ _ _ _ _ => (pe_make c.k_Ratio (ok_RInit c) (by exact hr.mono (by decide)) rfl c.g_Ratio b1 vds pass0 (pa_cons pe_int pa_nil))))
      (pss_cons (ps_for PassesOwn.never rfl (pi_tupK K (pe_fldK K (pv 1) rfl)) (pg_tupK K rfl (pgs_cons (pg_name (i := 4) nd rfl (by first | exact Or.inl rfl | exact Or.inr rfl)) (pgs_cons (pg_name (i := 5) nd rfl (by first | exact Or.inl rfl | exact Or.inr rfl)) pgs_nil))) (pss_one (ps_asg (pe_make c.k_Ratio (ok_RInit c) (by exact hr.mono (by decide)) rfl c.g_Ratio b1 vds pass0 (pa_cons (pv 5) pa_nil)) (pg_sub (pv 2) (pe_bmK K PySem.F.plainAttrs_list PySem.F.slot_list_index PySem.F.type_list_index (mt_indexK K) (pe_fldK K (pv 0) rfl) (pa_cons (pv 4) pa_nil)) set_list))))
      (pss_one (ps_ret (pe_callTy (call_tupleK K) (by rfl) c.z_tuple (by decide +kernel) (pa_cons (pv 2) pa_nil))))))), fun x Q σ hx hs k => ?_⟩
  have kk := k
  obtain ⟨A, pts, r⟩ := x
  obtain ⟨hat, hpt, nd2, n16, ⟨ndr, sub⟩⟩ : H A.nt = some (.ins (gNt K) A.dx (ntF A)) ∧ H A.lp = some (.lst (pts.map V.str)) ∧ pts.Nodup ∧ pts.length < 16 ∧ RdIn pts r := hx
  have hs : Sat [some (tyE (.ref A.nt)), some (tyRead K r), none, none, none, none] σ H := hs
  have ep : ∀ {σ' H' i}, Ex H H' → EvP (K := K) (tVar i) σ' H' (tyE (.ref A.nt)) → EvP (K := K) (tFld K (tVar i) "points") σ' H' (tyE (.ref A.lp)) := fun e h => ev_fldB (e _ _ hat) h c.c_Net c.n_Net_points lookN.1
  refine q_asgL hs (el_lc (j := 3) (U := fun i => tyRat (K := K) 0) hs (ei_strs (ep (Ex.refl _) (ev_var (i := 0) hs rfl)) hpt) (fun H2 H3 a e => ⟨SqL.of ((a.trans e) _ _ hpt), ge_ex (a.trans e)⟩) (by omega) fun i σ' H' hi e s => ev_mk1 (t := 0) ev_c) fun p xs σ1 H1 hp e1 h1 l1 it1 s1 => ?_
  have it1' : Its (fun j => tyRat (K := K) ((coef (r.ts.take 0) (pts.getD j default) : Int) : Rat)) xs H1 := it1
  refine q_for (ei_pin (ev_Rt c (ev_var (i := 1) s1 rfl)))
    (fun H2 i σ' H' => Sat [some (tyE (.ref A.nt)), some (tyRead K r), some (tyE (.ref p)), none, none, none] σ' H' ∧ ∃ xs, Own K H H2 p xs H' ∧ xs.length = pts.length ∧ Its (fun j => tyRat (K := K) ((coef (r.ts.take i) (pts.getD j default) : Int) : Rat)) xs H')
    (fun H2 e2 => ⟨s1.ex e2, xs, ⟨hp, e1.trans e2, Ge.refl _, e2 _ _ h1⟩, l1, Its.ex e2 it1'⟩) (fun H2 e2 i σ' H' _ ⟨_, _, o, _⟩ => o.ge) (fun H2 e2 i x σ' H' H'' hi ⟨sp, xs, o, hl, it⟩ e3 y => ?_) (fun H2 e2 σ' H' ⟨sp, xs, o, hl, it⟩ => ?_)
  · refine g_pair y fun u v hu hv => ?_
    have s4 := ((sp.ex e3).set (i := 4) hu).set (i := 5) hv
    have o4 := o.on e3
    have hm : r.ts.getD i default ∈ r.ts := getD_mem hi
    have hin : (r.ts.getD i default).1 ∈ pts := sub _ (List.mem_map.mpr ⟨_, hm, rfl⟩)
    obtain ⟨j, hj, ej, f1, f2⟩ := idx_of nd2 hin
    refine s_setI o4.at_ (ev_mk1 (ev_var (i := 5) s4 rfl)) (ev_var (i := 2) s4 rfl) (ev_index (K := K) (j := j) (o4.ex _ _ hpt) (ep o4.ex (ev_var (i := 0) s4 rfl)) (ev_var (i := 4) s4 rfl) f1 f2) (by rw [hl]; exact hj) fun v H5 e5 hv5 => ?_
    have o5 := o4.on e5
    have etake : r.ts.take (i + 1) = r.ts.take i ++ [r.ts.getD i default] := by
      rw [List.take_add_one, List.getElem?_eq_getElem hi, List.getD_eq_getElem?_getD, List.getElem?_eq_getElem hi]
      rfl
    have hnew : (r.ts.getD i default).1 ∉ (r.ts.take i).map (·.1) := fun h => by
      obtain ⟨y, hy, ey⟩ := List.mem_map.mp h
      obtain ⟨m, hm1, hm2⟩ := List.mem_iff_getElem.mp hy
      rw [List.length_take] at hm1
      rw [List.getElem_take] at hm2
      have q1 : (r.ts.map fun x => x.1)[m]? = (r.ts.map fun x => x.1)[i]? := by
        rw [List.getElem?_map, List.getElem?_map, List.getElem?_eq_getElem (by omega), List.getElem?_eq_getElem hi, hm2]
        show some y.1 = some (r.ts[i]).1
        rw [ey, List.getD_eq_getElem?_getD, List.getElem?_eq_getElem hi]
        rfl
      have := (List.getElem?_inj (by rw [List.length_map]; omega) ndr).mp q1
      omega
    have hco : ∀ n, coef (r.ts.take (i + 1)) n = if (r.ts.getD i default).1 = n then (r.ts.getD i default).2 else coef (r.ts.take i) n := fun n => by
      rw [etake]
      exact coef_snoc hnew
    refine ⟨((s4.ex e5).st o5.geu).less (.cons (.inr rfl) (.cons (.inr rfl) (.cons (.inr rfl) (.cons (.inr rfl) (.cons (.inl rfl) (.cons (.inl rfl) .nil)))))), xs.set j v, o5.upd _, by rw [List.length_set]; exact hl, Its.st o5.geu ?_⟩
    refine Its.set (U := fun j => tyRat (K := K) ((coef (r.ts.take (i + 1)) (pts.getD j default) : Int) : Rat)) (Its.ex (e3.trans e5) it) ?_ fun m hm hlm z hz => ?_
    · show (tyRat (K := K) _).p v H5
      rw [hco, ej, if_pos rfl]
      exact hv5
    · show (tyRat (K := K) _).p z H5
      rw [hco, if_neg (fun q => hm (getD_inj nd2 (by omega) hj (by rw [← q, ej])))]
      exact hz
  · have e : r.ts.take r.ts.length = r.ts := List.take_length
    rw [e] at it
    exact s_ret (ev_tupL o.at_ it (ev_var (i := 2) sp rfl)) fun v H5 e5 z => kk v H5 (o.ex.trans e5) (by rw [hl] at z; exact z)
/-- misfits at the approximations -/
def shV (pts : List Str) (app : Nat → Rat) (rds : List Rdg) : Nat → Rat := fun k => rowV rds k - Pb.dot pts.length (rowA pts rds k) app
/-- what the law makes a net of -/
structure NetOk (pts : List Str) (app : Nat → Rat) (rds : List Rdg) : Prop where
  nd : pts.Nodup
  n8 : pts.length ≤ 8
  m16 : rds.length < 16
  rd : ∀ r, r ∈ rds → RdOk r
  inn : ∀ r, r ∈ rds → RdIn pts r
  ap : ∀ i, i < pts.length → Pb.IntD 6 36 (app i)
theorem NetOk.rows {pts : List Str} {app : Nat → Rat} {rds : List Rdg} (h : NetOk pts app rds) : Pb.RowsOk pts.length rds.length (rowA pts rds) (rowW rds) (rowV rds) := rowsOk h.rd h.m16
theorem NetOk.sh {pts : List Str} {app : Nat → Rat} {rds : List Rdg} (h : NetOk pts app rds) : ∀ k, k < rds.length → Pb.IntD 6 900 (shV pts app rds k) := h.rows.sh h.n8 h.ap
/-- the net behind k readings -/
abbrev NtK (K : PySem.W.Frag) (A : NtA) (pts : List Str) (app : Nat → Rat) (rds : List Rdg) (k : Nat) (Pi : Nat → Nat → Rat) (H : Hp) : Prop :=
  NtS K A pts app (Pb.gN k (rowA pts rds) (rowW rds)) Pi (Pb.gR k (rowA pts rds) (rowW rds) (shV pts app rds)) (Pb.gT k (rowW rds) (shV pts app rds)) H
def sTally (K : PySem.W.Frag) : Spw K := ⟨NtA × List Str × (Nat → Rat) × List Rdg × Nat × (Nat → Nat → Rat), fun x => [tyE (.ref x.1.nt), tyRead K (x.2.2.2.1.getD x.2.2.2.2.1 default), tyRat (rowW x.2.2.2.1 x.2.2.2.2.1)],
  fun x H => NtK K x.1 x.2.1 x.2.2.1 x.2.2.2.1 x.2.2.2.2.1 x.2.2.2.2.2 H ∧ NetOk x.2.1 x.2.2.1 x.2.2.2.1 ∧ x.2.2.2.2.1 < x.2.2.2.1.length, fun x => [x.1.nt],
  fun x _ v H' => ∃ A', A'.nt = x.1.nt ∧ A'.lp = x.1.lp ∧ A'.lr = x.1.lr ∧ A'.rs = x.1.rs ∧ NtK K A' x.2.1 x.2.2.1 x.2.2.2.1 (x.2.2.2.2.1 + 1) x.2.2.2.2.2 H'⟩
section
variable {σ : L2.St} {H : Hp} {ta tb te : TE}
/-- a method that only reads -/
theorem ev_methH {C : Addr} {m : Str} {s : Sph K} {t : TA} {Ts : List (Ty K)} {B : Ty K} {p dx : Addr} {fs : List (Str × V)} (x : s.ι) (hp : H p = some (.ins C dx fs)) (hx : ∀ H1, Ex H H1 → s.side x H1) (hs : s.args x = tyE (.ref p) :: Ts) (hm : fs.lookup m = none) (ho : EvP (K := K) ta σ H (tyE (.ref p))) (ha : EvPA t σ H Ts) (hq : ∀ H1 v H2, Ex H H1 → Ex H1 H2 → s.post x H1 v H2 → B.p v H2) :
    EvP (tMeth C m s.sp [] E0 ta t) σ H B := fun H1 e Q k =>
  ho H1 e _ fun v H2 e2 z => by
    cases z
    exact ⟨p, dx, fs, rfl, (e.trans e2) _ _ hp, hm, ha H2 (e.trans e2) _ fun vs H3 e4 zs => by
      refine ⟨x, hx H3 ((e.trans e2).trans e4), ?_, fun v H4 e5 r => k v H4 ((e2.trans e4).trans e5) (hq H3 v H4 ((e.trans e2).trans e4) e5 r)⟩
      rw [List.append_nil, hs]
      exact .cons rfl zs⟩
end
theorem noN {A : NtA} {m : Str} (h : m ∉ (["points", "approximations", "readings", "normal", "inverse", "right", "total"] : List Str)) : (ntF A).lookup m = none := by
  simp only [List.mem_cons, List.not_mem_nil, or_false, not_or] at h
  obtain ⟨h1, h2, h3, h4, h5, h6, h7⟩ := h
  have q : ∀ {x : Str}, ¬ m = x → (m == x) = false := fun h => beq_eq_false_iff_ne.mpr h
  unfold ntF
  simp only [List.lookup, q h1, q h2, q h3, q h4, q h5, q h6, q h7]
theorem ev_nrow {σ : L2.St} {H : Hp} {ta tb : TE} {A : NtA} {pts : List Str} {r : Rdg} (hat : H A.nt = some (.ins (gNt K) A.dx (ntF A))) (hpt : H A.lp = some (.lst (pts.map V.str))) (nd : pts.Nodup) (n16 : pts.length < 16) (hr : RdIn pts r) (ha : EvP (K := K) ta σ H (tyE (.ref A.nt))) (hb : EvP tb σ H (tyRead K r)) :
    EvP (K := K) (tMeth (gNt K) "row" (sNRow K).sp [] E0 ta (tCons tb tNil)) σ H (tyVec pts.length fun i => (coef r.ts (pts.getD i default) : Rat)) :=
  ev_methH (s := sNRow K) (A, pts, r) hat (fun H1 e => ⟨e _ _ hat, e _ _ hpt, nd, n16, hr⟩) rfl (noN (by decide +kernel)) ha (ea_cons hb ea_nil) fun _ _ _ _ _ z => z
theorem sc_m_Net_tally : FnScope ["self", "reading", "weight", "row", "shift"] ["self", "reading", "weight"] (defScope sm_Net_tally) := ⟨rfl, rfl, rfl, by decide +kernel, rfl, by decide +kernel, by decide +kernel⟩
theorem ok_Net_tally (c : Cxt P K mg base) : Ok P w K mg base dm_Net_tally 40 ["self", "reading", "weight"] (sTally K).sp := by
  have nd := (sc_m_Net_tally).nd
  refine okW c.Fm_Net_tally sc_m_Net_tally (sTally K) (fun _ => rfl) fun cdv A outer s0 H E hr => ⟨_, PSs.nox ((pss_cons (ps_set (i := 3) nd rfl (by first | exact Or.inl rfl | exact Or.inr rfl) (pe_meth (pv 0) c.c_Net c.m_Net_row (ok_Net_row c) (by exact hr.mono (by decide)) c.bm_Net_row .nil pass0 (pa_cons (pv 1) pa_nil)))
      (pss_cons (ps_set (i := 4) nd rfl (by first | exact Or.inl rfl | exact Or.inr rfl) (pe_op (op_rSub c (by exact hr.mono (by decide))) (pe_fldK K (pv 1) rfl) (pe_call (ok_dot c) (by exact hr.mono (by decide)) rfl c.g_dot c.Ff_dot.kp c.bf_dot .nil pass0 (pa_cons (pv 3) (pa_cons (pe_fldK K (pv 0) rfl) pa_nil)))))
      (pss_cons (ps_fld (pv 0) (pe_call (ok_add_term c) (by exact hr.mono (by decide)) rfl c.g_add_term c.Ff_add_term.kp c.bf_add_term .nil pass0 (pa_cons (pe_fldK K (pv 0) rfl) (pa_cons (pv 3) (pa_cons (pv 2) pa_nil)))) rfl)
      (pss_cons (ps_fld (pv 0) (pe_call (ok_plus c) (by exact hr.mono (by decide)) rfl c.g_plus c.Ff_plus.kp c.bf_plus .nil pass0 (pa_cons (pe_fldK K (pv 0) rfl) (pa_cons (pe_call (ok_scale c) (by exact hr.mono (by decide)) rfl c.g_scale c.Ff_scale.kp c.bf_scale .nil pass0 (pa_cons (pe_op (op_rMul c (by exact hr.mono (by decide))) (pv 2) (pv 4)) (pa_cons (pv 3) pa_nil))) pa_nil))) rfl)
      (pss_one (ps_fld (pv 0) (pe_op (op_rAdd c (by exact hr.mono (by decide))) (pe_fldK K (pv 0) rfl) (pe_op (op_rMul c (by exact hr.mono (by decide))) (pe_op (op_rMul c (by exact hr.mono (by decide))) (pv 2) (pv 4)) (pv 4))) rfl))))))), fun x Q σ hx hs k => ?_⟩
  have kk := k
  obtain ⟨A, pts, app, rds, i, Pi⟩ := x
  obtain ⟨S, ok, hi⟩ : NtK K A pts app rds i Pi H ∧ NetOk pts app rds ∧ i < rds.length := hx
  have hs : Sat [some (tyE (.ref A.nt)), some (tyRead K (rds.getD i default)), some (tyRat (rowW rds i)), none, none] σ H := hs
  have n8 := ok.n8
  have RO := ok.rows
  have SH := ok.sh
  have hrd : RdIn pts (rds.getD i default) := ok.inn _ (getD_mem hi)
  obtain ⟨_, g0, rfl⟩ := hs.get (i := 0) rfl
  refine q_asg (T := tyVec pts.length (rowA pts rds i)) hs ((ev_nrow S.at_ S.pt ok.nd (by omega) hrd (ev_var (i := 0) hs rfl) (ev_var (i := 1) hs rfl)).to fun v H' _ z => z) fun σ1 H1 e1 s1 => ?_
  have S1 := S.ex e1
  have hL : 60000000 ≤ LIM := by decide
  have l7 : ∀ {B : NtA}, (ntF B).length < 1000 := by intro B; show 7 < 1000; decide
  have hRow := RO.row hi
  have hAp : Ht 6 (entV pts.length app) := Pb.IntD.ht (D := 6) (B := 36) (by decide) (by decide) (by decide) fun q ⟨j, hj, e⟩ => by rw [← e]; exact ok.ap j hj
  have hW : Sz 4 (rowW rds i) := (Pb.IntD.ht (D := 2) (B := 8) (b := 4) (X := fun q => rowW rds i = q) (by decide) (by decide) (by decide) fun q e => by rw [← e]; exact RO.hw i hi).sz rfl
  have hV : Sz 6 (rowV rds i) := (Pb.IntD.ht (D := 6) (B := 36) (b := 6) (X := fun q => rowV rds i = q) (by decide) (by decide) (by decide) fun q e => by rw [← e]; exact RO.hv i hi).sz rfl
  have hS : Sz 10 (shV pts app rds i) := (Pb.IntD.ht (D := 6) (B := 900) (b := 10) (X := fun q => shV pts app rds i = q) (by decide) (by decide) (by decide) fun q e => by rw [← e]; exact SH i hi).sz rfl
  have hD := (hRow.dots (n := pts.length) (Z := fun q => Pb.dot pts.length (rowA pts rds i) app = q) (by omega) hAp fun _ e => ⟨_, _, _, Nat.le_refl _, fun i hi => ⟨i, hi, rfl⟩, fun i hi => ⟨i, hi, rfl⟩, e⟩).sz rfl
  have R := RO.less (Nat.le_of_lt hi)
  have SHl : ∀ k, k < i → Pb.IntD 6 900 (shV pts app rds k) := fun k hk => SH k (by omega)
  have sA : ∀ j, j < pts.length → Sz 2 (rowA pts rds i j) := fun j hj => hRow.sz ⟨j, hj, rfl⟩
  have s4' : ∀ j l, j < pts.length → l < pts.length → Sz _ (rowA pts rds i j * rowA pts rds i l) := fun j l hj hl => Sz.mul (sA j hj) (sA l hl)
  have s5' : ∀ j l, j < pts.length → l < pts.length → Sz _ (rowW rds i * (rowA pts rds i j * rowA pts rds i l)) := fun j l hj hl => Sz.mul hW (s4' j l hj hl)
  have hWS := Sz.mul hW hS
  obtain ⟨lk1, lk2, lk3, lk4, lk5, lk6, lk7⟩ := lookN (A := A)
  refine q_asg (T := tyRat (shV pts app rds i)) s1 ((ev_sub (ev_Rv c (ev_var (i := 1) s1 rfl)) (ev_dot (ev_var (i := 3) s1 rfl) (ev_val S1 (ev_var (i := 0) s1 rfl) c c.n_Net_approximations lk2 S1.av) ⟨⟨_, _, hRow, hAp, by omega⟩, by omega⟩) (hV.mono (by omega)) (hD.mono (by omega))).to fun v H' _ z => z) fun σ2 H2 e2 s2 => ?_
  have S2 := S1.ex e2
  have g2 : σ2[0]? = some (some (.ref A.nt)) := by
    obtain ⟨_, g, rfl⟩ := s2.get (i := 0) rfl
    exact g
  refine q_fld1 (fun v => ntF { A with nv := v }) (T := tyMat pts.length pts.length (Pb.gN (i + 1) (rowA pts rds) (rowW rds))) c c.n_Net_normal g2 S2.at_ l7 (fun v => putN.2.1) ((ev_addTerm (ev_val S2 (ev_var (i := 0) s2 rfl) c c.n_Net_normal lk4 S2.nv) (ev_var (i := 3) s2 rfl) (ev_var (i := 2) s2 rfl) (.of (by omega) (by omega) R.gN (by omega)) (.of (by omega) hRow (by omega)) (hW.mono (by omega)) ⟨by omega, by omega, fun j l hj hl => (s4' j l hj hl).mono (by omega)⟩ ⟨by omega, by omega, fun j l hj hl => (s5' j l hj hl).mono (by omega)⟩).to fun v H' _ z => z) fun v3 H3 F3 => ?_
  have s3 := s2.st F3.ge
  refine q_fld1 (fun v => ntF { A with nv := v3, rv := v }) (T := tyVec pts.length (Pb.gR (i + 1) (rowA pts rds) (rowW rds) (shV pts app rds))) c c.n_Net_right g2 F3.at_ l7 (fun v => putN.2.2.2.1) ((ev_plus (ev_ty (ev_fldB F3.at_ (ev_var (i := 0) s3 rfl) c.c_Net c.n_Net_right lookN.2.2.2.2.2.1) (Ty.st _ _ _ _ F3.ge S2.rv)) (ev_scale (ev_mul (ev_var (i := 2) s3 rfl) (ev_var (i := 4) s3 rfl) (hW.mono (by omega)) (hS.mono (by omega))) (ev_var (i := 3) s3 rfl) (hWS.mono (by omega)) (.of (by omega) hRow (by omega))) (.of (by omega) (R.gRs SHl) (by omega)) ⟨by omega, fun j hj => (Sz.mul hWS (sA j hj)).mono (by omega)⟩).to fun v H' _ z => z) fun v4 H4 F4 => ?_
  have s4 := s3.st F4.ge
  refine s_fld1 (fun v => ntF { A with nv := v3, rv := v4, tv := v }) (T := tyRat (Pb.gT (i + 1) (rowW rds) (shV pts app rds))) c c.n_Net_total g2 F4.at_ l7 (fun v => putN.2.2.2.2) ((ev_add (ev_ty (ev_fldB F4.at_ (ev_var (i := 0) s4 rfl) c.c_Net c.n_Net_total lookN.2.2.2.2.2.2) (Ty.st _ _ _ _ (F3.ge.trans F4.ge) S2.tv)) (ev_mul (ev_mul (ev_var (i := 2) s4 rfl) (ev_var (i := 4) s4 rfl) (hW.mono (by omega)) (hS.mono (by omega))) (ev_var (i := 4) s4 rfl) (hWS.mono (by omega)) (hS.mono (by omega))) (((R.gTs SHl).sz rfl).mono (by omega)) ((Sz.mul hWS hS).mono (by omega))).to fun v H' _ z => z) fun v5 H5 F5 => ?_
  have fAll := ((Fr.of (e1.trans e2)).trans (F3.fr.trans (F4.fr.trans F5.fr)))
  have g35 := (F3.ge.trans F4.ge).trans F5.ge
  have f35 := (F3.fr.trans F4.fr).trans F5.fr
  obtain ⟨n1, n2⟩ := S.ne
  refine kk .non _ fAll ⟨{ A with nv := v3, rv := v4, tv := v5 }, rfl, rfl, rfl, rfl, F5.at_, f35 _ _ (by simp [n1.symm]) S2.pt, f35 _ _ (by simp [n2.symm]) S2.rd, Ty.st _ _ _ _ g35 S2.av, Ty.st _ _ _ _ (F4.ge.trans F5.ge) F3.ty, Ty.st _ _ _ _ g35 S2.iv, Ty.st _ _ _ _ F5.ge F4.ty, F5.ty⟩
theorem methW {σ : L2.St} {H : Hp} {ta : TE} {t : TA} {C : Addr} {m : Str} {s : Spw K} {Ts : List (Ty K)} {p dx : Addr} {fs : List (Str × V)} {Q : VK} (x : s.ι) (hp : H p = some (.ins C dx fs)) (hx : ∀ H1, Ex H H1 → s.side x H1) (hs : s.args x = tyE (.ref p) :: Ts) (hm : fs.lookup m = none) (ho : EvP (K := K) ta σ H (tyE (.ref p))) (ha : EvPA t σ H Ts)
    (k : ∀ H1 v H2, Ex H H1 → Fr (s.S x) H1 H2 → s.post x H1 v H2 → Q v H2) : tMeth C m s.sp [] E0 ta t σ H Q :=
  ho H (Ex.refl _) _ fun v H2 e2 z => by
    cases z
    exact ⟨p, dx, fs, rfl, e2 _ _ hp, hm, ha H2 e2 _ fun vs H3 e4 zs => by
      refine ⟨x, hx H3 (e2.trans e4), ?_, fun v H4 f r => k H3 v H4 (e2.trans e4) f r⟩
      rw [List.append_nil, hs]
      exact .cons rfl zs⟩
def sPut (K : PySem.W.Frag) : Spw K := ⟨NtA × List Str × (Nat → Rat) × List Rdg × Nat × (Nat → Nat → Rat), fun x => [tyE (.ref x.1.nt), tyRead K (x.2.2.2.1.getD x.2.2.2.2.1 default)],
  fun x H => NtK K x.1 x.2.1 x.2.2.1 x.2.2.2.1 x.2.2.2.2.1 x.2.2.2.2.2 H ∧ NetOk x.2.1 x.2.2.1 x.2.2.2.1 ∧ x.2.2.2.2.1 < x.2.2.2.1.length ∧ Pb.Pen x.2.1.length (Pb.gN x.2.2.2.2.1 (rowA x.2.1 x.2.2.2.1) (rowW x.2.2.2.1)) x.2.2.2.2.2, fun x => [x.1.nt],
  fun x _ v H' => ∃ A' Pi', A'.nt = x.1.nt ∧ A'.lp = x.1.lp ∧ A'.lr = x.1.lr ∧ A'.rs = x.1.rs ∧ NtK K A' x.2.1 x.2.2.1 x.2.2.2.1 (x.2.2.2.2.1 + 1) Pi' H' ∧ Pb.Pen x.2.1.length (Pb.gN (x.2.2.2.2.1 + 1) (rowA x.2.1 x.2.2.2.1) (rowW x.2.2.2.1)) Pi'⟩
theorem sc_m_Net_put : FnScope ["self", "reading"] ["self", "reading"] (defScope sm_Net_put) := ⟨rfl, rfl, rfl, by decide +kernel, rfl, by decide +kernel, by decide +kernel⟩
theorem ok_Net_put (c : Cxt P K mg base) : Ok P w K mg base dm_Net_put 41 ["self", "reading"] (sPut K).sp := by
  have nd := (sc_m_Net_put).nd
  refine okW c.Fm_Net_put sc_m_Net_put (sPut K) (fun _ => rfl) fun cdv A outer s0 H E hr => ⟨_, PSs.nox ((pss_cons (ps_fld (pv 0) (pe_call (ok_with_added c) (by exact hr.mono (by decide)) rfl c.g_with_added c.Ff_with_added.kp c.bf_with_added .nil pass0 (pa_cons (pe_fldK K (pv 0) rfl) (pa_cons (pe_fldK K (pv 0) rfl) (pa_cons (pe_meth (pv 0) c.c_Net c.m_Net_row (ok_Net_row c) (by exact hr.mono (by decide)) c.bm_Net_row .nil pass0 (pa_cons (pv 1) pa_nil)) (pa_cons (pe_fldK K (pv 1) rfl) pa_nil))))) rfl)
      (pss_one (ps_expr (pe_meth (pv 0) c.c_Net c.m_Net_tally (ok_Net_tally c) (by exact hr.mono (by decide)) c.bm_Net_tally .nil pass0 (pa_cons (pv 1) (pa_cons (pe_fldK K (pv 1) rfl) pa_nil))))))), fun x Q σ hx hs k => ?_⟩
  have kk := k
  obtain ⟨A, pts, app, rds, i, Pi⟩ := x
  obtain ⟨S, ok, hi, pen⟩ : NtK K A pts app rds i Pi H ∧ NetOk pts app rds ∧ i < rds.length ∧ Pb.Pen pts.length (Pb.gN i (rowA pts rds) (rowW rds)) Pi := hx
  have hs : Sat [some (tyE (.ref A.nt)), some (tyRead K (rds.getD i default))] σ H := hs
  have n8 := ok.n8
  have RO := ok.rows
  have hrd : RdIn pts (rds.getD i default) := ok.inn _ (getD_mem hi)
  obtain ⟨_, g0, rfl⟩ := hs.get (i := 0) rfl
  have hL : 60000000 ≤ LIM := by decide
  have l7 : ∀ {B : NtA}, (ntF B).length < 1000 := by intro B; show 7 < 1000; decide
  have hRow := RO.row hi
  have hW : Sz 4 (rowW rds i) := (Pb.IntD.ht (D := 2) (B := 8) (b := 4) (X := fun q => rowW rds i = q) (by decide) (by decide) (by decide) fun q e => by rw [← e]; exact RO.hw i hi).sz rfl
  have R := RO.less (Nat.le_of_lt hi)
  have hP := pen.ht (by omega) R.gN
  have pb := Pb.pb8 n8
  have HA : HAdd pts.length 11 4 (Pb.pinvBits pts.length 11) (Pb.gN i (rowA pts rds) (rowW rds)) Pi (rowA pts rds i) (rowW rds i) :=
    ⟨by omega, R.gN, hRow.mono (by omega), hP, hW, RO.pos i hi, pen, Pb.gN_sym, Pb.gN_pos R.pos, by omega⟩
  obtain ⟨lk1, lk2, lk3, lk4, lk5, lk6, lk7⟩ := lookN (A := A)
  refine q_fld1 (fun v => ntF { A with iv := v }) (T := tyEx fun (R : Nat → Nat → Rat) => tyAnd (Pb.Pen pts.length (Pb.gN (i + 1) (rowA pts rds) (rowW rds)) R) (tyMat pts.length pts.length R)) c c.n_Net_inverse g0 S.at_ l7 (fun v => putN.2.2.1)
    ((ev_call (s := sWith K) (pts.length, 11, 4, Pb.pinvBits pts.length 11, Pb.gN i (rowA pts rds) (rowW rds), Pi, rowA pts rds i, rowW rds i) HA (ea_cons (ev_val S (ev_var (i := 0) hs rfl) c c.n_Net_normal lk4 S.nv) (ea_cons (ev_val S (ev_var (i := 0) hs rfl) c c.n_Net_inverse lk5 S.iv)
      (ea_cons ((ev_nrow S.at_ S.pt ok.nd (by omega) hrd (ev_var (i := 0) hs rfl) (ev_var (i := 1) hs rfl)).to fun v H' _ z => z) (ea_cons ((ev_Rw c (ev_var (i := 1) hs rfl)).to fun v H' _ z => z) ea_nil))))).to fun v H' _ z => z) fun v1 H1 F1 => ?_
  obtain ⟨Pi', pen', tP⟩ := F1.ty
  have s1 := hs.st F1.ge
  obtain ⟨n1, n2⟩ := S.ne
  have S1 : NtK K { A with iv := v1 } pts app rds i Pi' H1 := ⟨F1.at_, F1.fr _ _ (by simp [n1.symm]) S.pt, F1.fr _ _ (by simp [n2.symm]) S.rd, Ty.st _ _ _ _ F1.ge S.av, Ty.st _ _ _ _ F1.ge S.nv, tP, Ty.st _ _ _ _ F1.ge S.rv, Ty.st _ _ _ _ F1.ge S.tv⟩
  refine methW (s := sTally K) ({ A with iv := v1 }, pts, app, rds, i, Pi') S1.at_ (fun H2 e => ⟨S1.ex e, ok, hi⟩) rfl (noN (by decide +kernel)) (ev_var (i := 0) s1 rfl) (ea_cons (ev_var (i := 1) s1 rfl) (ea_cons ((ev_Rw c (ev_var (i := 1) s1 rfl)).to fun v H' _ z => z) ea_nil)) fun H2 v H3 e2 f3 ⟨A', a1, a2, a3, a4, S3⟩ => ?_
  exact kk .non H3 ((F1.fr.trans (Fr.of e2)).trans f3) ⟨A', Pi', a1, a2, a3, a4, S3, pen'⟩
end
end Pd

/-! The defs' promises: nets of books, what they tell. -/
namespace Pd
open PySem PySem.Spec PyProof.Rows L2 Evl Pt Pn
open Pb (Ht Sz entV entM)
section
variable {P : Program} {w : World} {K : PySem.W.Frag} {mg : Str → Option Value} {base : Heap}
/-- two names compared -/
theorem et_eqS {σ : L2.St} {H : Hp} {ta tb : TE} {a b : Str} (ha : EvP (K := K) ta σ H (tyE (.str a))) (hb : EvP (K := K) tb σ H (tyE (.str b))) : EvT (tTest (tOp rEq ta tb)) σ H (decide (a = b)) :=
  et_cmp (Evl.ev_op (flat_ev ha) (flat_ev hb) (rv_eq rfl)) (by by_cases h : a = b <;> simp [h])
/-- the net behind k readings, its readings told -/
structure NtR (K : PySem.W.Frag) (A : NtA) (pts : List Str) (app : Nat → Rat) (rds : List Rdg) (k : Nat) (Pi : Nat → Nat → Rat) (H : Hp) : Prop where
  s : NtK K A pts app rds k Pi H
  pen : Pb.Pen pts.length (Pb.gN k (rowA pts rds) (rowW rds)) Pi
  ln : A.rs.length = k
  its : Its (K := K) (fun i => tyRead K (rds.getD i default)) A.rs H
  ne : A.lp ≠ A.lr
theorem NtR.ex {A : NtA} {pts : List Str} {app : Nat → Rat} {rds : List Rdg} {k : Nat} {Pi : Nat → Nat → Rat} {H H' : Hp} (h : NtR K A pts app rds k Pi H) (e : Ex H H') : NtR K A pts app rds k Pi H' := ⟨h.s.ex e, h.pen, h.ln, h.its.ex e, h.ne⟩
def sAdd' (K : PySem.W.Frag) : Spw K := ⟨NtA × List Str × (Nat → Rat) × List Rdg × Nat × (Nat → Nat → Rat), fun x => [tyE (.ref x.1.nt), tyRead K (x.2.2.2.1.getD x.2.2.2.2.1 default)],
  fun x H => NtR K x.1 x.2.1 x.2.2.1 x.2.2.2.1 x.2.2.2.2.1 x.2.2.2.2.2 H ∧ NetOk x.2.1 x.2.2.1 x.2.2.2.1 ∧ x.2.2.2.2.1 < x.2.2.2.1.length ∧ (x.2.2.2.1.map (·.name)).Nodup, fun x => [x.1.nt, x.1.lr],
  fun x _ v H' => ∃ A' Pi', A'.nt = x.1.nt ∧ A'.lp = x.1.lp ∧ A'.lr = x.1.lr ∧ NtR K A' x.2.1 x.2.2.1 x.2.2.2.1 (x.2.2.2.2.1 + 1) Pi' H'⟩
theorem sc_m_Net_add : FnScope ["self", "reading", "other", "name", "_"] ["self", "reading"] (defScope sm_Net_add) := ⟨rfl, rfl, rfl, by decide +kernel, rfl, by decide +kernel, by decide +kernel⟩
theorem ok_Net_add (c : Cxt P K mg base) : Ok P w K mg base dm_Net_add 42 ["self", "reading"] (sAdd' K).sp := by
  have nd := (sc_m_Net_add).nd
  refine okW c.Fm_Net_add sc_m_Net_add (sAdd' K) (fun _ => rfl) fun cdv A outer s0 H E hr => ⟨_, PSs.nox ((pss_cons (ps_for PassesOwn.never rfl (pi_listK K (pe_fldK K (pv 0) rfl)) (pg_name (i := 2) nd rfl (by first | exact Or.inl rfl | exact Or.inr rfl)) (pss_one (ps_if (pt_cmpR op_eq (pe_fldK K (pv 2) rfl) (pe_fldK K (pv 1) rfl) (nomark _)) (pss_one ps_never) pss_nil)))
      (pss_cons (ps_for PassesOwn.never rfl (pi_tupK K (pe_fldK K (pv 1) rfl)) (pg_tupK K rfl (pgs_cons (pg_name (i := 3) nd rfl (by first | exact Or.inl rfl | exact Or.inr rfl)) (pgs_cons (pg_name (i := 4) nd rfl (by first | exact Or.inl rfl | exact Or.inr rfl)) pgs_nil))) (pss_one (ps_if (pt_cmpR (op_notInK K) (pv 3) (pe_fldK K (pv 0) rfl) (by rfl)) (pss_one ps_never) pss_nil)))
      (pss_cons (ps_if (pt_cmpR op_eq (pe_callB (call_lenK K) (by rfl) c.z_len PySem.boot_len (pa_cons (pe_fldK K (pv 0) rfl) pa_nil)) (C8.pe_gc rfl (gint c.i_MOST_READINGS_adjust)) (nomark _)) (pss_one ps_never) pss_nil)
      (pss_cons (ps_expr (pe_meth (pv 0) c.c_Net c.m_Net_put (ok_Net_put c) (by exact hr.mono (by decide)) c.bm_Net_put .nil pass0 (pa_cons (pv 1) pa_nil)))
      (pss_one (ps_expr (pe_bmK K PySem.F.plainAttrs_list PySem.F.slot_list_append PySem.F.type_list_append mt_append (pe_fldK K (pv 0) rfl) (pa_cons (pv 1) pa_nil))))))))), fun x Q σ hx hs k => ?_⟩
  have kk := k
  obtain ⟨A, pts, app, rds, i, Pi⟩ := x
  obtain ⟨N, ok, hi, ndn⟩ : NtR K A pts app rds i Pi H ∧ NetOk pts app rds ∧ i < rds.length ∧ (rds.map fun r : Rdg => r.name).Nodup := hx
  have hs : Sat [some (tyE (.ref A.nt)), some (tyRead K (rds.getD i default)), none, none, none] σ H := hs
  have hrd : RdIn pts (rds.getD i default) := ok.inn _ (getD_mem hi)
  obtain ⟨lk1, lk2, lk3, lk4, lk5, lk6, lk7⟩ := lookN (A := A)
  have n8 := ok.n8
  have m16 := ok.m16
  have eR : EvP (K := K) (tFld K (tVar 0) "readings") σ H (tyE (.ref A.lr)) := ev_fldB N.s.at_ (ev_var (i := 0) hs rfl) c.c_Net c.n_Net_readings lk3
  refine q_for (ei_list (T := fun j => tyRead K (rds.getD j default)) eR (SqL.of N.s.rd) N.its) (fun H2 j σ' H' => Ex H2 H' ∧ Sat [some (tyE (.ref A.nt)), some (tyRead K (rds.getD i default)), none, none, none] σ' H') (fun H2 e2 => ⟨Ex.refl _, hs.ex e2⟩)
    (fun H2 e2 j σ' H' _ p => ⟨SqL.of ((e2.trans p.1) _ _ N.s.rd), ge_ex (e2.trans p.1)⟩) (fun H2 e2 j x σ' H' H'' hj p e3 y => ?_) (fun H2 e2 σ2 Hb p => ?_)
  · have s3 := (p.2.ex e3).set (i := 2) y
    rw [N.ln] at hj
    have hne : (rds.getD j default).name ≠ (rds.getD i default).name := fun z => by
      have q1 : (rds.map fun r : Rdg => r.name)[j]? = (rds.map fun r : Rdg => r.name)[i]? := by
        rw [List.getElem?_map, List.getElem?_map, List.getElem?_eq_getElem (by omega), List.getElem?_eq_getElem hi]
        rw [List.getD_eq_getElem?_getD, List.getD_eq_getElem?_getD, List.getElem?_eq_getElem (by omega), List.getElem?_eq_getElem hi] at z
        exact congrArg some z
      have := (List.getElem?_inj (by rw [List.length_map]; omega) ndn).mp q1
      omega
    have et := et_eqS (ev_Rn c (ev_var (i := 2) s3 rfl)) (ev_Rn c (ev_var (i := 1) s3 rfl))
    rw [decide_eq_false hne] at et
    exact s_if et (fun z => by cases z) fun _ H4 e4 => ⟨p.1.trans (e3.trans e4), (s3.ex e4).forget (i := 2)⟩
  · have e02 := e2.trans p.1
    have N2 := N.ex e02
    refine q_for (ei_pin (ev_Rt c (ev_var (i := 1) p.2 rfl))) (fun H3 j σ' H' => Ex H3 H' ∧ Sat [some (tyE (.ref A.nt)), some (tyRead K (rds.getD i default)), none, none, none] σ' H') (fun H3 e3 => ⟨Ex.refl _, p.2.ex e3⟩)
      (fun H3 e3 j σ' H' _ p => ge_ex p.1) (fun H3 e3 j x σ' H' H'' hj p3 e4 y => ?_) (fun H3 e3 σ3 H3' p3 => ?_)
    · refine g_pair y fun u v hu hv => ?_
      have s4 := ((p3.2.ex e4).set (i := 3) hu).set (i := 4) hv
      have N4 := N2.ex (e3.trans (p3.1.trans e4))
      have hm : ((rds.getD i default).ts.getD j default).1 ∈ pts := hrd.sub _ (List.mem_map.mpr ⟨_, getD_mem hj, rfl⟩)
      refine s_if (b := false) (et_of (by
        have z := ev_inNms (K := K) (neg := true) (.inl N4.s.pt) (ev_var (i := 3) s4 rfl) (ev_fldB N4.s.at_ (ev_var (i := 0) s4 rfl) c.c_Net c.n_Net_points lk1)
        rw [decide_eq_true hm] at z
        exact z)) (fun z => by cases z) fun _ H5 e5 => ⟨p3.1.trans (e4.trans e5), ((s4.ex e5).forget (i := 3)).forget (i := 4)⟩
    · have e03 := e02.trans (e3.trans p3.1)
      have N3 := N2.ex (e3.trans p3.1)
      have s3 := p3.2
      have eL := ev_lenL (K := K) N3.s.rd (ev_fldB N3.s.at_ (ev_var (i := 0) s3 rfl) c.c_Net c.n_Net_readings lk3)
      rw [N.ln] at eL
      refine Pt.q_if (b := false) (et_cmp (Evl.ev_op (flat_ev eL) (flat_ev (K := K) ev_c) (rv_eq rfl)) (by rw [dec_int]; simp; omega)) (fun z => by cases z) fun _ H4 e4 => ?_
      have N4 := N3.ex e4
      have s4 := s3.ex e4
      refine q_drop (methW (s := sPut K) (A, pts, app, rds, i, Pi) N4.s.at_ (fun H5 e => ⟨(N4.ex e).s, ok, hi, N4.pen⟩) rfl (noN (by decide +kernel)) (ev_var (i := 0) s4 rfl) (ea_cons (ev_var (i := 1) s4 rfl) ea_nil) fun H5 v H6 e5 f6 ⟨A', Pi', a1, a2, a3, a4, S6, pen6⟩ => ?_)
      have N5 := N4.ex e5
      have g6 : Ge K H5 H6 := fun a o h im => f6 a o (fun z => by
        have z : a ∈ [A.nt] := z
        have z : a = A.nt := by simpa using z
        rw [z, N5.s.at_] at h
        cases h
        exact not_im c _ _ im) h
      have s6 := (s4.ex e5).st g6
      have it6 : Its (K := K) (fun i => tyRead K (rds.getD i default)) A.rs H6 := N5.its.st g6
      obtain ⟨m1, m2⟩ := S6.ne
      have hrs : H6 A.lr = some (.lst A.rs) := by rw [← a3, ← a4]; exact S6.rd
      have e0 : EvP (K := K) (tVar 0) σ3 H6 (tyE (.ref A'.nt)) := by rw [a1]; exact ev_var (i := 0) s6 rfl
      have eR6 := ev_fldB S6.at_ e0 c.c_Net c.n_Net_readings (lookN (A := A')).2.2.1
      rw [a3] at eR6
      refine s_app hrs eR6 (ev_var (i := 1) s6 rfl) (by rw [N.ln]; omega) fun v H7 e7 hv7 h7 => ?_
      have fr7 : Fr [A.nt, A.lr] H (L2.upd H7 A.lr (.lst (A.rs ++ [v]))) :=
        ((Fr.of (e03.trans (e4.trans e5))).trans (fun a o n h => f6 a o (fun z => n (by have z : a ∈ [A.nt] := z; simp at z; simp [z])) h)).trans ((Fr.of e7).trans (Fr.upd (by simp)))
      have g7 : Ge K H7 (L2.upd H7 A.lr (.lst (A.rs ++ [v]))) := ge_lst h7
      have S7 := S6.ex e7
      have q1 : A'.nt ≠ A.lr := by rw [← a3]; exact m2
      have q2 : A'.lp ≠ A.lr := by rw [a2]; exact N.ne
      refine kk .non _ fr7 ⟨{ A' with rs := A.rs ++ [v] }, Pi', a1, a2, a3, ⟨⟨?_, ?_, ?_, Ty.st _ _ _ _ g7 S7.av, Ty.st _ _ _ _ g7 S7.nv, Ty.st _ _ _ _ g7 S7.iv, Ty.st _ _ _ _ g7 S7.rv, Ty.st _ _ _ _ g7 S7.tv⟩, pen6, by show (A.rs ++ [v]).length = _; rw [List.length_append, N.ln]; rfl, ?_, by show A'.lp ≠ A'.lr; rw [a3]; exact q2⟩⟩
      · show (L2.upd H7 A.lr _) A'.nt = _
        rw [upd_ne q1]
        exact S7.at_
      · show (L2.upd H7 A.lr _) A'.lp = _
        rw [upd_ne q2]
        exact S7.pt
      · show (L2.upd H7 A.lr _) A'.lr = _
        rw [a3]
        exact upd_same
      · exact ((it6.ex e7).app (by rw [N.ln]; exact hv7)).st g7
theorem NtS.cgA {A : NtA} {pts : List Str} {app app' : Nat → Rat} {M Pi : Nat → Nat → Rat} {r : Nat → Rat} {tot : Rat} {H : Hp} (s : NtS K A pts app M Pi r tot H) (h : ∀ i, i < pts.length → app i = app' i) : NtS K A pts app' M Pi r tot H :=
  ⟨s.at_, s.pt, s.rd, tyVec_cg s.av h, s.nv, s.iv, s.rv, s.tv⟩
theorem NtS.geFr (c : Cxt P K mg base) {A : NtA} {pts : List Str} {app : Nat → Rat} {M Pi : Nat → Nat → Rat} {r : Nat → Rat} {tot : Rat} {H H' : Hp} (s : NtS K A pts app M Pi r tot H) {S : List Addr} (hS : ∀ a, a ∈ S → a = A.nt ∨ a = A.lp ∨ a = A.lr) (f : Fr S H H') : Ge K H H' := fun a o h im => f a o (fun z => by
  rcases hS a z with e | e | e
  · rw [e, s.at_] at h; cases h; exact not_im c _ _ im
  · rw [e, s.pt] at h; cases h; exact im
  · rw [e, s.rd] at h; cases h; exact im) h
theorem exFr {H H1 H2 : Hp} {S : List Addr} (e : Ex H H1) (hS : ∀ a, a ∈ S → H a = none) (f : Fr S H1 H2) : Ex H H2 := fun a o h => f a o (fun z => by rw [hS a z] at h; cases h) (e _ _ h)
/-- what net_of is handed -/
structure NofOk (pts : List Str) (app : Str → Rat) (rds : List Rdg) : Prop where
  ok : NetOk pts (fun i => app (pts.getD i default)) rds
  nn : (rds.map fun r : Rdg => r.name).Nodup
def sNetOf (K : PySem.W.Frag) : Sph K := ⟨BkA × List Str × (Str → Rat) × List Rdg, fun x => [tyE (.ref x.1.b)], fun x H => Bk K x.1 x.2.1 x.2.2.1 x.2.2.2 H ∧ NofOk x.2.1 x.2.2.1 x.2.2.2,
  fun x _ v H' => ∃ N Pi, v = .ref N.nt ∧ NtR K N x.2.1 (fun i => x.2.2.1 (x.2.1.getD i default)) x.2.2.2 x.2.2.2.length Pi H'⟩
theorem sc_f_net_of : FnScope ["book", "net", "name", "reading"] ["book"] (defScope sf_net_of) := ⟨rfl, rfl, rfl, by decide +kernel, rfl, by decide +kernel, by decide +kernel⟩
theorem ok_net_of (c : Cxt P K mg base) : Ok P w K mg base df_net_of 43 ["book"] (sNetOf K).sp := by
  have nd := (sc_f_net_of).nd
  refine okH c.Ff_net_of sc_f_net_of (sNetOf K) (fun _ => rfl) fun cdv A outer s0 H E hr => ⟨_, PSs.nox ((pss_cons (ps_set (i := 1) nd rfl (by first | exact Or.inl rfl | exact Or.inr rfl) (pe_make0 c.k_Net (ok_Net_init c) (by exact hr.mono (by decide)) rfl c.g_Net c.bm_Net_init .nil pass0))
      (pss_cons (ps_for PassesOwn.never rfl (pi_listK K (pe_fldK K (pv 0) rfl)) (pg_name (i := 2) nd rfl (by first | exact Or.inl rfl | exact Or.inr rfl)) (pss_one (ps_expr (pe_meth (pv 1) c.c_Net c.m_Net_add_point (ok_Net_add_point c) (by exact hr.mono (by decide)) c.bm_Net_add_point .nil pass0 (pa_cons (pv 2) (pa_cons (pe_dget (hu_of hr) (pe_fldK K (pv 0) rfl) (pv 2) (fun _ _ => rfl)) pa_nil))))))
      (pss_cons (ps_for PassesOwn.never rfl (pi_listK K (pe_fldK K (pv 0) rfl)) (pg_name (i := 3) nd rfl (by first | exact Or.inl rfl | exact Or.inr rfl)) (pss_one (ps_expr (pe_meth (pv 1) c.c_Net c.m_Net_add (ok_Net_add c) (by exact hr.mono (by decide)) c.bm_Net_add .nil pass0 (pa_cons (pv 3) pa_nil)))))
      (pss_one (ps_ret (pv 1))))))), fun x Q σ hx hs k => ?_⟩
  have kk := k
  obtain ⟨B, pts, app, rds⟩ := x
  obtain ⟨bk, ok, nn⟩ : Bk K B pts app rds H ∧ NofOk pts app rds := hx
  have hs : Sat [some (tyE (.ref B.b)), none, none, none] σ H := hs
  have n8 := ok.n8
  refine q_raw fun x dx hx hdx hne => ⟨x, dx, rfl, upd_same, fun N H1 a1 a2 S1 l1 l2 l3 f1 => ⟨rfl, ?_⟩⟩
  have none_of : ∀ {a o}, (upd (upd H dx (.own x)) x o) a = none → H a = none := fun {a o} h => by
    by_cases h1 : a = x
    · rw [h1]; exact hx
    · by_cases h2 : a = dx
      · rw [h2]; exact hdx
      · rw [upd_ne h1, upd_ne h2] at h; exact h
  have hlp := none_of l1
  have hlr := none_of l2
  have hnt : H N.nt = none := by rw [a1]; exact hx
  have e1 : Ex H H1 := exFr ((Ex.new hdx).trans (Ex.new (by rw [upd_ne hne.symm]; exact hx))) (fun a h => by
    have h : a = x := by simpa using h
    rw [h]
    exact hx) f1
  have fS : ∀ a, a ∈ [N.nt, N.lp, N.lr] → H a = none := fun a h => by
    have h : a = N.nt ∨ a = N.lp ∨ a = N.lr := by simpa using h
    rcases h with h | h | h <;> rw [h] <;> assumption
  have s1 : Sat [some (tyE (.ref B.b)), some (tyE (.ref N.nt)), none, none] _ H1 := (hs.ex e1).set (i := 1) (T := tyE (.ref N.nt)) (by rw [a1]; rfl)
  have bk1 := bk.ex e1
  refine q_for (ei_strs (ev_Bp c bk1 (ev_var (i := 0) s1 rfl)) bk1.pt)
    (fun H2 i σ' H' => Sat [some (tyE (.ref B.b)), some (tyE (.ref N.nt)), none, none] σ' H' ∧ Ex H H' ∧ Ge K H1 H' ∧ ∃ N', N'.nt = N.nt ∧ N'.lp = N.lp ∧ N'.lr = N.lr ∧ N'.rs = [] ∧ NtS K N' (pts.take i) (fun j => app (pts.getD j default)) zM zM zV 0 H')
    (fun H2 e2 => ⟨s1.ex e2, e1.trans e2, ge_ex e2, N, rfl, rfl, rfl, a2, (S1.ex e2).cgA fun i hi => by simp at hi⟩) (fun H2 e2 i σ' H' _ p => ⟨SqL.of (p.2.1 _ _ bk.pt), p.2.2.1⟩)
    (fun H2 e2 i x σ' H' H'' hi ⟨sp, ep, gp, N', b1, b2, b3, b4, S⟩ e3 y => ?_) (fun H2 e2 σ' H' ⟨sp, ep, gp, N', b1, b2, b3, b4, S⟩ => ?_)
  · have s3 := (sp.ex e3).set (i := 2) y
    have S3 := S.ex e3
    have bk3 := bk.ex (ep.trans e3)
    have etake : pts.take i ++ [pts.getD i default] = pts.take (i + 1) := by
      rw [List.take_add_one, List.getElem?_eq_getElem hi, List.getD_eq_getElem?_getD, List.getElem?_eq_getElem hi]
      rfl
    have hnew : pts.getD i default ∉ pts.take i := fun h => by
      obtain ⟨m, hm1, hm2⟩ := List.mem_iff_getElem.mp h
      rw [List.length_take] at hm1
      rw [List.getElem_take] at hm2
      have q1 : pts[m]? = pts[i]? := by rw [List.getElem?_eq_getElem (by omega), getD_get hi, hm2]
      have := (List.getElem?_inj (by omega) ok.nd).mp q1
      omega
    have hl : (pts.take i).length = i := by rw [List.length_take]; omega
    refine methW (s := sAddPt K) (N', pts.take i, fun j => app (pts.getD j default), pts.getD i default, app (pts.getD i default)) S3.at_ (fun H4 e => ⟨S3.ex e, hnew, by show (pts.take i).length < 12; omega, by show N'.lp ≠ N'.lr; rw [b2, b3]; exact l3⟩) rfl (noN (by decide +kernel)) (by rw [b1]; exact ev_var (i := 1) s3 rfl)
      (ea_cons (ev_var (i := 2) s3 rfl) (ea_cons (ev_dget bk3.ap (ev_Ba c bk3 (ev_var (i := 0) s3 rfl)) (ev_var (K := K) (i := 2) s3 rfl) (getD_mem hi)) ea_nil)) fun H4 v H5 e4 f5 ⟨N2, d1, d2, d3, d4, S5⟩ => ?_
    have g5 : Ge K H4 H5 := (S3.ex e4).geFr c (fun a h => by
      have h : a ∈ [N'.nt, N'.lp] := h
      have h : a = N'.nt ∨ a = N'.lp := by simpa using h
      rcases h with h | h
      · exact .inl h
      · exact .inr (.inl h)) f5
    have ex5 : Ex H H5 := exFr (ep.trans (e3.trans e4)) (S := [N'.nt, N'.lp]) (fun a h => fS a (by
      have h : a = N'.nt ∨ a = N'.lp := by simpa using h
      rcases h with h | h
      · rw [h, b1]; simp
      · rw [h, b2]; simp)) f5
    rw [etake] at S5
    refine ⟨((s3.ex e4).st g5).less (.cons (.inr rfl) (.cons (.inr rfl) (.cons (.inl rfl) (.cons (.inr rfl) .nil)))), ex5, ((gp.trans (ge_ex (e3.trans e4))).trans g5), N2, d1.trans b1, d2.trans b2, d3.trans b3, d4.trans b4, S5.cgA fun j hj => ?_⟩
    by_cases h : j < (pts.take i).length
    · show (if j < (pts.take i).length then _ else _) = _
      rw [if_pos h]
    · show (if j < (pts.take i).length then _ else _) = _
      rw [if_neg h]
      rw [List.length_take] at hj
      have : j = i := by omega
      rw [this]
  · rw [List.take_length] at S
    have bk2 := bk.ex ep
    have N0 : NtR K N' pts (fun j => app (pts.getD j default)) rds 0 zM H' := ⟨S, Pb.pen_zero _, by rw [b4]; rfl, by rw [b4]; exact Its.nil, by rw [b2, b3]; exact l3⟩
    refine q_for (ei_reads bk2 (ev_Br c bk2 (ev_var (i := 0) sp rfl)))
      (fun H3 i σ' H3' => Sat [some (tyE (.ref B.b)), some (tyE (.ref N.nt)), none, none] σ' H3' ∧ Ex H H3' ∧ Ge K H' H3' ∧ ∃ N2 Pi, N2.nt = N.nt ∧ N2.lp = N.lp ∧ N2.lr = N.lr ∧ NtR K N2 pts (fun j => app (pts.getD j default)) rds i Pi H3')
      (fun H3 e3 => ⟨sp.ex e3, ep.trans e3, ge_ex e3, N', zM, b1, b2, b3, N0.ex e3⟩) (fun H3 e3 i σ' H3' _ p => ⟨SqL.of (p.2.1 _ _ bk.rd), p.2.2.1⟩)
      (fun H3 e3 i x σ' H3' H'' hi ⟨sp, ep, gp, N2, Pi, d1, d2, d3, R⟩ e4 y => ?_) (fun H3 e3 σ' H3' ⟨sp, ep, gp, N2, Pi, d1, d2, d3, R⟩ => ?_)
    · have s4 := (sp.ex e4).set (i := 3) y
      have R4 := R.ex e4
      refine methW (s := sAdd' K) (N2, pts, fun j => app (pts.getD j default), rds, i, Pi) R4.s.at_ (fun H5 e => ⟨R4.ex e, ok, hi, nn⟩) rfl (noN (by decide +kernel)) (by rw [d1]; exact ev_var (i := 1) s4 rfl) (ea_cons (ev_var (i := 3) s4 rfl) ea_nil) fun H5 v H6 e5 f6 ⟨N3, Pi', c1, c2, c3, R6⟩ => ?_
      have g6 : Ge K H5 H6 := (R4.ex e5).s.geFr c (fun a h => by
        have h : a ∈ [N2.nt, N2.lr] := h
        have h : a = N2.nt ∨ a = N2.lr := by simpa using h
        rcases h with h | h
        · exact .inl h
        · exact .inr (.inr h)) f6
      have ex6 : Ex H H6 := exFr (ep.trans (e4.trans e5)) (S := [N2.nt, N2.lr]) (fun a h => fS a (by
        have h : a = N2.nt ∨ a = N2.lr := by simpa using h
        rcases h with h | h
        · rw [h, d1]; simp
        · rw [h, d3]; simp)) f6
      exact ⟨((s4.ex e5).st g6).less (.cons (.inr rfl) (.cons (.inr rfl) (.cons (.inr rfl) (.cons (.inl rfl) .nil)))), ex6, (gp.trans (ge_ex (e4.trans e5))).trans g6, N3, Pi', c1.trans d1, c2.trans d2, c3.trans d3, R6⟩
    · exact s_ret (ev_var (i := 1) sp rfl) fun v H5 e5 z => kk v H5 (ep.trans e5) ⟨N2, Pi, by rw [d1]; exact z, R.ex e5⟩
end
end Pd

/-! The defs' promises: what nets tell. -/
namespace Pd
open PySem PySem.Spec PyProof.Rows L2 Evl Pt Pn
open Pb (Ht Sz entV entM)
section
variable {P : Program} {w : World} {K : PySem.W.Frag} {mg : Str → Option Value} {base : Heap}
/-- the right side of a net -/
abbrev netR (pts : List Str) (app : Nat → Rat) (rds : List Rdg) : Nat → Rat := Pb.gR rds.length (rowA pts rds) (rowW rds) (shV pts app rds)
abbrev netH (pts : List Str) (app : Nat → Rat) (rds : List Rdg) (Pi : Nat → Nat → Rat) : Nat → Rat := fun i => app i + Pb.mv pts.length Pi (netR pts app rds) i
abbrev netS (pts : List Str) (app : Nat → Rat) (rds : List Rdg) (Pi : Nat → Nat → Rat) : Rat := Pb.gT rds.length (rowW rds) (shV pts app rds) - Pb.dot pts.length (netR pts app rds) (Pb.mv pts.length Pi (netR pts app rds))
abbrev NetX : Type := NtA × List Str × (Nat → Rat) × List Rdg × (Nat → Nat → Rat)
abbrev NetSide (K : PySem.W.Frag) (x : NetX) (H : Hp) : Prop := NtR K x.1 x.2.1 x.2.2.1 x.2.2.2.1 x.2.2.2.1.length x.2.2.2.2 H ∧ NetOk x.2.1 x.2.2.1 x.2.2.2.1
def sHeights (K : PySem.W.Frag) : Sph K := ⟨NetX, fun x => [tyE (.ref x.1.nt)], NetSide K, fun x _ v H' => (tyVec (K := K) x.2.1.length (netH x.2.1 x.2.2.1 x.2.2.2.1 x.2.2.2.2)).p v H'⟩
def sSquares (K : PySem.W.Frag) : Sph K := ⟨NetX, fun x => [tyE (.ref x.1.nt)], NetSide K, fun x _ v H' => (tyRat (K := K) (netS x.2.1 x.2.2.1 x.2.2.2.1 x.2.2.2.2)).p v H'⟩
def sRows (K : PySem.W.Frag) : Sph K := ⟨NetX, fun x => [tyE (.ref x.1.nt)], NetSide K, fun x _ v H' => (tyMat (K := K) x.2.2.2.1.length x.2.1.length (rowA x.2.1 x.2.2.2.1)).p v H'⟩
def sMoves (K : PySem.W.Frag) : Sph K := ⟨NetX, fun x => [tyE (.ref x.1.nt)], NetSide K,
  fun x _ v H' => ∃ p ys, v = .ref p ∧ H' p = some (.lst ys) ∧ (ys = [] → ∃ b k p F, Pb.RedB x.2.2.2.1.length x.2.1.length b (rowA x.2.1 x.2.2.2.1) k p F ∧ ∀ j, j < x.2.1.length → ∃ t, t < k ∧ p t = j)⟩
theorem net_facts {pts : List Str} {app : Nat → Rat} {rds : List Rdg} {Pi : Nat → Nat → Rat} (ok : NetOk pts app rds) (pen : Pb.Pen pts.length (Pb.gN rds.length (rowA pts rds) (rowW rds)) Pi) :
    Ht 1600000 (entM pts.length pts.length Pi) ∧ Ht 19 (entV pts.length (netR pts app rds)) ∧ Ht 1600100 (entV pts.length (Pb.mv pts.length Pi (netR pts app rds))) ∧ Sz 27 (Pb.gT rds.length (rowW rds) (shV pts app rds)) ∧ Sz 1600200 (Pb.dot pts.length (netR pts app rds) (Pb.mv pts.length Pi (netR pts app rds))) ∧ Ht 6 (entV pts.length app) := by
  have n8 := ok.n8
  have hP := (pen.ht (by omega) ok.rows.gN).mono (Pb.pb8 n8)
  have hR := ok.rows.gRs ok.sh
  have h1 := Ht.mv (h := pts.length) (w := pts.length) (by omega) hP hR
  have h2 := (hR.dots (n := pts.length) (Z := fun q => Pb.dot pts.length (netR pts app rds) (Pb.mv pts.length Pi (netR pts app rds)) = q) (by omega) h1 fun _ e => ⟨_, _, _, Nat.le_refl _, fun i hi => ⟨i, hi, rfl⟩, fun i hi => ⟨i, hi, rfl⟩, e⟩).sz rfl
  exact ⟨hP, hR, h1.mono (by omega), (ok.rows.gTs ok.sh).sz rfl, h2.mono (by omega), Pb.IntD.ht (D := 6) (B := 36) (by decide) (by decide) (by decide) fun q ⟨j, hj, e⟩ => by rw [← e]; exact ok.ap j hj⟩
theorem sc_m_Net_heights : FnScope ["self"] ["self"] (defScope sm_Net_heights) := ⟨rfl, rfl, rfl, by decide +kernel, rfl, by decide +kernel, by decide +kernel⟩
theorem ok_Net_heights (c : Cxt P K mg base) : Ok P w K mg base dm_Net_heights 39 ["self"] (sHeights K).sp := by
  have nd := (sc_m_Net_heights).nd
  refine okH c.Fm_Net_heights sc_m_Net_heights (sHeights K) (fun _ => rfl) fun cdv A outer s0 H E hr => ⟨_, PSs.nox ((pss_one (ps_ret (pe_call (ok_plus c) (by exact hr.mono (by decide)) rfl c.g_plus c.Ff_plus.kp c.bf_plus .nil pass0 (pa_cons (pe_fldK K (pv 0) rfl) (pa_cons (pe_call (ok_apply c) (by exact hr.mono (by decide)) rfl c.g_apply c.Ff_apply.kp c.bf_apply .nil pass0 (pa_cons (pe_fldK K (pv 0) rfl) (pa_cons (pe_fldK K (pv 0) rfl) pa_nil))) pa_nil)))))), fun x Q σ hx hs k => ?_⟩
  have kk := k
  obtain ⟨A, pts, app, rds, Pi⟩ := x
  obtain ⟨N, ok⟩ : NtR K A pts app rds rds.length Pi H ∧ NetOk pts app rds := hx
  have hs : Sat [some (tyE (.ref A.nt))] σ H := hs
  obtain ⟨hP, hR, h1, h2, h3, hA⟩ := net_facts ok N.pen
  have n8 := ok.n8
  have hL : 60000000 ≤ LIM := by decide
  obtain ⟨lk1, lk2, lk3, lk4, lk5, lk6, lk7⟩ := lookN (A := A)
  exact s_ret (ev_plus (ev_val N.s (ev_var (i := 0) hs rfl) c c.n_Net_approximations lk2 N.s.av) (ev_apply (ev_val N.s (ev_var (i := 0) hs rfl) c c.n_Net_inverse lk5 N.s.iv) (ev_val N.s (ev_var (i := 0) hs rfl) c c.n_Net_right lk6 N.s.rv) ⟨⟨_, _, hP, hR, by omega⟩, by omega, by omega⟩) (.of (by omega) hA (by omega)) (.of (by omega) h1 (by omega))) kk
theorem sc_m_Net_squares : FnScope ["self"] ["self"] (defScope sm_Net_squares) := ⟨rfl, rfl, rfl, by decide +kernel, rfl, by decide +kernel, by decide +kernel⟩
theorem ok_Net_squares (c : Cxt P K mg base) : Ok P w K mg base dm_Net_squares 39 ["self"] (sSquares K).sp := by
  have nd := (sc_m_Net_squares).nd
  refine okH c.Fm_Net_squares sc_m_Net_squares (sSquares K) (fun _ => rfl) fun cdv A outer s0 H E hr => ⟨_, PSs.nox ((pss_one (ps_ret (pe_op (op_rSub c (by exact hr.mono (by decide))) (pe_fldK K (pv 0) rfl) (pe_call (ok_dot c) (by exact hr.mono (by decide)) rfl c.g_dot c.Ff_dot.kp c.bf_dot .nil pass0 (pa_cons (pe_fldK K (pv 0) rfl) (pa_cons (pe_call (ok_apply c) (by exact hr.mono (by decide)) rfl c.g_apply c.Ff_apply.kp c.bf_apply .nil pass0 (pa_cons (pe_fldK K (pv 0) rfl) (pa_cons (pe_fldK K (pv 0) rfl) pa_nil))) pa_nil))))))), fun x Q σ hx hs k => ?_⟩
  have kk := k
  obtain ⟨A, pts, app, rds, Pi⟩ := x
  obtain ⟨N, ok⟩ : NtR K A pts app rds rds.length Pi H ∧ NetOk pts app rds := hx
  have hs : Sat [some (tyE (.ref A.nt))] σ H := hs
  obtain ⟨hP, hR, h1, h2, h3, hA⟩ := net_facts ok N.pen
  have n8 := ok.n8
  have hL : 60000000 ≤ LIM := by decide
  obtain ⟨lk1, lk2, lk3, lk4, lk5, lk6, lk7⟩ := lookN (A := A)
  exact s_ret (ev_sub (ev_val N.s (ev_var (i := 0) hs rfl) c c.n_Net_total lk7 N.s.tv) (ev_dot (ev_val N.s (ev_var (i := 0) hs rfl) c c.n_Net_right lk6 N.s.rv) (ev_apply (ev_val N.s (ev_var (i := 0) hs rfl) c c.n_Net_inverse lk5 N.s.iv) (ev_val N.s (ev_var (i := 0) hs rfl) c c.n_Net_right lk6 N.s.rv) ⟨⟨_, _, hP, hR, by omega⟩, by omega, by omega⟩) ⟨⟨_, _, hR, h1, by omega⟩, by omega⟩) (h2.mono (by omega)) (h3.mono (by omega))) kk
theorem sc_m_Net_rows : FnScope ["self", "reading"] ["self"] (defScope sm_Net_rows) := ⟨rfl, rfl, rfl, by decide +kernel, rfl, by decide +kernel, by decide +kernel⟩
theorem ok_Net_rows (c : Cxt P K mg base) : Ok P w K mg base dm_Net_rows 37 ["self"] (sRows K).sp := by
  have nd := (sc_m_Net_rows).nd
  refine okH c.Fm_Net_rows sc_m_Net_rows (sRows K) (fun _ => rfl) fun cdv A outer s0 H E hr => ⟨_, PSs.nox ((pss_one (ps_ret (pe_callTy (call_tupleK K) (by rfl) c.z_tuple (by decide +kernel) (pa_cons (pe_lc (own := [("reading", 1)]) (g := gName 1) (tt := tYes) rfl nd (pi_listK K (pe_fldK K (pv 0) rfl)) (blkOk_by rfl) (fun _ _ _ _ _ => (pg_name (i := 1) nd rfl (by first | exact Or.inl rfl | exact Or.inr rfl))) (fun _ _ _ _ _ => pts_nil) (fun _ _ _ _ _ => (pe_meth (pv 0) c.c_Net c.m_Net_row (ok_Net_row c) (by exact hr.mono (by decide)) c.bm_Net_row .nil pass0 (pa_cons (pv 1) pa_nil)))) pa_nil))))), fun x Q σ hx hs k => ?_⟩
  have kk := k
  obtain ⟨A, pts, app, rds, Pi⟩ := x
  obtain ⟨N, ok⟩ : NtR K A pts app rds rds.length Pi H ∧ NetOk pts app rds := hx
  have hs : Sat [some (tyE (.ref A.nt)), none] σ H := hs
  have n8 := ok.n8
  have m16 := ok.m16
  obtain ⟨lk1, lk2, lk3, lk4, lk5, lk6, lk7⟩ := lookN (A := A)
  have ei := ei_list (K := K) (T := fun i => tyRead K (rds.getD i default)) (ev_fldB N.s.at_ (ev_var (i := 0) hs rfl) c.c_Net c.n_Net_readings lk3) (SqL.of N.s.rd) N.its
  rw [N.ln] at ei
  refine s_ret (ev_tuple (el_lc (j := 1) (U := fun i => tyVec pts.length (rowA pts rds i)) hs ei (fun H2 H3 a e => ⟨SqL.of ((a.trans e) _ _ N.s.rd), ge_ex (a.trans e)⟩) (by omega) fun i σ' H' hi e s =>
    (ev_nrow (N.ex e).s.at_ (N.ex e).s.pt ok.nd (by omega) (ok.inn _ (getD_mem hi)) (ev_var (i := 0) s rfl) (ev_var (i := 1) s rfl)).to fun v H' _ z => z)) kk
theorem ev_meth0H {σ : L2.St} {H : Hp} {ta : TE} {C : Addr} {m : Str} {s : Sph K} {B : Ty K} {p dx : Addr} {fs : List (Str × V)} (x : s.ι) (hp : H p = some (.ins C dx fs)) (hx : ∀ H1, Ex H H1 → s.side x H1) (hs : s.args x = [tyE (.ref p)]) (hm : fs.lookup m = none) (ho : EvP (K := K) ta σ H (tyE (.ref p))) (hq : ∀ H1 v H2, Ex H H1 → Ex H1 H2 → s.post x H1 v H2 → B.p v H2) :
    EvP (tMeth C m s.sp [] E0 ta tNil) σ H B := ev_methH x hp hx hs hm ho ea_nil hq
theorem sc_m_Net_movements : FnScope ["self"] ["self"] (defScope sm_Net_movements) := ⟨rfl, rfl, rfl, by decide +kernel, rfl, by decide +kernel, by decide +kernel⟩
theorem ok_Net_movements (c : Cxt P K mg base) : Ok P w K mg base dm_Net_movements 41 ["self"] (sMoves K).sp := by
  have nd := (sc_m_Net_movements).nd
  refine okH c.Fm_Net_movements sc_m_Net_movements (sMoves K) (fun _ => rfl) fun cdv A outer s0 H E hr => ⟨_, PSs.nox ((pss_one (ps_ret (pe_call (ok_kernel c) (by exact hr.mono (by decide)) rfl c.g_kernel c.Ff_kernel.kp c.bf_kernel .nil pass0 (pa_cons (pe_meth0 (pv 0) c.c_Net c.m_Net_rows (ok_Net_rows c) (by exact hr.mono (by decide)) c.bm_Net_rows .nil pass0) (pa_cons (pe_callB (call_lenK K) (by rfl) c.z_len PySem.boot_len (pa_cons (pe_fldK K (pv 0) rfl) pa_nil)) pa_nil)))))), fun x Q σ hx hs k => ?_⟩
  have kk := k
  obtain ⟨A, pts, app, rds, Pi⟩ := x
  obtain ⟨N, ok⟩ : NtR K A pts app rds rds.length Pi H ∧ NetOk pts app rds := hx
  have hs : Sat [some (tyE (.ref A.nt))] σ H := hs
  have n8 := ok.n8
  have m16 := ok.m16
  have hL : 60000000 ≤ LIM := by decide
  obtain ⟨lk1, lk2, lk3, lk4, lk5, lk6, lk7⟩ := lookN (A := A)
  have hA : Ht 2 (entM rds.length pts.length (rowA pts rds)) := Pb.IntD.ht (D := 1) (B := 3) (by decide) (by decide) (by decide) fun q ⟨k, i, hk, hi, e⟩ => by rw [← e]; exact ok.rows.ha k i hk hi
  have hm : 2 ^ pts.length ≤ 256 := Nat.le_trans (Nat.pow_le_pow_right (n := 2) (by decide) n8) (by decide)
  have eL := ev_lenL (K := K) N.s.pt (ev_fldB N.s.at_ (ev_var (i := 0) hs rfl) c.c_Net c.n_Net_points lk1)
  rw [List.length_map] at eL
  refine (call_post (s := sKernel K) (rds.length, pts.length, 2, rowA pts rds) (fun H1 e => ⟨m16, by show pts.length < 16; omega, hA, pts.length, .inr (Nat.le_refl _), by show 4 * (2 ^ pts.length * (2 + 1)) + 8 ≤ LIM; omega⟩)
    (ea_cons (ev_meth0H (s := sRows K) (B := tyMat rds.length pts.length (rowA pts rds)) (A, pts, app, rds, Pi) N.s.at_ (fun H1 e => ⟨N.ex e, ok⟩) rfl (noN (by decide +kernel)) (ev_var (i := 0) hs rfl) fun _ _ _ _ _ z => z) (ea_cons eL ea_nil)) fun H1 v H2 e1 e2 ⟨p, ys, ev, h2, hy⟩ => ?_)
  refine kk v H2 (e1.trans e2) ⟨p, ys, ev, h2, fun h0 => ?_⟩
  obtain ⟨k, q, F, r1, r2⟩ := hy h0
  exact ⟨2, k, q, F, r1, r2⟩
end
end Pd

/-! The defs' promises: books built. -/
namespace Pd
open PySem PySem.Spec PyProof.Rows L2 Evl Pt Pn
open Pb (Ht Sz entV entM)
section
variable {P : Program} {w : World} {K : PySem.W.Frag} {mg : Str → Option Value} {base : Heap}
theorem not_imB (c : Cxt P K mg base) (dx : Addr) (fs : List (Str × V)) : ¬ immO K (.ins (gB K) dx fs) := by
  have m := (He.ba (He.ba (He.ba c.more).2).2).1
  unfold dstB at m
  have nd := of_decide_eq_true m
  simp only [List.nodup_cons, List.mem_cons, List.not_mem_nil, or_false, not_or] at nd
  obtain ⟨⟨_, _, _, h1⟩, ⟨_, _, h2⟩, ⟨_, h3⟩, _⟩ := nd
  rintro (h | h | h)
  · exact h1 h.symm
  · exact h2 h.symm
  · exact h3 h.symm
/-- self.f = e, any class -/
theorem s_fldC {σ : L2.St} {H : Hp} {te : TE} {C p dx : Addr} {fs : List (Str × V)} {f : Str} {D : Ends} {R : V → Hp → Prop} (cc : Cls K C) (nf : NoAttr K C f) (h0 : σ[0]? = some (some (.ref p))) (hp : ∀ v H', R v H' → H' p = some (.ins C dx fs)) (hl : fs.length < 1000) (h : ∀ Q : VK, (∀ v H', R v H' → Q v H') → te σ H Q)
    (k : ∀ v H', R v H' → D.nx σ (upd H' p (.ins C dx (putF f v fs)))) : sFld K (tVar 0) te f D σ H :=
  h _ fun v H1 r => ⟨_, h0, p, C, dx, fs, rfl, hp v H1 r, cc, nf, hl, k v H1 r⟩
def spBInit (K : PySem.W.Frag) : Sp := fun vs H Q _ => ∃ (p dx : Addr), vs = [.ref p] ∧ H p = some (.ins (gB K) dx []) ∧
  ∀ (lp da lr : Addr) (H' : Hp), H lp = none → H da = none → H lr = none → lp ≠ da → lp ≠ lr → da ≠ lr → H' p = some (.ins (gB K) dx (bkF ⟨p, dx, lp, da, lr, [], []⟩)) → H' lp = some (.lst []) → H' da = some (.dK []) → H' lr = some (.lst []) → Fr [p] H H' → Q .non H'
theorem put3 {v1 v2 v3 : V} : putF "readings" v3 (putF "approximations" v2 (putF "points" v1 [])) = ([("points", v1), ("approximations", v2), ("readings", v3)] : List (Str × V)) := by
  have h1 : ("approximations" : Str) ≠ "points" := by decide +kernel
  have h2 : ("readings" : Str) ≠ "points" := by decide +kernel
  have h3 : ("readings" : Str) ≠ "approximations" := by decide +kernel
  simp [putF, h1, h2, h3, h1.symm, h2.symm, h3.symm]
theorem sc_m_Book_init : FnScope ["self"] ["self"] (defScope sm_Book_init) := ⟨rfl, rfl, rfl, by decide +kernel, rfl, by decide +kernel, by decide +kernel⟩
theorem ok_Book_init (c : Cxt P K mg base) : Ok P w K mg base dm_Book_init 33 ["self"] (spBInit K) := by
  have nd := (sc_m_Book_init).nd
  refine (c.Fm_Book_init).ok sc_m_Book_init (fun vs H Q E h => ?_) (fun cdv A outer s0 H vs Q E hr h => ⟨_, PSs.nox ((pss_cons (ps_fld (pv 0) (pe_lst pa_nil) rfl)
      (pss_cons (ps_fld (pv 0) pe_dnewK rfl)
      (pss_one (ps_fld (pv 0) (pe_lst pa_nil) rfl))))), ?_⟩)
  · obtain ⟨p, dx, rfl, _⟩ := h
    rfl
  · obtain ⟨p, dx, rfl, hp, q⟩ := h
    have i0 : (L2.start ["self"] [V.ref p])[0]? = some (some (.ref p)) := rfl
    generalize L2.start ["self"] [V.ref p] = σ at i0
    refine ⟨Nat.zero_le _, fun (lp : Addr) hlp => ?_⟩
    have np : lp ≠ p := fun z => by rw [z, hp] at hlp; cases hlp
    refine ⟨_, i0, p, gB K, dx, [], rfl, by rw [upd_ne np.symm]; exact hp, c.c_Book, c.n_Book_points, by decide, ?_⟩
    refine fun (da : Addr) hda => ?_
    have d0 : da ≠ p := fun z => by rw [z, upd_same] at hda; cases hda
    rw [upd_ne d0] at hda
    have d1 : da ≠ lp := fun z => by rw [z, upd_same] at hda; cases hda
    rw [upd_ne d1] at hda
    refine ⟨_, i0, p, gB K, dx, _, rfl, by rw [upd_ne d0.symm, upd_same], c.c_Book, c.n_Book_approximations, Nat.lt_of_le_of_lt (putLen (Nat.le_refl 0)) (by decide), ?_⟩
    refine ⟨Nat.zero_le _, fun (lr : Addr) hlr => ?_⟩
    have r0 : lr ≠ p := fun z => by rw [z, upd_same] at hlr; cases hlr
    rw [upd_ne r0] at hlr
    have r1 : lr ≠ da := fun z => by rw [z, upd_same] at hlr; cases hlr
    rw [upd_ne r1, upd_ne r0] at hlr
    have r2 : lr ≠ lp := fun z => by rw [z, upd_same] at hlr; cases hlr
    rw [upd_ne r2] at hlr
    refine ⟨_, i0, p, gB K, dx, _, rfl, by rw [upd_ne r0.symm, upd_same], c.c_Book, c.n_Book_readings, Nat.lt_of_le_of_lt (putLen (putLen (Nat.le_refl 0))) (by decide), ?_⟩
    rw [put3]
    refine q lp da lr _ hlp hda hlr d1.symm r2.symm r1.symm upd_same ?_ ?_ ?_ ?_
    · rw [upd_ne np, upd_ne r2.symm, upd_ne np, upd_ne d1.symm, upd_ne np, upd_same]
    · rw [upd_ne d0, upd_ne r1.symm, upd_ne d0, upd_same]
    · rw [upd_ne r0, upd_same]
    · intro a o n h
      have na : a ≠ p := fun z => n (by simp [z])
      have n1 : a ≠ lp := fun z => by rw [z, hlp] at h; cases h
      have n2 : a ≠ da := fun z => by rw [z, hda] at h; cases h
      have n3 : a ≠ lr := fun z => by rw [z, hlr] at h; cases h
      rw [upd_ne na, upd_ne n3, upd_ne na, upd_ne n2, upd_ne na, upd_ne n1]
      exact h
def sReqB (K : PySem.W.Frag) : Sph K := ⟨(BkA × List Str × (Str → Rat) × List Rdg) × Str, fun x => [tyE (.ref x.1.1.b), tyE (.str x.2)], fun x H => Bk K x.1.1 x.1.2.1 x.1.2.2.1 x.1.2.2.2 H ∧ x.2 ∈ x.1.2.1, fun _ _ v _ => v = .non⟩
theorem sc_m_Book_require_point : FnScope ["self", "name"] ["self", "name"] (defScope sm_Book_require_point) := ⟨rfl, rfl, rfl, by decide +kernel, rfl, by decide +kernel, by decide +kernel⟩
theorem ok_Book_require_point (c : Cxt P K mg base) : Ok P w K mg base dm_Book_require_point 33 ["self", "name"] (sReqB K).sp := by
  have nd := (sc_m_Book_require_point).nd
  refine okH c.Fm_Book_require_point sc_m_Book_require_point (sReqB K) (fun _ => rfl) fun cdv A outer s0 H E hr => ⟨_, PSs.nox ((pss_one (ps_if (pt_cmp (pc_dnotin (hu_of hr) (pv 1) (pe_fldK K (pv 0) rfl))) (pss_one ps_never) pss_nil))), fun x Q σ hx hs k => ?_⟩
  have kk := k
  obtain ⟨⟨A, pts, app, rds⟩, nm⟩ := x
  obtain ⟨B, hn⟩ : Bk K A pts app rds H ∧ nm ∈ pts := hx
  have hs : Sat [some (tyE (.ref A.b)), some (tyE (.str nm))] σ H := hs
  refine s_if (b := false) (et_of (by
    have z := ev_dnotin (K := K) B.ap (ev_Ba c B (ev_var (i := 0) hs rfl)) (ev_var (i := 1) hs rfl)
    rw [decide_eq_true hn] at z
    exact z)) (fun z => by cases z) fun _ H1 e1 => kk .non H1 e1 rfl
def sAddPtB (K : PySem.W.Frag) : Spw K := ⟨(BkA × List Str × (Str → Rat) × List Rdg) × Str, fun x => [tyE (.ref x.1.1.b), tyE (.str x.2), tyRat (x.1.2.2.1 x.2)],
  fun x H => Bk K x.1.1 x.1.2.1 x.1.2.2.1 x.1.2.2.2 H ∧ x.2 ∉ x.1.2.1 ∧ x.1.2.1.length < 12 ∧ x.1.1.lp ≠ x.1.1.lr, fun x => [x.1.1.lp, x.1.1.da],
  fun x _ v H' => ∃ A', A'.b = x.1.1.b ∧ A'.lp = x.1.1.lp ∧ A'.da = x.1.1.da ∧ A'.lr = x.1.1.lr ∧ A'.rs = x.1.1.rs ∧ Bk K A' (x.1.2.1 ++ [x.2]) x.1.2.2.1 x.1.2.2.2 H'⟩
theorem sc_m_Book_add_point : FnScope ["self", "name", "approximation"] ["self", "name", "approximation"] (defScope sm_Book_add_point) := ⟨rfl, rfl, rfl, by decide +kernel, rfl, by decide +kernel, by decide +kernel⟩
theorem ok_Book_add_point (c : Cxt P K mg base) : Ok P w K mg base dm_Book_add_point 33 ["self", "name", "approximation"] (sAddPtB K).sp := by
  have nd := (sc_m_Book_add_point).nd
  refine okW c.Fm_Book_add_point sc_m_Book_add_point (sAddPtB K) (fun _ => rfl) fun cdv A outer s0 H E hr => ⟨_, PSs.nox ((pss_cons (ps_if (pt_cmp (pc_din (hu_of hr) (pv 1) (pe_fldK K (pv 0) rfl))) (pss_one ps_never) pss_nil)
      (pss_cons (ps_if (pt_cmpR op_eq (pe_callB (call_lenK K) (by rfl) c.z_len PySem.boot_len (pa_cons (pe_fldK K (pv 0) rfl) pa_nil)) (C8.pe_gc rfl (gint c.i_MOST_POINTS_books)) (nomark _)) (pss_one ps_never) pss_nil)
      (pss_cons (ps_expr (pe_bmK K PySem.F.plainAttrs_list PySem.F.slot_list_append PySem.F.type_list_append mt_append (pe_fldK K (pv 0) rfl) (pa_cons (pv 1) pa_nil)))
      (pss_one (ps_dput (hu_of hr) (pe_fldK K (pv 0) rfl) (pv 1) (pv 2) rfl)))))), fun x Q σ hx hs k => ?_⟩
  have kk := k
  obtain ⟨⟨A, pts, app, rds⟩, nm⟩ := x
  obtain ⟨B, hn, hl, hlr⟩ : Bk K A pts app rds H ∧ nm ∉ pts ∧ pts.length < 12 ∧ A.lp ≠ A.lr := hx
  have hs : Sat [some (tyE (.ref A.b)), some (tyE (.str nm)), some (tyRat (app nm))] σ H := hs
  have nbl : A.b ≠ A.lp := fun z => by have h1 := B.at_; have h2 := B.pt; rw [z, h2] at h1; cases h1
  have nbd : A.b ≠ A.da := fun z => by have h1 := B.at_; have h2 := B.ap.at_; rw [z, h2] at h1; cases h1
  have nld : A.lp ≠ A.da := fun z => by have h1 := B.pt; have h2 := B.ap.at_; rw [z, h2] at h1; cases h1
  have nrd : A.lr ≠ A.da := fun z => by have h1 := B.rd; have h2 := B.ap.at_; rw [z, h2] at h1; cases h1
  refine Pt.q_if (b := false) (et_of (by
    have z := ev_din (K := K) B.ap (ev_Ba c B (ev_var (i := 0) hs rfl)) (ev_var (i := 1) hs rfl)
    rw [decide_eq_false hn] at z
    exact z)) (fun z => by cases z) fun _ H1 e1 => ?_
  have s1 := hs.ex e1
  have B1 := B.ex e1
  have eL := ev_lenL (K := K) B1.pt (ev_Bp c B1 (ev_var (i := 0) s1 rfl))
  rw [List.length_map] at eL
  refine Pt.q_if (b := false) (et_cmp (Evl.ev_op (flat_ev eL) (flat_ev (K := K) ev_c) (rv_eq rfl)) (by rw [dec_int]; simp; omega)) (fun z => by cases z) fun _ H2 e2 => ?_
  have s2 := s1.ex e2
  have B2 := B1.ex e2
  refine q_app B2.pt (ev_Bp c B2 (ev_var (i := 0) s2 rfl)) (ev_var (i := 1) s2 rfl) (by rw [List.length_map]; omega) fun v H3 e3 hv h3 => ?_
  have hv : v = .str nm := hv
  subst hv
  have B3 := B2.ex e3
  have g4 : Ge K H3 (L2.upd H3 A.lp (.lst (pts.map V.str ++ [.str nm]))) := ge_lst h3
  have s4 := (s2.ex e3).st g4
  have at4 : (L2.upd H3 A.lp (.lst (pts.map V.str ++ [.str nm]))) A.b = some (.ins (gB K) A.dx (bkF A)) := by rw [upd_ne nbl]; exact B3.at_
  have lp4 : (L2.upd H3 A.lp (.lst (pts.map V.str ++ [.str nm]))) A.lp = some (.lst ((pts ++ [nm]).map V.str)) := by rw [upd_same, List.map_append]; rfl
  have lr4 : (L2.upd H3 A.lp (.lst (pts.map V.str ++ [.str nm]))) A.lr = some (.lst A.rs) := by rw [upd_ne hlr.symm]; exact B3.rd
  have da4 : Dct K A.da pts (fun n => tyRat (app n)) A.kvs (L2.upd H3 A.lp (.lst (pts.map V.str ++ [.str nm]))) := ⟨by rw [upd_ne nld.symm]; exact B3.ap.at_, B3.ap.e.st g4⟩
  have it4 := B3.its.st g4
  have fr4 : Fr [A.lp, A.da] H (L2.upd H3 A.lp (.lst (pts.map V.str ++ [.str nm]))) := (Fr.of (e1.trans (e2.trans e3))).trans (Fr.upd (by simp))
  generalize L2.upd H3 A.lp (.lst (pts.map V.str ++ [.str nm])) = H4 at *
  refine ev_var (i := 2) s4 rfl H4 (Ex.refl _) _ fun v H5 e5 zv => ?_
  have s5 := s4.ex e5
  refine ev_fldB (e5 _ _ at4) (ev_var (i := 0) s5 rfl) c.c_Book c.n_Book_approximations lookB.2.1 H5 (Ex.refl _) _ fun x H6 e6 zx => ?_
  cases zx
  refine ev_var (i := 1) (s5.ex e6) rfl H6 (Ex.refl _) _ fun y H7 e7 zy => ?_
  cases zy
  have e57 := e5.trans (e6.trans e7)
  have da7 := da4.ex e57
  have kl := da7.e.len
  have pk : putK A.kvs (.inr nm) v = A.kvs ++ [(.inr nm, v)] := putK_new v (da7.e.none hn)
  have g8 : Ge K H7 (L2.upd H7 A.da (.dK (putK A.kvs (.inr nm) v))) := ge_upd da7.at_ id
  refine ⟨A.da, _, rfl, DPut.k da7.at_ (k := .inr nm) (Evl.sz_lt (by omega)), ?_⟩
  have zv7 : (tyRat (K := K) (app nm)).p v _ := Ty.st _ _ _ _ ((ge_ex (e6.trans e7)).trans g8) zv
  refine kk .non _ ((fr4.trans (Fr.of e57)).trans (Fr.upd (by simp))) ⟨{ A with kvs := A.kvs ++ [(.inr nm, v)] }, rfl, rfl, rfl, rfl, rfl, ?_, ?_, ⟨?_, ?_⟩, ?_, B.ln, (it4.ex e57).st g8⟩
  · rw [upd_ne nbd]; exact e57 _ _ at4
  · rw [upd_ne nld]; exact e57 _ _ lp4
  · rw [pk]; exact upd_same
  · exact (da7.e.st g8).snoc zv7
  · rw [upd_ne nrd]; exact e57 _ _ lr4
end
end Pd

/-! The defs' promises: readings taken into a book. -/
namespace Pd
open PySem PySem.Spec PyProof.Rows L2 Evl Pt Pn
open Pb (Ht Sz entV entM)
section
variable {P : Program} {w : World} {K : PySem.W.Frag} {mg : Str → Option Value} {base : Heap}
def bef (ts : List (Str × Int)) : Nat → Str
  | 0 => ""
  | i + 1 => (ts.getD i default).1
/-- terms that fit -/
structure FitOk (ts : List (Str × Int)) : Prop where
  ne : ts ≠ []
  co : ∀ i, i < ts.length → (ts.getD i default).2 ≠ 0 ∧ -9 ≤ (ts.getD i default).2 ∧ (ts.getD i default).2 ≤ 9
  asc : ∀ i, i < ts.length → (bef ts i).cps.toList < (ts.getD i default).1.cps.toList
theorem ev_chainI {σ : L2.St} {H : Hp} {ta tb tc : TE} {a b d : Int} (ha : EvP (K := K) ta σ H (tyE (.int a))) (hb : EvP (K := K) tb σ H (tyE (.int b))) (hc : EvP (K := K) tc σ H (tyE (.int d))) (h1 : a ≤ b) (h2 : b ≤ d) :
    EvP (K := K) (tChain (rI0 fun i j => .bl (decide (i ≤ j))) (rI0 fun i j => .bl (decide (i ≤ j))) ta tb tc) σ H (tyE (.bl true)) := fun H1 e Q q =>
  ha H1 e _ fun x H2 e2 z => hb H2 (e.trans e2) _ fun y H3 e3 z' => by
    cases z
    cases z'
    refine ⟨a, b, rfl, rfl, true, by show V.bl (decide (a ≤ b)) = _; rw [decide_eq_true h1], ?_⟩
    rw [if_pos rfl]
    refine hc H3 ((e.trans e2).trans e3) _ fun u H4 e4 z'' => ?_
    cases z''
    refine ⟨b, d, rfl, rfl, ?_⟩
    show Q (V.bl (decide (b ≤ d))) _
    rw [decide_eq_true h2]
    exact q _ H4 ((e2.trans e3).trans e4) rfl
theorem ev_leS {σ : L2.St} {H : Hp} {ta tb : TE} {a b : Str} (ha : EvP (K := K) ta σ H (tyE (.str a))) (hb : EvP (K := K) tb σ H (tyE (.str b))) (h : b.cps.toList < a.cps.toList) :
    EvP (K := K) (tOp (fun x y H Q => ∃ i j, x = .str i ∧ y = .str j ∧ Q (.bl (!decide (j.cps.toList < i.cps.toList))) H) ta tb) σ H (tyE (.bl false)) := fun H1 e Q q =>
  ha H1 e _ fun x H2 e2 z => hb H2 (e.trans e2) _ fun y H3 e3 z' => by
    cases z
    cases z'
    refine ⟨a, b, rfl, rfl, ?_⟩
    rw [decide_eq_true h]
    exact q _ H3 (e2.trans e3) rfl
def sFit (K : PySem.W.Frag) : Spc K := ⟨List (Str × Int), fun x => [tyTerms K x], fun x => FitOk x, fun _ => tyE (.bl true)⟩
theorem sc_f_terms_fit : FnScope ["terms", "before", "name", "coefficient"] ["terms"] (defScope sf_terms_fit) := ⟨rfl, rfl, rfl, by decide +kernel, rfl, by decide +kernel, by decide +kernel⟩
theorem ok_terms_fit (c : Cxt P K mg base) : Ok P w K mg base df_terms_fit 33 ["terms"] (sFit K).sp := by
  have nd := (sc_f_terms_fit).nd
  refine okS c.Ff_terms_fit sc_f_terms_fit (sFit K) (fun _ => rfl) fun cdv A outer s0 H E hr => ⟨_, PSs.nox ((pss_cons (ps_set (i := 1) nd rfl (by first | exact Or.inl rfl | exact Or.inr rfl) pe_str)
      (pss_cons (ps_for PassesOwn.never rfl (pi_tupK K (pv 0)) (pg_tupK K rfl (pgs_cons (pg_name (i := 2) nd rfl (by first | exact Or.inl rfl | exact Or.inr rfl)) (pgs_cons (pg_name (i := 3) nd rfl (by first | exact Or.inl rfl | exact Or.inr rfl)) pgs_nil))) (pss_cons (ps_if (PW.pt (pw_or (pt_cmpR op_eq (pv 3) pe_int (nomark _)) (pw_or (pt_not (pt_chain op_le op_le (pe_un un_neg (C8.pe_gc rfl (gint c.i_MOST_COEFFICIENT))) (pv 3) (C8.pe_gc rfl (gint c.i_MOST_COEFFICIENT)))) (pw_or1 (pt_cmpR op_le_str (pv 2) (pv 1) (nomark _)))))) (pss_one (ps_ret pe_bl)) pss_nil)
      (pss_one (ps_set (i := 1) nd rfl (by first | exact Or.inl rfl | exact Or.inr rfl) (pv 2)))))
      (pss_one (ps_ret (pe_cmpR op_gt (pe_callB (call_lenK K) (by rfl) c.z_len PySem.boot_len (pa_cons (pv 0) pa_nil)) pe_int (nomark _))))))), fun x Q σ hx hs k => ?_⟩
  have kk := k
  have hx : FitOk x := hx
  change List (Str × Int) at x
  have hs : Sat [some (tyTerms K x), none, none, none] σ H := hs
  refine q_asg (T := tyE (.str "")) hs ev_c fun σ1 H1 e1 s1 => ?_
  refine q_for (ei_pin (ev_var (i := 0) s1 rfl)) (fun H2 i σ' H' => Ex H2 H' ∧ Sat [some (tyTerms K x), some (tyE (.str (bef x i))), none, none] σ' H') (fun H2 e2 => ⟨Ex.refl _, s1.ex e2⟩)
    (fun H2 e2 i σ' H' _ p => ge_ex p.1) (fun H2 e2 i y σ' H' H'' hi p e3 ty => ?_) (fun H2 e2 σ' H' p => ?_)
  · refine g_pair ty fun u v hu hv => ?_
    have s4 := ((p.2.ex e3).set (i := 2) hu).set (i := 3) hv
    obtain ⟨c1, c2, c3⟩ := hx.co i hi
    refine Pt.q_if (b := false || (!true || false)) (Evl.et_or (et_cmp (Evl.ev_op (flat_ev (ev_var (i := 3) s4 rfl)) (flat_ev (K := K) ev_c) (rv_eq rfl)) (by rw [dec_int]; simpa using c1)) fun _ =>
      Evl.et_or (Evl.et_not (et_of (ev_chainI (a := -9) (d := 9) (ev_flat (Evl.ev_un (flat_ev (K := K) ev_c) ru_neg)) (ev_var (i := 3) s4 rfl) ev_c c2 c3))) fun _ => et_of (ev_leS (ev_var (i := 2) s4 rfl) (ev_var (i := 1) s4 rfl) (hx.asc i hi))) (fun z => by cases z) fun _ H4 e4 => ?_
    refine s_asg (s4.ex e4) (ev_var (i := 2) (s4.ex e4) rfl) fun σ5 H5 e5 s5 => ⟨p.1.trans (e3.trans (e4.trans e5)), (s5.forget (i := 2)).forget (i := 3)⟩
  · have hl : 0 < x.length := List.length_pos_iff.mpr hx.ne
    refine s_ret (T := tyE (.bl true)) (ev_ty (v := .bl true) (ev_flat (Evl.ev_is (Evl.ev_op (flat_ev (ev_lenPin (ev_var (i := 0) p.2 rfl))) (flat_ev (K := K) ev_c) (rv_I0 (g := fun i j => V.bl (decide (i > j))))) (by rw [decide_eq_true]; exact Int.ofNat_lt.mpr hl))) rfl) fun v H3 e3 z => kk v H3 (e1.trans (e2.trans (p.1.trans e3))) z
abbrev AddRd := BkA × List Str × (Str → Rat) × List Rdg × Rdg
def sAddRd (K : PySem.W.Frag) : Spw K := ⟨AddRd, fun x => [tyE (.ref x.1.b), tyE (.str x.2.2.2.2.name), tyTerms K x.2.2.2.2.ts, tyRat x.2.2.2.2.val, tyRat x.2.2.2.2.wt],
  fun x H => Bk K x.1 x.2.1 x.2.2.1 x.2.2.2.1 H ∧ (∀ r, r ∈ x.2.2.2.1 → r.name ≠ x.2.2.2.2.name) ∧ FitOk x.2.2.2.2.ts ∧ (∀ n, n ∈ x.2.2.2.2.ts.map (fun y => y.1) → n ∈ x.2.1) ∧ 0 < x.2.2.2.2.wt ∧ x.2.2.2.1.length < 24 ∧ x.1.lp ≠ x.1.lr, fun x => [x.1.lr],
  fun x _ v H' => ∃ A', A'.b = x.1.b ∧ A'.lp = x.1.lp ∧ A'.da = x.1.da ∧ A'.lr = x.1.lr ∧ Bk K A' x.2.1 x.2.2.1 (x.2.2.2.1 ++ [x.2.2.2.2]) H'⟩
theorem noB {A : BkA} {f : Str} (h : (["points", "approximations", "readings"] : List Str).all (fun g : Str => !(f == g)) = true) : (bkF A).lookup f = none := by
  simp only [List.all_cons, List.all_nil, Bool.and_true, Bool.and_eq_true, Bool.not_eq_true'] at h
  obtain ⟨h1, h2, h3⟩ := h
  unfold bkF
  simp only [List.lookup, h1, h2, h3]
theorem sc_m_Book_add_reading : FnScope ["self", "name", "terms", "value", "weight", "reading", "point", "_"] ["self", "name", "terms", "value", "weight"] (defScope sm_Book_add_reading) := ⟨rfl, rfl, rfl, by decide +kernel, rfl, by decide +kernel, by decide +kernel⟩
theorem ok_Book_add_reading (c : Cxt P K mg base) : Ok P w K mg base dm_Book_add_reading 35 ["self", "name", "terms", "value", "weight"] (sAddRd K).sp := by
  have nd := (sc_m_Book_add_reading).nd
  refine okW c.Fm_Book_add_reading sc_m_Book_add_reading (sAddRd K) (fun _ => rfl) fun cdv A outer s0 H E hr => ⟨_, PSs.nox ((pss_cons (ps_for PassesOwn.never rfl (pi_listK K (pe_fldK K (pv 0) rfl)) (pg_name (i := 5) nd rfl (by first | exact Or.inl rfl | exact Or.inr rfl)) (pss_one (ps_if (pt_cmpR op_eq (pe_fldK K (pv 5) rfl) (pv 1) (nomark _)) (pss_one ps_never) pss_nil)))
      (pss_cons (ps_if (pt_not (pt_val (pe_call (ok_terms_fit c) (by exact hr.mono (by decide)) rfl c.g_terms_fit c.Ff_terms_fit.kp c.bf_terms_fit .nil pass0 (pa_cons (pv 2) pa_nil)))) (pss_one ps_never) pss_nil)
      (pss_cons (ps_for PassesOwn.never rfl (pi_tupK K (pv 2)) (pg_tupK K rfl (pgs_cons (pg_name (i := 6) nd rfl (by first | exact Or.inl rfl | exact Or.inr rfl)) (pgs_cons (pg_name (i := 7) nd rfl (by first | exact Or.inl rfl | exact Or.inr rfl)) pgs_nil))) (pss_one (ps_expr (pe_meth (pv 0) c.c_Book c.m_Book_require_point (ok_Book_require_point c) (by exact hr.mono (by decide)) c.bm_Book_require_point .nil pass0 (pa_cons (pv 6) pa_nil)))))
      (pss_cons (ps_if (pt_cmpR op_le (pe_fldK K (pv 4) rfl) pe_int (nomark _)) (pss_one ps_never) pss_nil)
      (pss_cons (ps_if (pt_cmpR op_eq (pe_callB (call_lenK K) (by rfl) c.z_len PySem.boot_len (pa_cons (pe_fldK K (pv 0) rfl) pa_nil)) (C8.pe_gc rfl (gint c.i_MOST_READINGS_books)) (nomark _)) (pss_one ps_never) pss_nil)
      (pss_one (ps_expr (pe_bmK K PySem.F.plainAttrs_list PySem.F.slot_list_append PySem.F.type_list_append mt_append (pe_fldK K (pv 0) rfl) (pa_cons (pe_make c.k_Reading (ok_Reading_init c) (by exact hr.mono (by decide)) rfl c.g_Reading c.bm_Reading_init .nil pass0 (pa_cons (pv 1) (pa_cons (pv 2) (pa_cons (pv 3) (pa_cons (pv 4) pa_nil))))) pa_nil)))))))))), fun x Q σ hx hs k => ?_⟩
  have kk := k
  obtain ⟨A, pts, app, rds, r⟩ := x
  obtain ⟨B, hn, fit, sub, hw, h24, hlr⟩ : Bk K A pts app rds H ∧ (∀ q, q ∈ rds → q.name ≠ r.name) ∧ FitOk r.ts ∧ (∀ n, n ∈ r.ts.map (fun y : Str × Int => y.1) → n ∈ pts) ∧ 0 < r.wt ∧ rds.length < 24 ∧ A.lp ≠ A.lr := hx
  have hs : Sat [some (tyE (.ref A.b)), some (tyE (.str r.name)), some (tyTerms K r.ts), some (tyRat r.val), some (tyRat r.wt), none, none, none] σ H := hs
  refine q_for (ei_list (T := fun j => tyRead K (rds.getD j default)) (ev_Br c B (ev_var (i := 0) hs rfl)) (SqL.of B.rd) B.its) (fun H2 j σ' H' => Ex H2 H' ∧ Sat [some (tyE (.ref A.b)), some (tyE (.str r.name)), some (tyTerms K r.ts), some (tyRat r.val), some (tyRat r.wt), none, none, none] σ' H') (fun H2 e2 => ⟨Ex.refl _, hs.ex e2⟩)
    (fun H2 e2 j σ' H' _ p => ⟨SqL.of ((e2.trans p.1) _ _ B.rd), ge_ex (e2.trans p.1)⟩) (fun H2 e2 j x σ' H' H'' hj p e3 y => ?_) (fun H2 e2 σ2 Hb p => ?_)
  · have s3 := (p.2.ex e3).set (i := 5) y
    rw [B.ln] at hj
    have et := et_eqS (ev_Rn c (ev_var (i := 5) s3 rfl)) (ev_var (i := 1) s3 rfl)
    rw [decide_eq_false (hn _ (getD_mem hj))] at et
    exact s_if et (fun z => by cases z) fun _ H4 e4 => ⟨p.1.trans (e3.trans e4), (s3.ex e4).forget (i := 5)⟩
  have s2 := p.2
  have B2 := B.ex (e2.trans p.1)
  have E0' := e2.trans p.1
  refine Pt.q_if (b := !true) (Evl.et_not (Evl.et_B (flat_ev (ev_call (s := sFit K) r.ts fit (ea_cons (ev_var (i := 2) s2 rfl) ea_nil))))) (fun z => by cases z) fun _ H4 e4 => ?_
  have s4 := s2.ex e4
  have B4 := B2.ex e4
  refine q_for (ei_pin (ev_var (i := 2) s4 rfl)) (fun H2 j σ' H' => Ex H2 H' ∧ Sat [some (tyE (.ref A.b)), some (tyE (.str r.name)), some (tyTerms K r.ts), some (tyRat r.val), some (tyRat r.wt), none, none, none] σ' H') (fun H2 e2 => ⟨Ex.refl _, s4.ex e2⟩)
    (fun H2 e2 j σ' H' _ p => ge_ex p.1) (fun H5 e5 j x σ' H' H'' hj p e6 y => ?_) (fun H5 e5 σ5 Hc p5 => ?_)
  · refine g_pair y fun u v hu hv => ?_
    have s6 := ((p.2.ex e6).set (i := 6) hu).set (i := 7) hv
    have B6 := B4.ex (e5.trans (p.1.trans e6))
    have hm : (r.ts.getD j default).1 ∈ pts := sub _ (List.mem_map.mpr ⟨_, getD_mem hj, rfl⟩)
    have z := ev_methH (s := sReqB K) (B := tyE .non) ((A, pts, app, rds), (r.ts.getD j default).1) B6.at_ (fun H1 e => ⟨B6.ex e, hm⟩) rfl (noB (f := "require_point") (by decide +kernel)) (ev_var (i := 0) s6 rfl) (ea_cons (ev_var (i := 6) s6 rfl) ea_nil) fun _ _ _ _ _ z => z
    exact z H'' (Ex.refl _) _ fun v H7 e7 _ => ⟨p.1.trans (e6.trans e7), ((s6.ex e7).forget (i := 6)).forget (i := 7)⟩
  have s5 := p5.2
  have B5 := B4.ex (e5.trans p5.1)
  have hnum : 0 < r.wt.num := by
    have h1 := Rat.num_nonneg.mpr (Rat.le_of_lt hw)
    have h2 : r.wt.num ≠ 0 := fun z => by
      rw [Rat.num_eq_zero.mp z] at hw
      exact absurd hw (by decide)
    omega
  refine Pt.q_if (b := false) (et_cmp (Evl.ev_op (flat_ev (ev_top c (ev_var (i := 4) s5 rfl))) (flat_ev (K := K) ev_c) (rv_I0 (g := fun i j => V.bl (decide (i ≤ j))))) (by simp; omega)) (fun z => by cases z) fun _ H6 e6 => ?_
  have s6 := s5.ex e6
  have B6 := B5.ex e6
  have eL := ev_lenL (K := K) B6.rd (ev_Br c B6 (ev_var (i := 0) s6 rfl))
  rw [B6.ln] at eL
  refine Pt.q_if (b := false) (et_cmp (Evl.ev_op (flat_ev eL) (flat_ev (K := K) ev_c) (rv_eq rfl)) (by rw [dec_int]; simp; omega)) (fun z => by cases z) fun _ H7 e7 => ?_
  have s7 := s6.ex e7
  have B7 := B6.ex e7
  refine s_app B7.rd (ev_Br c B7 (ev_var (i := 0) s7 rfl)) (ev_mkRead (r := r) (ev_var (i := 1) s7 rfl) (ev_var (i := 2) s7 rfl) (ev_var (i := 3) s7 rfl) (ev_var (i := 4) s7 rfl)) (by rw [B7.ln]; omega) fun v H8 e8 hv h8 => ?_
  have B8 := B7.ex e8
  have g : Ge K H8 (L2.upd H8 A.lr (.lst (A.rs ++ [v]))) := ge_lst h8
  have nbr : A.b ≠ A.lr := fun z => by have h1 := B.at_; have h2 := B.rd; rw [z, h2] at h1; cases h1
  have ndr : A.da ≠ A.lr := fun z => by have h1 := B.ap.at_; have h2 := B.rd; rw [z, h2] at h1; cases h1
  have eAll := (E0'.trans e4).trans ((e5.trans p5.1).trans ((e6.trans e7).trans e8))
  have hget : ∀ i, (if i < rds.length then (rds ++ [r]).getD i default = rds.getD i default else True) ∧ (rds ++ [r]).getD rds.length default = r := fun i => by
    refine ⟨?_, by rw [List.getD_eq_getElem?_getD, List.getElem?_append_right (Nat.le_refl _)]; simp⟩
    split
    · rename_i hi
      rw [List.getD_eq_getElem?_getD, List.getElem?_append_left hi, List.getD_eq_getElem?_getD]
    · trivial
  refine kk .non _ ((Fr.of eAll).trans (Fr.upd (by show A.lr ∈ [A.lr]; simp))) ⟨{ A with rs := A.rs ++ [v] }, rfl, rfl, rfl, rfl, ?_, ?_, ⟨?_, B8.ap.e.st g⟩, upd_same, by show (A.rs ++ [v]).length = _; rw [List.length_append, List.length_append, B.ln]; rfl, ?_⟩
  · rw [upd_ne nbr]; exact B8.at_
  · rw [upd_ne hlr]; exact B8.pt
  · rw [upd_ne ndr]; exact B8.ap.at_
  · have it : Its (K := K) (fun i => tyRead K ((rds ++ [r]).getD i default)) A.rs H8 := fun i x e => by
      have hi : i < rds.length := by rw [← B.ln]; exact (List.getElem?_eq_some_iff.mp e).1
      have := (hget i).1
      rw [if_pos hi] at this
      show (tyRead K ((rds ++ [r]).getD i default)).p x H8
      rw [this]
      exact B8.its i x e
    exact (it.app (by rw [B.ln, (hget 0).2]; exact hv)).st g
end
end Pd

/-! The law's numbers. -/
namespace Pd
open PySem PySem.Spec PyProof.Rows L2 Evl Pt Pn
open Pb (Ht Sz entV entM)
section
variable {P : Program} {w : World} {K : PySem.W.Frag} {mg : Str → Option Value} {base : Heap}
/-- a pair of ints for a number -/
abbrev tyPr (q : Rat) : Ty K := tyTup [tyE (.int q.num), tyE (.int (q.den : Int))]
theorem ev_fmod {σ : L2.St} {H : Hp} {ta tb : TE} {a b : Nat} (ha : EvP (K := K) ta σ H (tyE (.int (a : Int)))) (hb : EvP (K := K) tb σ H (tyE (.int (b : Int)))) (h : b ≠ 0) : EvP (K := K) (tOp (rI (fun _ j => j ≠ 0) fun i j => .int (i.fmod j)) ta tb) σ H (tyE (.int ((a % b : Nat) : Int))) := by
  have := ev_flat (K := K) (Evl.ev_op (flat_ev ha) (flat_ev hb) (rv_I (C := fun _ j => j ≠ 0) (g := fun i j => V.int (i.fmod j)) (by omega : ((b : Nat) : Int) ≠ 0)))
  rw [Int.fmod_eq_emod_of_nonneg _ (by omega)] at this
  exact this
theorem ev_int1 {σ : L2.St} {H : Hp} {te : TE} {i : Int} (h : EvP (K := K) te σ H (tyE (.int i))) : EvP (K := K) (tCB (fun xs H Q => (∃ i, xs = [.int i] ∧ Q (.int i) H) ∨ ∃ k, xs = [.bl k] ∧ Q (.int (if k then 1 else 0)) H) (tCons te tNil)) σ H (tyE (.int i)) := fun H1 e Q q =>
  h H1 e _ fun v H2 e2 z => by
    cases z
    exact .inl ⟨i, rfl, q _ H2 e2 rfl⟩
theorem ev_abs {σ : L2.St} {H : Hp} {te : TE} {i : Int} (h : EvP (K := K) te σ H (tyE (.int i))) : EvP (K := K) (tCB (fun xs H Q => ∃ i, xs = [.int i] ∧ Q (.int (if i < 0 then -i else i)) H) (tCons te tNil)) σ H (tyE (.int ((i.natAbs : Nat) : Int))) := fun H1 e Q q =>
  h H1 e _ fun v H2 e2 z => by
    cases z
    refine ⟨i, rfl, q _ H2 e2 ?_⟩
    show V.int _ = V.int _
    congr 1
    split <;> omega
theorem ev_bits {σ : L2.St} {H : Hp} {te : TE} {i : Int} (h : EvP (K := K) te σ H (tyE (.int i))) : EvP (K := K) (tBits te) σ H (tyE (.int ((Builtin.Int.intBits i : Nat) : Int))) := fun H1 e Q q =>
  h H1 e _ fun v H2 e2 z => by
    cases z
    exact ⟨i, rfl, q _ H2 e2 rfl⟩
theorem bits_lt (b : Nat) : b < 2 ^ Builtin.Int.intBits (b : Int) := by
  unfold Builtin.Int.intBits
  split
  · rename_i h
    have : b = 0 := by have := eq_of_beq h; omega
    omega
  · exact Nat.lt_log2_self
theorem bits_le {b n : Nat} (h : b < 2 ^ n) : Builtin.Int.intBits (b : Int) ≤ n := by
  unfold Builtin.Int.intBits
  split
  · omega
  · rename_i h0
    have hb : b ≠ 0 := fun z => h0 (by rw [z]; rfl)
    have := (Nat.log2_lt hb).mpr h
    exact this
def sComm (K : PySem.W.Frag) : Spc K := ⟨Nat × Nat, fun x => [tyE (.int (x.1 : Int)), tyE (.int (x.2 : Int))], fun x => x.2 < 2 ^ 134217728, fun x => tyE (.int ((Nat.gcd x.1 x.2 : Nat) : Int))⟩
theorem sc_f_law_common : FnScope ["_law_one", "_law_other", "_law_k", "_law_rest"] ["_law_one", "_law_other"] (defScope sf_law_common) := ⟨rfl, rfl, rfl, by decide +kernel, rfl, by decide +kernel, by decide +kernel⟩
theorem ok_law_common (c : Cxt P K mg base) : Ok P w K mg base df_law_common 33 ["_law_one", "_law_other"] (sComm K).sp := by
  have nd := (sc_f_law_common).nd
  refine okS c.Ff_law_common sc_f_law_common (sComm K) (fun _ => rfl) fun cdv A outer s0 H E hr => ⟨_, PSs.nox ((pss_cons (ps_for PassesOwn.never rfl (pi_range1 rfl c.z_range (pa_cons (pe_op op_add (pe_op op_mulX pe_int (pe_bits (pv 1))) pe_int) pa_nil)) (pg_name (i := 2) nd rfl (by first | exact Or.inl rfl | exact Or.inr rfl)) (pss_cons (ps_if (pt_cmpR op_eq (pv 1) pe_int (nomark _)) (pss_one ps_break) pss_nil)
      (pss_cons (ps_set (i := 3) nd rfl (by first | exact Or.inl rfl | exact Or.inr rfl) (pe_op op_modN (pe_callTy call_int1 (by rfl) c.z_int (by decide +kernel) (pa_cons (pv 0) pa_nil)) (pv 1)))
      (pss_cons (ps_set (i := 0) nd rfl (by first | exact Or.inl rfl | exact Or.inr rfl) (pv 1))
      (pss_one (ps_set (i := 1) nd rfl (by first | exact Or.inl rfl | exact Or.inr rfl) (pv 3)))))))
      (pss_one (ps_ret (pv 0))))), fun x Q σ hx hs k => ?_⟩
  have kk := k
  obtain ⟨t, b⟩ := x
  have hb : b < 2 ^ 134217728 := hx
  have hs : Sat [some (tyE (.int (t : Int))), some (tyE (.int (b : Int))), none, none] σ H := hs
  have hn := bits_le hb
  have hb2 := bits_lt b
  generalize hN : Builtin.Int.intBits (b : Int) = n at hn hb2
  have eN := ev_bits (ev_var (i := 1) hs rfl)
  rw [hN] at eN
  have eM : EvP (K := K) _ σ H (tyE (.int (((2 * n + 3 : Nat) : Int)))) := ev_I0 (g := fun a b => V.int (a + b)) (ev_mulN (i := 2) (j := n) (by decide) (by omega) ev_c eN) (ev_c (K := K) (v := .int 3))
  refine q_for (ei_rangeN (m := 2 * n + 3) (ea_cons eM ea_nil) (by omega)) (fun H2 i σ' H' => ∃ x y : Nat, Pb.Euc t b n i x y ∧ Ex H2 H' ∧ Sat [some (tyE (.int (x : Int))), some (tyE (.int (y : Int))), none, none] σ' H') (fun H2 e2 => ⟨t, b, .start hb2, Ex.refl _, hs.ex e2⟩)
    (fun H2 e2 i σ' H' _ p => trivial) (fun H2 e2 i v σ' H' H'' hi ⟨x, y, eu, ex, s⟩ e3 hv => ?_) (fun H2 e2 σ' H' ⟨x, y, eu, ex, s⟩ => ?_)
  · have s3 := (s.ex e3).set (i := 2) hv
    by_cases hy : y = 0
    · refine Pt.q_if (b := true) (et_cmp (Evl.ev_op (flat_ev (ev_var (i := 1) s3 rfl)) (flat_ev (K := K) ev_c) (rv_eq rfl)) (by rw [dec_int]; simpa using hy)) (fun _ H4 e4 => ?_) (fun z => by cases z)
      refine s_ret (ev_var (i := 0) (s3.ex e4) rfl) fun v H5 e5 z => kk v H5 (e2.trans (ex.trans (e3.trans (e4.trans e5)))) ?_
      rw [eu.zero hy] at z
      exact z
    · refine Pt.q_if (b := false) (et_cmp (Evl.ev_op (flat_ev (ev_var (i := 1) s3 rfl)) (flat_ev (K := K) ev_c) (rv_eq rfl)) (by rw [dec_int]; simpa using hy)) (fun z => by cases z) fun _ H4 e4 => ?_
      refine q_asg (s3.ex e4) (ev_fmod (ev_int1 (ev_var (i := 0) (s3.ex e4) rfl)) (ev_var (i := 1) (s3.ex e4) rfl) hy) fun σ5 H5 e5 s5 => ?_
      refine q_asg s5 (ev_var (i := 1) s5 rfl) fun σ6 H6 e6 s6 => ?_
      refine s_asg s6 (ev_var (i := 3) s6 rfl) fun σ7 H7 e7 s7 => ⟨y, x % y, eu.step hy, ex.trans (e3.trans ((e4.trans e5).trans (e6.trans e7))), (s7.forget (i := 2)).forget (i := 3)⟩
  · refine s_ret (ev_var (i := 0) s rfl) fun v H5 e5 z => kk v H5 (e2.trans (ex.trans e5)) ?_
    rw [eu.zero eu.stop] at z
    exact z
def sPair (K : PySem.W.Frag) : Spc K := ⟨Int × Nat, fun x => [tyE (.int x.1), tyE (.int (x.2 : Int))], fun x => 0 < x.2 ∧ x.2 < 2 ^ 134217728, fun x => tyPr (Pb.fr x.1 x.2)⟩
theorem sc_f_law_pair : FnScope ["_law_top", "_law_bottom", "_law_common_here"] ["_law_top", "_law_bottom"] (defScope sf_law_pair) := ⟨rfl, rfl, rfl, by decide +kernel, rfl, by decide +kernel, by decide +kernel⟩
theorem ok_law_pair (c : Cxt P K mg base) : Ok P w K mg base df_law_pair 34 ["_law_top", "_law_bottom"] (sPair K).sp := by
  have nd := (sc_f_law_pair).nd
  refine okS c.Ff_law_pair sc_f_law_pair (sPair K) (fun _ => rfl) fun cdv A outer s0 H E hr => ⟨_, PSs.nox ((pss_cons (ps_set (i := 2) nd rfl (by first | exact Or.inl rfl | exact Or.inr rfl) (pe_call (ok_law_common c) (by exact hr.mono (by decide)) rfl c.g_law_common c.Ff_law_common.kp c.bf_law_common .nil pass0 (pa_cons (pe_callB call_abs (by rfl) c.z_abs (by decide +kernel) (pa_cons (pv 0) pa_nil)) (pa_cons (pv 1) pa_nil))))
      (pss_one (ps_ret (pe_tup (pa_cons (pe_op (Pr.op_fdivP c hr (by decide)) (pv 0) (pv 2)) (pa_cons (pe_op (Pr.op_fdivP c hr (by decide)) (pv 1) (pv 2)) pa_nil))))))), fun x Q σ hx hs k => ?_⟩
  have kk := k
  obtain ⟨t, b⟩ := x
  obtain ⟨h0, hb⟩ : 0 < b ∧ b < 2 ^ 134217728 := hx
  have hs : Sat [some (tyE (.int t)), some (tyE (.int (b : Int))), none] σ H := hs
  refine q_asg hs (ev_call (s := sComm K) (t.natAbs, b) hb (ea_cons (ev_abs (ev_var (i := 0) hs rfl)) (ea_cons (ev_var (i := 1) hs rfl) ea_nil))) fun σ1 H1 e1 s1 => ?_
  have s1 : Sat [some (tyE (.int t)), some (tyE (.int (b : Int))), some (tyE (.int ((Nat.gcd t.natAbs b : Nat) : Int)))] σ1 H1 := s1
  obtain ⟨p1, p2, p3⟩ := Pb.fr_pos t h0
  have g0 : ((Nat.gcd t.natAbs b : Nat) : Int) ≠ 0 := by omega
  have d1 := ev_flat (K := K) (Evl.ev_op (flat_ev (ev_var (i := 0) s1 rfl)) (flat_ev (ev_var (i := 2) s1 rfl)) (rv_I (C := fun _ j => j ≠ 0) (g := fun i j => V.int (i.fdiv j)) g0))
  have d2 := ev_flat (K := K) (Evl.ev_op (flat_ev (ev_var (i := 1) s1 rfl)) (flat_ev (ev_var (i := 2) s1 rfl)) (rv_I (C := fun _ j => j ≠ 0) (g := fun i j => V.int (i.fdiv j)) g0))
  rw [p1] at d1
  rw [p2] at d2
  exact s_ret (ev_pair d1 d2) fun v H2 e2 z => kk v H2 (e1.trans e2) z
end
end Pd

/-! The law's numbers added and multiplied. -/
namespace Pd
open PySem PySem.Spec PyProof.Rows L2 Evl Pt Pn
open Pb (Ht Sz entV entM)
section
variable {P : Program} {w : World} {K : PySem.W.Frag} {mg : Str → Option Value} {base : Heap}
/-- the items of a tuple -/
theorem ev_nth {σ : L2.St} {H : Hp} {te : TE} {Ts : List (Ty K)} {T : Ty K} {i : Nat} (h : EvP (K := K) te σ H (tyTup Ts)) (hi : Ts[i]? = some T) : EvP (K := K) (tOp (rIxT K) te (tC (.int (i : Int)))) σ H T := fun H1 e Q q =>
  h H1 e _ fun v H2 e2 ⟨a, xs, e3, h3, ty⟩ => by
    subst e3
    have key : ∀ {Ts : List (Ty K)} {xs : List V} {i : Nat}, Paired (fun (T : Ty K) v => T.p v H2) Ts xs → Ts[i]? = some T → ∃ v, xs[i]? = some v ∧ T.p v H2 := by
      intro Ts xs i p
      induction p generalizing i with
      | nil => intro z; cases z
      | cons a p ih =>
        cases i with
        | zero => intro z; cases z; exact ⟨_, rfl, a⟩
        | succ i => exact fun z => ih z
    obtain ⟨u, hu, tu⟩ := key ty hi
    refine ⟨a, xs, i, u, rfl, rfl, SqT.of h3, atI_nat hu, q u H2 e2 tu⟩
def sPlusL (K : PySem.W.Frag) : Spc K := ⟨Rat × Rat, fun x => [tyPr x.1, tyPr x.2], fun x => Sz LIM x.1 ∧ Sz LIM x.2, fun x => tyPr (x.1 + x.2)⟩
def sTimesL (K : PySem.W.Frag) : Spc K := ⟨Rat × Rat, fun x => [tyPr x.1, tyPr x.2], fun x => Sz LIM x.1 ∧ Sz LIM x.2, fun x => tyPr (x.1 * x.2)⟩
def sMadeL (K : PySem.W.Frag) : Spc K := ⟨Rat, fun x => [tyPr x], fun _ => True, fun x => tyRat x⟩
theorem den_lt {p q : Rat} (hp : Sz LIM p) (hq : Sz LIM q) : 0 < p.den * q.den ∧ p.den * q.den < 2 ^ 134217728 := by
  refine ⟨Nat.mul_pos p.den_pos q.den_pos, ?_⟩
  have h := Nat.mul_lt_mul'' hp.2 hq.2
  rw [← Nat.pow_add] at h
  exact Nat.lt_of_lt_of_le h (Nat.pow_le_pow_right (by decide) lim2)
section
variable {σ : L2.St} {H : Hp} {ta tb : TE} {p q : Rat}
theorem ev_n (h : EvP (K := K) ta σ H (tyPr p)) : EvP (K := K) (tOp (rIxT K) ta (tC (.int 0))) σ H (tyE (.int p.num)) := ev_nth (i := 0) h rfl
theorem ev_d (h : EvP (K := K) ta σ H (tyPr p)) : EvP (K := K) (tOp (rIxT K) ta (tC (.int 1))) σ H (tyE (.int (p.den : Int))) := ev_nth (i := 1) h rfl
theorem ev_mx {a b : Int} (hc : CMulX a b) (ha : EvP (K := K) ta σ H (tyE (.int a))) (hb : EvP (K := K) tb σ H (tyE (.int b))) : EvP (K := K) (tOp (rI CMulX fun a b => V.int (a * b)) ta tb) σ H (tyE (.int (a * b))) := ev_I (K := K) (C := CMulX) (g := fun a b => V.int (a * b)) hc ha hb
end
theorem sc_f_law_plus : FnScope ["_law_one", "_law_other"] ["_law_one", "_law_other"] (defScope sf_law_plus) := ⟨rfl, rfl, rfl, by decide +kernel, rfl, by decide +kernel, by decide +kernel⟩
theorem ok_law_plus (c : Cxt P K mg base) : Ok P w K mg base df_law_plus 35 ["_law_one", "_law_other"] (sPlusL K).sp := by
  have nd := (sc_f_law_plus).nd
  refine okS c.Ff_law_plus sc_f_law_plus (sPlusL K) (fun _ => rfl) fun cdv A outer s0 H E hr => ⟨_, PSs.nox ((pss_one (ps_ret (pe_call (ok_law_pair c) (by exact hr.mono (by decide)) rfl c.g_law_pair c.Ff_law_pair.kp c.bf_law_pair .nil pass0 (pa_cons (pe_op op_add (pe_op op_mulX (pe_ix (ix_tupK K) (pv 0) pe_int (fun _ _ => rfl)) (pe_ix (ix_tupK K) (pv 1) pe_int (fun _ _ => rfl))) (pe_op op_mulX (pe_ix (ix_tupK K) (pv 1) pe_int (fun _ _ => rfl)) (pe_ix (ix_tupK K) (pv 0) pe_int (fun _ _ => rfl)))) (pa_cons (pe_op op_mulX (pe_ix (ix_tupK K) (pv 0) pe_int (fun _ _ => rfl)) (pe_ix (ix_tupK K) (pv 1) pe_int (fun _ _ => rfl))) pa_nil)))))), fun x Q σ hx hs k => ?_⟩
  have kk := k
  obtain ⟨p, q⟩ := x
  obtain ⟨hp, hq⟩ : Sz LIM p ∧ Sz LIM q := hx
  have hs : Sat [some (tyPr p), some (tyPr q)] σ H := hs
  obtain ⟨m1, m2, m3, m4, m5⟩ := sz_mul hp hq
  obtain ⟨d1, d2⟩ := den_lt hp hq
  have a0 := ev_var (i := 0) hs rfl
  have b0 := ev_var (i := 1) hs rfl
  have eT : EvP (K := K) _ σ H (tyE (.int (p.num * q.den + q.num * p.den))) := ev_I0 (g := fun a b => V.int (a + b)) (ev_mx m1 (ev_n a0) (ev_d b0)) (ev_mx m2 (ev_n b0) (ev_d a0))
  have eB := ev_mx m3 (ev_d a0) (ev_d b0)
  rw [← Int.natCast_mul] at eB
  refine s_ret (ev_call (s := sPair K) (p.num * q.den + q.num * p.den, p.den * q.den) ⟨d1, d2⟩ (ea_cons eT (ea_cons eB ea_nil))) fun v H1 e1 z => kk v H1 e1 ?_
  have z : (tyPr (K := K) (Pb.fr (p.num * q.den + q.num * p.den) ((p.den * q.den : Nat) : Int))).p v H1 := z
  rw [Int.natCast_mul, Pb.fr_add] at z
  exact z
theorem sc_f_law_times : FnScope ["_law_one", "_law_other"] ["_law_one", "_law_other"] (defScope sf_law_times) := ⟨rfl, rfl, rfl, by decide +kernel, rfl, by decide +kernel, by decide +kernel⟩
theorem ok_law_times (c : Cxt P K mg base) : Ok P w K mg base df_law_times 35 ["_law_one", "_law_other"] (sTimesL K).sp := by
  have nd := (sc_f_law_times).nd
  refine okS c.Ff_law_times sc_f_law_times (sTimesL K) (fun _ => rfl) fun cdv A outer s0 H E hr => ⟨_, PSs.nox ((pss_one (ps_ret (pe_call (ok_law_pair c) (by exact hr.mono (by decide)) rfl c.g_law_pair c.Ff_law_pair.kp c.bf_law_pair .nil pass0 (pa_cons (pe_op op_mulX (pe_ix (ix_tupK K) (pv 0) pe_int (fun _ _ => rfl)) (pe_ix (ix_tupK K) (pv 1) pe_int (fun _ _ => rfl))) (pa_cons (pe_op op_mulX (pe_ix (ix_tupK K) (pv 0) pe_int (fun _ _ => rfl)) (pe_ix (ix_tupK K) (pv 1) pe_int (fun _ _ => rfl))) pa_nil)))))), fun x Q σ hx hs k => ?_⟩
  have kk := k
  obtain ⟨p, q⟩ := x
  obtain ⟨hp, hq⟩ : Sz LIM p ∧ Sz LIM q := hx
  have hs : Sat [some (tyPr p), some (tyPr q)] σ H := hs
  obtain ⟨m1, m2, m3, m4, m5⟩ := sz_mul hp hq
  obtain ⟨d1, d2⟩ := den_lt hp hq
  have a0 := ev_var (i := 0) hs rfl
  have b0 := ev_var (i := 1) hs rfl
  have eT := ev_mx m4 (ev_n a0) (ev_n b0)
  have eB := ev_mx m3 (ev_d a0) (ev_d b0)
  rw [← Int.natCast_mul] at eB
  refine s_ret (ev_call (s := sPair K) (p.num * q.num, p.den * q.den) ⟨d1, d2⟩ (ea_cons eT (ea_cons eB ea_nil))) fun v H1 e1 z => kk v H1 e1 ?_
  have z : (tyPr (K := K) (Pb.fr (p.num * q.num) ((p.den * q.den : Nat) : Int))).p v H1 := z
  rw [Int.natCast_mul, Pb.fr_mul] at z
  exact z
theorem sc_f_law_made : FnScope ["_law_pair_here"] ["_law_pair_here"] (defScope sf_law_made) := ⟨rfl, rfl, rfl, by decide +kernel, rfl, by decide +kernel, by decide +kernel⟩
theorem ok_law_made (c : Cxt P K mg base) : Ok P w K mg base df_law_made 36 ["_law_pair_here"] (sMadeL K).sp := by
  have nd := (sc_f_law_made).nd
  refine okS c.Ff_law_made sc_f_law_made (sMadeL K) (fun _ => rfl) fun cdv A outer s0 H E hr => ⟨_, PSs.nox ((pss_one (ps_ret (pe_make c.k_Ratio (ok_RInit c) (by exact hr.mono (by decide)) rfl c.g_Ratio (bRI2 c) .nil pass0 (pa_cons (pe_ix (ix_tupK K) (pv 0) pe_int (fun _ _ => rfl)) (pa_cons (pe_ix (ix_tupK K) (pv 0) pe_int (fun _ _ => rfl)) pa_nil)))))), fun x Q σ hx hs k => ?_⟩
  have kk := k
  change Rat at x
  have hs : Sat [some (tyPr x)] σ H := hs
  have a0 := ev_var (i := 0) hs rfl
  refine s_ret (ev_mk2 (ev_n a0) (ev_d a0) (by have := x.den_pos; omega)) fun v H1 e1 z => kk v H1 e1 ?_
  rw [Pb.fr_self] at z
  exact z
end
end Pd

/-! The law's draws. -/
namespace Pd
open PySem PySem.Spec PyProof.Rows L2 Evl Pt Pn
open Pb (Ht Sz entV entM)
section
variable {P : Program} {w : World} {K : PySem.W.Frag} {mg : Str → Option Value} {base : Heap}
/-- a tape -/
structure Tape (lt : Addr) (xs : List Nat) (H : Hp) : Prop where
  at_ : H lt = some (.lst (xs.map fun n : Nat => V.int (n : Int)))
  lo : ∀ x, x ∈ xs → x < 2147483648
theorem Tape.ex {lt : Addr} {xs : List Nat} {H H' : Hp} (h : Tape lt xs H) (e : Ex H H') : Tape lt xs H' := ⟨e _ _ h.at_, h.lo⟩
theorem ev_tapeIx {σ : L2.St} {H : Hp} {ta tb : TE} {lt : Addr} {xs : List Nat} {i : Nat} (t : Tape lt xs H) (ha : EvP (K := K) ta σ H (tyE (.ref lt))) (hb : EvP (K := K) tb σ H (tyE (.int (i : Nat)))) (hi : i < xs.length) : EvP (K := K) (tOp (rIxL K) ta tb) σ H (tyE (.int ((xs.getD i 0 : Nat) : Int))) := by
  refine ev_ixL (T := fun i => tyE (.int ((xs.getD i 0 : Nat) : Int))) t.at_ (fun j x e => ?_) ha hb (by rw [List.length_map]; exact hi)
  rw [List.getElem?_map] at e
  show x = _
  rw [List.getD_eq_getElem?_getD]
  cases h : xs[j]? with
  | none => rw [h] at e; cases e
  | some y => rw [h] at e; cases e; rfl
def sDraw (K : PySem.W.Frag) : Sph K := ⟨Addr × List Nat × Nat × Nat, fun x => [tyE (.ref x.1), tyE (.int (x.2.2.1 : Int)), tyE (.int (x.2.2.2 : Int))], fun x H => Tape x.1 x.2.1 H ∧ x.2.2.1 < 2000 ∧ 0 < x.2.2.2,
  fun x _ v _ => ∃ r : Nat, r < x.2.2.2 ∧ v = .int (r : Int)⟩
theorem rem_ok {H : Hp} {v : V} {a m : Nat} (hm : 0 < m) (z : (tyE (K := K) (.int ((a % m : Nat) : Int))).p v H) : ∃ r : Nat, r < m ∧ v = .int (r : Int) := ⟨a % m, Nat.mod_lt _ hm, z⟩
theorem ev_addN {σ : L2.St} {H : Hp} {ta tb : TE} {a b : Nat} (ha : EvP (K := K) ta σ H (tyE (.int (a : Int)))) (hb : EvP (K := K) tb σ H (tyE (.int (b : Int)))) : EvP (K := K) (tOp (rI0 fun a b => V.int (a + b)) ta tb) σ H (tyE (.int ((a + b : Nat) : Int))) := by
  have := ev_I0 (g := fun a b => V.int (a + b)) ha hb
  rw [Int.natCast_add]
  exact this
theorem sc_f_law_draw : FnScope ["_law_tape_here", "_law_at", "_law_many", "_law_number_here"] ["_law_tape_here", "_law_at", "_law_many"] (defScope sf_law_draw) := ⟨rfl, rfl, rfl, by decide +kernel, rfl, by decide +kernel, by decide +kernel⟩
theorem ok_law_draw (c : Cxt P K mg base) : Ok P w K mg base df_law_draw 33 ["_law_tape_here", "_law_at", "_law_many"] (sDraw K).sp := by
  have nd := (sc_f_law_draw).nd
  refine okH c.Ff_law_draw sc_f_law_draw (sDraw K) (fun _ => rfl) fun cdv A outer s0 H E hr => ⟨_, PSs.nox ((pss_cons (ps_if (pt_cmpR op_lt (pv 1) (pe_callB (call_lenK K) (by rfl) c.z_len PySem.boot_len (pa_cons (pv 0) pa_nil)) (nomark _)) (pss_one (ps_ret (pe_op op_modN (pe_callTy call_int1 (by rfl) c.z_int (by decide +kernel) (pa_cons (pe_ix (ix_listK K) (pv 0) (pv 1) (fun _ _ => rfl)) pa_nil)) (pv 2)))) pss_nil)
      (pss_cons (ps_set (i := 3) nd rfl (by first | exact Or.inl rfl | exact Or.inr rfl) pe_int)
      (pss_cons (ps_if (pt_cmpR op_gt (pe_callB (call_lenK K) (by rfl) c.z_len PySem.boot_len (pa_cons (pv 0) pa_nil)) pe_int (nomark _)) (pss_one (ps_set (i := 3) nd rfl (by first | exact Or.inl rfl | exact Or.inr rfl) (pe_ix (ix_listK K) (pv 0) (pe_op op_modN (pe_callTy call_int1 (by rfl) c.z_int (by decide +kernel) (pa_cons (pv 1) pa_nil)) (pe_callB (call_lenK K) (by rfl) c.z_len PySem.boot_len (pa_cons (pv 0) pa_nil))) (fun _ _ => rfl)))) pss_nil)
      (pss_one (ps_ret (pe_op op_modN (pe_op op_modN (pe_callTy call_int1 (by rfl) c.z_int (by decide +kernel) (pa_cons (pe_op op_add (pe_op op_mulX (pe_op op_mulX (pe_op op_add (pv 3) (pv 1)) (pe_op op_add (pv 1) pe_int)) pe_int) (pe_op op_mulX (pv 1) pe_int)) pa_nil)) pe_int) (pv 2)))))))), fun x Q σ hx hs k => ?_⟩
  have kk := k
  obtain ⟨lt, xs, at_, m⟩ := x
  obtain ⟨t, ha, hm⟩ : Tape lt xs H ∧ at_ < 2000 ∧ 0 < m := hx
  have hs : Sat [some (tyE (.ref lt)), some (tyE (.int (at_ : Int))), some (tyE (.int (m : Int))), none] σ H := hs
  have eL := ev_lenL (K := K) t.at_ (ev_var (i := 0) hs rfl)
  rw [List.length_map] at eL
  have go : ∀ (σ' : L2.St) (H' : Hp) (b : Nat) (D : Ends), Ex H H' → b < 2147483648 → Sat (K := K) [some (tyE (.ref lt)), some (tyE (.int (at_ : Int))), some (tyE (.int (m : Int))), some (tyE (.int (b : Int)))] σ' H' → (∀ v H2, Ex H' H2 → (∃ r : Nat, r < m ∧ v = .int (r : Int)) → D.rt v H2) →
      tRet (tOp (rI (fun _ j => j ≠ 0) fun i j => .int (i.fmod j)) (tOp (rI (fun _ j => j ≠ 0) fun i j => .int (i.fmod j)) (tCB (fun xs H Q => (∃ i, xs = [.int i] ∧ Q (.int i) H) ∨ ∃ k, xs = [.bl k] ∧ Q (.int (if k then 1 else 0)) H) (tCons (tOp (rI0 fun a b => V.int (a + b)) (tOp (rI CMulX fun a b => V.int (a * b)) (tOp (rI CMulX fun a b => V.int (a * b)) (tOp (rI0 fun a b => V.int (a + b)) (tVar 3) (tVar 1)) (tOp (rI0 fun a b => V.int (a + b)) (tVar 1) (tC (.int 3)))) (tC (.int 7919))) (tOp (rI CMulX fun a b => V.int (a * b)) (tVar 1) (tC (.int 104729)))) tNil)) (tC (.int 65521))) (tVar 2)) D σ' H' := by
    intro σ' H' b D e hb s kd
    have e3 := ev_var (i := 3) s rfl
    have e1 := ev_var (i := 1) s rfl
    have p1 := ev_mulN (i := b + at_) (j := at_ + 3) (by omega) (by omega) (ev_addN e3 e1) (ev_addN (b := 3) e1 ev_c)
    have b1 : (b + at_) * (at_ + 3) < 2 ^ 60 := Nat.lt_of_lt_of_le (Nat.mul_lt_mul'' (show b + at_ < 2 ^ 32 by omega) (show at_ + 3 < 2 ^ 28 by omega)) (by decide)
    have p2 := ev_mulN (j := 7919) b1 (by decide) p1 (ev_c (K := K) (v := .int 7919))
    have p3 := ev_mulN (i := at_) (j := 104729) (by omega) (by decide) e1 ev_c
    exact s_ret (ev_fmod (ev_fmod (b := 65521) (ev_int1 (ev_addN p2 p3)) ev_c (by decide)) (ev_var (i := 2) s rfl) (by omega)) fun v H2 e2 z => kd v H2 e2 (rem_ok hm z)
  by_cases hl : at_ < xs.length
  · refine Pt.q_if (b := true) (et_cmp (Evl.ev_op (flat_ev (ev_var (i := 1) hs rfl)) (flat_ev eL) (rv_I0 (g := fun i j => V.bl (decide (i < j))))) (by simpa using hl)) (fun _ H1 e1 => ?_) (fun z => by cases z)
    exact s_ret (ev_fmod (ev_int1 (ev_tapeIx (t.ex e1) (ev_var (i := 0) (hs.ex e1) rfl) (ev_var (i := 1) (hs.ex e1) rfl) hl)) (ev_var (i := 2) (hs.ex e1) rfl) (by omega)) fun v H2 e2 z => kk v H2 (e1.trans e2) (rem_ok hm z)
  refine Pt.q_if (b := false) (et_cmp (Evl.ev_op (flat_ev (ev_var (i := 1) hs rfl)) (flat_ev eL) (rv_I0 (g := fun i j => V.bl (decide (i < j))))) (by simp; omega)) (fun z => by cases z) fun _ H1 e1 => ?_
  refine q_asg (T := tyE (.int ((1 : Nat) : Int))) (hs.ex e1) ev_c fun σ2 H2 e2 s2 => ?_
  have t2 := t.ex (e1.trans e2)
  have eL2 := ev_lenL (K := K) t2.at_ (ev_var (i := 0) s2 rfl)
  rw [List.length_map] at eL2
  by_cases h0 : 0 < xs.length
  · refine Pt.q_if (b := true) (et_cmp (Evl.ev_op (flat_ev eL2) (flat_ev (K := K) ev_c) (rv_I0 (g := fun i j => V.bl (decide (i > j))))) (by simpa using h0)) (fun _ H3 e3 => ?_) (fun z => by cases z)
    have s3 := s2.ex e3
    have t3 := t2.ex e3
    have eL3 := ev_lenL (K := K) t3.at_ (ev_var (i := 0) s3 rfl)
    rw [List.length_map] at eL3
    have hr : at_ % xs.length < xs.length := Nat.mod_lt _ h0
    have hb : xs.getD (at_ % xs.length) 0 < 2147483648 := t.lo _ (by rw [List.getD_eq_getElem?_getD, List.getElem?_eq_getElem hr]; exact List.getElem_mem hr)
    refine s_asg s3 (ev_tapeIx t3 (ev_var (i := 0) s3 rfl) (ev_fmod (ev_int1 (ev_var (i := 1) s3 rfl)) eL3 (by omega)) hr) fun σ4 H4 e4 s4 => ?_
    exact go σ4 H4 _ _ (e1.trans (e2.trans (e3.trans e4))) hb s4 fun v H5 e5 z => kk v H5 (e1.trans (e2.trans (e3.trans (e4.trans e5)))) z
  · refine Pt.q_if (b := false) (et_cmp (Evl.ev_op (flat_ev eL2) (flat_ev (K := K) ev_c) (rv_I0 (g := fun i j => V.bl (decide (i > j))))) (decide_eq_false (by omega))) (fun z => by cases z) fun _ H3 e3 => ?_
    exact go σ2 H3 1 _ (e1.trans (e2.trans e3)) (by decide) (s2.ex e3) fun v H5 e5 z => kk v H5 (e1.trans (e2.trans (e3.trans e5))) z
/-- a number below m -/
def tyRem (m : Nat) : Ty K := ⟨fun v _ => ∃ r : Nat, r < m ∧ v = .int (r : Int), fun _ _ _ _ h => h⟩
/-- the state of the draws -/
structure Dr (st lt : Addr) (xs : List Nat) (i : Nat) (H : Hp) : Prop where
  at_ : H st = some (.lst [.ref lt, .int (i : Int)])
  tape : Tape lt xs H
theorem Dr.ex {st lt : Addr} {xs : List Nat} {i : Nat} {H H' : Hp} (h : Dr st lt xs i H) (e : Ex H H') : Dr st lt xs i H' := ⟨e _ _ h.at_, h.tape.ex e⟩
def sTake (K : PySem.W.Frag) : Spw K := ⟨Addr × Addr × List Nat × Nat × Nat, fun x => [tyE (.ref x.1), tyE (.int (x.2.2.2.2 : Int))], fun x H => Dr x.1 x.2.1 x.2.2.1 x.2.2.2.1 H ∧ x.2.2.2.1 < 1000 ∧ 0 < x.2.2.2.2 ∧ x.1 ≠ x.2.1, fun x => [x.1],
  fun x _ v H' => Dr x.1 x.2.1 x.2.2.1 (x.2.2.2.1 + 1) H' ∧ ∃ r : Nat, r < x.2.2.2.2 ∧ v = .int (r : Int)⟩
theorem ev_st0 {σ : L2.St} {H : Hp} {ta : TE} {st lt : Addr} {xs : List Nat} {i : Nat} (d : Dr st lt xs i H) (ha : EvP (K := K) ta σ H (tyE (.ref st))) : EvP (K := K) (tOp (rIxL K) ta (tC (.int 0))) σ H (tyE (.ref lt)) := by
  refine ev_ixL (T := fun j => if j = 0 then tyE (.ref lt) else tyE (.int (i : Int))) (i := 0) d.at_ (fun j x e => ?_) ha ev_c (by simp)
  match j, e with
  | 0, e => cases e; exact rfl
  | 1, e => cases e; exact rfl
theorem ev_st1 {σ : L2.St} {H : Hp} {ta : TE} {st lt : Addr} {xs : List Nat} {i : Nat} (d : Dr st lt xs i H) (ha : EvP (K := K) ta σ H (tyE (.ref st))) : EvP (K := K) (tOp (rIxL K) ta (tC (.int 1))) σ H (tyE (.int (i : Int))) := by
  refine ev_ixL (T := fun j => if j = 0 then tyE (.ref lt) else tyE (.int (i : Int))) (i := 1) d.at_ (fun j x e => ?_) ha ev_c (by simp)
  match j, e with
  | 0, e => cases e; exact rfl
  | 1, e => cases e; exact rfl
theorem sc_f_law_take : FnScope ["_law_state", "_law_many"] ["_law_state", "_law_many"] (defScope sf_law_take) := ⟨rfl, rfl, rfl, by decide +kernel, rfl, by decide +kernel, by decide +kernel⟩
theorem ok_law_take (c : Cxt P K mg base) : Ok P w K mg base df_law_take 34 ["_law_state", "_law_many"] (sTake K).sp := by
  have nd := (sc_f_law_take).nd
  refine okW c.Ff_law_take sc_f_law_take (sTake K) (fun _ => rfl) fun cdv A outer s0 H E hr => ⟨_, PSs.nox ((pss_cons (ps_asg (pe_op op_add (pe_ix (ix_listK K) (pv 0) pe_int (fun _ _ => rfl)) pe_int) (pg_sub (pv 0) pe_int set_list))
      (pss_one (ps_ret (pe_call (ok_law_draw c) (by exact hr.mono (by decide)) rfl c.g_law_draw c.Ff_law_draw.kp c.bf_law_draw .nil pass0 (pa_cons (pe_ix (ix_listK K) (pv 0) pe_int (fun _ _ => rfl)) (pa_cons (pe_ix (ix_listK K) (pv 0) pe_int (fun _ _ => rfl)) (pa_cons (pv 1) pa_nil)))))))), fun x Q σ hx hs k => ?_⟩
  have kk := k
  obtain ⟨st, lt, xs, i, m⟩ := x
  obtain ⟨d, hi, hm, ne⟩ : Dr st lt xs i H ∧ i < 1000 ∧ 0 < m ∧ st ≠ lt := hx
  have hs : Sat [some (tyE (.ref st)), some (tyE (.int (m : Int)))] σ H := hs
  have s0 := ev_var (i := 0) hs rfl
  refine q_setI d.at_ (ev_addN (b := 1) (ev_st1 d s0) ev_c) s0 (j := 1) ev_c (by simp) fun v H1 e1 z => ?_
  have z : v = .int ((i + 1 : Nat) : Int) := z
  subst z
  have d1 := d.ex e1
  have g : Ge K H1 (L2.upd H1 st (.lst ([V.ref lt, V.int (i : Int)].set 1 (.int ((i + 1 : Nat) : Int))))) := ge_lst d1.at_
  have s2 := (hs.ex e1).st g
  have d2 : Dr st lt xs (i + 1) (L2.upd H1 st (.lst ([V.ref lt, V.int (i : Int)].set 1 (.int ((i + 1 : Nat) : Int))))) := ⟨upd_same, by rw [upd_ne ne.symm]; exact d1.tape.at_, d.tape.lo⟩
  have fr : Fr [st] H (L2.upd H1 st (.lst ([V.ref lt, V.int (i : Int)].set 1 (.int ((i + 1 : Nat) : Int))))) := (Fr.of e1).trans (Fr.upd (by simp))
  generalize L2.upd H1 st (.lst ([V.ref lt, V.int (i : Int)].set 1 (.int ((i + 1 : Nat) : Int)))) = H2 at *
  have t0 := ev_var (i := 0) s2 rfl
  have ea := Pt.ea_cons (ev_st0 d2 t0) (Pt.ea_cons (ev_st1 d2 t0) (Pt.ea_cons (ev_var (i := 1) s2 rfl) Pt.ea_nil))
  refine s_ret (ev_callH (s := sDraw K) (B := tyRem m) (lt, xs, i + 1, m) (fun H3 e => ⟨(d2.ex e).tape, by show i + 1 < 2000; omega, hm⟩) ea fun _ _ _ _ _ z => z) fun v H4 e4 r => ?_
  exact kk v H4 (fr.trans (Fr.of e4)) ⟨d2.ex e4, r⟩
end
end Pd

/-! The law's tape. -/
namespace Pd
open PySem PySem.Spec PyProof.Rows L2 Evl Pt Pn
open Pb (Ht Sz entV entM)
section
variable {P : Program} {w : World} {K : PySem.W.Frag} {mg : Str → Option Value} {base : Heap}
structure TpI (K : PySem.W.Frag) (H0 H2 : Hp) (p : Addr) (xs : List Nat) (H : Hp) : Prop where
  own : Own K H0 H2 p (xs.map fun n : Nat => V.int (n : Int)) H
  lo : ∀ x, x ∈ xs → x < 2147483648
theorem TpI.on {H0 H2 H H' : Hp} {p : Addr} {xs : List Nat} (t : TpI K H0 H2 p xs H) (e : Ex H H') : TpI K H0 H2 p xs H' := ⟨t.own.on e, t.lo⟩
theorem tp_app {σ : L2.St} {H0 H2 H : Hp} {p : Addr} {xs : List Nat} {n : Nat} {D : Ends} {ta te : TE} (t : TpI K H0 H2 p xs H) (ha : EvP (K := K) ta σ H (tyE (.ref p))) (h : EvP (K := K) te σ H (tyE (.int (n : Int)))) (hn : n < 2147483648) (hl : xs.length < 90000)
    (k : ∀ H', Ge K H H' → TpI K H0 H2 p (xs ++ [n]) H' → D.nx σ H') : tDrop (tBM K "list" rAppend ta (tCons te tNil)) D σ H :=
  s_app t.own.at_ ha h (by rw [List.length_map]; omega) fun v H1 e1 z h1 => by
    have z : v = .int (n : Int) := z
    subst z
    have o := (t.own.on e1).upd ((xs ++ [n]).map fun n : Nat => V.int (n : Int))
    rw [List.map_append] at o
    refine k _ ((ge_ex e1).trans (t.own.on e1).geu) ⟨by rw [List.map_append]; exact o, fun x hx => ?_⟩
    rcases List.mem_append.mp hx with h | h
    · exact t.lo x h
    · rw [List.mem_singleton.mp h]; exact hn
theorem tp_appQ {σ : L2.St} {H0 H2 H : Hp} {p : Addr} {xs : List Nat} {n : Nat} {D : Ends} {tz : TS} {ta te : TE} (t : TpI K H0 H2 p xs H) (ha : EvP (K := K) ta σ H (tyE (.ref p))) (h : EvP (K := K) te σ H (tyE (.int (n : Int)))) (hn : n < 2147483648) (hl : xs.length < 90000)
    (k : ∀ H', Ge K H H' → TpI K H0 H2 p (xs ++ [n]) H' → tz D σ H') : tSeq (tDrop (tBM K "list" rAppend ta (tCons te tNil))) tz D σ H := tp_app (D := { D with nx := tz D }) t ha h hn hl k
theorem ev_mulB {σ : L2.St} {H : Hp} {ta tb : TE} {a b : Int} (hc : CMul a b) (ha : EvP (K := K) ta σ H (tyE (.int a))) (hb : EvP (K := K) tb σ H (tyE (.int b))) : EvP (K := K) (tOp (rI CMul fun a b => V.int (a * b)) ta tb) σ H (tyE (.int (a * b))) := ev_I (K := K) (C := CMul) (g := fun a b => V.int (a * b)) hc ha hb
theorem ev_mulBN {σ : L2.St} {H : Hp} {ta tb : TE} {a b : Nat} (hc : a < 2 ^ 63 ∨ b < 2 ^ 63) (ha : EvP (K := K) ta σ H (tyE (.int (a : Int)))) (hb : EvP (K := K) tb σ H (tyE (.int (b : Int)))) : EvP (K := K) (tOp (rI CMul fun a b => V.int (a * b)) ta tb) σ H (tyE (.int ((a * b : Nat) : Int))) := by
  have := ev_mulB (by unfold CMul; omega) ha hb
  rw [Int.natCast_mul]
  exact this
theorem ev_fdivN {σ : L2.St} {H : Hp} {ta tb : TE} {a b : Nat} (ha : EvP (K := K) ta σ H (tyE (.int (a : Int)))) (hb : EvP (K := K) tb σ H (tyE (.int (b : Int)))) (h : b ≠ 0) : EvP (K := K) (tOp (rI (fun _ j => j ≠ 0) fun i j => .int (i.fdiv j)) ta tb) σ H (tyE (.int ((a / b : Nat) : Int))) := by
  have := ev_flat (K := K) (Evl.ev_op (flat_ev ha) (flat_ev hb) (rv_I (C := fun _ j => j ≠ 0) (g := fun i j => V.int (i.fdiv j)) (by omega : ((b : Nat) : Int) ≠ 0)))
  rw [Int.fdiv_eq_ediv_of_nonneg _ (by omega)] at this
  exact this
theorem q_ifA {R : L2.St → Hp → Prop} {σ : L2.St} {H : Hp} {b : Bool} {i : Nat} {t : L2.TT} {te : TE} {T : Ty K} {D : Ends} {tz tw : TS} (htw : ∀ D σ H, D.nx σ H → tw D σ H) (h : EvT t σ H b) (h1 : b = true → EvP te σ H T) (k1 : b = true → ∀ v H1, Ex H H1 → T.p v H1 → R (σ.set i (some v)) H1) (k2 : b = false → ∀ H1, Ex H H1 → R σ H1)
    (hr : ∀ σ' H', R σ' H' → tz D σ' H') : tSeq (tIfS t (tAsg te (gName i)) tw) tz D σ H :=
  Pt.q_if h (fun hb H1 e1 => h1 hb H1 e1 _ fun v H2 e2 z => hr _ _ (k1 hb v H2 (e1.trans e2) z)) fun hb H1 e1 => htw _ _ _ (hr _ _ (k2 hb H1 e1))
def sTape (K : PySem.W.Frag) : Sph K := ⟨Addr × List Int, fun x => [tyE (.ref x.1)], fun x H => SqL K H x.1 (x.2.map V.int) ∧ x.2.length < 1000,
  fun x H v H' => ∃ lt xs, v = .ref lt ∧ H lt = none ∧ Tape lt xs H'⟩
theorem sc_f_law_tape : FnScope ["_law_script", "_law_tape_here", "_law_cell", "_law_number_here", "_law_k", "_law_first"] ["_law_script"] (defScope sf_law_tape) := ⟨rfl, rfl, rfl, by decide +kernel, rfl, by decide +kernel, by decide +kernel⟩
theorem ok_law_tape (c : Cxt P K mg base) : Ok P w K mg base df_law_tape 34 ["_law_script"] (sTape K).sp := by
  have nd := (sc_f_law_tape).nd
  refine okH c.Ff_law_tape sc_f_law_tape (sTape K) (fun _ => rfl) fun cdv A outer s0 H E hr => ⟨_, PSs.nox ((pss_cons (ps_set (i := 1) nd rfl (by first | exact Or.inl rfl | exact Or.inr rfl) (pe_lst pa_nil))
      (pss_cons (ps_for PassesOwn.never rfl (pi_listK K (pv 0)) (pg_name (i := 2) nd rfl (by first | exact Or.inl rfl | exact Or.inr rfl)) (pss_cons (ps_set (i := 3) nd rfl (by first | exact Or.inl rfl | exact Or.inr rfl) (pe_op op_mul pe_int (pe_callTy call_int1 (by rfl) c.z_int (by decide +kernel) (pa_cons (pv 2) pa_nil))))
      (pss_cons (ps_if (pt_cmpR op_lt (pv 3) pe_int (nomark _)) (pss_one (ps_set (i := 3) nd rfl (by first | exact Or.inl rfl | exact Or.inr rfl) (pe_op op_sub (pe_un un_neg pe_int) (pv 3)))) pss_nil)
      (pss_one (ps_if (pt_cmpR op_ge (pv 3) (pe_op op_pow pe_int pe_int) (nomark _)) (pss_one (ps_for PassesOwn.never rfl (pi_range1 rfl c.z_range (pa_cons pe_int pa_nil)) (pg_name (i := 4) nd rfl (by first | exact Or.inl rfl | exact Or.inr rfl)) (pss_one (ps_if (pt_cmpR op_gt (pv 3) pe_int (nomark _)) (pss_cons (ps_expr (pe_bmK K PySem.F.plainAttrs_list PySem.F.slot_list_append PySem.F.type_list_append mt_append (pv 1) (pa_cons (pe_op op_modN (pe_callTy call_int1 (by rfl) c.z_int (by decide +kernel) (pa_cons (pv 3) pa_nil)) pe_int) pa_nil)))
      (pss_one (ps_set (i := 3) nd rfl (by first | exact Or.inl rfl | exact Or.inr rfl) (pe_op (Pr.op_fdivP c hr (by decide)) (pv 3) pe_int)))) pss_nil)))) (pss_one (ps_for PassesOwn.never rfl (pi_range1 rfl c.z_range (pa_cons pe_int pa_nil)) (pg_name (i := 4) nd rfl (by first | exact Or.inl rfl | exact Or.inr rfl)) (pss_cons (ps_set (i := 5) nd rfl (by first | exact Or.inl rfl | exact Or.inr rfl) (pe_op op_modN (pe_callTy call_int1 (by rfl) c.z_int (by decide +kernel) (pa_cons (pe_op op_add (pe_op op_add (pe_op op_mul (pv 3) pe_int) (pe_op op_mul (pv 4) pe_int)) pe_int) pa_nil)) pe_int))
      (pss_one (ps_expr (pe_bmK K PySem.F.plainAttrs_list PySem.F.slot_list_append PySem.F.type_list_append mt_append (pv 1) (pa_cons (pe_op op_modN (pe_callTy call_int1 (by rfl) c.z_int (by decide +kernel) (pa_cons (pe_op op_add (pe_op op_mul (pv 5) pe_int) (pe_op (Pr.op_fdivP c hr (by decide)) (pv 5) pe_int)) pa_nil)) pe_int) pa_nil))))))))))))
      (pss_one (ps_ret (pv 1)))))), fun x Q σ hx hs k => ?_⟩
  have kk := k
  obtain ⟨ls, cs⟩ := x
  obtain ⟨hls, hcs⟩ : SqL K H ls (cs.map V.int) ∧ cs.length < 1000 := hx
  have hs : Sat [some (tyE (.ref ls)), none, none, none, none, none] σ H := hs
  refine q_asgL (n := 0) (T := fun _ => tyRat 0) hs el_nil fun p xs0 σ1 H1 hp e1 h1 l1 _ s1 => ?_
  have x0 : xs0 = [] := List.length_eq_zero_iff.mp l1
  subst x0
  have hN : (cs.map V.int).length = cs.length := List.length_map _
  refine q_for (ei_list (T := fun i => tyE (K := K) (.int (cs.getD i 0))) (ev_var (i := 0) s1 rfl) (Evl.ex_l e1 hls) fun i x e => by
      rw [List.getElem?_map] at e
      show x = _
      rw [List.getD_eq_getElem?_getD]
      cases h : cs[i]? with
      | none => rw [h] at e; cases e
      | some y => rw [h] at e; cases e; rfl)
    (fun H2 i σ' H' => Sat [some (tyE (.ref ls)), some (tyE (.ref p)), none, none, none, none] σ' H' ∧ ∃ xs, TpI K H H2 p xs H' ∧ xs.length ≤ 40 * i) (fun H2 e2 => ⟨s1.ex e2, [], ⟨⟨hp, e1.trans e2, Ge.refl _, e2 _ _ h1⟩, fun x h => by cases h⟩, Nat.le_refl _⟩)
    (fun H2 e2 i σ' H' _ ⟨_, xs, t, _⟩ => ⟨Evl.ex_l t.own.ex hls, (ge_ex e2).trans t.own.ge⟩) (fun H2 e2 i x σ' H' H'' hi ⟨s, xs, t, hl⟩ e3 y => ?_) (fun H2 e2 σ' H' ⟨s, xs, t, hl⟩ => ?_)
  · rw [hN] at hi
    have s3 := (s.ex e3).set (i := 2) y
    have t3 := t.on e3
    refine q_asg s3 (ev_mulB (a := 2) (.inl (by decide)) ev_c (ev_int1 (ev_var (i := 2) s3 rfl))) fun σ4 H4 e4 s4 => ?_
    have t4 := t3.on e4
    generalize hz : 2 * cs.getD i 0 = z at s4
    refine q_ifA (b := decide (z < 0)) (T := tyE (.int (((-1 - z).toNat : Nat) : Int))) (R := fun σ' H' => ∃ n : Nat, Sat [some (tyE (.ref ls)), some (tyE (.ref p)), some (tyE (.int (cs.getD i 0))), some (tyE (.int (n : Int))), none, none] σ' H' ∧ TpI K H H2 p xs H') (fun _ _ _ h => h)
      (et_cmp (Evl.ev_op (flat_ev (ev_var (i := 3) s4 rfl)) (flat_ev (K := K) ev_c) (rv_I0 (g := fun i j => V.bl (decide (i < j))))) rfl)
      (fun hb => by
        have hb := of_decide_eq_true hb
        have h := ev_I0 (K := K) (g := fun a b => V.int (a - b)) (i := -1) (j := z) (ev_m1 (σ := σ4) (H := H4)) (ev_var (i := 3) s4 rfl)
        have e : (((-1 - z).toNat : Nat) : Int) = -1 - z := by omega
        rw [e]
        exact h)
      (fun hb v H5 e5 zv => ⟨_, (s4.ex e5).set (i := 3) zv, t4.on e5⟩)
      (fun hb H5 e5 => by
        have hb := of_decide_eq_false hb
        refine ⟨z.toNat, ?_, t4.on e5⟩
        have e : ((z.toNat : Nat) : Int) = z := by omega
        rw [e]
        exact s4.ex e5) (fun σ5 H5 ⟨n, s5, t5⟩ => ?_)
    have ep : EvP (K := K) (tOp (rI CPow fun i j => V.int (i ^ j.toNat)) (tC (.int 10)) (tC (.int 18))) σ5 H5 (tyE (.int ((1000000000000000000 : Nat) : Int))) := ev_I (C := CPow) (g := fun i j => V.int (i ^ j.toNat)) (by unfold CPow; decide) ev_c ev_c
    refine s_if (b := decide (1000000000000000000 ≤ n)) (et_cmp (Evl.ev_op (flat_ev (ev_var (i := 3) s5 rfl)) (flat_ev ep) (rv_I0 (g := fun i j => V.bl (decide (j ≤ i))))) (by rw [decide_eq_decide]; omega)) (fun _ H6 e6 => ?_) (fun hb H6 e6 => ?_)
    · have s6 := s5.ex e6
      have t6 := t5.on e6
      refine s_for (ei_rangeN (K := K) (m := 40) (ea_cons ev_c ea_nil) (by decide)) (fun H7 j σ' H' => ∃ n : Nat, Sat [some (tyE (.ref ls)), some (tyE (.ref p)), some (tyE (.int (cs.getD i 0))), some (tyE (.int (n : Int))), none, none] σ' H' ∧ ∃ xs', TpI K H H2 p xs' H' ∧ xs'.length ≤ 40 * i + j) (fun H7 e7 => ⟨n, s6.ex e7, xs, t6.on e7, hl⟩)
        (fun _ _ _ _ _ _ _ => trivial) (fun H7 e7 j v σ' H' H'' hj ⟨n, s, xs', t, hl'⟩ e8 hv => ?_) (fun H7 e7 σ' H' ⟨n, s, xs', t, hl'⟩ => ⟨(s.forget (i := 2)).forget (i := 3), xs', t, by omega⟩)
      have s8 := (s.ex e8).set (i := 4) hv
      have t8 := t.on e8
      refine s_if (b := decide (0 < n)) (et_cmp (Evl.ev_op (flat_ev (ev_var (i := 3) s8 rfl)) (flat_ev (K := K) ev_c) (rv_I0 (g := fun i j => V.bl (decide (j < i))))) (by rw [decide_eq_decide]; omega)) (fun _ H9 e9 => ?_) (fun hb H9 e9 => ⟨n, (s8.ex e9).forget (i := 4), xs', t8.on e9, by omega⟩)
      have s9 := s8.ex e9
      refine tp_appQ (t8.on e9) (ev_var (i := 1) s9 rfl) (ev_fmod (b := 1000) (ev_int1 (ev_var (i := 3) s9 rfl)) ev_c (by decide)) (by have := Nat.mod_lt n (show 1000 > 0 by decide); omega) (by omega) fun HA gA tA => ?_
      have sA := s9.st gA
      refine s_asg sA (ev_fdivN (b := 1000) (ev_var (i := 3) sA rfl) ev_c (by decide)) fun σB HB eB sB => ⟨n / 1000, sB.forget (i := 4), _, tA.on eB, by rw [List.length_append]; show xs'.length + 1 ≤ _; omega⟩
    · have hb := of_decide_eq_false hb
      have s6 := s5.ex e6
      have t6 := t5.on e6
      refine s_for (ei_rangeN (K := K) (m := 3) (ea_cons ev_c ea_nil) (by decide)) (fun H7 j σ' H' => Sat [some (tyE (.ref ls)), some (tyE (.ref p)), some (tyE (.int (cs.getD i 0))), some (tyE (.int (n : Int))), none, none] σ' H' ∧ ∃ xs', TpI K H H2 p xs' H' ∧ xs'.length ≤ 40 * i + j) (fun H7 e7 => ⟨s6.ex e7, xs, t6.on e7, hl⟩)
        (fun _ _ _ _ _ _ _ => trivial) (fun H7 e7 j v σ' H' H'' hj ⟨s, xs', t, hl'⟩ e8 hv => ?_) (fun H7 e7 σ' H' ⟨s, xs', t, hl'⟩ => ⟨(s.forget (i := 2)).forget (i := 3), xs', t, by omega⟩)
      have s8 := (s.ex e8).set (i := 4) hv
      have t8 := t.on e8
      refine q_asg s8 (ev_fmod (b := 2147483629) (ev_int1 (ev_addN (b := 11) (ev_addN (ev_mulBN (b := 48271) (.inr (by decide)) (ev_var (i := 3) s8 rfl) ev_c) (ev_mulBN (a := j) (b := 40503) (.inr (by decide)) (ev_var (i := 4) s8 rfl) ev_c)) ev_c)) ev_c (by decide)) fun σ9 H9 e9 s9 => ?_
      generalize hr : (n * 48271 + j * 40503 + 11) % 2147483629 = r at s9
      refine tp_app (t8.on e9) (ev_var (i := 1) s9 rfl) (ev_fmod (b := 2147483629) (ev_int1 (ev_addN (ev_mulBN (b := 69621) (.inr (by decide)) (ev_var (i := 5) s9 rfl) ev_c) (ev_fdivN (b := 65536) (ev_var (i := 5) s9 rfl) ev_c (by decide)))) ev_c (by decide)) (by have := Nat.mod_lt (r * 69621 + r / 65536) (show 2147483629 > 0 by decide); omega) (by omega) fun HA gA tA => ?_
      exact ⟨((s9.st gA).forget (i := 4)).forget (i := 5), _, tA, by rw [List.length_append]; show xs'.length + 1 ≤ _; omega⟩
  · refine s_ret (ev_var (i := 1) s rfl) fun v H5 e5 z => kk v H5 (t.own.ex.trans e5) ⟨p, xs, z, hp, (t.on e5).own.at_, t.lo⟩
end
end Pd

/-! The law's drawn numbers. -/
namespace Pd
open PySem PySem.Spec PyProof.Rows L2 Evl Pt Pn
open Pb (Ht Sz entV entM)
section
variable {P : Program} {w : World} {K : PySem.W.Frag} {mg : Str → Option Value} {base : Heap}
theorem callW {σ : L2.St} {H : Hp} {t : TA} {s : Spw K} {Q : VK} (x : s.ι) (hx : ∀ H1, Ex H H1 → s.side x H1) (ha : EvPA t σ H (s.args x)) (k : ∀ H1 v H2, Ex H H1 → Fr (s.S x) H1 H2 → s.post x H1 v H2 → Q v H2) : tCall s.sp [] E0 t σ H Q :=
  ha H (Ex.refl _) _ fun vs H1 e1 zs => by
    refine ⟨x, hx H1 e1, ?_, fun v H2 f z => k H1 v H2 e1 f z⟩
    rw [List.append_nil]
    exact zs
theorem Dr.ge {st lt : Addr} {xs : List Nat} {i : Nat} {H H' : Hp} (d : Dr st lt xs i H) (f : Fr [st] H H') : Ge K H H' := fun a o h im => f a o (fun z => by
  rw [List.mem_singleton.mp z, d.at_] at h
  cases h
  exact im) h
/-- a take -/
theorem take_it {σ : L2.St} {H : Hp} {ta tm : TE} {st lt : Addr} {xs : List Nat} {i m : Nat} {Q : VK} (d : Dr st lt xs i H) (hi : i < 1000) (hm : 0 < m) (ne : st ≠ lt) (ha : EvP (K := K) ta σ H (tyE (.ref st))) (hb : EvP (K := K) tm σ H (tyE (.int (m : Int))))
    (k : ∀ (r : Nat) H', r < m → Fr [st] H H' → Ge K H H' → Dr st lt xs (i + 1) H' → Q (.int (r : Int)) H') : tCall (sTake K).sp [] E0 (tCons ta (tCons tm tNil)) σ H Q :=
  callW (s := sTake K) (st, lt, xs, i, m) (fun H1 e => ⟨d.ex e, hi, hm, ne⟩) (ea_cons ha (ea_cons hb ea_nil)) fun H1 v H2 e f ⟨d2, r, hr, z⟩ => by
    subst z
    have f1 : Fr [st] H H2 := (Fr.of e).trans f
    exact k r H2 hr f1 (d.ge f1) d2
/-- a drawn number -/
structure NumOk (q : Rat) : Prop where
  d : q.den ≤ 3
  n : q.num.natAbs ≤ 6
theorem NumOk.of {a b : Nat} (ha : a < 13) (hb : b < 3) : NumOk (Pb.fr ((a : Int) - 6) ((1 + b : Nat) : Int)) := by
  have key : ∀ a : Fin 13, ∀ b : Fin 3, (Pb.fr ((a.val : Int) - 6) ((1 + b.val : Nat) : Int)).den ≤ 3 ∧ (Pb.fr ((a.val : Int) - 6) ((1 + b.val : Nat) : Int)).num.natAbs ≤ 6 := by decide +kernel
  obtain ⟨h1, h2⟩ := key ⟨a, ha⟩ ⟨b, hb⟩
  exact ⟨h1, h2⟩
abbrev DrX := Addr × Addr × List Nat × Nat
def sNum (K : PySem.W.Frag) : Spw K := ⟨DrX, fun x => [tyE (.ref x.1)], fun x H => Dr x.1 x.2.1 x.2.2.1 x.2.2.2 H ∧ x.2.2.2 < 990 ∧ x.1 ≠ x.2.1, fun x => [x.1],
  fun x _ v H' => Dr x.1 x.2.1 x.2.2.1 (x.2.2.2 + 2) H' ∧ ∃ q, NumOk q ∧ (tyPr (K := K) q).p v H'⟩
theorem sc_f_law_number : FnScope ["_law_state"] ["_law_state"] (defScope sf_law_number) := ⟨rfl, rfl, rfl, by decide +kernel, rfl, by decide +kernel, by decide +kernel⟩
theorem ok_law_number (c : Cxt P K mg base) : Ok P w K mg base df_law_number 35 ["_law_state"] (sNum K).sp := by
  have nd := (sc_f_law_number).nd
  refine okW c.Ff_law_number sc_f_law_number (sNum K) (fun _ => rfl) fun cdv A outer s0 H E hr => ⟨_, PSs.nox ((pss_one (ps_ret (pe_call (ok_law_pair c) (by exact hr.mono (by decide)) rfl c.g_law_pair c.Ff_law_pair.kp c.bf_law_pair .nil pass0 (pa_cons (pe_op op_sub (pe_call (ok_law_take c) (by exact hr.mono (by decide)) rfl c.g_law_take c.Ff_law_take.kp c.bf_law_take .nil pass0 (pa_cons (pv 0) (pa_cons pe_int pa_nil))) pe_int) (pa_cons (pe_op op_add pe_int (pe_call (ok_law_take c) (by exact hr.mono (by decide)) rfl c.g_law_take c.Ff_law_take.kp c.bf_law_take .nil pass0 (pa_cons (pv 0) (pa_cons pe_int pa_nil)))) pa_nil)))))), fun x Q σ hx hs k => ?_⟩
  have kk := k
  obtain ⟨st, lt, xs, i⟩ := x
  obtain ⟨d, hi, ne⟩ : Dr st lt xs i H ∧ i < 990 ∧ st ≠ lt := hx
  have hs : Sat [some (tyE (.ref st))] σ H := hs
  refine take_it (m := 13) d (by omega) (by decide) ne (ev_var (i := 0) hs rfl) ev_c fun a H1 ha f1 g1 d1 => ?_
  refine ⟨_, _, rfl, rfl, ?_⟩
  refine take_it (m := 3) d1 (by omega) (by decide) ne (ev_var (i := 0) (hs.st g1) rfl) ev_c fun b H2 hb f2 g2 d2 => ?_
  refine ⟨_, _, rfl, rfl, ?_⟩
  refine ⟨((a : Int) - 6, 1 + b), ⟨by show 0 < 1 + b; omega, Nat.lt_of_lt_of_le (show 1 + b < 2 ^ 2 by omega) (Nat.pow_le_pow_right (by decide) (by decide))⟩, ?_, fun v H3 e3 z => ?_⟩
  · refine .cons rfl (.cons ?_ .nil)
    show V.int _ = V.int _
    rw [Int.natCast_add]
    rfl
  · exact kk v H3 ((f1.trans f2).trans (Fr.of e3)) ⟨d2.ex e3, _, NumOk.of ha hb, z⟩
end
end Pd

/-! The law's own misfits. -/
namespace Pd
open PySem PySem.Spec PyProof.Rows L2 Evl Pt Pn
open Pb (Ht Sz entV entM)
section
variable {P : Program} {w : World} {K : PySem.W.Frag} {mg : Str → Option Value} {base : Heap}
/-- a drawn reading -/
abbrev tyRd (K : PySem.W.Frag) (r : Rdg) : Ty K := tyTup [tyE (.str r.name), tyTerms K r.ts, tyPr r.val, tyPr r.wt]
/-- the misfit, term by term -/
def mis (r : Rdg) (h : Str → Rat) : Nat → Rat
  | 0 => -r.val
  | k + 1 => mis r h k + ((r.ts.getD k default).2 : Rat) * h (r.ts.getD k default).1
structure MisOk (r : Rdg) (h : Str → Rat) : Prop where
  c : ∀ k, k < r.ts.length → Sz LIM ((r.ts.getD k default).2 : Rat)
  ht : ∀ k, k < r.ts.length → Sz LIM (h (r.ts.getD k default).1)
  p : ∀ k, k < r.ts.length → Sz LIM (((r.ts.getD k default).2 : Rat) * h (r.ts.getD k default).1)
  t : ∀ k, k ≤ r.ts.length → Sz LIM (mis r h k)
abbrev DcX := Addr × List Str × (Str → Rat) × List (Key × V)
def sMis (K : PySem.W.Frag) : Sph K := ⟨Rdg × DcX, fun x => [tyRd K x.1, tyE (.ref x.2.1)], fun x H => Dct K x.2.1 x.2.2.1 (fun n => tyPr (x.2.2.2.1 n)) x.2.2.2.2 H ∧ (∀ k, k < x.1.ts.length → (x.1.ts.getD k default).1 ∈ x.2.2.1) ∧ MisOk x.1 x.2.2.2.1,
  fun x _ v H' => (tyPr (K := K) (mis x.1 x.2.2.2.1 x.1.ts.length)).p v H'⟩
theorem sc_f_law_misfit : FnScope ["_law_reading", "_law_heights_here", "_law_total", "_law_name", "_law_coefficient"] ["_law_reading", "_law_heights_here"] (defScope sf_law_misfit) := ⟨rfl, rfl, rfl, by decide +kernel, rfl, by decide +kernel, by decide +kernel⟩
theorem ok_law_misfit (c : Cxt P K mg base) : Ok P w K mg base df_law_misfit 36 ["_law_reading", "_law_heights_here"] (sMis K).sp := by
  have nd := (sc_f_law_misfit).nd
  refine okH c.Ff_law_misfit sc_f_law_misfit (sMis K) (fun _ => rfl) fun cdv A outer s0 H E hr => ⟨_, PSs.nox ((pss_cons (ps_set (i := 2) nd rfl (by first | exact Or.inl rfl | exact Or.inr rfl) (pe_tup (pa_cons (pe_op op_sub pe_int (pe_ix (ix_tupK K) (pe_ix (ix_tupK K) (pv 0) pe_int (fun _ _ => rfl)) pe_int (fun _ _ => rfl))) (pa_cons (pe_ix (ix_tupK K) (pe_ix (ix_tupK K) (pv 0) pe_int (fun _ _ => rfl)) pe_int (fun _ _ => rfl)) pa_nil))))
      (pss_cons (ps_for PassesOwn.never rfl (pi_tupK K (pe_ix (ix_tupK K) (pv 0) pe_int (fun _ _ => rfl))) (pg_tupK K rfl (pgs_cons (pg_name (i := 3) nd rfl (by first | exact Or.inl rfl | exact Or.inr rfl)) (pgs_cons (pg_name (i := 4) nd rfl (by first | exact Or.inl rfl | exact Or.inr rfl)) pgs_nil))) (pss_one (ps_set (i := 2) nd rfl (by first | exact Or.inl rfl | exact Or.inr rfl) (pe_call (ok_law_plus c) (by exact hr.mono (by decide)) rfl c.g_law_plus c.Ff_law_plus.kp c.bf_law_plus .nil pass0 (pa_cons (pv 2) (pa_cons (pe_call (ok_law_times c) (by exact hr.mono (by decide)) rfl c.g_law_times c.Ff_law_times.kp c.bf_law_times .nil pass0 (pa_cons (pe_tup (pa_cons (pv 4) (pa_cons pe_int pa_nil))) (pa_cons (pe_dget (hu_of hr) (pv 1) (pv 3) (fun _ _ => rfl)) pa_nil))) pa_nil))))))
      (pss_one (ps_ret (pv 2)))))), fun x Q σ hx hs k => ?_⟩
  have kk := k
  obtain ⟨r, p, ns, h, kvs⟩ := x
  obtain ⟨dc, sub, ok⟩ : Dct K p ns (fun n => tyPr (h n)) kvs H ∧ (∀ k, k < r.ts.length → (r.ts.getD k default).1 ∈ ns) ∧ MisOk r h := hx
  have hs : Sat [some (tyRd K r), some (tyE (.ref p)), none, none, none] σ H := hs
  have e0 := ev_var (i := 0) hs rfl
  have ev2 : EvP (K := K) (tOp (rIxT K) (tVar 0) (tC (.int 2))) σ H (tyPr r.val) := ev_nth (i := 2) e0 rfl
  have eN := ev_I0 (g := fun a b => V.int (a - b)) (ev_c (K := K) (v := .int 0)) (ev_n ev2)
  have eD := ev_d ev2
  have q1 : (0 : Int) - r.val.num = (-r.val).num := by rw [show (-r.val).num = -r.val.num from rfl]; omega
  have q2 : r.val.den = (-r.val).den := rfl
  have q1' : V.int ((0 : Int) - r.val.num) = V.int (-r.val).num := by rw [q1]
  have eN : EvP (K := K) _ σ H (tyE (V.int ((0 : Int) - r.val.num))) := eN
  rw [q1'] at eN
  rw [q2] at eD
  refine q_asg (T := tyPr (mis r h 0)) hs (ev_pair eN eD) fun σ1 H1 e1 s1 => ?_
  have ev1 : EvP (K := K) (tOp (rIxT K) (tVar 0) (tC (.int 1))) σ1 H1 (tyTerms K r.ts) := ev_nth (i := 1) (ev_var (i := 0) s1 rfl) rfl
  refine q_for (ei_pin ev1) (fun H2 i σ' H' => Ex H2 H' ∧ Sat [some (tyRd K r), some (tyE (.ref p)), some (tyPr (mis r h i)), none, none] σ' H') (fun H2 e2 => ⟨Ex.refl _, s1.ex e2⟩)
    (fun H2 e2 i σ' H' _ q => ge_ex q.1) (fun H2 e2 i x σ' H' H'' hi q e3 y => ?_) (fun H2 e2 σ' H' q => ?_)
  · refine g_pair y fun u v hu hv => ?_
    have s3 := ((q.2.ex e3).set (i := 3) hu).set (i := 4) hv
    have d3 := dc.ex (e1.trans (e2.trans (q.1.trans e3)))
    have eC : EvP (K := K) (tTup (tCons (tVar 4) (tCons (tC (.int 1)) tNil))) _ H'' (tyPr ((r.ts.getD i default).2 : Rat)) := ev_pair (ev_var (i := 4) s3 rfl) ev_c
    have eH := ev_dget d3 (ev_var (i := 1) s3 rfl) (ev_var (i := 3) s3 rfl) (sub i hi)
    refine s_asg (T := tyPr (mis r h (i + 1))) s3 (ev_call (s := sPlusL K) (mis r h i, ((r.ts.getD i default).2 : Rat) * h (r.ts.getD i default).1) ⟨ok.t i (Nat.le_of_lt hi), ok.p i hi⟩ (ea_cons (ev_var (i := 2) s3 rfl) (ea_cons (ev_call (s := sTimesL K) (((r.ts.getD i default).2 : Rat), h (r.ts.getD i default).1) ⟨ok.c i hi, ok.ht i hi⟩ (ea_cons eC (ea_cons eH ea_nil))) ea_nil))) fun σ4 H4 e4 s4 => ⟨q.1.trans (e3.trans e4), (s4.forget (i := 3)).forget (i := 4)⟩
  · exact s_ret (ev_var (i := 2) q.2 rfl) fun v H3 e3 z => kk v H3 (e1.trans (e2.trans (q.1.trans e3))) z
end
end Pd

/-! The law's own squares. -/
namespace Pd
open PySem PySem.Spec PyProof.Rows L2 Evl Pt Pn
open Pb (Ht Sz entV entM)
section
variable {P : Program} {w : World} {K : PySem.W.Frag} {mg : Str → Option Value} {base : Heap}
/-- a reading's misfit -/
def misA (r : Rdg) (h : Str → Rat) : Rat := mis r h r.ts.length
def sqs (rds : List Rdg) (h : Str → Rat) : Nat → Rat
  | 0 => 0
  | k + 1 => sqs rds h k + (rds.getD k default).wt * (misA (rds.getD k default) h * misA (rds.getD k default) h)
structure SqsOk (rds : List Rdg) (h : Str → Rat) : Prop where
  m : ∀ k, k < rds.length → MisOk (rds.getD k default) h
  w : ∀ k, k < rds.length → Sz LIM (rds.getD k default).wt
  q : ∀ k, k < rds.length → Sz LIM (misA (rds.getD k default) h * misA (rds.getD k default) h)
  p : ∀ k, k < rds.length → Sz LIM ((rds.getD k default).wt * (misA (rds.getD k default) h * misA (rds.getD k default) h))
  t : ∀ k, k ≤ rds.length → Sz LIM (sqs rds h k)
structure SvX where
  near : V
  lr : Addr
  rs : List V
  rds : List Rdg
/-- a survey's readings -/
structure SvR (K : PySem.W.Frag) (s : SvX) (H : Hp) : Prop where
  at_ : H s.lr = some (.lst s.rs)
  ln : s.rs.length = s.rds.length
  its : Its (K := K) (fun i => tyRd K (s.rds.getD i default)) s.rs H
theorem SvR.ex {s : SvX} {H H' : Hp} (h : SvR K s H) (e : Ex H H') : SvR K s H' := ⟨e _ _ h.at_, h.ln, h.its.ex e⟩
abbrev tySv (K : PySem.W.Frag) (s : SvX) : Ty K := tyTup [tyE s.near, tyE (.ref s.lr)]
def sSqL (K : PySem.W.Frag) : Sph K := ⟨SvX × DcX, fun x => [tySv K x.1, tyE (.ref x.2.1)],
  fun x H => SvR K x.1 H ∧ Dct K x.2.1 x.2.2.1 (fun n => tyPr (x.2.2.2.1 n)) x.2.2.2.2 H ∧ (∀ i, i < x.1.rds.length → ∀ k, k < (x.1.rds.getD i default).ts.length → ((x.1.rds.getD i default).ts.getD k default).1 ∈ x.2.2.1) ∧ SqsOk x.1.rds x.2.2.2.1,
  fun x _ v H' => (tyPr (K := K) (sqs x.1.rds x.2.2.2.1 x.1.rds.length)).p v H'⟩
theorem sc_f_law_squares : FnScope ["_law_survey_here", "_law_heights_here", "_law_total", "_law_reading", "_law_misfit_here"] ["_law_survey_here", "_law_heights_here"] (defScope sf_law_squares) := ⟨rfl, rfl, rfl, by decide +kernel, rfl, by decide +kernel, by decide +kernel⟩
theorem ok_law_squares (c : Cxt P K mg base) : Ok P w K mg base df_law_squares 37 ["_law_survey_here", "_law_heights_here"] (sSqL K).sp := by
  have nd := (sc_f_law_squares).nd
  refine okH c.Ff_law_squares sc_f_law_squares (sSqL K) (fun _ => rfl) fun cdv A outer s0 H E hr => ⟨_, PSs.nox ((pss_cons (ps_set (i := 2) nd rfl (by first | exact Or.inl rfl | exact Or.inr rfl) (pe_tup (pa_cons pe_int (pa_cons pe_int pa_nil))))
      (pss_cons (ps_for PassesOwn.never rfl (pi_listK K (pe_ix (ix_tupK K) (pv 0) pe_int (fun _ _ => rfl))) (pg_name (i := 3) nd rfl (by first | exact Or.inl rfl | exact Or.inr rfl)) (pss_cons (ps_set (i := 4) nd rfl (by first | exact Or.inl rfl | exact Or.inr rfl) (pe_call (ok_law_misfit c) (by exact hr.mono (by decide)) rfl c.g_law_misfit c.Ff_law_misfit.kp c.bf_law_misfit .nil pass0 (pa_cons (pv 3) (pa_cons (pv 1) pa_nil))))
      (pss_one (ps_set (i := 2) nd rfl (by first | exact Or.inl rfl | exact Or.inr rfl) (pe_call (ok_law_plus c) (by exact hr.mono (by decide)) rfl c.g_law_plus c.Ff_law_plus.kp c.bf_law_plus .nil pass0 (pa_cons (pv 2) (pa_cons (pe_call (ok_law_times c) (by exact hr.mono (by decide)) rfl c.g_law_times c.Ff_law_times.kp c.bf_law_times .nil pass0 (pa_cons (pe_ix (ix_tupK K) (pv 3) pe_int (fun _ _ => rfl)) (pa_cons (pe_call (ok_law_times c) (by exact hr.mono (by decide)) rfl c.g_law_times c.Ff_law_times.kp c.bf_law_times .nil pass0 (pa_cons (pv 4) (pa_cons (pv 4) pa_nil))) pa_nil))) pa_nil)))))))
      (pss_one (ps_ret (pv 2)))))), fun x Q σ hx hs k => ?_⟩
  have kk := k
  obtain ⟨s, p, ns, h, kvs⟩ := x
  obtain ⟨sv, dc, sub, ok⟩ : SvR K s H ∧ Dct K p ns (fun n => tyPr (h n)) kvs H ∧ (∀ i, i < s.rds.length → ∀ k, k < (s.rds.getD i default).ts.length → ((s.rds.getD i default).ts.getD k default).1 ∈ ns) ∧ SqsOk s.rds h := hx
  have hs : Sat [some (tySv K s), some (tyE (.ref p)), none, none, none] σ H := hs
  refine q_asg (T := tyPr (sqs s.rds h 0)) hs (ev_pair ev_c ev_c) fun σ1 H1 e1 s1 => ?_
  have sv1 := sv.ex e1
  have evR : EvP (K := K) (tOp (rIxT K) (tVar 0) (tC (.int 1))) σ1 H1 (tyE (.ref s.lr)) := ev_nth (i := 1) (ev_var (i := 0) s1 rfl) rfl
  refine q_for (ei_list (T := fun j => tyRd K (s.rds.getD j default)) evR (SqL.of sv1.at_) sv1.its) (fun H2 i σ' H' => Ex H2 H' ∧ Sat [some (tySv K s), some (tyE (.ref p)), some (tyPr (sqs s.rds h i)), none, none] σ' H') (fun H2 e2 => ⟨Ex.refl _, s1.ex e2⟩)
    (fun H2 e2 i σ' H' _ q => ⟨SqL.of ((e2.trans q.1) _ _ sv1.at_), ge_ex (e2.trans q.1)⟩) (fun H2 e2 i x σ' H' H'' hi q e3 y => ?_) (fun H2 e2 σ' H' q => ?_)
  · rw [sv.ln] at hi
    have s3 := (q.2.ex e3).set (i := 3) y
    have d3 := dc.ex (e1.trans (e2.trans (q.1.trans e3)))
    refine q_asg (T := tyPr (misA (s.rds.getD i default) h)) s3 (ev_callH (s := sMis K) (s.rds.getD i default, p, ns, h, kvs) (fun H4 e => ⟨d3.ex e, sub i hi, ok.m i hi⟩) (ea_cons (ev_var (i := 3) s3 rfl) (ea_cons (ev_var (i := 1) s3 rfl) ea_nil)) fun _ _ _ _ _ z => z) fun σ4 H4 e4 s4 => ?_
    have mO : Sz LIM (misA (s.rds.getD i default) h) := (ok.m i hi).t _ (Nat.le_refl _)
    have e4v := ev_var (i := 4) s4 rfl
    have eW : EvP (K := K) (tOp (rIxT K) (tVar 3) (tC (.int 3))) σ4 H4 (tyPr (s.rds.getD i default).wt) := ev_nth (i := 3) (ev_var (i := 3) s4 rfl) rfl
    refine s_asg (T := tyPr (sqs s.rds h (i + 1))) s4 (ev_call (s := sPlusL K) (sqs s.rds h i, (s.rds.getD i default).wt * (misA (s.rds.getD i default) h * misA (s.rds.getD i default) h)) ⟨ok.t i (Nat.le_of_lt hi), ok.p i hi⟩
      (ea_cons (ev_var (i := 2) s4 rfl) (ea_cons (ev_call (s := sTimesL K) ((s.rds.getD i default).wt, misA (s.rds.getD i default) h * misA (s.rds.getD i default) h) ⟨ok.w i hi, ok.q i hi⟩ (ea_cons eW (ea_cons (ev_call (s := sTimesL K) (misA (s.rds.getD i default) h, misA (s.rds.getD i default) h) ⟨mO, mO⟩ (ea_cons e4v (ea_cons e4v ea_nil))) ea_nil))) ea_nil)))
      fun σ5 H5 e5 s5 => ⟨q.1.trans (e3.trans (e4.trans e5)), (s5.forget (i := 3)).forget (i := 4)⟩
  · refine s_ret (ev_var (i := 2) q.2 rfl) fun v H3 e3 z => kk v H3 (e1.trans (e2.trans (q.1.trans e3))) ?_
    rw [sv.ln] at z
    exact z
end
end Pd

/-! The plain law: sums by names, one part, the join, the net. -/
namespace Pd
open PySem
open Pb (S dot mv)
section
def sumL {α : Type} (F : α → Rat) : List α → Rat
  | [] => 0
  | a :: l => F a + sumL F l
theorem sumL_app {α : Type} (F : α → Rat) : ∀ l m : List α, sumL F (l ++ m) = sumL F l + sumL F m
  | [], m => by simp only [List.nil_append, sumL]; grind
  | a :: l, m => by simp only [List.cons_append, sumL, sumL_app F l m]; grind
theorem sumL_cg {α : Type} {F G : α → Rat} : ∀ {l : List α}, (∀ x, x ∈ l → F x = G x) → sumL F l = sumL G l
  | [], _ => rfl
  | a :: l, h => by simp only [sumL, h a List.mem_cons_self, sumL_cg fun x hx => h x (List.mem_cons_of_mem _ hx)]
theorem S_list {α : Type} [Inhabited α] (F : α → Rat) : ∀ l : List α, S l.length (fun k => F (l.getD k default)) = sumL F l
  | [] => rfl
  | a :: l => by
    rw [show (a :: l).length = 1 + l.length from Nat.add_comm _ _, Pb.S_split]
    have e1 : S 1 (fun k => F ((a :: l).getD k default)) = F a := by
      show (0 : Rat) + F a = _
      grind
    have e2 : S l.length (fun k => F ((a :: l).getD (1 + k) default)) = S l.length fun k => F (l.getD k default) := Pb.S_congr fun k _ => by
      rw [show 1 + k = k + 1 from Nat.add_comm _ _, List.getD_cons_succ]
    rw [e1, e2, S_list F l]
    rfl
/-- the sum over a reading's terms -/
def lin (ts : List (Str × Int)) (h : Str → Rat) : Rat := sumL (fun t : Str × Int => (t.2 : Rat) * h t.1) ts
def qsL (rds : List Rdg) (h : Str → Rat) : Rat := sumL (fun r : Rdg => r.wt * (misA r h * misA r h)) rds
def dsL (rds : List Rdg) (h g : Str → Rat) : Rat := sumL (fun r : Rdg => r.wt * (misA r h * lin r.ts g)) rds
theorem mis_eq (r : Rdg) (h : Str → Rat) : ∀ k, mis r h k = S k (fun k => ((r.ts.getD k default).2 : Rat) * h (r.ts.getD k default).1) - r.val
  | 0 => by simp only [mis, Pb.S_zero]; grind
  | k + 1 => by rw [mis, mis_eq r h k, Pb.S_succ]; grind
theorem misA_eq (r : Rdg) (h : Str → Rat) : misA r h = lin r.ts h - r.val := by
  unfold misA lin
  rw [mis_eq, S_list (fun t : Str × Int => (t.2 : Rat) * h t.1)]
theorem sqs_S (rds : List Rdg) (h : Str → Rat) : ∀ k, sqs rds h k = S k (fun k => (rds.getD k default).wt * (misA (rds.getD k default) h * misA (rds.getD k default) h))
  | 0 => rfl
  | k + 1 => by rw [sqs, sqs_S rds h k, Pb.S_succ]
theorem sqs_qsL (rds : List Rdg) (h : Str → Rat) : sqs rds h rds.length = qsL rds h := by
  rw [sqs_S, S_list (fun r : Rdg => r.wt * (misA r h * misA r h))]
  rfl
theorem lin_dot {pts : List Str} {h : Str → Rat} (nd : pts.Nodup) : ∀ {ts : List (Str × Int)}, (ts.map fun x => x.1).Nodup → (∀ n, n ∈ ts.map (fun x => x.1) → n ∈ pts) →
    dot pts.length (fun i => (coef ts (pts.getD i default) : Rat)) (fun i => h (pts.getD i default)) = lin ts h
  | [], _, _ => Pb.S_all0 fun i _ => by simp only [coef]; grind
  | (m, c) :: r, nt, sub => by
    rw [List.map_cons, List.nodup_cons] at nt
    have ih := lin_dot nd (h := h) nt.2 fun n hn => sub n (List.mem_cons_of_mem _ hn)
    have hm := sub m List.mem_cons_self
    obtain ⟨j, hj, ej⟩ := List.getElem_of_mem hm
    have ej' : pts.getD j default = m := by rw [List.getD_eq_getElem?_getD, List.getElem?_eq_getElem hj]; exact ej
    have e0 : coef r m = 0 := coef_none nt.1
    have e1 : dot pts.length (fun i => ((if m = pts.getD i default then c else 0 : Int) : Rat)) (fun i => h (pts.getD i default)) = (c : Rat) * h m := by
      have z := Pb.S_one (n := pts.length) (k := j) (f := fun i => ((if m = pts.getD i default then c else 0 : Int) : Rat) * h (pts.getD i default)) hj fun i hi ne => by
        have : m ≠ pts.getD i default := fun e => ne (by
          rw [← ej'] at e
          simp only [List.getD_eq_getElem?_getD] at e
          rw [List.getElem?_eq_getElem hj, List.getElem?_eq_getElem hi] at e
          exact ((List.getElem_inj nd).mp e).symm)
        rw [if_neg this]
        grind
      unfold dot
      rw [z, ej', if_pos rfl]
    have e2 : ∀ i, i < pts.length → ((coef ((m, c) :: r) (pts.getD i default) : Int) : Rat) = ((if m = pts.getD i default then c else 0 : Int) : Rat) + (coef r (pts.getD i default) : Rat) := fun i _ => by
      rw [coef]
      by_cases q : m = pts.getD i default
      · rw [if_pos q, if_pos q, ← q, e0]; grind
      · rw [if_neg q, if_neg q]; grind
    rw [Pb.dot_congr e2 fun _ _ => rfl, Pb.dot_addl, e1, ih]
    rfl
variable {pts : List Str} {rds : List Rdg} {h g : Str → Rat}
theorem row_lin (nd : pts.Nodup) (inn : ∀ r, r ∈ rds → RdIn pts r) {k : Nat} (hk : k < rds.length) : dot pts.length (rowA pts rds k) (fun i => h (pts.getD i default)) = lin (rds.getD k default).ts h :=
  lin_dot nd (inn _ (getD_mem hk)).nd (inn _ (getD_mem hk)).sub
theorem Qs_qsL (nd : pts.Nodup) (inn : ∀ r, r ∈ rds → RdIn pts r) : Pb.Qs pts.length rds.length (rowA pts rds) (rowW rds) (rowV rds) (fun i => h (pts.getD i default)) = qsL rds h := by
  unfold Pb.Qs qsL
  rw [← S_list]
  exact Pb.S_congr fun k hk => by rw [row_lin nd inn hk, misA_eq]; rfl
theorem Ds_dsL (nd : pts.Nodup) (inn : ∀ r, r ∈ rds → RdIn pts r) : Pb.Ds pts.length rds.length (rowA pts rds) (rowW rds) (rowV rds) (fun i => h (pts.getD i default)) (fun i => g (pts.getD i default)) = dsL rds h g := by
  unfold Pb.Ds dsL
  rw [← S_list]
  exact Pb.S_congr fun k hk => by rw [row_lin nd inn hk, row_lin nd inn hk, misA_eq]; rfl
theorem Qs_cg {n m : Nat} {a : Nat → Nat → Rat} {w v x y : Nat → Rat} (e : ∀ i, i < n → x i = y i) : Pb.Qs n m a w v x = Pb.Qs n m a w v y := by
  unfold Pb.Qs
  exact Pb.S_congr fun k _ => by rw [Pb.dot_congr (fun _ _ => rfl) e]
theorem Ds_cg {n m : Nat} {a : Nat → Nat → Rat} {w v x y x' y' : Nat → Rat} (e : ∀ i, i < n → x i = y i) (e' : ∀ i, i < n → x' i = y' i) : Pb.Ds n m a w v x x' = Pb.Ds n m a w v y y' := by
  unfold Pb.Ds
  exact Pb.S_congr fun k _ => by rw [Pb.dot_congr (fun _ _ => rfl) e, Pb.dot_congr (fun _ _ => rfl) e']
theorem glue_names {ns inn : List Str} {i : Nat} : Pb.glue ns.length (fun i => h (ns.getD i default)) (fun i => h (inn.getD i default)) i = h ((ns ++ inn).getD i default) := by
  unfold Pb.glue
  simp only [List.getD_eq_getElem?_getD, List.getElem?_append]
  split <;> rfl
/-! ### nearest -/
theorem near_solves {n : Nat} {M P : Nat → Nat → Rat} {b st : Nat → Rat} {C : Rat} (pen : Pb.Pen n M P) (sm : Pb.Sym n M) (pos : ∀ x, 0 ≤ formAt n M b C x) : ∀ i, i < n → mv n M (nearV n M P b st) i = b i := by
  -- z = b - M P b
  let z : Nat → Rat := fun i => b i - mv n M (mv n P b) i
  have sp := pen.sym sm
  have kz : ∀ i, i < n → mv n M z i = 0 := fun i hi => by
    show mv n M (fun i => b i - mv n M (mv n P b) i) i = 0
    rw [Pb.mv_sub]
    simp only
    rw [pen.mmp sm b i hi]
    grind
  have bz : dot n b z = 0 := by
    have q : ∀ t : Rat, 0 ≤ C - 2 * t * dot n b z := fun t => by
      have p := pos fun i => t * z i
      unfold formAt at p
      have e1 : dot n (fun i => t * z i) (mv n M fun i => t * z i) = 0 := Pb.S_all0 fun i hi => by
        rw [Pb.mv_mul]
        simp only
        rw [kz i hi]
        grind
      rw [e1, Pb.dot_mul] at p
      have : (((2 : Int) : Rat)) = 2 := rfl
      rw [this] at p
      grind
    have q0 := q 0
    refine Classical.byContradiction fun ne => ?_
    have q1 := q ((C + 1) / (2 * dot n b z))
    have : 2 * ((C + 1) / (2 * dot n b z)) * dot n b z = C + 1 := by grind
    rw [this] at q1
    grind
  have zz : dot n z z = 0 := by
    have e1 : dot n z z = dot n b z - dot n (mv n M (mv n P b)) z := Pb.dot_subl _ _ _ _
    have e2 : dot n (mv n M (mv n P b)) z = 0 := by
      rw [← sm.dot]
      exact Pb.S_all0 fun i hi => by rw [kz i hi]; grind
    rw [e1, bz, e2]
    grind
  have z0 := Pb.dot_self_zero zz
  intro i hi
  have f1 : mv n M (mv n P b) i = b i := by
    have := z0 i hi
    simp only [z] at this
    grind
  have f2 := pen.a st i hi
  have f3 : mv n P (fun i => b i - mv n M st i) = fun i => mv n P b i - mv n P (mv n M st) i := Pb.mv_sub _ _ _ _
  show mv n M (fun i => st i + mv n P (fun i => b i - mv n M st i) i) i = b i
  rw [f3, Pb.mv_add, Pb.mv_sub]
  simp only
  rw [f1, f2]
  grind
end
end Pd

/-! The plain law: the parts, the join, the net. -/
namespace Pd
open PySem
open Pb (S dot mv)
/-- a part's readings are of its points, with weights above 0 -/
structure PRd (pts : List Str) (rds : List Rdg) : Prop where
  nd : pts.Nodup
  inn : ∀ r, r ∈ rds → RdIn pts r
  pos : ∀ r, r ∈ rds → 0 < r.wt
section
variable {ns inn : List Str} {rds : List Rdg} {P P' : Nat → Nat → Rat} {x st : Nat → Rat} {h g : Str → Rat}
theorem PRd.hw {pts : List Str} (q : PRd pts rds) : ∀ k, k < rds.length → 0 < rowW rds k := fun k hk => q.pos _ (getD_mem hk)
abbrev fA (ns inn : List Str) (rds : List Rdg) (P : Nat → Nat → Rat) := Pb.formA ns.length inn.length rds.length (rowA (ns ++ inn) rds) (rowW rds) P
abbrev fB (ns inn : List Str) (rds : List Rdg) (P : Nat → Nat → Rat) := Pb.formB ns.length inn.length rds.length (rowA (ns ++ inn) rds) (rowW rds) (rowV rds) P
abbrev fC (ns inn : List Str) (rds : List Rdg) (P : Nat → Nat → Rat) := Pb.formC ns.length inn.length rds.length (rowA (ns ++ inn) rds) (rowW rds) (rowV rds) P
abbrev pN (ns inn : List Str) (rds : List Rdg) := Pb.gN rds.length (Pb.inn ns.length (rowA (ns ++ inn) rds)) (rowW rds)
abbrev pW (ns inn : List Str) (rds : List Rdg) (x : Nat → Rat) := Pb.want ns.length rds.length (rowA (ns ++ inn) rds) (rowW rds) (rowV rds) x
/-- the inner heights -/
abbrev pY (ns inn : List Str) (rds : List Rdg) (P : Nat → Nat → Rat) (x st : Nat → Rat) : Nat → Rat := nearV inn.length (pN ns inn rds) P (pW ns inn rds x) st
theorem pY_ok (q : PRd (ns ++ inn) rds) (p : Pb.Pen inn.length (pN ns inn rds) P) : ∀ i, i < inn.length → mv inn.length (pN ns inn rds) (pY ns inn rds P x st) i = pW ns inn rds x i :=
  Pb.inner_ok q.hw p x st
theorem form_sym (p : Pb.Pen inn.length (pN ns inn rds) P) : Pb.Sym ns.length (fA ns inn rds P) := Pb.formA_sym p
theorem form_pos (q : PRd (ns ++ inn) rds) (p : Pb.Pen inn.length (pN ns inn rds) P) (x : Nat → Rat) : 0 ≤ formAt ns.length (fA ns inn rds P) (fB ns inn rds P) (fC ns inn rds P) x := by
  have e := Pb.form_val q.hw p (pY_ok (x := x) (st := fun _ => 0) q p)
  have n := Pb.Qs_nonneg (n := ns.length + inn.length) (a := rowA (ns ++ inn) rds) (v := rowV rds) q.hw (Pb.glue ns.length x (pY ns inn rds P x fun _ => 0))
  rw [e] at n
  exact n
/-- heights by names that are the border's and the inner ones -/
structure HtOf (ns inn : List Str) (x y : Nat → Rat) (h : Str → Rat) : Prop where
  b : ∀ i, i < ns.length → h (ns.getD i default) = x i
  i : ∀ i, i < inn.length → h (inn.getD i default) = y i
theorem HtOf.glue {y : Nat → Rat} (e : HtOf ns inn x y h) {i : Nat} (hi : i < (ns ++ inn).length) : Pb.glue ns.length x y i = h ((ns ++ inn).getD i default) := by
  rw [← glue_names (h := h) (ns := ns) (inn := inn) (i := i)]
  rw [List.length_append] at hi
  unfold Pb.glue
  split
  · rename_i h1; exact (e.b i h1).symm
  · exact (e.i _ (by omega)).symm
theorem part_val (q : PRd (ns ++ inn) rds) (p : Pb.Pen inn.length (pN ns inn rds) P) (p' : Pb.Pen inn.length (pN ns inn rds) P') (e : HtOf ns inn x (pY ns inn rds P' x st) h) :
    formAt ns.length (fA ns inn rds P) (fB ns inn rds P) (fC ns inn rds P) x = qsL rds h := by
  rw [← Qs_qsL q.nd q.inn]
  have z := Pb.form_val q.hw p (pY_ok (x := x) (st := st) q p')
  have z2 : Pb.Qs (ns ++ inn).length rds.length (rowA (ns ++ inn) rds) (rowW rds) (rowV rds) (fun i => h ((ns ++ inn).getD i default)) = Pb.Qs (ns.length + inn.length) rds.length (rowA (ns ++ inn) rds) (rowW rds) (rowV rds) (Pb.glue ns.length x (pY ns inn rds P' x st)) := by
    rw [List.length_append]
    exact Qs_cg fun i hi => (e.glue (by rw [List.length_append]; exact hi)).symm
  rw [z2, z]
  rfl
theorem part_grad (q : PRd (ns ++ inn) rds) (p : Pb.Pen inn.length (pN ns inn rds) P) (p' : Pb.Pen inn.length (pN ns inn rds) P') (e : HtOf ns inn x (pY ns inn rds P' x st) h) (g : Str → Rat) :
    dsL rds h g = dot ns.length (fun i => g (ns.getD i default)) (fun i => mv ns.length (fA ns inn rds P) x i - fB ns inn rds P i) := by
  rw [← Ds_dsL q.nd q.inn]
  have z := Pb.form_grad q.hw p (pY_ok (x := x) (st := st) q p') (fun i => g (ns.getD i default)) (fun i => g (inn.getD i default))
  rw [← z, List.length_append]
  exact Ds_cg (fun i hi => (e.glue (by rw [List.length_append]; exact hi)).symm) fun i _ => glue_names.symm
/-! ### the join -/
/-- joined one by one -/
def jA (F : Nat → Nat → Nat → Rat) : Nat → Nat → Nat → Rat
  | 0 => F 0
  | k + 1 => fun i j => jA F k i j + F (k + 1) i j
def jB (F : Nat → Nat → Rat) : Nat → Nat → Rat
  | 0 => F 0
  | k + 1 => fun i => jB F k i + F (k + 1) i
def jC (F : Nat → Rat) : Nat → Rat
  | 0 => F 0
  | k + 1 => jC F k + F (k + 1)
theorem j_mv {n : Nat} {F : Nat → Nat → Nat → Rat} {x : Nat → Rat} : ∀ (k i : Nat), mv n (jA F k) x i = jB (fun p => mv n (F p) x) k i
  | 0, i => rfl
  | k + 1, i => by
    show dot n (fun j => jA F k i j + F (k + 1) i j) x = _
    rw [Pb.dot_addl]
    show mv n (jA F k) x i + _ = _
    rw [j_mv k i]
    rfl
theorem j_dot {n : Nat} {F : Nat → Nat → Rat} {y : Nat → Rat} : ∀ k : Nat, dot n y (jB F k) = jC (fun p => dot n y (F p)) k
  | 0 => rfl
  | k + 1 => by
    show dot n y (fun i => jB F k i + F (k + 1) i) = _
    rw [Pb.dot_add, j_dot k]
    rfl
theorem j_sub {F G : Nat → Nat → Rat} : ∀ (k i : Nat), jB F k i - jB G k i = jB (fun p i => F p i - G p i) k i
  | 0, i => rfl
  | k + 1, i => by
    show jB F k i + F (k + 1) i - (jB G k i + G (k + 1) i) = jB (fun p i => F p i - G p i) k i + (F (k + 1) i - G (k + 1) i)
    rw [← j_sub k i]
    grind
theorem jC_cg {F G : Nat → Rat} : ∀ {k : Nat}, (∀ p, p ≤ k → F p = G p) → jC F k = jC G k
  | 0, h => h 0 (Nat.le_refl _)
  | k + 1, h => by
    show jC F k + _ = jC G k + _
    rw [jC_cg fun p hp => h p (by omega), h (k + 1) (Nat.le_refl _)]
theorem jC_nonneg {F : Nat → Rat} : ∀ {k : Nat}, (∀ p, p ≤ k → 0 ≤ F p) → 0 ≤ jC F k
  | 0, h => h 0 (Nat.le_refl _)
  | k + 1, h => by
    have h1 := jC_nonneg fun p hp => h p (Nat.le_succ_of_le hp)
    have h2 := h (k + 1) (Nat.le_refl _)
    show 0 ≤ jC F k + F (k + 1)
    grind
theorem j_form {n : Nat} {A : Nat → Nat → Nat → Rat} {B : Nat → Nat → Rat} {C : Nat → Rat} {x : Nat → Rat} : ∀ k : Nat, formAt n (jA A k) (jB B k) (jC C k) x = jC (fun p => formAt n (A p) (B p) (C p) x) k
  | 0 => rfl
  | k + 1 => by
    show _ = jC (fun p => formAt n (A p) (B p) (C p) x) k + formAt n (A (k + 1)) (B (k + 1)) (C (k + 1)) x
    rw [← j_form k]
    unfold formAt
    rw [show mv n (jA A (k + 1)) x = fun i => mv n (jA A k) x i + mv n (A (k + 1)) x i from funext fun i => Pb.dot_addl _ _ _ _, Pb.dot_add]
    rw [show dot n (jB B (k + 1)) x = dot n (jB B k) x + dot n (B (k + 1)) x from Pb.dot_addl _ _ _ _]
    show _ + _ - _ * (_ + _) + (jC C k + C (k + 1)) = _
    grind
theorem j_sym {n : Nat} {A : Nat → Nat → Nat → Rat} : ∀ {k : Nat}, (∀ p, p ≤ k → Pb.Sym n (A p)) → Pb.Sym n (jA A k)
  | 0, h => h 0 (Nat.le_refl _)
  | k + 1, h => fun i j hi hj => by
    show jA A k i j + _ = jA A k j i + _
    rw [j_sym (k := k) (fun p hp => h p (by omega)) i j hi hj, h (k + 1) (Nat.le_refl _) i j hi hj]
/-- the readings of the parts up to k -/
def jR (R : Nat → List Rdg) : Nat → List Rdg
  | 0 => R 0
  | k + 1 => jR R k ++ R (k + 1)
theorem jR_sum {F : Rdg → Rat} {R : Nat → List Rdg} : ∀ k, sumL F (jR R k) = jC (fun p => sumL F (R p)) k
  | 0 => rfl
  | k + 1 => by rw [jR, sumL_app, jR_sum k]; rfl
/-- the parts of a whole -/
structure Parts (ns : List Str) (m : Nat) (I : Nat → List Str) (R : Nat → List Rdg) (P P' : Nat → Nat → Nat → Rat) : Prop where
  q : ∀ p, p ≤ m → PRd (ns ++ I p) (R p)
  p : ∀ p, p ≤ m → Pb.Pen (I p).length (pN ns (I p) (R p)) (P p)
  p' : ∀ p, p ≤ m → Pb.Pen (I p).length (pN ns (I p) (R p)) (P' p)
variable {m : Nat} {I : Nat → List Str} {R : Nat → List Rdg} {PF PI : Nat → Nat → Nat → Rat} {PJ : Nat → Nat → Rat} {sti : Nat → Nat → Rat}
theorem join_pos (w : Parts ns m I R PF PI) (x : Nat → Rat) : 0 ≤ formAt ns.length (jA (fun p => fA ns (I p) (R p) (PF p)) m) (jB (fun p => fB ns (I p) (R p) (PF p)) m) (jC (fun p => fC ns (I p) (R p) (PF p)) m) x := by
  rw [j_form]
  exact jC_nonneg fun p hp => form_pos (w.q p hp) (w.p p hp) x
/-- the least heights: no direction changes the squares; the squares are the form's value -/
theorem join_least (w : Parts ns m I R PF PI) (pj : Pb.Pen ns.length (jA (fun p => fA ns (I p) (R p) (PF p)) m) PJ)
    (ex : ∀ i, i < ns.length → x i = nearV ns.length (jA (fun p => fA ns (I p) (R p) (PF p)) m) PJ (jB (fun p => fB ns (I p) (R p) (PF p)) m) st i)
    (e : ∀ p, p ≤ m → HtOf ns (I p) x (pY ns (I p) (R p) (PI p) x (sti p)) h) :
    (∀ g, dsL (jR R m) h g = 0) ∧ formAt ns.length (jA (fun p => fA ns (I p) (R p) (PF p)) m) (jB (fun p => fB ns (I p) (R p) (PF p)) m) (jC (fun p => fC ns (I p) (R p) (PF p)) m) x = qsL (jR R m) h := by
  constructor
  · intro g
    unfold dsL
    rw [jR_sum]
    have c : ∀ p, p ≤ m → sumL (fun r : Rdg => r.wt * (misA r h * lin r.ts g)) (R p) = dot ns.length (fun i => g (ns.getD i default)) (fun i => mv ns.length (fA ns (I p) (R p) (PF p)) x i - fB ns (I p) (R p) (PF p) i) :=
      fun p hp => part_grad (w.q p hp) (w.p p hp) (w.p' p hp) (e p hp) g
    rw [jC_cg c, ← j_dot (F := fun p i => mv ns.length (fA ns (I p) (R p) (PF p)) x i - fB ns (I p) (R p) (PF p) i)]
    refine Pb.S_all0 fun i hi => ?_
    rw [← j_sub (F := fun p => mv ns.length (fA ns (I p) (R p) (PF p)) x) (G := fun p => fB ns (I p) (R p) (PF p)) m i, ← j_mv]
    have s := near_solves (b := jB (fun p => fB ns (I p) (R p) (PF p)) m) (st := st) pj (j_sym fun p hp => form_sym (w.p p hp)) (join_pos w) i hi
    rw [← Pb.mv_congr ex] at s
    rw [s]
    grind
  · rw [j_form]
    unfold qsL
    rw [jR_sum]
    exact jC_cg fun p hp => part_val (w.q p hp) (w.p p hp) (w.p' p hp) (e p hp)
end
/-! ### the net -/
section
variable {pts : List Str} {rds : List Rdg} {app : Nat → Rat} {Pi : Nat → Nat → Rat} {h g : Str → Rat}
theorem net_rng (q : PRd pts rds) (pen : Pb.Pen pts.length (Pb.gN rds.length (rowA pts rds) (rowW rds)) Pi) : ∀ i, i < pts.length → mv pts.length (Pb.gN rds.length (rowA pts rds) (rowW rds)) (mv pts.length Pi (netR pts app rds)) i = netR pts app rds i :=
  Pb.gN_rng q.hw pen _
theorem net_row {k : Nat} (x : Nat → Rat) : dot pts.length (rowA pts rds k) (fun i => app i + x i) - rowV rds k = dot pts.length (rowA pts rds k) x - shV pts app rds k := by
  rw [Pb.dot_add]
  unfold shV
  grind
theorem net_stat (q : PRd pts rds) (pen : Pb.Pen pts.length (Pb.gN rds.length (rowA pts rds) (rowW rds)) Pi) (d : Nat → Rat) : Pb.Ds pts.length rds.length (rowA pts rds) (rowW rds) (rowV rds) (netH pts app rds Pi) d = 0 := by
  have e : Pb.Ds pts.length rds.length (rowA pts rds) (rowW rds) (rowV rds) (netH pts app rds Pi) d = Pb.Ds pts.length rds.length (rowA pts rds) (rowW rds) (shV pts app rds) (mv pts.length Pi (netR pts app rds)) d :=
    Pb.S_congr fun k _ => by rw [show dot pts.length (rowA pts rds k) (netH pts app rds Pi) - rowV rds k = _ from net_row _]
  rw [e, Pb.Ds_eq]
  exact Pb.S_all0 fun i hi => by
    have z := net_rng (app := app) q pen i hi
    simp only [z]
    grind
theorem net_val (q : PRd pts rds) (pen : Pb.Pen pts.length (Pb.gN rds.length (rowA pts rds) (rowW rds)) Pi) : Pb.Qs pts.length rds.length (rowA pts rds) (rowW rds) (rowV rds) (netH pts app rds Pi) = netS pts app rds Pi := by
  have e : Pb.Qs pts.length rds.length (rowA pts rds) (rowW rds) (rowV rds) (netH pts app rds Pi) = Pb.Qs pts.length rds.length (rowA pts rds) (rowW rds) (shV pts app rds) (mv pts.length Pi (netR pts app rds)) :=
    Pb.S_congr fun k _ => by rw [show dot pts.length (rowA pts rds k) (netH pts app rds Pi) - rowV rds k = _ from net_row _]
  rw [e, Pb.Qs_eq]
  have e2 : dot pts.length (mv pts.length Pi (netR pts app rds)) (mv pts.length (Pb.gN rds.length (rowA pts rds) (rowW rds)) (mv pts.length Pi (netR pts app rds))) = dot pts.length (mv pts.length Pi (netR pts app rds)) (netR pts app rds) :=
    Pb.dot_congr (fun _ _ => rfl) (net_rng q pen)
  rw [e2, Pb.dot_comm pts.length (mv pts.length Pi (netR pts app rds)) (netR pts app rds)]
  grind
/-- heights that no direction betters have the net's squares -/
theorem net_same (q : PRd pts rds) (pen : Pb.Pen pts.length (Pb.gN rds.length (rowA pts rds) (rowW rds)) Pi) (hs : ∀ g, dsL rds h g = 0) :
    netS pts app rds Pi = qsL rds h ∧ ∀ k, k < rds.length → dot pts.length (rowA pts rds k) (fun i => h (pts.getD i default)) = dot pts.length (rowA pts rds k) (netH pts app rds Pi) := by
  have st : ∀ d, Pb.Ds pts.length rds.length (rowA pts rds) (rowW rds) (rowV rds) (fun i => h (pts.getD i default)) d = 0 := fun d => by
    have z := hs fun n => d (pts.idxOf n)
    rw [← Ds_dsL q.nd q.inn] at z
    rw [← z]
    exact Ds_cg (fun _ _ => rfl) fun i hi => by
      rw [List.getD_eq_getElem?_getD, List.getElem?_eq_getElem hi]
      show d i = d (pts.idxOf pts[i])
      rw [q.nd.idxOf_getElem]
  obtain ⟨e1, e2⟩ := Pb.Qs_two q.hw st (net_stat (app := app) q pen)
  refine ⟨?_, e2⟩
  rw [← net_val q pen, ← e1, Qs_qsL q.nd q.inn]
/-- with a pivot in every column the rows tell heights apart -/
theorem piv_ker {hh n b k : Nat} {A F : Nat → Nat → Rat} {p : Nat → Nat} (r : Pb.RedB hh n b A k p F) (all : ∀ j, j < n → ∃ t, t < k ∧ p t = j) {d : Nat → Rat} (hd : ∀ i, i < hh → dot n (A i) d = 0) : ∀ j, j < n → d j = 0 := fun j hj => by
  obtain ⟨s, hs, e⟩ := all j hj
  have z := (r.red.ker d).mp hd s hs
  have z2 : dot n (F s) d = F s (p s) * d (p s) := Pb.S_one (r.red.lt s hs) fun i hi ne => by
    obtain ⟨t, ht, et⟩ := all i hi
    subst et
    rw [r.red.one s t hs ht, if_neg fun q => ne (by rw [q])]
    grind
  rw [z2, r.red.one s s hs hs, if_pos rfl, e] at z
  grind
theorem net_heights {hh b k : Nat} {F : Nat → Nat → Rat} {p : Nat → Nat} (q : PRd pts rds) (pen : Pb.Pen pts.length (Pb.gN rds.length (rowA pts rds) (rowW rds)) Pi) (hs : ∀ g, dsL rds h g = 0) (eh : hh = rds.length)
    (r : Pb.RedB hh pts.length b (rowA pts rds) k p F) (all : ∀ j, j < pts.length → ∃ t, t < k ∧ p t = j) : ∀ i, i < pts.length → h (pts.getD i default) = netH pts app rds Pi i := fun i hi => by
  obtain ⟨_, e⟩ := net_same (app := app) q pen hs
  have z := piv_ker r all (d := fun i => h (pts.getD i default) - netH pts app rds Pi i) (fun k hk => by rw [Pb.dot_sub, e k (by omega)]; grind) i hi
  have z : h (pts.getD i default) - netH pts app rds Pi i = 0 := z
  grind
end
end Pd

/-! The plain law: sizes. -/
namespace Pd
open PySem
open Pb (S dot mv Ht Sz IntD entM entV)
section
theorem IntD.sc {D B : Nat} {q : Rat} (E : Nat) (h : IntD D B q) : IntD (E * D) (E * B) q := by
  have e : IntD E E (1 : Rat) := ⟨E, Rat.one_mul _, by omega⟩
  have z := e.mul h
  rw [Rat.one_mul] at z
  exact z
theorem IntD.neg {D B : Nat} {q : Rat} (h : IntD D B q) : IntD D B (-q) := by
  obtain ⟨z, e, l⟩ := h
  exact ⟨-z, by rw [Rat.neg_mul, e]; grind, by omega⟩
theorem IntD.sz {D B c : Nat} {q : Rat} (hD : 0 < D) (h1 : D < 2 ^ c) (h2 : B < 2 ^ c) (h : IntD D B q) : Sz c q :=
  (IntD.ht (X := fun x => x = q) hD h1 h2 fun x e => by rw [e]; exact h).sz rfl
/-- a reading's names' heights have one denominator -/
theorem mis_int {r : Rdg} {h : Str → Rat} {D N : Nat} (ok : RdOk r) (hh : ∀ n, n ∈ r.ts.map (fun x => x.1) → IntD D N (h n)) : ∀ k, k ≤ r.ts.length → IntD (6 * D) (36 * D + k * (18 * N)) (mis r h k)
  | 0, _ => by
    have z := (IntD.neg ok.val).mul (show IntD D D (1 : Rat) from ⟨D, Rat.one_mul _, by omega⟩)
    rw [Rat.mul_one] at z
    show IntD (6 * D) (36 * D + 0 * (18 * N)) (-r.val)
    rw [Nat.zero_mul, Nat.add_zero]
    exact z
  | k + 1, hk => by
    have ih := mis_int ok hh k (by omega)
    have hm : r.ts.getD k default ∈ r.ts := getD_mem (by omega)
    have c := (ok.co _ hm).1
    have hc : IntD 1 3 ((r.ts.getD k default).2 : Rat) := (IntD.int _).mono c
    have t := IntD.sc 6 (hc.mul (hh _ (List.mem_map.mpr ⟨_, hm, rfl⟩)))
    rw [Nat.one_mul] at t
    have z := ih.add t
    refine z.mono ?_
    rw [Nat.add_mul]
    omega
theorem pow_room {b D N : Nat} (hb : b ≤ 30000000) (h1 : D < 2 ^ b) (h2 : N < 2 ^ b) : ∃ c, c ≤ LIM ∧ 3 < 2 ^ c ∧ D < 2 ^ c ∧ N < 2 ^ c ∧ 3 * N < 2 ^ c ∧ 6 * D < 2 ^ c ∧ 36 * D + 54 * N < 2 ^ c ∧ 8 < 2 ^ c ∧ 6 * D * (6 * D) < 2 ^ c ∧ (36 * D + 54 * N) * (36 * D + 54 * N) < 2 ^ c ∧ 2 * (6 * D * (6 * D)) < 2 ^ c ∧ 15 * (8 * ((36 * D + 54 * N) * (36 * D + 54 * N))) < 2 ^ c := by
  have e : 2 ^ (2 * b + 21) = 2 ^ b * 2 ^ b * 2097152 := by rw [Nat.two_mul, Nat.pow_add, Nat.pow_add]
  have x1 : 1 ≤ 2 ^ b := Nat.one_le_two_pow
  refine ⟨2 * b + 21, by unfold LIM; omega, ?_⟩
  rw [e]
  generalize 2 ^ b = X at *
  have d6 : 6 * D < 8 * X := by omega
  have m7 : 36 * D + 54 * N < 128 * X := by omega
  have sqD : 6 * D * (6 * D) < 8 * X * (8 * X) := Nat.mul_lt_mul'' d6 d6
  have sqM : (36 * D + 54 * N) * (36 * D + 54 * N) < 128 * X * (128 * X) := Nat.mul_lt_mul'' m7 m7
  have eD : 8 * X * (8 * X) = 64 * (X * X) := by rw [Nat.mul_assoc, Nat.mul_left_comm X 8 X, ← Nat.mul_assoc]
  have eM : 128 * X * (128 * X) = 16384 * (X * X) := by rw [Nat.mul_assoc, Nat.mul_left_comm X 128 X, ← Nat.mul_assoc]
  rw [eD] at sqD
  rw [eM] at sqM
  have xy : X ≤ X * X := Nat.le_mul_of_pos_left _ x1
  generalize X * X = Y at *
  generalize 6 * D * (6 * D) = DD at *
  generalize (36 * D + 54 * N) * (36 * D + 54 * N) = MM at *
  refine ⟨?_, ?_, ?_, ?_, ?_, ?_, ?_, ?_, ?_, ?_, ?_⟩ <;> omega
theorem sqsOk_of {rds : List Rdg} {h : Str → Rat} {b : Nat} (hb : b ≤ 30000000) (hh : Ht b fun q => ∃ n, (∃ r, r ∈ rds ∧ n ∈ r.ts.map fun x => x.1) ∧ h n = q) (rd : ∀ r, r ∈ rds → RdOk r) (t3 : ∀ r, r ∈ rds → r.ts.length ≤ 3) (m : rds.length < 16) : SqsOk rds h := by
  obtain ⟨D, N, hD, h1, h2, hq⟩ := hh
  have hn : ∀ r, r ∈ rds → ∀ n, n ∈ r.ts.map (fun x => x.1) → IntD D N (h n) := fun r hr n hn => hq _ ⟨n, ⟨r, hr, hn⟩, rfl⟩
  obtain ⟨c, lim, a1, a2, a3, a4, a5, a6, a7, a8, a9, a10, a11⟩ := pow_room hb h1 h2
  have l : ∀ q, Sz c q → Sz LIM q := fun q s => s.mono lim
  -- the square of 36 D + 54 N, in bits
  have mB : ∀ r, r ∈ rds → ∀ k, k ≤ r.ts.length → IntD (6 * D) (36 * D + 54 * N) (mis r h k) := fun r hr k hk => (mis_int (rd r hr) (hn r hr) k hk).mono (by
    have := t3 r hr
    have : k * (18 * N) ≤ 3 * (18 * N) := Nat.mul_le_mul_right _ (by omega)
    omega)
  have D6 : 0 < 6 * D * (6 * D) := Nat.mul_pos (by omega) (by omega)
  refine ⟨fun k hk => ?_, fun k hk => ?_, fun k hk => ?_, fun k hk => ?_, fun k hk => ?_⟩
  · have hr : rds.getD k default ∈ rds := getD_mem hk
    refine ⟨fun j hj => ?_, fun j hj => ?_, fun j hj => ?_, fun j hj => ?_⟩
    · exact l _ (IntD.sz (D := 1) (B := 3) (by decide) (Nat.lt_trans (by decide) a1) a1 ((IntD.int _).mono ((rd _ hr).co _ (getD_mem hj)).1))
    · exact l _ (IntD.sz hD a2 a3 (hn _ hr _ (List.mem_map.mpr ⟨_, getD_mem hj, rfl⟩)))
    · have z := ((IntD.int (((rds.getD k default).ts.getD j default).2)).mono ((rd _ hr).co _ (getD_mem hj)).1).mul (hn _ hr _ (List.mem_map.mpr ⟨_, getD_mem hj, rfl⟩))
      exact l _ (IntD.sz (by omega) (by rw [Nat.one_mul]; exact a2) a4 z)
    · exact l _ (IntD.sz (by omega) a5 a6 (mB _ hr j hj))
  · exact l _ (IntD.sz (by decide) (Nat.lt_trans (by decide) a1) a7 (rd _ (getD_mem hk)).wt)
  · have hr : rds.getD k default ∈ rds := getD_mem hk
    have z := mB _ hr _ (Nat.le_refl _)
    exact l _ (IntD.sz D6 a8 a9 (z.mul z))
  · have hr : rds.getD k default ∈ rds := getD_mem hk
    have z := mB _ hr _ (Nat.le_refl _)
    exact l _ (IntD.sz (Nat.mul_pos (by decide) D6) a10 (Nat.lt_of_le_of_lt (by omega) a11) ((rd _ hr).wt.mul (z.mul z)))
  · have z : ∀ j, j ≤ rds.length → IntD (2 * (6 * D * (6 * D))) (j * (8 * ((36 * D + 54 * N) * (36 * D + 54 * N)))) (sqs rds h j) := fun j => by
      induction j with
      | zero => exact fun _ => ⟨0, by show (0 : Rat) * _ = _; grind, by omega⟩
      | succ j ih =>
        intro hj
        have hr : rds.getD j default ∈ rds := getD_mem (by omega)
        have y := mB _ hr _ (Nat.le_refl _)
        exact ((ih (by omega)).add ((rd _ hr).wt.mul (y.mul y))).mono (Nat.le_of_eq (Nat.succ_mul _ _).symm)
    have q : k * (8 * ((36 * D + 54 * N) * (36 * D + 54 * N))) ≤ 15 * (8 * ((36 * D + 54 * N) * (36 * D + 54 * N))) := Nat.mul_le_mul_right _ (by omega)
    exact l _ (IntD.sz (Nat.mul_pos (by decide) D6) a10 (Nat.lt_of_le_of_lt q a11) (z k hk))
/-- the joined forms' sizes -/
theorem jA_ht {n : Nat} {F : Nat → Nat → Nat → Rat} : ∀ {k : Nat}, (∀ p, p ≤ k → Ht 640 (entM n n (F p))) → Ht (640 + 641 * k) (entM n n (jA F k))
  | 0, h => h 0 (Nat.le_refl _)
  | k + 1, h => ((jA_ht fun p hp => h p (by omega)).add (h (k + 1) (Nat.le_refl _)) fun q ⟨i, j, hi, hj, e⟩ => ⟨_, _, ⟨i, j, hi, hj, rfl⟩, ⟨i, j, hi, hj, rfl⟩, e⟩).mono (by omega)
theorem jB_ht {n : Nat} {F : Nat → Nat → Rat} : ∀ {k : Nat}, (∀ p, p ≤ k → Ht 640 (entV n (F p))) → Ht (640 + 641 * k) (entV n (jB F k))
  | 0, h => h 0 (Nat.le_refl _)
  | k + 1, h => ((jB_ht fun p hp => h p (by omega)).add (h (k + 1) (Nat.le_refl _)) fun q ⟨i, hi, e⟩ => ⟨_, _, ⟨i, hi, rfl⟩, ⟨i, hi, rfl⟩, e⟩).mono (by omega)
theorem jC_ht {F : Nat → Rat} : ∀ {k : Nat}, (∀ p, p ≤ k → Ht 640 (fun q => F p = q)) → Ht (640 + 641 * k) (fun q => jC F k = q)
  | 0, h => h 0 (Nat.le_refl _)
  | k + 1, h => ((jC_ht fun p hp => h p (by omega)).add (h (k + 1) (Nat.le_refl _)) fun q e => ⟨_, _, rfl, rfl, e⟩).mono (by omega)
end
end Pd

/-! Loops over a dict that fill another one. -/
namespace Pd
open PySem PySem.Spec PyProof.Rows L2 Evl Pt Pn
section
variable {P : Program} {w : World} {K : PySem.W.Frag} {mg : Str → Option Value} {base : Heap}
variable {σ : L2.St} {H H' : Hp} {Ts : TEnv K} {td ty te : TE} {tz : TS} {D : Ends} {d p : Addr} {ns ns0 : List Str} {D1 D2 : Str → Ty K} {kvs kv0 : List (Key × V)} {x : Str}
/-- a dict, locked or not -/
structure DctR (K : PySem.W.Frag) (d : Addr) (ns : List Str) (D : Str → Ty K) (kvs : List (Key × V)) (H : Hp) : Prop where
  at_ : Rd H d (.dK kvs)
  e : DctE ns D kvs H
theorem DctR.ex (h : DctR K d ns D1 kvs H) (e : Ex H H') : DctR K d ns D1 kvs H' := ⟨h.at_.elim (fun q => .inl (e _ _ q)) fun ⟨o, q⟩ => .inr ⟨o, e _ _ q⟩, h.e.st (ge_ex e)⟩
theorem ev_dgetR (h : DctR K d ns D1 kvs H) (hd : EvP (K := K) td σ H (tyE (.ref d))) (hk : EvP (K := K) ty σ H (tyE (.str x))) (hx : x ∈ ns) : EvP (tDGet td ty) σ H (D1 x) := fun H1 e Q q =>
  hd H1 e _ fun v H2 e2 z => hk H2 (e.trans e2) _ fun v' H3 e3 z' => by
    cases z
    cases z'
    have h3 := h.ex ((e.trans e2).trans e3)
    obtain ⟨w, e4, e5⟩ := h3.e.get hx
    exact ⟨d, w, rfl, .inl ⟨kvs, .inr x, h3.at_, rfl, e4.symm⟩, q _ H3 (e2.trans e3) e5⟩
theorem dct_key {kvs : List (Key × V)} : ∀ {ns : List Str} {i : Nat} {k : Key} {v : V}, DctE ns D1 kvs H → kvs[i]? = some (k, v) → k = .inr (ns.getD i default) := by
  intro ns i k v h e
  induction h generalizing i with
  | nil => simp at e
  | cons a _ ih =>
    cases i with
    | zero => simp only [List.getElem?_cons_zero, Option.some.injEq] at e; subst e; exact a.1
    | succ i => exact ih (by simpa using e)
theorem getD_take {i : Nat} (hi : i < ns.length) : ns.take (i + 1) = ns.take i ++ [ns.getD i default] := by
  rw [List.take_succ, List.getElem?_eq_getElem hi, List.getD_eq_getElem?_getD, List.getElem?_eq_getElem hi]
  rfl
/-- for x in d: other[x] = e -/
theorem q_dict {a b j : Nat} (hs : Sat Ts σ H) (ha : Ts[a]? = some (some (tyE (.ref d)))) (hb : Ts[b]? = some (some (tyE (.ref p)))) (ja : j ≠ a) (jb : j ≠ b) (jl : j < Ts.length) (hd : Dct K d ns D1 kvs H) (hp : Dct K p ns0 D2 kv0 H) (ne : p ≠ d) (nd : (ns0 ++ ns).Nodup) (hl : (ns0 ++ ns).length ≤ 1000)
    (he : ∀ i σ' H', i < ns.length → DctR K d ns D1 kvs H' → Sat (Ts.set j (some (tyE (.str (ns.getD i default))))) σ' H' → EvP te σ' H' (D2 (ns.getD i default)))
    (k : ∀ σ' H' kv2, Fr [p] H H' → Ge K H H' → Dct K p (ns0 ++ ns) D2 kv2 H' → Sat (Ts.set j none) σ' H' → tz D σ' H') :
    tSeq (tLock (tFor (iKeys (tVar a)) (gName j) (sDPut (tVar b) (tVar j) te))) tz D σ H := by
  refine ⟨d, .dK kvs, hd.at_, trivial, fun od => ?_⟩
  have g0 : Ge K H (L2.upd H d (.frz od (.dK kvs))) := ge_upd hd.at_ id
  have s0 := hs.st g0
  have p0 : Dct K p ns0 D2 kv0 (L2.upd H d (.frz od (.dK kvs))) := ⟨by rw [upd_ne ne]; exact hp.at_, hp.e.st g0⟩
  have e0 := hd.e.st g0
  have at0 : (L2.upd H d (.frz od (.dK kvs))) d = some (.frz od (.dK kvs)) := upd_same
  have fr0 : Fr [d] H (L2.upd H d (.frz od (.dK kvs))) := Fr.upd (by simp)
  generalize L2.upd H d (.frz od (.dK kvs)) = H0 at *
  unfold tFor iKeys
  refine Pt.ev_var s0 ha H0 (Ex.refl _) _ fun v H1 e1 z => ?_
  cases z
  have at1 := e1 _ _ at0
  refine ⟨d, od, rfl, .inl ⟨kvs, at1, ?_⟩⟩
  refine for_it walk_keys (fun i σ' H' => H' d = some (.frz od (.dK kvs)) ∧ Fr [p] H1 H' ∧ Ge K H1 H' ∧ Sat (Ts.set j none) σ' H' ∧ ∃ kv2, Dct K p (ns0 ++ ns.take i) D2 kv2 H') ⟨at1, fun a o _ h => h, Ge.refl _, (s0.ex e1).forget, kv0, by rw [List.take_zero, List.append_nil]; exact p0.ex e1⟩ (fun i σ' H' _ q => q.1) (fun i y σ' H' H'' hi q yv => ?_) (fun σ' H' q => ?_)
  · obtain ⟨rfl, key, v, ek, ey⟩ := yv
    obtain ⟨q1, q2, q3, q4, kv2, q5⟩ := q
    have hi' : i < ns.length := by rw [← hd.e.len]; exact hi
    have kn := dct_key hd.e ek
    subst kn
    have ey : y = .str (ns.getD i default) := ey
    have s2 := q4.set (i := j) (T := tyE (.str (ns.getD i default))) ey
    rw [List.set_set] at s2
    have dr : DctR K d ns D1 kvs H'' := ⟨.inr ⟨od, q1⟩, (e0.st (ge_ex e1)).st q3⟩
    refine he i _ H'' hi' dr s2 H'' (Ex.refl _) _ fun v3 H3 e3 z3 => ?_
    have s3 := s2.ex e3
    have hb' : (Ts.set j (some (tyE (.str (ns.getD i default)))))[b]? = some (some (tyE (.ref p))) := by rw [List.getElem?_set_ne jb]; exact hb
    have hj' : (Ts.set j (some (tyE (K := K) (.str (ns.getD i default)))))[j]? = some (some (tyE (.str (ns.getD i default)))) := by rw [List.getElem?_set]; simp [jl]
    refine Pt.ev_var s3 hb' H3 (Ex.refl _) _ fun v4 H4 e4 z4 => ?_
    cases z4
    refine Pt.ev_var (s3.ex e4) hj' H4 (Ex.refl _) _ fun v5 H5 e5 z5 => ?_
    cases z5
    have e35 := e3.trans (e4.trans e5)
    have d5 := q5.ex e35
    have notin : ns.getD i default ∉ ns0 ++ ns.take i := fun m => by
      have z : (ns0 ++ ns.take (i + 1)).Nodup := (List.Sublist.append_left (List.take_sublist _ _) ns0).nodup nd
      rw [getD_take hi', ← List.append_assoc, List.nodup_append] at z
      exact z.2.2 _ m _ (by simp) rfl
    have pk : putK kv2 (.inr (ns.getD i default)) v3 = kv2 ++ [(.inr (ns.getD i default), v3)] := putK_new v3 (d5.e.none notin)
    have g6 : Ge K H5 (L2.upd H5 p (.dK (putK kv2 (.inr (ns.getD i default)) v3))) := ge_upd d5.at_ id
    have kl := d5.e.len
    have l2 : (ns0 ++ ns.take i).length ≤ (ns0 ++ ns).length := (List.Sublist.append_left (List.take_sublist _ _) ns0).length_le
    refine ⟨p, _, rfl, DPut.k d5.at_ (k := .inr (ns.getD i default)) (Evl.sz_lt (by omega)), ?_⟩
    refine ⟨by rw [upd_ne ne.symm]; exact e35 _ _ q1, (q2.trans (Fr.of e35)).trans (Fr.upd (by simp)), (q3.trans (ge_ex e35)).trans g6, ?_, kv2 ++ [(.inr (ns.getD i default), v3)], by rw [pk]; exact upd_same, ?_⟩
    · have s6 := ((s3.ex (e4.trans e5)).st g6).forget (i := j)
      rw [List.set_set] at s6
      exact s6
    · rw [getD_take hi', ← List.append_assoc]
      exact (d5.e.st g6).snoc (Ty.st _ _ _ _ ((ge_ex (e4.trans e5)).trans g6) z3)
  · obtain ⟨q1, q2, q3, q4, kv2, q5⟩ := q
    have il : kvs.length = ns.length := hd.e.len
    rw [il, List.take_length] at q5
    have g7 : Ge K H' (L2.upd H' d (.dK kvs)) := ge_upd q1 id
    refine ⟨q1, k σ' _ kv2 (fun a o ha ho => ?_) (((g0.trans (ge_ex e1)).trans q3).trans g7) ⟨by rw [upd_ne ne]; exact q5.at_, q5.e.st g7⟩ (q4.st g7)⟩
    by_cases hda : a = d
    · subst hda
      rw [hd.at_] at ho
      cases ho
      exact upd_same
    · rw [upd_ne hda]
      exact q2 a o ha (e1 _ _ (fr0 a o (by simpa using hda) ho))
end
end Pd

/-! The law's dicts. -/
namespace Pd
open PySem PySem.Spec PyProof.Rows L2 Evl Pt Pn
open Pb (Ht Sz entV entM)
section
variable {P : Program} {w : World} {K : PySem.W.Frag} {mg : Str → Option Value} {base : Heap}
theorem q_newD {σ : L2.St} {H : Hp} {Ts : TEnv K} {i : Nat} {D : Ends} {tz : TS} (hs : Sat Ts σ H) (D2 : Str → Ty K) (k : ∀ p σ' H', H p = none → Ex H H' → Dct K p [] D2 [] H' → Sat (Ts.set i (some (tyE (.ref p)))) σ' H' → tz D σ' H') : tSeq (tAsg tDNewK (gName i)) tz D σ H :=
  fun p hp => k p _ _ hp (Ex.new hp) ⟨upd_same, .nil⟩ ((hs.ex (Ex.new hp)).set rfl)
def sPairs (K : PySem.W.Frag) : Sph K := ⟨DcX, fun x => [tyE (.ref x.1)], fun x H => Dct K x.1 x.2.1 (fun n => tyRat (x.2.2.1 n)) x.2.2.2 H ∧ x.2.1.Nodup ∧ x.2.1.length ≤ 100, fun x _ v H' => ∃ d kv, v = .ref d ∧ Dct K d x.2.1 (fun n => tyPr (x.2.2.1 n)) kv H'⟩
def sHtsL (K : PySem.W.Frag) : Sph K := ⟨DcX, fun x => [tyE (.ref x.1)], fun x H => Dct K x.1 x.2.1 (fun n => tyPr (x.2.2.1 n)) x.2.2.2 H ∧ x.2.1.Nodup ∧ x.2.1.length ≤ 100, fun x H v H' => ∃ d kv, H d = none ∧ v = .ref d ∧ Dct K d x.2.1 (fun n => tyRat (x.2.2.1 n)) kv H'⟩
theorem sc_f_law_pairs : FnScope ["_law_heights_here", "_law_found", "_law_name"] ["_law_heights_here"] (defScope sf_law_pairs) := ⟨rfl, rfl, rfl, by decide +kernel, rfl, by decide +kernel, by decide +kernel⟩
theorem ok_law_pairs (c : Cxt P K mg base) : Ok P w K mg base df_law_pairs 33 ["_law_heights_here"] (sPairs K).sp := by
  have nd := (sc_f_law_pairs).nd
  refine okH c.Ff_law_pairs sc_f_law_pairs (sPairs K) (fun _ => rfl) fun cdv A outer s0 H E hr => ⟨_, PSs.nox ((pss_cons (ps_set (i := 1) nd rfl (by first | exact Or.inl rfl | exact Or.inr rfl) pe_dnewK)
      (pss_cons (ps_lock (ps_for PassesOwn.never rfl (pi_keys (pv 0)) (pg_name (i := 2) nd rfl (by first | exact Or.inl rfl | exact Or.inr rfl)) (pss_one (ps_dput (hu_of hr) (pv 1) (pv 2) (pe_tup (pa_cons (pe_fldK K (pe_dget (hu_of hr) (pv 0) (pv 2) (fun _ _ => rfl)) rfl) (pa_cons (pe_fldK K (pe_dget (hu_of hr) (pv 0) (pv 2) (fun _ _ => rfl)) rfl) pa_nil))) rfl))))
      (pss_one (ps_ret (pv 1)))))), fun x Q σ hx hs k => ?_⟩
  have kk := k
  obtain ⟨d, ns, h, kvs⟩ := x
  obtain ⟨dc, nd, nl⟩ : Dct K d ns (fun n => tyRat (h n)) kvs H ∧ ns.Nodup ∧ ns.length ≤ 100 := hx
  have hs : Sat [some (tyE (.ref d)), none, none] σ H := hs
  refine q_newD (i := 1) hs (fun n => tyPr (h n)) fun p σ1 H1 hp e1 dp s1 => ?_
  have ne : p ≠ d := fun z => by rw [z, dc.at_] at hp; cases hp
  refine q_dict (a := 0) (b := 1) (j := 2) s1 rfl rfl (by decide) (by decide) (by decide : 2 < 3) (dc.ex e1) dp ne (by simpa using nd) (by simpa using Nat.le_trans nl (by decide)) (fun i σ' H' hi dr s2 => ?_) fun σ' H' kv2 f g dq s3 => ?_
  · have e := ev_dgetR dr (ev_var (i := 0) s2 rfl) (ev_var (i := 2) s2 rfl) (getD_mem hi)
    exact ev_pair (ev_top c e) (ev_bottom c e)
  · exact s_ret (ev_var (i := 1) s3 rfl) fun v H3 e3 z => kk v H3 ((exFr e1 (fun a m => by rw [List.mem_singleton.mp m]; exact hp) f).trans e3) ⟨p, kv2, z, dq.ex e3⟩
theorem sc_f_law_heights : FnScope ["_law_pairs_here", "_law_found", "_law_name"] ["_law_pairs_here"] (defScope sf_law_heights) := ⟨rfl, rfl, rfl, by decide +kernel, rfl, by decide +kernel, by decide +kernel⟩
theorem ok_law_heights (c : Cxt P K mg base) : Ok P w K mg base df_law_heights 37 ["_law_pairs_here"] (sHtsL K).sp := by
  have nd := (sc_f_law_heights).nd
  refine okH c.Ff_law_heights sc_f_law_heights (sHtsL K) (fun _ => rfl) fun cdv A outer s0 H E hr => ⟨_, PSs.nox ((pss_cons (ps_set (i := 1) nd rfl (by first | exact Or.inl rfl | exact Or.inr rfl) pe_dnewK)
      (pss_cons (ps_lock (ps_for PassesOwn.never rfl (pi_keys (pv 0)) (pg_name (i := 2) nd rfl (by first | exact Or.inl rfl | exact Or.inr rfl)) (pss_one (ps_dput (hu_of hr) (pv 1) (pv 2) (pe_call (ok_law_made c) (by exact hr.mono (by decide)) rfl c.g_law_made c.Ff_law_made.kp c.bf_law_made .nil pass0 (pa_cons (pe_dget (hu_of hr) (pv 0) (pv 2) (fun _ _ => rfl)) pa_nil)) rfl))))
      (pss_one (ps_ret (pv 1)))))), fun x Q σ hx hs k => ?_⟩
  have kk := k
  obtain ⟨d, ns, h, kvs⟩ := x
  obtain ⟨dc, nd, nl⟩ : Dct K d ns (fun n => tyPr (h n)) kvs H ∧ ns.Nodup ∧ ns.length ≤ 100 := hx
  have hs : Sat [some (tyE (.ref d)), none, none] σ H := hs
  refine q_newD (i := 1) hs (fun n => tyRat (h n)) fun p σ1 H1 hp e1 dp s1 => ?_
  have ne : p ≠ d := fun z => by rw [z, dc.at_] at hp; cases hp
  refine q_dict (a := 0) (b := 1) (j := 2) s1 rfl rfl (by decide) (by decide) (by decide : 2 < 3) (dc.ex e1) dp ne (by simpa using nd) (by simpa using Nat.le_trans nl (by decide)) (fun i σ' H' hi dr s2 => ?_) fun σ' H' kv2 f g dq s3 => ?_
  · exact ev_call (s := sMadeL K) (h (ns.getD i default)) trivial (ea_cons (ev_dgetR dr (ev_var (i := 0) s2 rfl) (ev_var (i := 2) s2 rfl) (getD_mem hi)) ea_nil)
  · exact s_ret (ev_var (i := 1) s3 rfl) fun v H3 e3 z => kk v H3 ((exFr e1 (fun a m => by rw [List.mem_singleton.mp m]; exact hp) f).trans e3) ⟨p, kv2, hp, z, dq.ex e3⟩
abbrev rCopyD : List V → Hp → VK → Prop := fun xs H Q => ∃ (a : Addr) (kvs : List (Key × V)), xs = [.ref a] ∧ Rd H a (.dK kvs) ∧ ∀ p, H p = none → Q (.ref p) (upd H p (.dK kvs))
theorem q_copyD {σ : L2.St} {H : Hp} {Ts : TEnv K} {i : Nat} {D : Ends} {tz : TS} {te : TE} {d : Addr} {ns : List Str} {D1 : Str → Ty K} {kvs : List (Key × V)} (hs : Sat Ts σ H) (ha : EvP (K := K) te σ H (tyE (.ref d))) (dc : Dct K d ns D1 kvs H)
    (k : ∀ p σ' H', H p = none → Ex H H' → Dct K p ns D1 kvs H' → Sat (Ts.set i (some (tyE (.ref p)))) σ' H' → tz D σ' H') : tSeq (tAsg (tCB rCopyD (tCons te tNil)) (gName i)) tz D σ H :=
  ha H (Ex.refl _) _ fun v H1 e1 z => by
    cases z
    refine ⟨d, kvs, rfl, .inl (e1 _ _ dc.at_), fun p hp => ?_⟩
    have e2 := Ex.new (o := .dK kvs) hp
    exact k p _ _ (Evl.fresh_back e1 hp) (e1.trans e2) ⟨upd_same, ((dc.ex e1).ex e2).e⟩ ((hs.ex (e1.trans e2)).set rfl)
def sJoinL (K : PySem.W.Frag) : Sph K := ⟨DcX × DcX, fun x => [tyE (.ref x.1.1), tyE (.ref x.2.1)], fun x H => Dct K x.1.1 x.1.2.1 (fun n => tyRat (x.1.2.2.1 n)) x.1.2.2.2 H ∧ Dct K x.2.1 x.2.2.1 (fun n => tyRat (x.2.2.2.1 n)) x.2.2.2.2 H ∧ (x.1.2.1 ++ x.2.2.1).Nodup ∧ (x.1.2.1 ++ x.2.2.1).length ≤ 100,
  fun x _ v H' => ∃ d kv, v = .ref d ∧ Dct K d (x.1.2.1 ++ x.2.2.1) (fun n => if n ∈ x.1.2.1 then tyRat (x.1.2.2.1 n) else tyRat (x.2.2.2.1 n)) kv H'⟩
theorem DctE.cg {ns : List Str} {D1 D2 : Str → Ty K} {kvs : List (Key × V)} {H : Hp} (h : DctE ns D1 kvs H) (e : ∀ n v, n ∈ ns → (D1 n).p v H → (D2 n).p v H) : DctE ns D2 kvs H := by
  unfold DctE at *
  induction h with
  | nil => exact .nil
  | cons a _ ih => exact .cons ⟨a.1, e _ _ List.mem_cons_self a.2⟩ (ih fun n v m => e n v (List.mem_cons_of_mem _ m))
theorem sc_f_law_joined : FnScope ["_law_one", "_law_other", "_law_found", "_law_name"] ["_law_one", "_law_other"] (defScope sf_law_joined) := ⟨rfl, rfl, rfl, by decide +kernel, rfl, by decide +kernel, by decide +kernel⟩
theorem ok_law_joined (c : Cxt P K mg base) : Ok P w K mg base df_law_joined 33 ["_law_one", "_law_other"] (sJoinL K).sp := by
  have nd := (sc_f_law_joined).nd
  refine okH c.Ff_law_joined sc_f_law_joined (sJoinL K) (fun _ => rfl) fun cdv A outer s0 H E hr => ⟨_, PSs.nox ((pss_cons (ps_set (i := 2) nd rfl (by first | exact Or.inl rfl | exact Or.inr rfl) (pe_callTy call_dictD (by rfl) c.z_dict (by decide +kernel) (pa_cons (pv 0) pa_nil)))
      (pss_cons (ps_lock (ps_for PassesOwn.never rfl (pi_keys (pv 1)) (pg_name (i := 3) nd rfl (by first | exact Or.inl rfl | exact Or.inr rfl)) (pss_one (ps_dput (hu_of hr) (pv 2) (pv 3) (pe_dget (hu_of hr) (pv 1) (pv 3) (fun _ _ => rfl)) rfl))))
      (pss_one (ps_ret (pv 2)))))), fun x Q σ hx hs k => ?_⟩
  have kk := k
  obtain ⟨⟨d, ns, h, kvs⟩, d', ns', h', kvs'⟩ := x
  obtain ⟨dc, dc', nd, nl⟩ : Dct K d ns (fun n => tyRat (h n)) kvs H ∧ Dct K d' ns' (fun n => tyRat (h' n)) kvs' H ∧ (ns ++ ns').Nodup ∧ (ns ++ ns').length ≤ 100 := hx
  have hs : Sat [some (tyE (.ref d)), some (tyE (.ref d')), none, none] σ H := hs
  refine q_copyD (i := 2) hs (ev_var (i := 0) hs rfl) dc fun p σ1 H1 hp e1 dq s2 => ?_
  have dp : Dct K p ns (fun n => if n ∈ ns then tyRat (h n) else tyRat (h' n)) kvs H1 := ⟨dq.at_, DctE.cg dq.e fun n v m q => by
    show (if n ∈ ns then tyRat (h n) else tyRat (h' n)).p v _
    rw [if_pos m]; exact q⟩
  have ne : p ≠ d' := fun z => by rw [z, dc'.at_] at hp; cases hp
  refine q_dict (a := 1) (b := 2) (j := 3) s2 rfl rfl (by decide) (by decide) (by decide : 3 < 4) (dc'.ex e1) dp ne nd (Nat.le_trans nl (by decide)) (fun i σ' H' hi dr s2 => ?_) fun σ' H' kv2 f g dq s3 => ?_
  · have nm : ns'.getD i default ∉ ns := fun m => by
      rw [List.nodup_append] at nd
      exact nd.2.2 _ m _ (getD_mem hi) rfl
    show EvP _ _ _ (if _ ∈ ns then _ else _)
    rw [if_neg nm]
    exact ev_dgetR dr (ev_var (i := 1) s2 rfl) (ev_var (i := 3) s2 rfl) (getD_mem hi)
  · exact s_ret (ev_var (i := 2) s3 rfl) fun v H3 e3 z => kk v H3 ((exFr e1 (fun a m => by rw [List.mem_singleton.mp m]; exact hp) f).trans e3) ⟨p, kv2, z, dq.ex e3⟩
end
end Pd

/-! Lists told by lists; comprehensions that draw. -/
namespace Pd
open PySem PySem.Spec PyProof.Rows L2 Evl Pt Pn
section
variable {P : Program} {w : World} {K : PySem.W.Frag} {mg : Str → Option Value} {base : Heap}
variable {α : Type} [Inhabited α] {T : α → Ty K} {l m : List α} {xs ys : List V} {H H' : Hp} {v : V} {a : α}
/-- values told one by one by a list -/
structure LsT (T : α → Ty K) (l : List α) (xs : List V) (H : Hp) : Prop where
  ln : xs.length = l.length
  its : Its (K := K) (fun i => T (l.getD i default)) xs H
theorem LsT.st (h : LsT T l xs H) (g : Ge K H H') : LsT T l xs H' := ⟨h.ln, h.its.st g⟩
theorem LsT.ex (h : LsT T l xs H) (g : Ex H H') : LsT T l xs H' := h.st (ge_ex g)
theorem LsT.nil : LsT T [] [] H := ⟨rfl, Its.nil⟩
theorem LsT.app (h : LsT T l xs H) (h' : LsT T m ys H) : LsT T (l ++ m) (xs ++ ys) H := by
  refine ⟨by rw [List.length_append, List.length_append, h.ln, h'.ln], fun i x e => ?_⟩
  rw [List.getElem?_append] at e
  by_cases hi : i < l.length
  · rw [if_pos (by rw [h.ln]; exact hi)] at e
    show (T ((l ++ m).getD i default)).p x H
    rw [List.getD_eq_getElem?_getD, List.getElem?_append_left hi, ← List.getD_eq_getElem?_getD]
    exact h.its i x e
  · rw [if_neg (by rw [h.ln]; exact hi), h.ln] at e
    show (T ((l ++ m).getD i default)).p x H
    rw [List.getD_eq_getElem?_getD, List.getElem?_append_right (by omega), ← List.getD_eq_getElem?_getD]
    exact h'.its (i - l.length) x e
theorem LsT.one (q : (T a).p v H) : LsT T [a] [v] H := ⟨rfl, fun i x e => by
  cases i with
  | zero => cases e; exact q
  | succ i => simp at e⟩
theorem LsT.snoc (h : LsT T l xs H) (q : (T a).p v H) : LsT T (l ++ [a]) (xs ++ [v]) H := h.app (LsT.one q)
theorem LsT.drop (h : LsT T l xs H) (k : Nat) : LsT T (l.drop k) (xs.drop k) H := ⟨by rw [List.length_drop, List.length_drop, h.ln], fun i x e => by
  rw [List.getElem?_drop] at e
  show (T ((l.drop k).getD i default)).p x H
  rw [List.getD_eq_getElem?_getD, List.getElem?_drop, ← List.getD_eq_getElem?_getD]
  exact h.its _ x e⟩
theorem LsT.take (h : LsT T l xs H) (k : Nat) : LsT T (l.take k) (xs.take k) H := ⟨by rw [List.length_take, List.length_take, h.ln], fun i x e => by
  rw [List.getElem?_take] at e
  split at e
  · rename_i hi
    show (T ((l.take k).getD i default)).p x H
    rw [List.getD_eq_getElem?_getD, List.getElem?_take, if_pos hi, ← List.getD_eq_getElem?_getD]
    exact h.its _ x e
  · cases e⟩
theorem LsT.cg {U : α → Ty K} (h : LsT T l xs H) (e : ∀ a v, a ∈ l → (T a).p v H → (U a).p v H) : LsT U l xs H := ⟨h.ln, fun i x q => e _ x (getD_mem (by rw [← h.ln]; exact (List.getElem?_eq_some_iff.mp q).1)) (h.its i x q)⟩
theorem lsT_strs {ns : List Str} : LsT (K := K) (fun n => tyE (.str n)) ns (ns.map V.str) H := ⟨by rw [List.length_map], its_strs⟩
section
variable {σ : L2.St} {Ts : TEnv K} {te tb ta : TE} {D : Ends} {tz : TS} {p : Addr}
/-- the items of a list told so -/
theorem ei_lsT {tl : TE} (h : EvP (K := K) tl σ H (tyE (.ref p))) (hp : H p = some (.lst xs)) (it : LsT T l xs H) : EvI (K := K) (iList K tl) σ H l.length (fun i => T (l.getD i default)) (fun _ H3 => SqL K H3 p xs ∧ Ge K H H3) := by
  have q := ei_list (T := fun i => T (l.getD i default)) h (SqL.of hp) it.its
  rw [it.ln] at q
  exact q
/-- a slice of a list -/
theorem cut_any (xs : List V) (k : Nat) : cutV xs none (some (k : Nat)) = xs.take k := by
  by_cases h : k ≤ xs.length
  · exact cut_take xs h
  · unfold cutV
    have e1 : HT.sIx xs.length 0 none = 0 := rfl
    have e2 : HT.sIx xs.length xs.length (some (k : Nat)) = xs.length := by
      unfold HT.sIx
      simp
      split <;> omega
    rw [e1, e2]
    simp
    rw [List.take_of_length_le (by omega)]
theorem cut_dropL (xs : List V) (k : Nat) : cutV xs (some (k : Nat)) none = xs.drop k := by
  unfold cutV
  have e1 : HT.sIx xs.length xs.length none = xs.length := rfl
  by_cases h : k ≤ xs.length
  · have e2 : HT.sIx xs.length 0 (some (k : Nat)) = k := by
      unfold HT.sIx
      simp
      split <;> omega
    rw [e1, e2]
    rw [← List.drop_take, List.take_of_length_le (Nat.le_refl _)] <;> simp
  · have e2 : HT.sIx xs.length 0 (some (k : Nat)) = xs.length := by
      unfold HT.sIx
      simp
      split <;> omega
    rw [e1, e2]
    simp
    omega
/-- a new list told by a list -/
def EvLs (te : TE) (σ : L2.St) (H : Hp) (T : α → Ty K) (l : List α) : Prop := ∀ H1, Ex H H1 → ∀ Q : VK, (∀ p xs H2, H1 p = none → Ex H1 H2 → H2 p = some (.lst xs) → LsT T l xs H2 → Q (.ref p) H2) → te σ H1 Q
theorem ls_take {k : Nat} (hp : H p = some (.lst xs)) (it : LsT T l xs H) (ha : EvP (K := K) te σ H (tyE (.ref p))) (hb : EvP (K := K) tb σ H (tyE (.int (k : Nat)))) : EvLs (tSl (rSlL K) te tNoPart (tPart tb)) σ H T (l.take k) := fun H1 e Q q =>
  ha H1 e _ fun v H2 e2 z => hb H2 (e.trans e2) _ fun v' H3 e3 z' => by
    cases z
    cases z'
    have e4 := (e.trans e2).trans e3
    refine ⟨(k : Nat), rfl, p, xs, rfl, SqL.of (e4 _ _ hp), fun p' hp' => ?_⟩
    rw [cut_any xs k]
    exact q p' _ _ (Evl.fresh_back (e2.trans e3) hp') ((e2.trans e3).trans (Ex.new hp')) upd_same (((it.ex e4).ex (Ex.new hp')).take k)
theorem ls_drop {k : Nat} (hp : H p = some (.lst xs)) (it : LsT T l xs H) (ha : EvP (K := K) te σ H (tyE (.ref p))) (hb : EvP (K := K) tb σ H (tyE (.int (k : Nat)))) : EvLs (tSl (rSlL K) te (tPart tb) tNoPart) σ H T (l.drop k) := fun H1 e Q q =>
  ha H1 e _ fun v H2 e2 z => hb H2 (e.trans e2) _ fun v' H3 e3 z' => by
    cases z
    cases z'
    have e4 := (e.trans e2).trans e3
    refine ⟨(k : Nat), rfl, p, xs, rfl, SqL.of (e4 _ _ hp), fun p' hp' => ?_⟩
    rw [cut_dropL xs k]
    exact q p' _ _ (Evl.fresh_back (e2.trans e3) hp') ((e2.trans e3).trans (Ex.new hp')) upd_same (((it.ex e4).ex (Ex.new hp')).drop k)
theorem q_asgLs {i : Nat} (hs : Sat Ts σ H) (h : EvLs te σ H T l) (k : ∀ p xs σ' H', H p = none → Ex H H' → H' p = some (.lst xs) → LsT T l xs H' → Sat (Ts.set i (some (tyE (.ref p)))) σ' H' → tz D σ' H') : tSeq (tAsg te (gName i)) tz D σ H :=
  h H (Ex.refl _) _ fun p xs H1 hp e h1 it => k p xs _ H1 hp e h1 it ((hs.ex e).set rfl)
end
/-! ### comprehensions that draw -/
section
variable {σ : L2.St} {Ts : TEnv K} {te : TE} {tt : L2.TT} {wi : TI} {D : Ends} {tz : TS} {st lt : Addr} {tp : List Nat} {i0 kk n j r : Nat} {Tn : Nat → Ty K} {G : Hp → Hp → Prop} {Pl : Nat → List α → Prop}
theorem el_draw (d : Dr st lt tp i0 H) (hs : Sat Ts σ H) (hi : EvI wi σ H n Tn G) (hG : ∀ H2 H3, Ex H H2 → Fr [st] H2 H3 → Ge K H2 H3 → G H2 H3) (hn : n ≤ 1000) (p0 : Pl 0 [])
    (hb : ∀ i σ' H' i1 l, i < n → Pl i l → Dr st lt tp i1 H' → i1 ≤ i0 + kk * i → Fr [st] H H' → Sat ((Ts.set j none).set j (some (Tn i))) σ' H' → ∀ (Q1 : VK) (Q2 : Hp → Prop),
      (∀ y H4 a i2, Fr [st] H' H4 → Dr st lt tp i2 H4 → i2 ≤ i1 + kk → (T a).p y H4 → Pl (i + 1) (l ++ [a]) → Q1 y H4) → (∀ H3 i2, Fr [st] H' H3 → Dr st lt tp i2 H3 → i2 ≤ i1 + kk → Pl (i + 1) l → Q2 H3) →
      tt σ' H' fun b H3 => if b = true then te σ' H3 Q1 else Q2 H3)
    (Q : VK) (q : ∀ p xs l H2 i2, H p = none → Fr [st] H H2 → Dr st lt tp i2 H2 → i2 ≤ i0 + kk * n → H2 p = some (.lst xs) → LsT T l xs H2 → Pl n l → l.length ≤ n → Q (.ref p) H2) : tLc wi (gName j) tt te [j] σ H Q := hi H (Ex.refl _) _ fun J H2 e2 w D hD => by
  have d2 := d.ex e2
  have ne : D ≠ st := fun z => by rw [z, d2.at_] at hD; cases hD
  refine lc_it w (fun i H' => Fr [st] H2 H' ∧ ∃ i1 l acc, Dr st lt tp i1 H' ∧ i1 ≤ i0 + kk * i ∧ Pl i l ∧ H' D = some (.lst acc) ∧ LsT T l acc H' ∧ l.length ≤ i)
    ⟨Fr.of (Ex.new hD), i0, [], [], d2.ex (Ex.new hD), by omega, p0, upd_same, LsT.nil, Nat.le_refl _⟩ (fun i H' _ p => hG H2 H' e2 p.1 (d2.ge p.1)) (fun i x H' H'' hi' p y => ?_) (fun H' p => ?_)
  · obtain ⟨y1, y2⟩ := y
    obtain ⟨f, i1, l, acc, dd, le, pl, at_, it, ll⟩ := p
    have f' := f.trans (Fr.of y1)
    have s2 : Sat ((Ts.set j none).set j (some (Tn i))) ((wipe σ [j]).set j (some x)) H'' := Sat.set (Sat.del ((hs.ex e2).st (d2.ge f'))) y2
    have d3 := dd.ex y1
    refine ⟨wipe1 σ j _, hb i _ H'' i1 l hi' pl d3 le ((Fr.of e2).trans f') s2 _ _ (fun y H4 a i2 f4 d4 le4 ty pl' => ?_) fun H3 i2 f3 d3' le3 pl' => ?_⟩
    · have at4 : H4 D = some (.lst acc) := f4 _ _ (by simpa using ne) (y1 _ _ at_)
      have f5 : Fr [st] H2 (L2.upd H4 D (.lst (acc ++ [y]))) := fun u o hu ho => by
        rw [upd_ne (fun z => by rw [z, hD] at ho; cases ho)]
        exact f4 u o hu (f' u o hu ho)
      have g5 : Ge K H4 (L2.upd H4 D (.lst (acc ++ [y]))) := ge_lst at4
      refine ⟨acc, at4, Evl.sz_lt (by have := it.ln; omega), f5, i2, l ++ [a], acc ++ [y], ?_, by rw [Nat.mul_succ]; omega, pl', upd_same, ?_, by rw [List.length_append]; simpa using ll⟩
      · have nl : lt ≠ D := fun z => by
          have := d2.tape.at_
          rw [z, hD] at this
          cases this
        exact ⟨by rw [upd_ne ne.symm]; exact d4.at_, by rw [upd_ne nl]; exact d4.tape.at_, d4.tape.lo⟩
      · exact (((it.st (ge_ex y1)).st (d3.ge f4)).snoc ty).st g5
    · exact ⟨f'.trans f3, i2, l, acc, d3', by rw [Nat.mul_succ]; omega, pl', f3 _ _ (by simpa using ne) (y1 _ _ at_), (it.st (ge_ex y1)).st (d3.ge f3), Nat.le_succ_of_le ll⟩
  · obtain ⟨f, i1, l, acc, dd, le, pl, at_, it, ll⟩ := p
    exact q D acc l H' i1 (Evl.fresh_back e2 hD) ((Fr.of e2).trans f) dd le at_ it pl ll
theorem q_draw (d : Dr st lt tp i0 H) (hs : Sat Ts σ H) (hi : EvI wi σ H n Tn G) (hG : ∀ H2 H3, Ex H H2 → Fr [st] H2 H3 → Ge K H2 H3 → G H2 H3) (hn : n ≤ 1000) (p0 : Pl 0 [])
    (hb : ∀ i σ' H' i1 l, i < n → Pl i l → Dr st lt tp i1 H' → i1 ≤ i0 + kk * i → Fr [st] H H' → Sat ((Ts.set j none).set j (some (Tn i))) σ' H' → ∀ (Q1 : VK) (Q2 : Hp → Prop),
      (∀ y H4 a i2, Fr [st] H' H4 → Dr st lt tp i2 H4 → i2 ≤ i1 + kk → (T a).p y H4 → Pl (i + 1) (l ++ [a]) → Q1 y H4) → (∀ H3 i2, Fr [st] H' H3 → Dr st lt tp i2 H3 → i2 ≤ i1 + kk → Pl (i + 1) l → Q2 H3) →
      tt σ' H' fun b H3 => if b = true then te σ' H3 Q1 else Q2 H3)
    (q : ∀ p xs l σ' H2 i2, H p = none → Fr [st] H H2 → Dr st lt tp i2 H2 → i2 ≤ i0 + kk * n → H2 p = some (.lst xs) → LsT T l xs H2 → Pl n l → l.length ≤ n → Sat (Ts.set r (some (tyE (.ref p)))) σ' H2 → tz D σ' H2) : tSeq (tAsg (tLc wi (gName j) tt te [j]) (gName r)) tz D σ H := by
  show tLc wi (gName j) tt te [j] σ H fun v H' => tz D (σ.set r (some v)) H'
  exact el_draw d hs hi hG hn p0 hb _ fun p xs l H2 i2 hp f d2 le at_ it pl ll => q p xs l _ H2 i2 hp f d2 le at_ it pl ll ((hs.st (d.ge f)).set rfl)
theorem do_cons {t : TA} {Q : List V → Hp → Prop} (h : te σ H fun x H1 => t σ H1 fun xs H2 => Q (x :: xs) H2) : tCons te t σ H Q := h
theorem do_op {rr : R2} {ta tb : TE} {Q : VK} (h : ta σ H fun x H1 => tb σ H1 fun y H2 => rr x y H2 Q) : tOp rr ta tb σ H Q := h
theorem do_tup {t : TA} {Q : VK} (h : t σ H fun xs H1 => xs.length ≤ sizeLine ∧ ∀ p, H1 p = none → Q (.ref p) (L2.upd H1 p (.tup xs))) : tTup t σ H Q := h
theorem do_asg {i : Nat} (h : te σ H fun v H1 => tz D (σ.set i (some v)) H1) : tSeq (tAsg te (gName i)) tz D σ H := h
/-- l.append(e), e any -/
theorem s_appX {R : V → Hp → Prop} {ta : TE} {p : Addr} {xs : List V} (hl : H p = some (.lst xs)) (ha : EvP (K := K) ta σ H (tyE (.ref p))) (he : ∀ H1, Ex H H1 → ∀ Q : VK, (∀ v H', R v H' → Q v H') → te σ H1 Q) (hR : ∀ v H', R v H' → H' p = some (.lst xs)) (hz : xs.length < 100000)
    (k : ∀ v H', R v H' → D.nx σ (L2.upd H' p (.lst (xs ++ [v])))) : tDrop (tBM K "list" rAppend ta (tCons te tNil)) D σ H :=
  ha H (Ex.refl _) _ fun x H1 e1 z => by
    cases z
    exact ⟨.inl ⟨rfl, xs, SqL.of (e1 _ _ hl)⟩, he H1 e1 _ fun v H2 r => ⟨p, xs, v, rfl, rfl, hR v H2 r, Evl.sz_lt hz, k v H2 r⟩⟩
/-- a list of constants -/
theorem el_cs {cs : List V} {ta : TA} (h : EvPA (K := K) ta σ H (cs.map tyE)) (hl : cs.length ≤ 1000) (H1 : Hp) (e : Ex H H1) (Q : VK) (q : ∀ p H2, H1 p = none → Ex H1 H2 → H2 p = some (.lst cs) → Q (.ref p) H2) : tLst ta σ H1 Q :=
  h H1 e _ fun vs H2 e2 zs => by
    have ev : vs = cs := by
      have : ∀ {cs vs : List V}, Tys (K := K) (cs.map tyE) vs H2 → vs = cs := by
        intro cs
        induction cs with
        | nil => intro vs h; cases h; rfl
        | cons c cs ih => intro vs h; cases h with | cons a b => cases a; rw [ih b]
      exact this zs
    subst ev
    exact ⟨Nat.le_of_lt (Evl.sz_lt (by omega)), fun p hp => q p _ (Evl.fresh_back e2 hp) (e2.trans (Ex.new hp)) upd_same⟩
end
end
end Pd

/-! The law's drawn terms. -/
namespace Pd
open PySem PySem.Spec PyProof.Rows L2 Evl Pt Pn
open Pb (Ht Sz entV entM)
section
variable {P : Program} {w : World} {K : PySem.W.Frag} {mg : Str → Option Value} {base : Heap}
/-- names to draw terms of -/
structure NmOk (ns : List Str) : Prop where
  asc : ns.Pairwise fun a b => a.cps.toList < b.cps.toList
  pos : ∀ n, n ∈ ns → [] < n.cps.toList
  len : ns.length ≤ 8
  ne : ns ≠ []
/-- drawn terms -/
structure TmOk (ns : List Str) (ts : List (Str × Int)) : Prop where
  ne : ts ≠ []
  l3 : ts.length ≤ 3
  sub : (ts.map fun t => t.1).Sublist ns
  co : ∀ t, t ∈ ts → t.2.natAbs ≤ 3 ∧ t.2 ≠ 0
abbrev tyTm (K : PySem.W.Frag) (t : Str × Int) : Ty K := tyTup [tyE (.str t.1), tyE (.int t.2)]
def sTerms (K : PySem.W.Frag) : Spw K := ⟨DrX × Addr × List Str, fun x => [tyE (.ref x.1.1), tyE (.ref x.2.1)], fun x H => Dr x.1.1 x.1.2.1 x.1.2.2.1 x.1.2.2.2 H ∧ x.1.2.2.2 < 960 ∧ x.1.1 ≠ x.1.2.1 ∧ H x.2.1 = some (.lst (x.2.2.map V.str)) ∧ NmOk x.2.2, fun x => [x.1.1],
  fun x _ v H' => ∃ i ts, i ≤ x.1.2.2.2 + 20 ∧ Dr x.1.1 x.1.2.1 x.1.2.2.1 i H' ∧ TmOk x.2.2 ts ∧ (tyTerms K ts).p v H'⟩
def cz : List Int := [1, -1, -1, 1, 2, -3]
theorem cz_ok : ∀ r : Fin 6, (cz.map V.int)[r.val]? = some (V.int (cz.getD r.val 0)) ∧ (cz.getD r.val 0).natAbs ≤ 3 ∧ cz.getD r.val 0 ≠ 0 := by
  intro r
  match r with
  | ⟨0, _⟩ => exact ⟨rfl, show (cz.getD 0 0).natAbs ≤ 3 by decide, show cz.getD 0 0 ≠ 0 by decide⟩
  | ⟨1, _⟩ => exact ⟨rfl, show (cz.getD 1 0).natAbs ≤ 3 by decide, show cz.getD 1 0 ≠ 0 by decide⟩
  | ⟨2, _⟩ => exact ⟨rfl, show (cz.getD 2 0).natAbs ≤ 3 by decide, show cz.getD 2 0 ≠ 0 by decide⟩
  | ⟨3, _⟩ => exact ⟨rfl, show (cz.getD 3 0).natAbs ≤ 3 by decide, show cz.getD 3 0 ≠ 0 by decide⟩
  | ⟨4, _⟩ => exact ⟨rfl, show (cz.getD 4 0).natAbs ≤ 3 by decide, show cz.getD 4 0 ≠ 0 by decide⟩
  | ⟨5, _⟩ => exact ⟨rfl, show (cz.getD 5 0).natAbs ≤ 3 by decide, show cz.getD 5 0 ≠ 0 by decide⟩
theorem two_le : ([V.non, V.non] : List V).length ≤ sizeLine := Nat.le_of_lt (Evl.sz_lt (by decide))
theorem sc_f_law_terms : FnScope ["_law_state", "_law_names", "_law_terms_here", "_law_name"] ["_law_state", "_law_names"] (defScope sf_law_terms) := ⟨rfl, rfl, rfl, by decide +kernel, rfl, by decide +kernel, by decide +kernel⟩
theorem ok_law_terms (c : Cxt P K mg base) : Ok P w K mg base df_law_terms 35 ["_law_state", "_law_names"] (sTerms K).sp := by
  have nd := (sc_f_law_terms).nd
  refine okW c.Ff_law_terms sc_f_law_terms (sTerms K) (fun _ => rfl) fun cdv A outer s0 H E hr => ⟨_, PSs.nox ((pss_cons (ps_setLc (i := 2) (own := [("_law_name", 3)]) (g := gName 3) rfl nd rfl rfl (sw_true rfl rfl rfl (by decide +kernel)) (pi_listK K (pv 1)) (blkOk_by rfl) (fun _ _ _ _ _ => (pg_name (i := 3) nd rfl (by first | exact Or.inl rfl | exact Or.inr rfl))) (fun _ _ _ _ _ => (pts_one (pt_cmpR op_eq (pe_call (ok_law_take c) (by exact hr.mono (by decide)) rfl c.g_law_take c.Ff_law_take.kp c.bf_law_take .nil pass0 (pa_cons (pv 0) (pa_cons pe_int pa_nil))) pe_int (nomark _)))) (fun _ _ _ _ _ => (pe_tup (pa_cons (pv 3) (pa_cons (pe_ix (ix_listK K) (pe_lst (pa_cons pe_int (pa_cons (pe_un un_neg pe_int) (pa_cons (pe_un un_neg pe_int) (pa_cons pe_int (pa_cons pe_int (pa_cons (pe_un un_neg pe_int) pa_nil))))))) (pe_call (ok_law_take c) (by exact hr.mono (by decide)) rfl c.g_law_take c.Ff_law_take.kp c.bf_law_take .nil pass0 (pa_cons (pv 0) (pa_cons pe_int pa_nil))) (fun _ _ => rfl)) pa_nil)))))
      (pss_cons (ps_if (pt_cmpR op_eq (pe_callB (call_lenK K) (by rfl) c.z_len PySem.boot_len (pa_cons (pv 2) pa_nil)) pe_int (nomark _)) (pss_one (ps_expr (pe_bmK K PySem.F.plainAttrs_list PySem.F.slot_list_append PySem.F.type_list_append mt_append (pv 2) (pa_cons (pe_tup (pa_cons (pe_ix (ix_listK K) (pv 1) (pe_call (ok_law_take c) (by exact hr.mono (by decide)) rfl c.g_law_take c.Ff_law_take.kp c.bf_law_take .nil pass0 (pa_cons (pv 0) (pa_cons (pe_callB (call_lenK K) (by rfl) c.z_len PySem.boot_len (pa_cons (pv 1) pa_nil)) pa_nil))) (fun _ _ => rfl)) (pa_cons pe_int pa_nil))) pa_nil)))) pss_nil)
      (pss_one (ps_ret (pe_callTy (call_tupleFK K) (by rfl) c.z_tuple (by decide +kernel) (pa_cons (pe_slice (sl_listK K) (pv 2) po_none (po_some pe_int)) pa_nil))))))), fun x Q σ hx hs k => ?_⟩
  have kk := k
  obtain ⟨⟨st, lt, tp, i0⟩, ln, ns⟩ := x
  obtain ⟨d, hi, ne, hln, nok⟩ : Dr st lt tp i0 H ∧ i0 < 960 ∧ st ≠ lt ∧ H ln = some (.lst (ns.map V.str)) ∧ NmOk ns := hx
  have hs : Sat [some (tyE (.ref st)), some (tyE (.ref ln)), none, none] σ H := hs
  have lne : ln ≠ st := fun z => by
    rw [z, d.at_] at hln
    cases ns with
    | nil => cases hln
    | cons a t => cases hln
  refine q_draw (α := Str × Int) (T := tyTm K) (Pl := fun i l => (l.map fun t => t.1).Sublist (ns.take i) ∧ ∀ t, t ∈ l → t.2.natAbs ≤ 3 ∧ t.2 ≠ 0) (kk := 2) (j := 3) (r := 2) d hs (ei_strs (ev_var (i := 1) hs rfl) hln)
    (fun H2 H3 e f g => ⟨SqL.of (f _ _ (by simpa using lne) (e _ _ hln)), (ge_ex e).trans g⟩) (by have := nok.len; omega) ⟨.slnil, fun t h => by cases h⟩ (fun i σ' H' i1 l hi' pl d1 le fr s1 Q1 Q2 h1 h2 => ?_) fun p xs l σ' H1 i1 hp f1 d1 le at1 it pl ll s1 => ?_
  · have hnl := nok.len
    have s1 : Sat [some (tyE (.ref st)), some (tyE (.ref ln)), none, some (tyE (.str (ns.getD i default)))] σ' H' := s1
    have tk : ns.take (i + 1) = ns.take i ++ [ns.getD i default] := getD_take hi'
    refine take_it (m := 2) d1 (by omega) (by decide) ne (ev_var (i := 0) s1 rfl) ev_c fun r H2 hr f2 g2 d2 => ?_
    refine ⟨rfl, _, rfl, ?_⟩
    show ite _ _ _
    by_cases hr0 : r = 0
    · subst hr0
      rw [if_pos (by decide)]
      have s2 := s1.st g2
      obtain ⟨v3, e3, z3⟩ := s2.get (i := 3) rfl
      refine ⟨v3, e3, ?_⟩
      have z3 : v3 = .str (ns.getD i default) := z3
      subst z3
      refine do_cons (do_op ?_)
      refine el_cs (K := K) (cs := cz.map V.int) (ea_cons ev_c (ea_cons (ev_flat (Evl.ev_un (flat_ev (K := K) ev_c) ru_neg)) (ea_cons (ev_flat (Evl.ev_un (flat_ev (K := K) ev_c) ru_neg)) (ea_cons ev_c (ea_cons ev_c (ea_cons (ev_flat (Evl.ev_un (flat_ev (K := K) ev_c) ru_neg)) ea_nil)))))) (by decide) _ (Ex.refl _) _ fun pc H3 hpc ec hc => ?_
      have pcn : pc ≠ st := fun z => by rw [z, d2.at_] at hpc; cases hpc
      refine take_it (m := 6) (d2.ex ec) (by omega) (by decide) ne (ev_var (i := 0) (s2.ex ec) rfl) ev_c fun r2 H5 hr2 f5 g5 d5 => ?_
      obtain ⟨c1, c2, c3⟩ := cz_ok ⟨r2, hr2⟩
      refine ⟨pc, _, (r2 : Nat), _, rfl, rfl, SqL.of (f5 _ _ (by simpa using pcn) hc), atI_nat c1, two_le, fun pt hpt => ?_⟩
      refine h1 _ _ (ns.getD i default, cz.getD r2 0) (i1 + 1 + 1) ((((f2.trans (Fr.of ec)).trans f5).trans (Fr.of (Ex.new hpt)))) (d5.ex (Ex.new hpt)) (Nat.le_refl _) ⟨pt, _, rfl, upd_same, .cons rfl (.cons rfl .nil)⟩ ⟨?_, fun t h => ?_⟩
      · rw [List.map_append, tk]
        exact pl.1.append (List.Sublist.refl _)
      · rcases List.mem_append.mp h with h | h
        · exact pl.2 t h
        · rw [List.mem_singleton.mp h]
          exact ⟨c2, c3⟩
    · rw [if_neg (by simp; omega)]
      exact h2 _ (i1 + 1) f2 d2 (by omega) ⟨by rw [tk]; exact pl.1.trans (List.sublist_append_left _ _), pl.2⟩
  · have s1 : Sat [some (tyE (.ref st)), some (tyE (.ref ln)), some (tyE (.ref p)), none] σ' H1 := s1
    have hnl := nok.len
    have pln : (l.map fun t => t.1).Sublist ns := by have := pl.1; rw [List.take_length] at this; exact this
    -- what is handed back
    have fin : ∀ σ2 H2 i2 ts ys (D : Ends), Fr [st] H H2 → Dr st lt tp i2 H2 → i2 ≤ i0 + 20 → H2 p = some (.lst ys) → LsT (tyTm K) ts ys H2 → ts ≠ [] → (ts.map fun t => t.1).Sublist ns → (∀ t, t ∈ ts → t.2.natAbs ≤ 3 ∧ t.2 ≠ 0) → Sat [some (tyE (.ref st)), some (tyE (.ref ln)), some (tyE (K := K) (.ref p)), none] σ2 H2 →
        (∀ v H', Q v H' → D.rt v H') → tRet (tCB (rTupF K) (tCons (tSl (rSlL K) (tVar 2) tNoPart (tPart (tC (.int 3)))) tNil)) D σ2 H2 := fun σ2 H2 i2 ts ys D f2 d2 le2 at2 it2 hne sub co s2 hD => by
      have ee := ls_take (k := 3) at2 it2 (ev_var (i := 2) s2 rfl) ev_c
      have e3 : EvPL (K := K) (tSl (rSlL K) (tVar 2) tNoPart (tPart (tC (.int 3)))) σ2 H2 (ts.take 3).length (fun i => tyTm K ((ts.take 3).getD i default)) := fun H3 e Q' q => ee H3 e Q' fun p xs H4 hp ex at_ it => q p xs H4 hp ex at_ it.ln it.its
      refine s_ret (T := tyTerms K (ts.take 3)) (ev_tupleF e3) fun v H3 e3 z => hD v H3 (kk v H3 (f2.trans (Fr.of e3)) ⟨i2, ts.take 3, le2, d2.ex e3, ⟨?_, ?_, ?_, fun t h => co t (List.mem_of_mem_take h)⟩, z⟩)
      · cases ts with
        | nil => exact absurd rfl hne
        | cons a t => intro z; cases z
      · rw [List.length_take]; omega
      · rw [List.map_take]; exact (List.take_sublist _ _).trans sub
    have eL := ev_lenL (K := K) at1 (ev_var (i := 2) s1 rfl)
    refine Pt.q_if (b := decide (l = [])) (et_of (K := K) (b := decide (l = [])) ?_) (fun hb H2 e2 => ?_) fun hb H2 e2 => ?_
    · have := ev_flat (K := K) (Evl.ev_op (flat_ev eL) (flat_ev (K := K) (ev_c (v := .int 0))) (rv_eq rfl))
      rw [it.ln] at this
      have hd : decide (V.int ((l.length : Nat) : Int) = V.int 0) = decide (l = []) := by
        rw [dec_int, Bool.eq_iff_iff, beq_iff_eq, decide_eq_true_eq, ← List.length_eq_zero_iff]
        omega
      rw [hd] at this
      exact this
    · have hb : l = [] := of_decide_eq_true hb
      have s2 := s1.ex e2
      have d2 := d1.ex e2
      have at2 := e2 _ _ at1
      have hl2 : H2 ln = some (.lst (ns.map V.str)) := e2 _ _ (f1 _ _ (by simpa using lne) hln)
      have pne : p ≠ st := fun z => by rw [z, d.at_] at hp; cases hp
      have npos : 0 < ns.length := List.length_pos_iff.mpr nok.ne
      refine s_appX (R := fun v H' => ∃ r : Nat, r < ns.length ∧ Fr [st] H2 H' ∧ Dr st lt tp (i1 + 1) H' ∧ (tyTm K (ns.getD r default, 1)).p v H') at2 (ev_var (i := 2) s2 rfl) (fun H3 e3 Q' q => ?_) (fun v H' ⟨_, _, f, _⟩ => f _ _ (by simpa using pne) at2) (by have := it.ln; omega) fun v H' ⟨r, hr, f, dd, z⟩ => ?_
      · have s3 := s2.ex e3
        have eN := ev_lenL (K := K) (e3 _ _ hl2) (ev_var (i := 1) s3 rfl)
        rw [List.length_map] at eN
        refine do_tup (do_cons (do_op ?_))
        refine ev_var (i := 1) s3 rfl H3 (Ex.refl _) _ fun v4 H4 e4 z4 => ?_
        cases z4
        refine take_it (m := ns.length) ((d2.ex e3).ex e4) (by omega) npos ne (ev_var (i := 0) (s3.ex e4) rfl) (eN.mono e4) fun r H5 hr f5 g5 d5 => ?_
        have hx : (ns.map V.str)[r]? = some (.str (ns.getD r default)) := by rw [List.getElem?_map, List.getElem?_eq_getElem hr, List.getD_eq_getElem?_getD, List.getElem?_eq_getElem hr]; rfl
        refine ⟨ln, _, (r : Nat), _, rfl, rfl, SqL.of (f5 _ _ (by simpa using lne) (e4 _ _ (e3 _ _ hl2))), atI_nat hx, two_le, fun pt hpt => ?_⟩
        exact q _ _ ⟨r, hr, ((Fr.of (e3.trans e4)).trans f5).trans (Fr.of (Ex.new hpt)), d5.ex (Ex.new hpt), pt, _, rfl, upd_same, .cons rfl (.cons rfl .nil)⟩
      · have at3 : H' p = some (.lst xs) := f _ _ (by simpa using pne) at2
        have g : Ge K H' (L2.upd H' p (.lst (xs ++ [v]))) := ge_lst at3
        have ltn : lt ≠ p := fun z => by
          have := d.tape.at_
          rw [z, hp] at this
          cases this
        have d4 : Dr st lt tp (i1 + 1) (L2.upd H' p (.lst (xs ++ [v]))) := ⟨by rw [upd_ne pne.symm]; exact dd.at_, by rw [upd_ne ltn]; exact dd.tape.at_, dd.tape.lo⟩
        have ll0 : l.length = 0 := by rw [hb]; rfl
        have i2 : LsT (tyTm K) (l ++ [(ns.getD r default, 1)]) (xs ++ [v]) H' := ((it.ex e2).st (d2.ge f)).snoc z
        have f4 : Fr [st] H (L2.upd H' p (.lst (xs ++ [v]))) := fun u o hu ho => by
          rw [upd_ne (fun z => by rw [z, hp] at ho; cases ho)]
          exact f u o hu (e2 _ _ (f1 u o hu ho))
        have hns : (ns.getD r default) ∈ ns := getD_mem hr
        refine fin σ' _ (i1 + 1) _ _ _ f4 d4 (by omega) upd_same (i2.st g) (by simp) ?_ (fun t h => ?_) (((s2.st (d2.ge f)).st g)) fun v H' q => q
        · rw [hb]
          exact List.singleton_sublist.mpr hns
        · rw [hb] at h
          rw [List.mem_singleton.mp h]
          exact ⟨by show (1 : Int).natAbs ≤ 3; decide, by show (1 : Int) ≠ 0; decide⟩
    · have hb : l ≠ [] := of_decide_eq_false hb
      exact fin σ' H2 i1 l xs _ (f1.trans (Fr.of e2)) (d1.ex e2) (by omega) (e2 _ _ at1) (it.ex e2) hb pln pl.2 (s1.ex e2) fun v H' q => q
end
end Pd

/-! The law's drawn surveys. -/
namespace Pd
open PySem PySem.Spec PyProof.Rows L2 Evl Pt Pn
open Pb (Ht Sz entV entM)
section
variable {P : Program} {w : World} {K : PySem.W.Frag} {mg : Str → Option Value} {base : Heap}
section
variable {σ : L2.St} {H : Hp} {te : TE} {t : TA} {D : Ends} {tz tu : TS} {g : TG}
theorem do_call {sp : Sp} {E : XK} {Q : VK} (h : t σ H fun vs H1 => sp (vs ++ []) H1 Q E) : tCall sp [] E t σ H Q := h
theorem do_c {v : V} {Q : VK} (h : Q v H) : tC v σ H Q := h
theorem do_nil {Q : List V → Hp → Prop} (h : Q [] H) : tNil σ H Q := h
theorem do_yes {Q1 : VK} {Q2 : Hp → Prop} (h : te σ H Q1) : tYes σ H fun b H3 => if b = true then te σ H3 Q1 else Q2 H3 := by
  show (if true = true then te σ H Q1 else Q2 H)
  rw [if_pos rfl]
  exact h
/-- for k in range(e), e draws -/
theorem q_forR {R : Nat → Hp → Prop} (he : ∀ Q : VK, (∀ m H', R m H' → Q (.int (m : Nat)) H') → te σ H Q) (hR : ∀ m H', R m H' → m < 1000) (Pv : Nat → Nat → L2.St → Hp → Prop) (h0 : ∀ m H', R m H' → Pv m 0 σ H')
    (hs : ∀ m i σ' H', m < 1000 → i < m → Pv m i σ' H' → g (.int (i : Nat)) σ' H' fun σ2 H3 => tu { D with nx := Pv m (i + 1), ct := Pv m (i + 1), bk := tz D } σ2 H3)
    (hd : ∀ m σ' H', m < 1000 → Pv m m σ' H' → tz D σ' H') : tSeq (tFor (iRng1 (tCons te tNil)) g tu) tz D σ H := by
  show te σ H fun x H1 => tNil σ H1 fun xs H2 => _
  refine he _ fun m H' r => ?_
  have hm := hR m H' r
  refine ⟨(m : Nat), rfl, by omega, by omega, ?_⟩
  rw [Int.toNat_natCast]
  refine for_it (D := { D with nx := tz D }) walk_range (Pv m) (h0 m H' r) (fun _ _ _ _ _ => trivial) (fun i x σ' H1 H2 hi p y => ?_) (fun σ' H1 p => hd m σ' H1 hm p)
  obtain ⟨rfl, rfl⟩ := y
  rw [show (fun i : Nat => V.int (0 + (i : Int))) i = V.int (i : Nat) from congrArg V.int (Int.zero_add _)]
  exact hs m i σ' _ hm hi p
end
/-- a weight drawn -/
structure WtOk (q : Rat) : Prop where
  d : Pb.IntD 2 8 q
  pos : 0 < q
theorem intD_of {D B : Nat} {q : Rat} (h : (q * (D : Rat)).den = 1) (b : (q * (D : Rat)).num.natAbs ≤ B) : Pb.IntD D B q := ⟨(q * (D : Rat)).num, by
  have e := Pb.num_den (q * (D : Rat))
  rw [h] at e
  rw [← e]
  exact (Rat.mul_one _).symm, b⟩
theorem WtOk.of {a b : Nat} (ha : a < 4) (hb : b < 2) : WtOk (Pb.fr ((1 + a : Nat) : Int) ((1 + b : Nat) : Int)) := by
  have key : ∀ a : Fin 4, ∀ b : Fin 2, (Pb.fr ((1 + a.val : Nat) : Int) ((1 + b.val : Nat) : Int) * ((2 : Nat) : Rat)).den = 1 ∧ (Pb.fr ((1 + a.val : Nat) : Int) ((1 + b.val : Nat) : Int) * ((2 : Nat) : Rat)).num.natAbs ≤ 8 ∧ 0 < Pb.fr ((1 + a.val : Nat) : Int) ((1 + b.val : Nat) : Int) := by decide +kernel
  obtain ⟨h1, h2, h3⟩ := key ⟨a, ha⟩ ⟨b, hb⟩
  exact ⟨intD_of h1 h2, h3⟩
theorem NumOk.intD {q : Rat} (h : NumOk q) : Pb.IntD 6 36 q := by
  have e := Pb.num_den q
  have d := h.d
  have n := h.n
  have p := q.den_pos
  have c : q.den = 1 ∨ q.den = 2 ∨ q.den = 3 := by omega
  rcases c with c | c | c
  · rw [c] at e
    refine ⟨6 * q.num, ?_, by omega⟩
    rw [Rat.intCast_mul, ← e]
    show q * 6 = 6 * (q * 1)
    grind
  · rw [c] at e
    refine ⟨3 * q.num, ?_, by omega⟩
    rw [Rat.intCast_mul, ← e]
    show q * 6 = 3 * (q * 2)
    grind
  · rw [c] at e
    refine ⟨2 * q.num, ?_, by omega⟩
    rw [Rat.intCast_mul, ← e]
    show q * 6 = 2 * (q * 3)
    grind
/-- a drawn reading -/
structure DRd (ns : List Str) (r : Rdg) : Prop where
  tm : TmOk ns r.ts
  val : NumOk r.val
  wt : WtOk r.wt
def nmK (mark : Str) (k : Nat) : Str := mark ++ ((toString ((k : Nat) : Int) : String) : Str)
abbrev tyNr (K : PySem.W.Frag) (a : Str × Rat) : Ty K := tyTup [tyE (.str a.1), tyPr a.2]
structure SvD where
  ln : Addr
  lr : Addr
  near : List (Str × Rat)
  rds : List Rdg
/-- a drawn survey -/
structure Sv (K : PySem.W.Frag) (ns : List Str) (s : SvD) (H : Hp) : Prop where
  nr : ∃ xs, H s.ln = some (.lst xs) ∧ LsT (tyNr K) s.near xs H
  rd : ∃ xs, H s.lr = some (.lst xs) ∧ LsT (tyRd K) s.rds xs H
  nn : s.near.map (fun a => a.1) = ns
  no : ∀ a, a ∈ s.near → NumOk a.2
  ro : ∀ r, r ∈ s.rds → DRd ns r
  l5 : s.rds.length ≤ 5
abbrev SuX := DrX × Addr × List Str × Str × Nat
def sSurv (K : PySem.W.Frag) : Spw K := ⟨SuX, fun x => [tyE (.ref x.1.1), tyE (.ref x.2.1), tyE (.str x.2.2.2.1), tyE (.int (x.2.2.2.2 : Int))],
  fun x H => Dr x.1.1 x.1.2.1 x.1.2.2.1 x.1.2.2.2 H ∧ x.1.2.2.2 < 700 ∧ x.1.1 ≠ x.1.2.1 ∧ H x.2.1 = some (.lst (x.2.2.1.map V.str)) ∧ NmOk x.2.2.1 ∧ x.2.2.2.1.length ≤ 10 ∧ x.2.2.2.2 ≤ 5, fun x => [x.1.1],
  fun x H v H' => ∃ i s, i ≤ x.1.2.2.2 + 150 ∧ Dr x.1.1 x.1.2.1 x.1.2.2.1 i H' ∧ H s.ln = none ∧ H s.lr = none ∧ s.ln ≠ s.lr ∧ Sv K x.2.2.1 s H' ∧ s.rds.map (fun r => r.name) = (List.range s.rds.length).map (nmK x.2.2.2.1) ∧ (tyTup (K := K) [tyE (.ref s.ln), tyE (.ref s.lr)]).p v H'⟩
theorem four_le (a b d e : V) : ([a, b, d, e] : List V).length ≤ sizeLine := Nat.le_of_lt (Evl.sz_lt (by simp))
theorem two_le' (a b : V) : ([a, b] : List V).length ≤ sizeLine := Nat.le_of_lt (Evl.sz_lt (by simp))
theorem len_k : ∀ k : Fin 6, ((toString ((k.val : Nat) : Int) : String) : Str).length ≤ 10 := by decide +kernel
theorem log_k : ∀ k : Fin 6, (((k.val : Nat) : Int)).natAbs.log2 < 1920 := by decide +kernel
theorem sc_f_law_survey : FnScope ["_law_state", "_law_names", "_law_mark", "_law_many", "_law_near", "_law_name", "_law_readings", "_law_k", "_law_weight"] ["_law_state", "_law_names", "_law_mark", "_law_many"] (defScope sf_law_survey) := ⟨rfl, rfl, rfl, by decide +kernel, rfl, by decide +kernel, by decide +kernel⟩
theorem ok_law_survey (c : Cxt P K mg base) : Ok P w K mg base df_law_survey 36 ["_law_state", "_law_names", "_law_mark", "_law_many"] (sSurv K).sp := by
  have nd := (sc_f_law_survey).nd
  refine okW c.Ff_law_survey sc_f_law_survey (sSurv K) (fun _ => rfl) fun cdv A outer s0 H E hr => ⟨_, PSs.nox ((pss_cons (ps_setLc (i := 4) (own := [("_law_name", 5)]) (g := gName 5) (tt := tYes) rfl nd rfl rfl (sw_true rfl rfl rfl (by decide +kernel)) (pi_listK K (pv 1)) (blkOk_by rfl) (fun _ _ _ _ _ => (pg_name (i := 5) nd rfl (by first | exact Or.inl rfl | exact Or.inr rfl))) (fun _ _ _ _ _ => pts_nil) (fun _ _ _ _ _ => (pe_tup (pa_cons (pv 5) (pa_cons (pe_call (ok_law_number c) (by exact hr.mono (by decide)) rfl c.g_law_number c.Ff_law_number.kp c.bf_law_number .nil pass0 (pa_cons (pv 0) pa_nil)) pa_nil)))))
      (pss_cons (ps_set (i := 6) nd rfl (by first | exact Or.inl rfl | exact Or.inr rfl) (pe_lst pa_nil))
      (pss_cons (ps_for PassesOwn.never rfl (pi_range1 rfl c.z_range (pa_cons (pe_call (ok_law_take c) (by exact hr.mono (by decide)) rfl c.g_law_take c.Ff_law_take.kp c.bf_law_take .nil pass0 (pa_cons (pv 0) (pa_cons (pe_op op_add (pv 3) pe_int) pa_nil))) pa_nil)) (pg_name (i := 7) nd rfl (by first | exact Or.inl rfl | exact Or.inr rfl)) (pss_cons (ps_set (i := 8) nd rfl (by first | exact Or.inl rfl | exact Or.inr rfl) (pe_call (ok_law_pair c) (by exact hr.mono (by decide)) rfl c.g_law_pair c.Ff_law_pair.kp c.bf_law_pair .nil pass0 (pa_cons (pe_op op_add pe_int (pe_call (ok_law_take c) (by exact hr.mono (by decide)) rfl c.g_law_take c.Ff_law_take.kp c.bf_law_take .nil pass0 (pa_cons (pv 0) (pa_cons pe_int pa_nil)))) (pa_cons (pe_op op_add pe_int (pe_call (ok_law_take c) (by exact hr.mono (by decide)) rfl c.g_law_take c.Ff_law_take.kp c.bf_law_take .nil pass0 (pa_cons (pv 0) (pa_cons pe_int pa_nil)))) pa_nil))))
      (pss_one (ps_expr (pe_bmK K PySem.F.plainAttrs_list PySem.F.slot_list_append PySem.F.type_list_append mt_append (pv 6) (pa_cons (pe_tup (pa_cons (pe_op op_add_str (pv 2) (pe_callTy call_str_int (by rfl) c.z_str (by decide +kernel) (pa_cons (pv 7) pa_nil))) (pa_cons (pe_call (ok_law_terms c) (by exact hr.mono (by decide)) rfl c.g_law_terms c.Ff_law_terms.kp c.bf_law_terms .nil pass0 (pa_cons (pv 0) (pa_cons (pv 1) pa_nil))) (pa_cons (pe_call (ok_law_number c) (by exact hr.mono (by decide)) rfl c.g_law_number c.Ff_law_number.kp c.bf_law_number .nil pass0 (pa_cons (pv 0) pa_nil)) (pa_cons (pv 8) pa_nil))))) pa_nil))))))
      (pss_one (ps_ret (pe_tup (pa_cons (pv 4) (pa_cons (pv 6) pa_nil))))))))), fun x Q σ hx hs k => ?_⟩
  have kk := k
  obtain ⟨⟨st, lt, tp, i0⟩, ln, ns, mark, many⟩ := x
  obtain ⟨d, hi, ne, hln, nok, hmk, hmy⟩ : Dr st lt tp i0 H ∧ i0 < 700 ∧ st ≠ lt ∧ H ln = some (.lst (ns.map V.str)) ∧ NmOk ns ∧ mark.length ≤ 10 ∧ many ≤ 5 := hx
  have hs : Sat [some (tyE (.ref st)), some (tyE (.ref ln)), some (tyE (.str mark)), some (tyE (.int (many : Int))), none, none, none, none, none] σ H := hs
  have lne : ln ≠ st := fun z => by
    rw [z, d.at_] at hln
    cases ns with
    | nil => cases hln
    | cons a t => cases hln
  have hnl := nok.len
  refine q_draw (α := Str × Rat) (T := tyNr K) (Pl := fun i l => l.map (fun a => a.1) = ns.take i ∧ ∀ a, a ∈ l → NumOk a.2) (kk := 2) (j := 5) (r := 4) d hs (ei_strs (ev_var (i := 1) hs rfl) hln)
    (fun H2 H3 e f g => ⟨SqL.of (f _ _ (by simpa using lne) (e _ _ hln)), (ge_ex e).trans g⟩) (by omega) ⟨rfl, fun t h => by cases h⟩ (fun i σ' H' i1 l hi' pl d1 le fr s1 Q1 Q2 h1 h2 => ?_) fun p xs l σ1 H1 i1 hp f1 d1 le at1 it pl ll s1 => ?_
  · have s1 : Sat [some (tyE (.ref st)), some (tyE (.ref ln)), some (tyE (.str mark)), some (tyE (.int (many : Int))), none, some (tyE (.str (ns.getD i default))), none, none, none] σ' H' := s1
    refine do_yes ?_
    obtain ⟨v3, e3, z3⟩ := s1.get (i := 5) rfl
    have z3 : v3 = .str (ns.getD i default) := z3
    subst z3
    refine do_tup (do_cons ⟨_, e3, do_cons ?_⟩)
    refine callW (s := sNum K) (st, lt, tp, i1) (fun H1 e => ⟨d1.ex e, by show i1 < 990; omega, ne⟩) (ea_cons (ev_var (i := 0) s1 rfl) ea_nil) fun H2 v H3 e2 f ⟨d3, q, hq, tq⟩ => ?_
    refine ⟨two_le' _ _, fun pt hpt => ?_⟩
    refine h1 _ _ (ns.getD i default, q) (i1 + 2) (((Fr.of e2).trans f).trans (Fr.of (Ex.new hpt))) (d3.ex (Ex.new hpt)) (Nat.le_refl _) ⟨pt, _, rfl, upd_same, .cons rfl (.cons (Ty.st _ _ _ _ (ge_new hpt) tq) .nil)⟩ ⟨?_, fun t h => ?_⟩
    · rw [List.map_append, getD_take hi', pl.1]
      rfl
    · rcases List.mem_append.mp h with h | h
      · exact pl.2 t h
      · rw [List.mem_singleton.mp h]
        exact hq
  have s1 : Sat [some (tyE (.ref st)), some (tyE (.ref ln)), some (tyE (.str mark)), some (tyE (.int (many : Int))), some (tyE (.ref p)), none, none, none, none] σ1 H1 := s1
  have pne : p ≠ st := fun z => by rw [z, d.at_] at hp; cases hp
  refine q_asgL (i := 6) (T := fun _ => tyE .non) s1 el_nil fun q xs2 σ2 H2 hq e2 at2 l2 _ s2 => ?_
  have qne : q ≠ st := fun z => by rw [z, d1.at_] at hq; cases hq
  have pq : p ≠ q := fun z => by rw [← z, at1] at hq; cases hq
  have hq0 : H q = none := by
    cases hH : H q with
    | none => rfl
    | some o => rw [f1 q o (by simpa using qne) hH] at hq; cases hq
  have x20 : xs2 = [] := List.length_eq_zero_iff.mp l2
  subst x20
  have d2 := d1.ex e2
  have f2 : Fr [st] H H2 := f1.trans (Fr.of e2)
  refine q_forR (R := fun m H' => m < 6 ∧ Fr [st] H2 H' ∧ Dr st lt tp (i1 + 1) H') (fun Q' hQ => ?_) (fun m H' r => by have := r.1; omega)
    (fun m i σ' H' => m < 6 ∧ Fr [st, q] H2 H' ∧ Ge K H2 H' ∧ Sat (K := K) [some (tyE (.ref st)), some (tyE (.ref ln)), some (tyE (.str mark)), some (tyE (.int (many : Int))), some (tyE (.ref p)), none, some (tyE (.ref q)), none, none] σ' H' ∧
      ∃ i2 rs rds, Dr st lt tp i2 H' ∧ i2 ≤ i1 + 1 + 24 * i ∧ H' q = some (.lst rs) ∧ LsT (tyRd K) rds rs H' ∧ rds.length = i ∧ rds.map (fun r => r.name) = (List.range i).map (nmK mark) ∧ ∀ r, r ∈ rds → DRd ns r)
    (fun m H' r => ?_) (fun m i σ' H' hm hi' pv => ?_) fun m σ' H' hm pv => ?_
  · exact take_it (m := many + 1) d2 (by omega) (by omega) ne (ev_var (i := 0) s2 rfl) (ev_addN (b := 1) (ev_var (i := 3) s2 rfl) ev_c) fun r H' hr f g dd => hQ r H' ⟨by omega, f, dd⟩
  · obtain ⟨r1, r2, r3⟩ := r
    have g : Ge K H2 H' := d2.ge r2
    exact ⟨r1, fun a o h => r2 a o fun z => h (by simp at z ⊢; exact .inl z), g, s2.st g, i1 + 1, [], [], r3, by omega, r2 _ _ (by simpa using qne) at2, LsT.nil, rfl, rfl, fun r h => by cases h⟩
  · obtain ⟨m6, f3, g3, s3, i2, rs, rds, d3, le3, at3, it3, ln3, nm3, ok3⟩ := pv
    have s4 := s3.set (i := 7) (T := tyE (.int ((i : Nat) : Int))) (v := .int (i : Nat)) rfl
    refine do_asg (do_call (do_cons (do_op (do_c ?_))))
    refine take_it (m := 4) d3 (by omega) (by decide) ne (ev_var (i := 0) s4 rfl) ev_c fun a H5 ha f5 g5 d5 => ?_
    refine ⟨_, _, rfl, rfl, do_cons (do_op (do_c ?_))⟩
    refine take_it (m := 2) d5 (by omega) (by decide) ne (ev_var (i := 0) (s4.st g5) rfl) ev_c fun b H6 hb f6 g6 d6 => ?_
    refine ⟨_, _, rfl, rfl, do_nil ?_⟩
    refine ⟨(((1 + a : Nat) : Int), 1 + b), ⟨by show 0 < 1 + b; omega, Nat.lt_of_lt_of_le (show 1 + b < 2 ^ 2 by omega) (Nat.pow_le_pow_right (by decide) (by decide))⟩, ?_, fun v7 H7 e7 z7 => ?_⟩
    · refine .cons ?_ (.cons ?_ .nil)
      · show V.int _ = V.int _
        rw [Int.natCast_add]
        rfl
      · show V.int _ = V.int _
        rw [Int.natCast_add]
        rfl
    have wok := WtOk.of ha hb
    have z7 : (tyPr (K := K) (Pb.fr ((1 + a : Nat) : Int) ((1 + b : Nat) : Int))).p v7 H7 := z7
    generalize Pb.fr ((1 + a : Nat) : Int) ((1 + b : Nat) : Int) = wt at wok z7
    have s7 := (((s4.st g5).st g6).ex e7).set (i := 8) z7
    have f37 : Fr [st] H' H7 := (f5.trans f6).trans (Fr.of e7)
    have d7 := d6.ex e7
    have at7 : H7 q = some (.lst rs) := f37 _ _ (by simpa using qne) at3
    have it7 := it3.st (d3.ge f37)
    have k6 : i < 6 := by omega
    have hln7 : H7 ln = some (.lst (ns.map V.str)) := f37 _ _ (by simpa using lne) (f3 _ _ (by
      simp only [List.mem_cons, List.not_mem_nil, or_false, not_or]
      exact ⟨lne, fun z => by rw [z, hq0] at hln; cases hln⟩) (f2 _ _ (by simpa using lne) hln))
    refine s_appX (R := fun v H' => ∃ i3 ts val, Fr [st] H7 H' ∧ Dr st lt tp i3 H' ∧ i3 ≤ i2 + 1 + 1 + 20 + 2 ∧ TmOk ns ts ∧ NumOk val ∧ (tyRd K ⟨nmK mark i, ts, val, wt⟩).p v H') at7 (ev_var (i := 6) s7 rfl) (fun H8 e8 Q' q' => ?_) (fun v H' ⟨_, _, _, f, _⟩ => f _ _ (by simpa using qne) at7) (by have := it3.ln; omega) fun v H9 ⟨i3, ts, val, f9, d9, le9, tm, nv, z9⟩ => ?_
    · have s8 := s7.ex e8
      refine do_tup (do_cons (do_op ?_))
      refine ev_var (i := 2) s8 rfl H8 (Ex.refl _) _ fun v9 H9 e9 z9 => ?_
      cases z9
      refine ev_var (i := 7) (s8.ex e9) rfl H9 (Ex.refl _) _ fun v10 H10 e10 z10 => ?_
      cases z10
      refine ⟨_, rfl, log_k ⟨i, k6⟩, ⟨_, _, rfl, rfl, Nat.le_of_lt (Evl.sz_lt (by have := len_k ⟨i, k6⟩; simp only at this; omega)), ?_⟩⟩
      have s10 := (s8.ex e9).ex e10
      have d10 := ((d7.ex e8).ex e9).ex e10
      refine do_cons ?_
      refine callW (s := sTerms K) ((st, lt, tp, i2 + 1 + 1), ln, ns) (fun H1 e => ⟨d10.ex e, by show i2 + 1 + 1 < 960; omega, ne, e _ _ (e10 _ _ (e9 _ _ (e8 _ _ hln7))), nok⟩) (ea_cons (ev_var (i := 0) s10 rfl) (ea_cons (ev_var (i := 1) s10 rfl) ea_nil)) fun H11 v11 H12 e11 f12 ⟨i4, ts, le4, d12, tm, z12⟩ => ?_
      have f1012 : Fr [st] H10 H12 := (Fr.of e11).trans f12
      have s12 := s10.st (d10.ge f1012)
      refine do_cons ?_
      refine callW (s := sNum K) (st, lt, tp, i4) (fun H1 e => ⟨d12.ex e, by have le4 : i4 ≤ i2 + 1 + 1 + 20 := le4; show i4 < 990; omega, ne⟩) (ea_cons (ev_var (i := 0) s12 rfl) ea_nil) fun H13 v13 H14 e13 f14 ⟨d14, val, nv, z14⟩ => ?_
      have f1214 : Fr [st] H12 H14 := (Fr.of e13).trans f14
      have s14 := s12.st (d12.ge f1214)
      refine do_cons ?_
      refine ev_var (i := 8) s14 rfl H14 (Ex.refl _) _ fun v15 H15 e15 z15 => ?_
      refine do_nil ⟨four_le _ _ _ _, fun pt hpt => ?_⟩
      have g1 : Ge K H12 (L2.upd H15 pt (.tup [V.str (mark ++ ((toString ((i : Nat) : Int) : String) : Str)), v11, v13, v15])) := ((d12.ge f1214).trans (ge_ex e15)).trans (ge_new hpt)
      have g2 : Ge K H14 (L2.upd H15 pt (.tup [V.str (mark ++ ((toString ((i : Nat) : Int) : String) : Str)), v11, v13, v15])) := (ge_ex e15).trans (ge_new hpt)
      refine q' _ _ ⟨i4 + 2, ts, val, ((((Fr.of (e8.trans (e9.trans e10))).trans f1012).trans f1214).trans (Fr.of e15)).trans (Fr.of (Ex.new hpt)), (d14.ex e15).ex (Ex.new hpt), by have le4 : i4 ≤ i2 + 1 + 1 + 20 := le4; omega, tm, nv, pt, _, rfl, upd_same, ?_⟩
      exact .cons rfl (.cons (Ty.st _ _ _ _ g1 z12) (.cons (Ty.st _ _ _ _ g2 z14) (.cons (Ty.st _ _ _ _ (ge_new hpt) z15) .nil)))
    · have at9 : H9 q = some (.lst rs) := f9 _ _ (by simpa using qne) at7
      have g10 : Ge K H9 (L2.upd H9 q (.lst (rs ++ [v]))) := ge_lst at9
      have gA : Ge K H' (L2.upd H9 q (.lst (rs ++ [v]))) := ((d3.ge f37).trans (d7.ge f9)).trans g10
      have ltq : lt ≠ q := fun z => by
        have := d2.tape.at_
        rw [z, at2] at this
        have e := (Option.some.inj this)
        have := d1.tape.at_
        rw [z, hq] at this
        cases this
      have s10 := ((s7.st ((d7.ge f9).trans g10)).forget (i := 7)).forget (i := 8)
      refine ⟨m6, ?_, g3.trans gA, s10, i3, rs ++ [v], rds ++ [⟨nmK mark i, ts, val, wt⟩], ⟨by rw [upd_ne qne.symm]; exact d9.at_, by rw [upd_ne ltq]; exact d9.tape.at_, d9.tape.lo⟩, by omega, upd_same, ((it7.st (d7.ge f9)).snoc z9).st g10, by rw [List.length_append, ln3]; rfl, ?_, fun r h => ?_⟩
      · refine f3.trans fun u o hu ho => ?_
        simp only [List.mem_cons, List.not_mem_nil, or_false, not_or] at hu
        rw [upd_ne hu.2]
        exact f9 u o (by simpa using hu.1) (f37 u o (by simpa using hu.1) ho)
      · rw [List.map_append, nm3, List.range_succ, List.map_append]
        rfl
      · rcases List.mem_append.mp h with h | h
        · exact ok3 r h
        · rw [List.mem_singleton.mp h]
          exact ⟨tm, nv, wok⟩
  · obtain ⟨m6, f3, g3, s3, i2, rs, rds, d3, le3, at3, it3, ln3, nm3, ok3⟩ := pv
    have f03 : Fr [st] H H' := fun u o hu ho => f3 u o (by
      simp only [List.mem_cons, List.not_mem_nil, or_false, not_or]
      exact ⟨by simpa using hu, fun z => by rw [z, hq0] at ho; cases ho⟩) (f2 u o hu ho)
    refine s_ret (T := tyTup [tyE (.ref p), tyE (.ref q)]) (ev_pair (ev_var (i := 4) s3 rfl) (ev_var (i := 6) s3 rfl)) fun v H4 e4 z => kk v H4 (f03.trans (Fr.of e4)) ⟨i2, ⟨p, q, l, rds⟩, by show i2 ≤ i0 + 150; omega, d3.ex e4, hp, hq0, pq, ⟨⟨xs, ?_, ?_⟩, ⟨rs, e4 _ _ at3, it3.ex e4⟩, ?_, pl.2, ok3, by show rds.length ≤ 5; omega⟩, ?_, z⟩
    · refine e4 _ _ (f3 _ _ ?_ (e2 _ _ at1))
      simp only [List.mem_cons, List.not_mem_nil, or_false, not_or]
      exact ⟨pne, pq⟩
    · exact ((it.ex e2).st g3).ex e4
    · have := pl.1
      rw [List.take_length] at this
      exact this
    · show rds.map (fun r => r.name) = (List.range rds.length).map (nmK mark)
      rw [ln3]
      exact nm3
end
end Pd

/-! More of lists told by lists. -/
namespace Pd
open PySem PySem.Spec PyProof.Rows L2 Evl Pt Pn
section
variable {K : PySem.W.Frag} {σ : L2.St} {H : Hp} {te ta tb : TE} {t : TA} {D : Ends} {tz tu : TS}
theorem do_lst {Q : VK} (h : t σ H fun xs H1 => xs.length ≤ sizeLine ∧ ∀ p, H1 p = none → Q (.ref p) (L2.upd H1 p (.lst xs))) : tLst t σ H Q := h
theorem do_sl {r : V → Option Int → Option Int → Hp → VK → Prop} {tl th : TO} {Q : VK} (h : te σ H fun x H1 => tl σ H1 fun l H2 => th σ H2 fun u H3 => r x l u H3 Q) : tSl r te tl th σ H Q := h
theorem do_nopart {Q : Option Int → Hp → Prop} (h : Q none H) : tNoPart σ H Q := h
theorem do_part {Q : Option Int → Hp → Prop} (h : te σ H fun x H1 => ∃ i, x = .int i ∧ Q (some i) H1) : tPart te σ H Q := h
/-- the items of a list of names written out -/
theorem ei_lit {cs : List Str} {st lt : Addr} {tp : List Nat} {i0 : Nat} (d : Dr st lt tp i0 H) (ha : EvPA (K := K) t σ H ((cs.map V.str).map tyE)) (hl : cs.length ≤ 1000) : EvI (K := K) (iList K (tLst t)) σ H cs.length (fun i => tyE (.str (cs.getD i default))) (fun H2 H3 => Fr [st] H2 H3) := fun H1 e R q => by
  show tLst t σ H1 fun x H2 => ∃ a, x = .ref a ∧ (∃ xs, SqL K H2 a xs) ∧ R (Itl K a) H2
  refine el_cs (K := K) (cs := cs.map V.str) (fun H2 e2 Q2 q2 => ha H2 (e.trans e2) Q2 q2) (by rw [List.length_map]; exact hl) H1 (Ex.refl _) _ fun p H2 hp e2 at2 => ?_
  have ne : p ≠ st := fun z => by rw [z, e _ _ d.at_] at hp; cases hp
  refine ⟨p, rfl, ⟨_, SqL.of at2⟩, q _ H2 e2 ?_⟩
  have w := walk_list (K := K) (a := p) (xs := cs.map V.str)
  rw [List.length_map] at w
  refine w.mono (fun H3 g => SqL.of (g _ _ (by simpa using ne) at2)) fun i H3 x H4 hi g y => ?_
  obtain ⟨e4, e5⟩ := y
  subst e4
  exact ⟨Ex.refl _, (its_strs (K := K) (H := H)) i x e5⟩
variable {α : Type} [Inhabited α] {T : α → Ty K} {l m : List α} {xs ys : List V} {p q : Addr}
/-- l + m -/
theorem ls_cat (hp : H p = some (.lst xs)) (it : LsT T l xs H) (hq : H q = some (.lst ys)) (it' : LsT T m ys H) (ha : EvP (K := K) ta σ H (tyE (.ref p))) (hb : EvP (K := K) tb σ H (tyE (.ref q))) (hl : l.length + m.length ≤ 1000) : EvLs (tOp rCat ta tb) σ H T (l ++ m) := fun H1 e Q k =>
  ha H1 e _ fun v H2 e2 z => hb H2 (e.trans e2) _ fun v' H3 e3 z' => by
    cases z
    cases z'
    have e4 := (e.trans e2).trans e3
    refine ⟨p, q, xs, ys, rfl, rfl, e4 _ _ hp, e4 _ _ hq, Nat.le_of_lt (Evl.sz_lt (by have := it.ln; have := it'.ln; omega)), fun p' hp' => ?_⟩
    exact k p' _ _ (Evl.fresh_back (e2.trans e3) hp') ((e2.trans e3).trans (Ex.new hp')) upd_same (((it.ex e4).ex (Ex.new hp')).app ((it'.ex e4).ex (Ex.new hp')))
theorem ls_catL (hp : H p = some (.lst xs)) (it : LsT T l xs H) (ha : EvP (K := K) ta σ H (tyE (.ref p))) (hb : EvLs tb σ H T m) (hl : l.length + m.length ≤ 1000) : EvLs (tOp rCat ta tb) σ H T (l ++ m) := fun H1 e Q k =>
  ha H1 e _ fun v H2 e2 z => hb H2 (e.trans e2) _ fun p2 ys H3 hp2 e3 at3 it3 => by
    cases z
    have e4 := (e.trans e2).trans e3
    refine ⟨p, p2, xs, ys, rfl, rfl, e4 _ _ hp, at3, Nat.le_of_lt (Evl.sz_lt (by have := it.ln; have := it3.ln; omega)), fun p' hp' => ?_⟩
    exact k p' _ _ (Evl.fresh_back (e2.trans e3) hp') ((e2.trans e3).trans (Ex.new hp')) upd_same (((it.ex e4).ex (Ex.new hp')).app (it3.ex (Ex.new hp')))
/-- a tuple of these -/
theorem ev_tupA {Ts : List (Ty K)} (h : EvPA t σ H Ts) (hl : Ts.length ≤ 1000) : EvP (tTup t) σ H (tyTup Ts) := fun H1 e Q k =>
  h H1 e _ fun vs H2 e2 z => ⟨Nat.le_of_lt (Evl.sz_lt (by have : Ts.length = vs.length := Paired.length z; omega)), fun pt hpt => k _ _ (e2.trans (Ex.new hpt)) ⟨pt, vs, rfl, upd_same, z.st (ge_new hpt)⟩⟩
/-- list(l) -/
theorem ls_list (hp : H p = some (.lst xs)) (it : LsT T l xs H) (ha : EvP (K := K) ta σ H (tyE (.ref p))) : EvLs (tCB (rLstOf K) (tCons ta tNil)) σ H T l := fun H1 e Q k =>
  ha H1 e _ fun v H2 e2 z => by
    cases z
    have e4 := e.trans e2
    refine ⟨p, xs, rfl, .inl (SqL.of (e4 _ _ hp)), fun p' hp' => ?_⟩
    exact k p' _ _ (Evl.fresh_back e2 hp') (e2.trans (Ex.new hp')) upd_same ((it.ex e4).ex (Ex.new hp'))
theorem ls_nil : EvLs (tLst tNil) σ H T [] := fun H1 e Q k => ⟨Nat.zero_le _, fun p' hp' => k p' _ _ hp' (Ex.new hp') upd_same LsT.nil⟩
theorem ls_strs {ns : List Str} (h : LsT (K := K) (fun n => tyE (.str n)) ns xs H) : xs = ns.map V.str := by
  apply List.ext_getElem?
  intro i
  rw [List.getElem?_map]
  by_cases hi : i < ns.length
  · have hx : i < xs.length := by rw [h.ln]; exact hi
    rw [List.getElem?_eq_getElem hx, List.getElem?_eq_getElem hi]
    have := h.its i xs[i] (List.getElem?_eq_getElem hx)
    have this : xs[i] = V.str (ns.getD i default) := this
    rw [this, List.getD_eq_getElem?_getD, List.getElem?_eq_getElem hi]
    rfl
  · rw [List.getElem?_eq_none (l := xs) (by rw [h.ln]; omega), List.getElem?_eq_none (l := ns) (by omega)]
    rfl
theorem q_asgLs' {i : Nat} {Ts : TEnv K} (hs : Sat Ts σ H) (h : EvLs te σ H T l) (k : ∀ p xs σ' H', H p = none → Ex H H' → H' p = some (.lst xs) → LsT T l xs H' → Sat (Ts.set i (some (tyE (.ref p)))) σ' H' → D.nx σ' H') : tAsg te (gName i) D σ H :=
  h H (Ex.refl _) _ fun p xs H1 hp e h1 it => k p xs _ H1 hp e h1 it ((hs.ex e).set rfl)
theorem filter_snoc {f : α → Bool} {i : Nat} (hi : i < l.length) : (l.take (i + 1)).filter f = if f (l.getD i default) = true then (l.take i).filter f ++ [l.getD i default] else (l.take i).filter f := by
  rw [List.take_succ, List.getElem?_eq_getElem hi, List.filter_append]
  have e : l.getD i default = l[i] := by rw [List.getD_eq_getElem?_getD, List.getElem?_eq_getElem hi]; rfl
  rw [e]
  by_cases h : f l[i] = true
  · rw [if_pos h]
    simp [h]
  · rw [if_neg h]
    simp [h]
end
end Pd

/-! The law's drawn parts. -/
namespace Pd
open PySem PySem.Spec PyProof.Rows L2 Evl Pt Pn
open Pb (Ht Sz entV entM)
section
variable {P : Program} {w : World} {K : PySem.W.Frag} {mg : Str → Option Value} {base : Heap}
/-- a drawn part -/
structure PtX where
  s : SvD
  inn : List Str
  own : List (Str × Rat)
instance : Inhabited PtX := ⟨⟨⟨0, 0, [], []⟩, [], []⟩⟩
def INN : Nat → List Str
  | 0 => ["A", "a"]
  | 1 => ["c"]
  | _ => ["d", "e"]
def ALL8 : List Str := ["A", "B", "B1", "Z", "a", "c", "d", "e"]
def BN : List Str := ["B", "B1", "Z"]
def MK (k : Nat) : Str := ⟨#[112 + k]⟩
def inB (inn bd : List Str) (n : Str) : Bool := decide (n ∈ inn) || decide (n ∈ bd)
def nmsOf (inn bd : List Str) : List Str := ALL8.filter (inB inn bd)
structure PtOk (bd : List Str) (near : List (Str × Rat)) (j : Nat) (x : PtX) : Prop where
  near : x.s.near = near ++ x.own
  own : x.own.map (fun a => a.1) = x.inn
  inn : ∃ k, x.inn = (INN j).take k
  no : ∀ a, a ∈ x.own → NumOk a.2
  rd : ∀ r, r ∈ x.s.rds → DRd (nmsOf x.inn bd) r
  l5 : x.s.rds.length ≤ 5
  nm : x.s.rds.map (fun r => r.name) = (List.range x.s.rds.length).map (nmK (MK j))
structure SvAt (K : PySem.W.Frag) (s : SvD) (H : Hp) : Prop where
  nr : ∃ xs, H s.ln = some (.lst xs) ∧ LsT (tyNr K) s.near xs H
  rd : ∃ xs, H s.lr = some (.lst xs) ∧ LsT (tyRd K) s.rds xs H
theorem SvAt.fr {s : SvD} {H H' : Hp} {S : List Addr} (h : SvAt K s H) (f : Fr S H H') (g : Ge K H H') (h1 : s.ln ∉ S) (h2 : s.lr ∉ S) : SvAt K s H' :=
  let ⟨⟨xs, a, b⟩, ⟨ys, c, d⟩⟩ := h
  ⟨⟨xs, f _ _ h1 a, b.st g⟩, ⟨ys, f _ _ h2 c, d.st g⟩⟩
abbrev tySx (K : PySem.W.Frag) (x : PtX) : Ty K := tyTup [tyE (.ref x.s.ln), tyE (.ref x.s.lr)]
/-- the whole survey that is drawn -/
structure PsX where
  lb : Addr
  ln : Addr
  ls : Addr
  wn : Addr
  wr : Addr
  bd : List Str
  near : List (Str × Rat)
  ps : List PtX
structure PsOk (o : PsX) : Prop where
  bd : ∃ r, r < 3 ∧ o.bd = BN.take (1 + r)
  near : o.near.map (fun a => a.1) = o.bd
  no : ∀ a, a ∈ o.near → NumOk a.2
  ln : o.ps.length = 2 ∨ o.ps.length = 3
  ps : ∀ j, j < o.ps.length → PtOk o.bd o.near j (o.ps.getD j default)
def PsX.nears (o : PsX) : List (Str × Rat) := o.near ++ (o.ps.map fun x => x.own).flatten
def PsX.rds (o : PsX) : List Rdg := (o.ps.map fun x => x.s.rds).flatten
structure PsAt (K : PySem.W.Frag) (o : PsX) (H : Hp) : Prop where
  bd : H o.lb = some (.lst (o.bd.map V.str))
  near : ∃ xs, H o.ln = some (.lst xs) ∧ LsT (tyNr K) o.near xs H
  ls : ∃ xs, H o.ls = some (.lst xs) ∧ LsT (tySx K) o.ps xs H
  sv : ∀ x, x ∈ o.ps → SvAt K x.s H
  wn : ∃ xs, H o.wn = some (.lst xs) ∧ LsT (tyNr K) o.nears xs H
  wr : ∃ xs, H o.wr = some (.lst xs) ∧ LsT (tyRd K) o.rds xs H
def sParts (K : PySem.W.Frag) : Spw K := ⟨DrX, fun x => [tyE (.ref x.1)], fun x H => Dr x.1 x.2.1 x.2.2.1 x.2.2.2 H ∧ x.2.2.2 < 10 ∧ x.1 ≠ x.2.1, fun x => [x.1],
  fun x _ v H' => ∃ o, PsOk o ∧ PsAt K o H' ∧ (tyTup (K := K) [tyE (.ref o.lb), tyE (.ref o.ln), tyE (.ref o.ls), tyTup [tyE (.ref o.wn), tyE (.ref o.wr)]]).p v H'⟩
theorem all8_ok {inn bd : List Str} (h : ∃ n, n ∈ ALL8 ∧ n ∈ bd) : NmOk (nmsOf inn bd) := by
  obtain ⟨n, h1, h2⟩ := h
  refine ⟨List.Pairwise.sublist List.filter_sublist (by decide +kernel), fun m hm => ?_, Nat.le_trans (List.length_filter_le _ _) (by decide), fun z => ?_⟩
  · have hm := (List.mem_filter.mp hm).1
    have key : ∀ m, m ∈ ALL8 → [] < m.cps.toList := by decide +kernel
    exact key m hm
  · have : n ∈ nmsOf inn bd := List.mem_filter.mpr ⟨h1, by simp [inB, h2]⟩
    rw [z] at this
    cases this
theorem inn_fix : ∀ j : Fin 3, ∀ k : Fin 3, ALL8.filter (fun n => decide (n ∈ (INN j.val).take k.val)) = (INN j.val).take k.val := by decide +kernel
theorem inn_filter {j k : Nat} {bd : List Str} (hj : j < 3) (hk : k < 3) : (nmsOf ((INN j).take k) bd).filter (fun n => decide (n ∈ (INN j).take k)) = (INN j).take k := by
  unfold nmsOf
  rw [List.filter_filter]
  have e : (fun n : Str => decide (n ∈ (INN j).take k) && inB ((INN j).take k) bd n) = fun n => decide (n ∈ (INN j).take k) := funext fun n => by
    unfold inB
    by_cases h : n ∈ (INN j).take k <;> simp [h]
  rw [e]
  exact inn_fix ⟨j, hj⟩ ⟨k, hk⟩
theorem filter_fst {l : List (Str × Rat)} {f : Str → Bool} : (l.filter fun a => f a.1).map (fun a => a.1) = (l.map fun a => a.1).filter f := by
  rw [List.filter_map]
  rfl
theorem three_le (a b d : V) : ([a, b, d] : List V).length ≤ sizeLine := Nat.le_of_lt (Evl.sz_lt (by simp))
theorem mk_at : ∀ k : Fin 3, atI ("pqr" : Str).cps.toList ((k.val : Nat) : Int) = some (112 + k.val) := by decide +kernel
theorem sc_f_law_parts : FnScope ["_law_state", "_law_border", "_law_near", "_law_name", "_law_surveys", "_law_k", "_law_inner", "_law_names", "_law_survey_here", "_law_own", "_law_pair_here", "_law_whole", "_law_readings"] ["_law_state"] (defScope sf_law_parts) := ⟨rfl, rfl, rfl, by decide +kernel, rfl, by decide +kernel, by decide +kernel⟩
theorem ok_law_parts (c : Cxt P K mg base) : Ok P w K mg base df_law_parts 37 ["_law_state"] (sParts K).sp := by
  have nd := (sc_f_law_parts).nd
  refine okW c.Ff_law_parts sc_f_law_parts (sParts K) (fun _ => rfl) fun cdv A outer s0 H E hr => ⟨_, PSs.nox ((pss_cons (ps_set (i := 1) nd rfl (by first | exact Or.inl rfl | exact Or.inr rfl) (pe_slice (sl_listK K) (pe_lst (pa_cons pe_str (pa_cons pe_str (pa_cons pe_str pa_nil)))) po_none (po_some (pe_op op_add pe_int (pe_call (ok_law_take c) (by exact hr.mono (by decide)) rfl c.g_law_take c.Ff_law_take.kp c.bf_law_take .nil pass0 (pa_cons (pv 0) (pa_cons pe_int pa_nil)))))))
      (pss_cons (ps_setLc (i := 2) (own := [("_law_name", 3)]) (g := gName 3) (tt := tYes) rfl nd rfl rfl (sw_true rfl rfl rfl (by decide +kernel)) (pi_listK K (pv 1)) (blkOk_by rfl) (fun _ _ _ _ _ => (pg_name (i := 3) nd rfl (by first | exact Or.inl rfl | exact Or.inr rfl))) (fun _ _ _ _ _ => pts_nil) (fun _ _ _ _ _ => (pe_tup (pa_cons (pv 3) (pa_cons (pe_call (ok_law_number c) (by exact hr.mono (by decide)) rfl c.g_law_number c.Ff_law_number.kp c.bf_law_number .nil pass0 (pa_cons (pv 0) pa_nil)) pa_nil)))))
      (pss_cons (ps_set (i := 4) nd rfl (by first | exact Or.inl rfl | exact Or.inr rfl) (pe_lst pa_nil))
      (pss_cons (ps_for PassesOwn.never rfl (pi_range1 rfl c.z_range (pa_cons (pe_op op_add pe_int (pe_call (ok_law_take c) (by exact hr.mono (by decide)) rfl c.g_law_take c.Ff_law_take.kp c.bf_law_take .nil pass0 (pa_cons (pv 0) (pa_cons pe_int pa_nil)))) pa_nil)) (pg_name (i := 5) nd rfl (by first | exact Or.inl rfl | exact Or.inr rfl)) (pss_cons (ps_set (i := 6) nd rfl (by first | exact Or.inl rfl | exact Or.inr rfl) (pe_ix (ix_listK K) (pe_lst (pa_cons (pe_lst (pa_cons pe_str (pa_cons pe_str pa_nil))) (pa_cons (pe_lst (pa_cons pe_str pa_nil)) (pa_cons (pe_lst (pa_cons pe_str (pa_cons pe_str pa_nil))) pa_nil)))) (pv 5) (fun _ _ => rfl)))
      (pss_cons (ps_set (i := 6) nd rfl (by first | exact Or.inl rfl | exact Or.inr rfl) (pe_slice (sl_listK K) (pv 6) po_none (po_some (pe_call (ok_law_take c) (by exact hr.mono (by decide)) rfl c.g_law_take c.Ff_law_take.kp c.bf_law_take .nil pass0 (pa_cons (pv 0) (pa_cons (pe_op op_add (pe_callB (call_lenK K) (by rfl) c.z_len PySem.boot_len (pa_cons (pv 6) pa_nil)) pe_int) pa_nil))))))
      (pss_cons (ps_setLc (i := 7) (own := [("_law_name", 3)]) (g := gName 3) rfl nd rfl rfl (sw_true rfl rfl rfl (by decide +kernel)) (pi_listK K (pe_lst (pa_cons pe_str (pa_cons pe_str (pa_cons pe_str (pa_cons pe_str (pa_cons pe_str (pa_cons pe_str (pa_cons pe_str (pa_cons pe_str pa_nil)))))))))) (blkOk_by rfl) (fun _ _ _ _ _ => (pg_name (i := 3) nd rfl (by first | exact Or.inl rfl | exact Or.inr rfl))) (fun _ _ _ _ _ => (pts_one (PW.pt (pw_or (pt_cmpR (op_inK K) (pv 3) (pv 6) (by rfl)) (pw_or1 (pt_cmpR (op_inK K) (pv 3) (pv 1) (by rfl))))))) (fun _ _ _ _ _ => (pv 3)))
      (pss_cons (ps_set (i := 8) nd rfl (by first | exact Or.inl rfl | exact Or.inr rfl) (pe_call (ok_law_survey c) (by exact hr.mono (by decide)) rfl c.g_law_survey c.Ff_law_survey.kp c.bf_law_survey .nil pass0 (pa_cons (pv 0) (pa_cons (pv 7) (pa_cons (pe_ix ix_str pe_str (pv 5) (fun _ _ => rfl)) (pa_cons pe_int pa_nil))))))
      (pss_cons (ps_setLc (i := 9) (own := [("_law_pair_here", 10)]) (g := gName 10) rfl nd rfl rfl (sw_true rfl rfl rfl (by decide +kernel)) (pi_listK K (pe_ix (ix_tupK K) (pv 8) pe_int (fun _ _ => rfl))) (blkOk_by rfl) (fun _ _ _ _ _ => (pg_name (i := 10) nd rfl (by first | exact Or.inl rfl | exact Or.inr rfl))) (fun _ _ _ _ _ => (pts_one (pt_cmpR (op_inK K) (pe_ix (ix_tupK K) (pv 10) pe_int (fun _ _ => rfl)) (pv 6) (by rfl)))) (fun _ _ _ _ _ => (pv 10)))
      (pss_one (ps_expr (pe_bmK K PySem.F.plainAttrs_list PySem.F.slot_list_append PySem.F.type_list_append mt_append (pv 4) (pa_cons (pe_tup (pa_cons (pe_op op_cat (pv 2) (pv 9)) (pa_cons (pe_ix (ix_tupK K) (pv 8) pe_int (fun _ _ => rfl)) pa_nil))) pa_nil))))))))))
      (pss_cons (ps_set (i := 11) nd rfl (by first | exact Or.inl rfl | exact Or.inr rfl) (pe_callTy (call_listK K) (by rfl) c.z_list (by decide +kernel) (pa_cons (pv 2) pa_nil)))
      (pss_cons (ps_set (i := 12) nd rfl (by first | exact Or.inl rfl | exact Or.inr rfl) (pe_lst pa_nil))
      (pss_cons (ps_for PassesOwn.never rfl (pi_listK K (pv 4)) (pg_name (i := 8) nd rfl (by first | exact Or.inl rfl | exact Or.inr rfl)) (pss_cons (ps_set (i := 11) nd rfl (by first | exact Or.inl rfl | exact Or.inr rfl) (pe_op op_cat (pv 11) (pe_slice (sl_listK K) (pe_ix (ix_tupK K) (pv 8) pe_int (fun _ _ => rfl)) (po_some (pe_callB (call_lenK K) (by rfl) c.z_len PySem.boot_len (pa_cons (pv 1) pa_nil))) po_none)))
      (pss_one (ps_set (i := 12) nd rfl (by first | exact Or.inl rfl | exact Or.inr rfl) (pe_op op_cat (pv 12) (pe_ix (ix_tupK K) (pv 8) pe_int (fun _ _ => rfl)))))))
      (pss_one (ps_ret (pe_tup (pa_cons (pv 1) (pa_cons (pv 2) (pa_cons (pv 4) (pa_cons (pe_tup (pa_cons (pv 11) (pa_cons (pv 12) pa_nil))) pa_nil))))))))))))))), fun x Q σ hx hs k => ?_⟩
  have kk := k
  obtain ⟨st, lt, tp, i0⟩ := x
  obtain ⟨d, hi, ne⟩ : Dr st lt tp i0 H ∧ i0 < 10 ∧ st ≠ lt := hx
  have hs : Sat [some (tyE (.ref st)), none, none, none, none, none, none, none, none, none, none, none, none] σ H := hs
  -- the border
  refine do_asg (do_sl ?_)
  refine el_cs (K := K) (cs := BN.map V.str) (ea_cons ev_c (ea_cons ev_c (ea_cons ev_c ea_nil))) (by decide) _ (Ex.refl _) _ fun p0 H0 hp0 e0 at0 => do_nopart (do_part (do_op (do_c ?_)))
  have p0n : p0 ≠ st := fun z => by rw [z, d.at_] at hp0; cases hp0
  refine take_it (m := 3) (d.ex e0) (by omega) (by decide) ne (ev_var (i := 0) (hs.ex e0) rfl) ev_c fun nb H1 hnb f1 g1 d1 => ?_
  refine ⟨_, _, rfl, rfl, ((1 + nb : Nat) : Int), by show V.int _ = V.int _; rw [Int.natCast_add]; rfl, p0, _, rfl, SqL.of (f1 _ _ (by simpa using p0n) at0), fun lb hlb => ?_⟩
  rw [cut_any, ← List.map_take]
  have f01 : Fr [st] H H1 := (Fr.of e0).trans f1
  have bex : ∃ n, n ∈ ALL8 ∧ n ∈ BN.take (1 + nb) := ⟨"B", by decide +kernel, by rw [Nat.add_comm]; exact List.mem_cons_self⟩
  have bsub : (BN.take (1 + nb)).length ≤ 3 := Nat.le_trans (List.length_take_le' _ _) (by decide)
  have bdE : ∃ r, r < 3 ∧ BN.take (1 + nb) = BN.take (1 + r) := ⟨nb, hnb, rfl⟩
  generalize BN.take (1 + nb) = bd at *
  have x2 := Ex.new (o := .lst (bd.map V.str)) hlb
  have d2 := d1.ex x2
  have s2 := (((hs.ex e0).st g1).ex x2).set (i := 1) (T := tyE (.ref lb)) rfl
  have at2 : (L2.upd H1 lb (.lst (bd.map V.str))) lb = some (.lst (bd.map V.str)) := upd_same
  have f02 : Fr [st] H (L2.upd H1 lb (.lst (bd.map V.str))) := f01.trans (Fr.of x2)
  have lbn : lb ≠ st := fun z => by rw [z, d1.at_] at hlb; cases hlb
  generalize L2.upd H1 lb (.lst (bd.map V.str)) = H2 at *
  -- the border's heights
  refine q_draw (α := Str × Rat) (T := tyNr K) (Pl := fun i l => l.map (fun a => a.1) = bd.take i ∧ ∀ a, a ∈ l → NumOk a.2) (kk := 2) (j := 3) (r := 2) d2 s2 (ei_strs (ev_var (i := 1) s2 rfl) at2)
    (fun H2 H3 e f g => ⟨SqL.of (f _ _ (by simpa using lbn) (e _ _ at2)), (ge_ex e).trans g⟩) (by omega) ⟨rfl, fun t h => by cases h⟩ (fun i σ' H' i1 l hi' pl d1 le fr s1 Q1 Q2 h1 h2 => ?_) fun pn xs near σ3 H3 i3 hpn f3 d3 le3 at3 it3 pl3 ll3 s3 => ?_
  · obtain ⟨v3, e3, z3⟩ := s1.get (i := 3) rfl
    refine do_yes ?_
    have z3 : v3 = .str (bd.getD i default) := z3
    subst z3
    refine do_tup (do_cons ⟨_, e3, do_cons ?_⟩)
    refine callW (s := sNum K) (st, lt, tp, i1) (fun H1 e => ⟨d1.ex e, by show i1 < 990; omega, ne⟩) (ea_cons (ev_var (i := 0) s1 rfl) ea_nil) fun H2 v H3 e2 f ⟨d3, q, hq, tq⟩ => ?_
    refine ⟨two_le' _ _, fun pt hpt => ?_⟩
    refine h1 _ _ (bd.getD i default, q) (i1 + 2) (((Fr.of e2).trans f).trans (Fr.of (Ex.new hpt))) (d3.ex (Ex.new hpt)) (Nat.le_refl _) ⟨pt, _, rfl, upd_same, .cons rfl (.cons (Ty.st _ _ _ _ (ge_new hpt) tq) .nil)⟩ ⟨?_, fun t h => ?_⟩
    · rw [List.map_append, getD_take hi', pl.1]
      rfl
    · rcases List.mem_append.mp h with h | h
      · exact pl.2 t h
      · rw [List.mem_singleton.mp h]
        exact hq
  have nearN : near.map (fun a => a.1) = bd := by have := pl3.1; rw [List.take_length] at this; exact this
  have nearL : near.length ≤ 3 := by have := congrArg List.length nearN; rw [List.length_map] at this; omega
  have pnn : pn ≠ st := fun z => by rw [z, d2.at_] at hpn; cases hpn
  have at3b : H3 lb = some (.lst (bd.map V.str)) := f3 _ _ (by simpa using lbn) at2
  have f03 : Fr [st] H H3 := f02.trans f3
  refine q_asgLs (i := 4) (T := fun _ : Nat => tyE .non) s3 ls_nil fun q xs4 σ4 H4 hq e4 at4 l4 s4 => ?_
  have x40 : xs4 = [] := List.length_eq_zero_iff.mp l4.ln
  subst x40
  have d4 := d3.ex e4
  have qne : q ≠ st := fun z => by rw [z, d3.at_] at hq; cases hq
  have f04 : Fr [st] H H4 := f03.trans (Fr.of e4)
  have lbq : lb ≠ q := fun z => by rw [← z, at3b] at hq; cases hq
  have pnq : pn ≠ q := fun z => by rw [← z, at3] at hq; cases hq
  have hq0 : H q = none := by
    cases hH : H q with
    | none => rfl
    | some o => rw [f03 q o (by simpa using qne) hH] at hq; cases hq
  have ltq : lt ≠ q := fun z => by
    have := d3.tape.at_
    rw [z, hq] at this
    cases this
  have at4b := e4 _ _ at3b
  have at4n := e4 _ _ at3
  have it4 := it3.ex e4
  have i3b : i3 ≤ i0 + 7 := by
    have z : i3 ≤ i0 + 1 + 2 * bd.length := le3
    omega
  refine q_forR (R := fun m H' => (m = 2 ∨ m = 3) ∧ Fr [st] H4 H' ∧ Dr st lt tp (i3 + 1) H') (fun Q' hQ => ?_) (fun m H' r => by have := r.1; omega)
    (fun m i σ' H' => (m = 2 ∨ m = 3) ∧ Fr [st, q] H4 H' ∧ Ge K H4 H' ∧ Sat (K := K) [some (tyE (.ref st)), some (tyE (.ref lb)), some (tyE (.ref pn)), none, some (tyE (.ref q)), none, none, none, none, none, none, none, none] σ' H' ∧
      ∃ i2 rs ps, Dr st lt tp i2 H' ∧ i2 ≤ i3 + 1 + 155 * i ∧ H' q = some (.lst rs) ∧ LsT (tySx K) ps rs H' ∧ ps.length = i ∧ (∀ j, j < i → PtOk bd near j (ps.getD j default)) ∧
        ∀ x, x ∈ ps → SvAt K x.s H' ∧ x.s.ln ∉ [st, q] ∧ x.s.lr ∉ [st, q])
    (fun m H' r => ?_) (fun m i σ' H' hm hi' pv => ?_) fun m σ' H' hm pv => ?_
  · refine do_op (do_c ?_)
    refine take_it (m := 2) d4 (by omega) (by decide) ne (ev_var (i := 0) s4 rfl) ev_c fun r H' hr f g dd => ?_
    refine ⟨_, _, rfl, rfl, ?_⟩
    have := hQ (2 + r) H' ⟨by omega, f, dd⟩
    rw [Int.natCast_add] at this
    exact this
  · obtain ⟨r1, r2, r3⟩ := r
    have g : Ge K H4 H' := d4.ge r2
    exact ⟨r1, fun a o h => r2 a o fun z => h (by simp at z ⊢; exact .inl z), g, s4.st g, i3 + 1, [], [], r3, by omega, r2 _ _ (by simpa using qne) at4, LsT.nil, rfl, fun j hj => by omega, fun x h => by cases h⟩
  · obtain ⟨m6, f5, g5, s5, i5, rs, ps, d5, le5, at5, it5, ln5, ok5, sv5⟩ := pv
    have i3' : i < 3 := by omega
    have s6 := s5.set (i := 5) (T := tyE (.int ((i : Nat) : Int))) (v := .int (i : Nat)) rfl
    -- the part's own names
    refine do_asg (do_op (do_lst (do_cons ?_)))
    refine el_cs (K := K) (cs := (INN 0).map V.str) (ea_cons ev_c (ea_cons ev_c ea_nil)) (by decide) _ (Ex.refl _) _ fun q0 G0 hq0' y0 a0 => do_cons ?_
    refine el_cs (K := K) (cs := (INN 1).map V.str) (ea_cons ev_c ea_nil) (by decide) _ (Ex.refl _) _ fun q1 G1 hq1 y1 a1 => do_cons ?_
    refine el_cs (K := K) (cs := (INN 2).map V.str) (ea_cons ev_c (ea_cons ev_c ea_nil)) (by decide) _ (Ex.refl _) _ fun q2 G2 hq2 y2 a2 => do_nil ⟨three_le _ _ _, fun po hpo => ?_⟩
    have yA := (y0.trans (y1.trans y2)).trans (Ex.new (o := .lst [V.ref q0, V.ref q1, V.ref q2]) hpo)
    have b0 := Ex.new (o := .lst [V.ref q0, V.ref q1, V.ref q2]) hpo _ _ (y2 _ _ (y1 _ _ a0))
    have b1 := Ex.new (o := .lst [V.ref q0, V.ref q1, V.ref q2]) hpo _ _ (y2 _ _ a1)
    have b2 := Ex.new (o := .lst [V.ref q0, V.ref q1, V.ref q2]) hpo _ _ a2
    have bo : (L2.upd G2 po (.lst [V.ref q0, V.ref q1, V.ref q2])) po = some (.lst [V.ref q0, V.ref q1, V.ref q2]) := upd_same
    generalize L2.upd G2 po (.lst [V.ref q0, V.ref q1, V.ref q2]) = G3 at *
    refine ev_var (i := 5) (s6.ex yA) rfl _ (Ex.refl _) _ fun vk G4 y4 zk => ?_
    cases zk
    obtain ⟨pk, ak, bk⟩ : ∃ pk, [V.ref q0, V.ref q1, V.ref q2][i]? = some (V.ref pk) ∧ G4 pk = some (.lst ((INN i).map V.str)) := by
      have c : i = 0 ∨ i = 1 ∨ i = 2 := by omega
      rcases c with rfl | rfl | rfl
      · exact ⟨q0, rfl, y4 _ _ b0⟩
      · exact ⟨q1, rfl, y4 _ _ b1⟩
      · exact ⟨q2, rfl, y4 _ _ b2⟩
    refine ⟨po, _, (i : Nat), _, rfl, rfl, SqL.of (y4 _ _ bo), atI_nat ak, ?_⟩
    have yB := yA.trans y4
    have d7 := d5.ex yB
    have s7 := (s6.ex yB).set (i := 6) (T := tyE (.ref pk)) rfl
    have pkn : pk ≠ st := fun z => by
      rw [z, d7.at_] at bk
      have c : i = 0 ∨ i = 1 ∨ i = 2 := by omega
      rcases c with rfl | rfl | rfl <;> simp [INN] at bk
    have innL : (INN i).length ≤ 2 := by
      have c : i = 0 ∨ i = 1 ∨ i = 2 := by omega
      rcases c with rfl | rfl | rfl <;> decide
    refine do_asg (do_sl ?_)
    refine ev_var (i := 6) s7 rfl _ (Ex.refl _) _ fun vp G5 y5 zp => do_nopart (do_part ?_)
    cases zp
    have s8 := s7.ex y5
    have eLn := ev_lenL (K := K) (y5 _ _ bk) (ev_var (i := 6) s8 rfl)
    rw [List.length_map] at eLn
    refine take_it (m := (INN i).length + 1) (d7.ex y5) (by omega) (by omega) ne (ev_var (i := 0) s8 rfl) (ev_addN (b := 1) eLn ev_c) fun nk G6 hnk f6 g6 d6 => ?_
    refine ⟨(nk : Nat), rfl, pk, _, rfl, SqL.of (f6 _ _ (by simpa using pkn) (y5 _ _ bk)), fun pi hpi => ?_⟩
    rw [cut_any, ← List.map_take]
    have hk3 : nk < 3 := by omega
    have innE := inn_filter (bd := bd) i3' hk3
    have innX : ∃ k, (INN i).take nk = (INN i).take k := ⟨nk, rfl⟩
    have innL2 : ((INN i).take nk).length ≤ 2 := Nat.le_trans (List.length_take_le' _ _) innL
    generalize (INN i).take nk = inn at *
    have y7 := Ex.new (o := .lst (inn.map V.str)) hpi
    have s9 := (((s8.st g6).ex y7).set (i := 6) (T := tyE (.ref pi)) rfl)
    have d9 := d6.ex y7
    have b7 : (L2.upd G6 pi (.lst (inn.map V.str))) pi = some (.lst (inn.map V.str)) := upd_same
    have fB : Fr [st] H' (L2.upd G6 pi (.lst (inn.map V.str))) := ((Fr.of (yB.trans y5)).trans f6).trans (Fr.of y7)
    have pin : pi ≠ st := fun z => by rw [z, d6.at_] at hpi; cases hpi
    generalize L2.upd G6 pi (.lst (inn.map V.str)) = G7 at *
    have lb7 : G7 lb = some (.lst (bd.map V.str)) := fB _ _ (by simpa using lbn) (f5 _ _ (by simp; exact ⟨lbn, lbq⟩) at4b)
    -- the part's names
    refine q_draw (α := Str) (T := fun n => tyE (.str n)) (Pl := fun i l => l = (ALL8.take i).filter (inB inn bd)) (kk := 0) (j := 3) (r := 7) d9 s9 (ei_lit (cs := ALL8) d9 (ea_cons ev_c (ea_cons ev_c (ea_cons ev_c (ea_cons ev_c (ea_cons ev_c (ea_cons ev_c (ea_cons ev_c (ea_cons ev_c ea_nil)))))))) (by decide))
      (fun H2 H3 e f g => f) (by decide) rfl (fun i σ' H' i1 l hi' pl d1 le fr s1 Q1 Q2 h1 h2 => ?_) fun pm xm lm σ8 G8 i8 hpm f8 d8 le8 at8 it8 pl8 ll8 s8' => ?_
    · have eT : EvT _ σ' H' (inB inn bd (ALL8.getD i default)) := Evl.et_or (et_of (ev_inNms (K := K) (neg := false) (ns := inn) (.inl (fr _ _ (by simpa using pin) b7)) (ev_var (i := 3) s1 rfl) (ev_var (i := 6) s1 rfl))) fun _ => et_of (ev_inNms (K := K) (neg := false) (ns := bd) (.inl (fr _ _ (by simpa using lbn) lb7)) (ev_var (i := 3) s1 rfl) (ev_var (i := 1) s1 rfl))
      refine eT H' (Ex.refl _) _ fun H3 e3 => ?_
      have fs := filter_snoc (f := inB inn bd) hi'
      by_cases hb : inB inn bd (ALL8.getD i default) = true
      · rw [if_pos hb] at fs ⊢
        obtain ⟨v3, g3, z3⟩ := (s1.ex e3).get (i := 3) rfl
        exact ⟨_, g3, h1 _ _ (ALL8.getD i default) i1 (Fr.of e3) (d1.ex e3) (by omega) z3 (by rw [fs, pl])⟩
      · rw [if_neg hb] at fs ⊢
        exact h2 _ i1 (Fr.of e3) (d1.ex e3) (by omega) (by rw [fs, pl])
    have xmE := ls_strs it8
    subst xmE
    have lmE : lm = nmsOf inn bd := by rw [pl8]; rfl
    subst lmE
    have nmO := all8_ok (inn := inn) bex
    have eM : EvP (K := K) (tOp rIxS (tC (.str "pqr")) (tVar 5)) σ8 G8 (tyE (.str (MK i))) := ev_flat (Evl.ev_op (flat_ev (K := K) ev_c) (flat_ev (ev_var (i := 5) s8' rfl)) (Evl.rv_ixS (by decide +kernel) (mk_at ⟨i, i3'⟩)))
    have i8b : i8 ≤ i5 + 1 := by simpa using le8
    refine do_asg ?_
    refine callW (s := sSurv K) ((st, lt, tp, i8), pm, nmsOf inn bd, MK i, 5) (fun H1 e => ⟨d8.ex e, by show i8 < 700; omega, ne, e _ _ at8, nmO, by show (1 : Nat) ≤ 10; decide, Nat.le_refl _⟩) (ea_cons (ev_var (i := 0) s8' rfl) (ea_cons (ev_var (i := 7) s8' rfl) (ea_cons eM (ea_cons ev_c ea_nil)))) fun G9 v9 G10 y9 f10 ⟨i10, sv, le10, d10, hln, hlr, hlx, svO, nmE, z10⟩ => ?_
    have z10 : (tyTup (K := K) [tyE (.ref sv.ln), tyE (.ref sv.lr)]).p v9 G10 := z10
    have d10 : Dr st lt tp i10 G10 := d10
    have le10 : i10 ≤ i8 + 150 := le10
    have svO : Sv K (nmsOf inn bd) sv G10 := svO
    have nmE : sv.rds.map (fun r => r.name) = (List.range sv.rds.length).map (nmK (MK i)) := nmE
    have f910 : Fr [st] G8 G10 := (Fr.of y9).trans f10
    have s10 := (s8'.st (d8.ge f910)).set (i := 8) z10
    have pi10 : G10 pi = some (.lst (inn.map V.str)) := f910 _ _ (by simpa using pin) (f8 _ _ (by simpa using pin) b7)
    obtain ⟨nxs, nat, nit⟩ := svO.nr
    obtain ⟨rxs, rat, rit⟩ := svO.rd
    have fHG : Fr [st] H' G8 := fB.trans f8
    have q9 : G9 q = some (.lst rs) := y9 _ _ (fHG _ _ (by simpa using qne) at5)
    have st9 := (d8.ex y9).at_
    have svn : sv.ln ∉ [st, q] ∧ sv.lr ∉ [st, q] := by
      constructor
      · intro z
        rcases List.mem_cons.mp z with z | z
        · rw [z, st9] at hln; cases hln
        · rw [List.mem_singleton.mp z, q9] at hln; cases hln
      · intro z
        rcases List.mem_cons.mp z with z | z
        · rw [z, st9] at hlr; cases hlr
        · rw [List.mem_singleton.mp z, q9] at hlr; cases hlr
    have svl : sv.ln ≠ st := fun z => svn.1 (by rw [z]; exact List.mem_cons_self)
    have nnl : sv.near.length ≤ 8 := by
      have := congrArg List.length svO.nn
      rw [List.length_map] at this
      have := nmO.len
      omega
    -- the part's own heights
    refine q_draw (α := Str × Rat) (T := tyNr K) (Pl := fun i l => l = (sv.near.take i).filter fun a => decide (a.1 ∈ inn)) (kk := 0) (j := 10) (r := 9) d10 s10 (ei_lsT (T := tyNr K) (ev_nth (i := 0) (ev_var (i := 8) s10 rfl) rfl) nat nit)
      (fun H2 H3 e f g => ⟨SqL.of (f _ _ (by simpa using svl) (e _ _ nat)), (ge_ex e).trans g⟩) (by omega) rfl (fun i σ' H' i1 l hi' pl d1 le fr s1 Q1 Q2 h1 h2 => ?_) fun pw xw own σ11 G11 i11 hpw f11 d11 le11 at11 it11 pl11 ll11 s11 => ?_
    · have eN : EvP (K := K) (tOp (rIxT K) (tVar 10) (tC (.int 0))) σ' H' (tyE (.str (sv.near.getD i default).1)) := ev_nth (i := 0) (ev_var (i := 10) s1 rfl) rfl
      have eT : EvT _ σ' H' (decide ((sv.near.getD i default).1 ∈ inn)) := et_of (ev_inNms (K := K) (neg := false) (ns := inn) (.inl (fr _ _ (by simpa using pin) pi10)) eN (ev_var (i := 6) s1 rfl))
      refine eT H' (Ex.refl _) _ fun H3 e3 => ?_
      have fs := filter_snoc (f := fun a : Str × Rat => decide (a.1 ∈ inn)) hi'
      by_cases hb : decide ((sv.near.getD i default).1 ∈ inn) = true
      · rw [if_pos hb] at fs ⊢
        obtain ⟨v3, g3, z3⟩ := (s1.ex e3).get (i := 10) rfl
        exact ⟨_, g3, h1 _ _ (sv.near.getD i default) i1 (Fr.of e3) (d1.ex e3) (by omega) z3 (by rw [fs, pl])⟩
      · rw [if_neg hb] at fs ⊢
        exact h2 _ i1 (Fr.of e3) (d1.ex e3) (by omega) (by rw [fs, pl])
    have ownN : own.map (fun a => a.1) = inn := by
      rw [pl11, List.take_length, filter_fst (f := fun n => decide (n ∈ inn)), svO.nn]
      exact innE
    have ownO : ∀ a, a ∈ own → NumOk a.2 := fun a h => by
      rw [pl11, List.take_length] at h
      exact svO.no a (List.mem_filter.mp h).1
    have f1011 : Fr [st] H' G11 := (fHG.trans f910).trans f11
    have d11' : Dr st lt tp i11 G11 := d11
    have q11 : G11 q = some (.lst rs) := f1011 _ _ (by simpa using qne) at5
    have gHG : Ge K H' G11 := d5.ge f1011
    have n11 : G11 pn = some (.lst xs) := f1011 _ _ (by simpa using pnn) (f5 _ _ (by simp; exact ⟨pnn, pnq⟩) at4n)
    have itn : LsT (tyNr K) near xs G11 := (it4.st g5).st gHG
    have rat11 : G11 sv.lr = some (.lst rxs) := f11 _ _ (by simpa using fun z => svn.2 (by rw [z]; exact List.mem_cons_self)) rat
    have rit11 := rit.st (d10.ge f11)
    have ownL : own.length ≤ 2 := by have := congrArg List.length ownN; rw [List.length_map] at this; omega
    refine s_appX (R := fun v Hr => ∃ pv xv, G11 pv = none ∧ Ex G11 Hr ∧ Hr pv = some (.lst xv) ∧ LsT (tyNr K) (near ++ own) xv Hr ∧ (tyTup (K := K) [tyE (.ref pv), tyE (.ref sv.lr)]).p v Hr) q11 (ev_var (i := 4) s11 rfl) (fun G12 y12 Q' q' => ?_) (fun v Hr ⟨_, _, _, e, _⟩ => e _ _ q11) (by have := it5.ln; omega) fun v G13 ⟨pv, xv, hpv, e13, at13, it13, z13⟩ => ?_
    · have s12 := s11.ex y12
      refine do_tup (do_cons ?_)
      refine ls_cat (y12 _ _ n11) (itn.ex y12) (y12 _ _ at11) (it11.ex y12) (ev_var (i := 2) s12 rfl) (ev_var (i := 9) s12 rfl) (by omega) _ (Ex.refl _) _ fun pv xv G13 hpv y13 at13 it13 => do_cons ?_
      have eR : EvP (K := K) (tOp (rIxT K) (tVar 8) (tC (.int 1))) σ11 G13 (tyE (.ref sv.lr)) := ev_nth (i := 1) (ev_var (i := 8) (s12.ex y13) rfl) rfl
      refine eR _ (Ex.refl _) _ fun v14 G14 y14 z14 => do_nil ⟨two_le' _ _, fun pt hpt => ?_⟩
      cases z14
      have yy := (y13.trans y14).trans (Ex.new (o := .tup [V.ref pv, V.ref sv.lr]) hpt)
      exact q' _ _ ⟨pv, xv, Evl.fresh_back y12 hpv, y12.trans yy, (Ex.new hpt) _ _ (y14 _ _ at13), (it13.ex y14).ex (Ex.new hpt), pt, _, rfl, upd_same, .cons rfl (.cons rfl .nil)⟩
    · have q13 := e13 _ _ q11
      have g14 : Ge K G13 (L2.upd G13 q (.lst (rs ++ [v]))) := ge_lst q13
      have fX : Fr [st, q] H' (L2.upd G13 q (.lst (rs ++ [v]))) := fun u o hu ho => by
        simp only [List.mem_cons, List.not_mem_nil, or_false, not_or] at hu
        rw [upd_ne hu.2]
        exact e13 _ _ (f1011 u o (by simpa using hu.1) ho)
      have gX : Ge K H' (L2.upd G13 q (.lst (rs ++ [v]))) := (gHG.trans (ge_ex e13)).trans g14
      have pvn : pv ∉ [st, q] := fun z => by
        rcases List.mem_cons.mp z with z | z
        · rw [z, d11.at_] at hpv; cases hpv
        · rw [List.mem_singleton.mp z, q11] at hpv; cases hpv
      have pvq : pv ≠ q := fun z => pvn (by rw [z]; simp)
      have svq : sv.lr ≠ q := fun z => svn.2 (by rw [z]; simp)
      have s14 := ((((((s11.ex e13).st g14).forget (i := 5)).forget (i := 6)).forget (i := 7)).forget (i := 8)).forget (i := 9)
      have d13 := d11.ex e13
      refine ⟨m6, f5.trans fX, g5.trans gX, s14, i11, rs ++ [v], ps ++ [⟨⟨pv, sv.lr, near ++ own, sv.rds⟩, inn, own⟩], ⟨by rw [upd_ne qne.symm]; exact d13.at_, by rw [upd_ne ltq]; exact d13.tape.at_, d13.tape.lo⟩, by omega, upd_same, ?_, by rw [List.length_append, ln5]; rfl, fun j hj => ?_, fun x hx => ?_⟩
      · refine LsT.snoc ((it5.st gHG).st ((ge_ex e13).trans g14)) ?_
        exact Ty.st _ _ _ _ g14 z13
      · by_cases hji : j < i
        · have e : (ps ++ ([⟨⟨pv, sv.lr, near ++ own, sv.rds⟩, inn, own⟩] : List PtX)).getD j default = ps.getD j default := by
            rw [List.getD_eq_getElem?_getD, List.getElem?_append_left (by omega), ← List.getD_eq_getElem?_getD]
          rw [e]
          exact ok5 j hji
        · have hje : j = ps.length := by omega
          have e : (ps ++ ([⟨⟨pv, sv.lr, near ++ own, sv.rds⟩, inn, own⟩] : List PtX)).getD j default = ⟨⟨pv, sv.lr, near ++ own, sv.rds⟩, inn, own⟩ := by
            rw [hje, List.getD_eq_getElem?_getD, List.getElem?_append_right (Nat.le_refl _), Nat.sub_self]
            rfl
          rw [e, hje, ln5]
          exact ⟨rfl, ownN, innX, ownO, svO.ro, svO.l5, nmE⟩
      · rcases List.mem_append.mp hx with hx | hx
        · obtain ⟨h1, h2, h3⟩ := sv5 x hx
          exact ⟨h1.fr fX gX h2 h3, h2, h3⟩
        · rw [List.mem_singleton.mp hx]
          refine ⟨⟨⟨xv, by rw [upd_ne pvq]; exact at13, it13.st g14⟩, ⟨rxs, by rw [upd_ne svq]; exact e13 _ _ rat11, (rit11.ex e13).st g14⟩⟩, pvn, svn.2⟩
  · obtain ⟨m6, f5, g5, s5, i5, rs, ps, d5, le5, at5, it5, ln5, ok5, sv5⟩ := pv
    have n5 : H' pn = some (.lst xs) := f5 _ _ (by simp; exact ⟨pnn, pnq⟩) at4n
    have itn := it4.st g5
    have lb5 : H' lb = some (.lst (bd.map V.str)) := f5 _ _ (by simp; exact ⟨lbn, lbq⟩) at4b
    have f05 : Fr [st] H H' := fun u o hu ho => f5 u o (by
      simp only [List.mem_cons, List.not_mem_nil, or_false, not_or]
      exact ⟨by simpa using hu, fun z => by rw [z, hq0] at ho; cases ho⟩) (f04 u o hu ho)
    refine q_asgLs (i := 11) s5 (ls_list n5 itn (ev_var (i := 2) s5 rfl)) fun wa wx σ6 H6 hwa e6 at6 it6 s6 => ?_
    refine q_asgLs (i := 12) (T := tyRd K) s6 ls_nil fun ra rx σ7 H7 hra e7 at7 it7 s7 => ?_
    have e57 := e6.trans e7
    have sub : ∀ {F : PtX → Nat} {i : Nat}, i < ps.length → (∀ j, j < ps.length → F (ps.getD j default) ≤ 5) → ((ps.take i).map F).sum ≤ 5 * i := fun {F i} hi hF => by
      induction i with
      | zero => simp
      | succ i ih =>
        rw [List.take_succ, List.getElem?_eq_getElem (by omega), List.map_append, List.sum_append]
        have h1 := ih (by omega)
        have h2 := hF i (by omega)
        rw [List.getD_eq_getElem?_getD, List.getElem?_eq_getElem (by omega)] at h2
        have h2 : F ps[i] ≤ 5 := by simpa using h2
        show ((ps.take i).map F).sum + (List.map F [ps[i]]).sum ≤ _
        rw [List.map_cons, List.map_nil, List.sum_cons, List.sum_nil]
        omega
    refine q_for (ei_lsT (T := tySx K) (ev_var (i := 4) s7 rfl) (e57 _ _ at5) (it5.ex e57)) (fun H2 i σ' H' => Ex H2 H' ∧ ∃ wa wx ra rx, H' wa = some (.lst wx) ∧ LsT (tyNr K) (near ++ ((ps.take i).map fun x => x.own).flatten) wx H' ∧ H' ra = some (.lst rx) ∧ LsT (tyRd K) (((ps.take i).map fun x => x.s.rds).flatten) rx H' ∧
      Sat (K := K) [some (tyE (.ref st)), some (tyE (.ref lb)), some (tyE (.ref pn)), none, some (tyE (.ref q)), none, none, none, none, none, none, some (tyE (.ref wa)), some (tyE (.ref ra))] σ' H') (fun H2 e2 => ⟨Ex.refl _, wa, wx, ra, rx, e2 _ _ (e7 _ _ at6), by rw [List.take_zero]; simpa using (it6.ex (e7.trans e2)), e2 _ _ at7, it7.ex e2, s7.ex e2⟩)
      (fun H2 e2 i σ' H' _ p => ⟨SqL.of ((e2.trans p.1) _ _ (e57 _ _ at5)), ge_ex (e2.trans p.1)⟩) (fun H2 e2 i x σ' H'' H3 hi p e3 y => ?_) (fun H2 e2 σ' H'' p => ?_)
    · obtain ⟨p1, wa, wx, ra, rx, b1, b2, b3, b4, s8⟩ := p
      have s9 := (s8.ex e3).set (i := 8) y
      have eY := (e57.trans e2).trans (p1.trans e3)
      have xm : ps.getD i default ∈ ps := getD_mem hi
      have xok := ok5 i (by omega)
      obtain ⟨⟨nx, n1, n2⟩, rxx, r1, r2⟩ := (sv5 _ xm).1
      have o1 : EvP (K := K) (tOp (rIxT K) (tVar 8) (tC (.int 0))) _ H3 (tyE (.ref (ps.getD i default).s.ln)) := ev_nth (i := 0) (ev_var (i := 8) s9 rfl) rfl
      have oL := ev_lenL (K := K) (eY _ _ lb5) (ev_var (i := 1) s9 rfl)
      rw [List.length_map] at oL
      have dr := ls_drop (k := bd.length) (eY _ _ n1) (n2.ex eY) o1 oL
      have dre : (ps.getD i default).s.near.drop bd.length = (ps.getD i default).own := by
        rw [xok.near, ← nearN, List.length_map, List.drop_left]
      rw [dre] at dr
      have q1 := sub (F := fun x => x.own.length) hi fun j hj => by
        have o := ok5 j (by omega)
        have := congrArg List.length o.own
        rw [List.length_map] at this
        obtain ⟨k, ek⟩ := o.inn
        rw [ek] at this
        have c : j = 0 ∨ j = 1 ∨ j = 2 := by omega
        have l2 : (INN j).length ≤ 2 := by rcases c with rfl | rfl | rfl <;> decide
        have := List.length_take_le' k (INN j)
        omega
      have q2 := sub (F := fun x => x.s.rds.length) hi fun j hj => (ok5 j (by omega)).l5
      have z1 : (near ++ ((ps.take i).map fun x => x.own).flatten).length + (ps.getD i default).own.length ≤ 1000 := by
        rw [List.length_append, List.length_flatten, List.map_map]
        have := congrArg List.length xok.own
        rw [List.length_map] at this
        obtain ⟨k, ek⟩ := xok.inn
        rw [ek] at this
        have c : i = 0 ∨ i = 1 ∨ i = 2 := by omega
        have l2 : (INN i).length ≤ 2 := by rcases c with rfl | rfl | rfl <;> decide
        have := List.length_take_le' k (INN i)
        have q1 : (List.map (List.length ∘ fun x : PtX => x.own) (ps.take i)).sum ≤ 5 * i := q1
        omega
      have z2 : (((ps.take i).map fun x => x.s.rds).flatten).length + (ps.getD i default).s.rds.length ≤ 1000 := by
        rw [List.length_flatten, List.map_map]
        have q2 : (List.map (List.length ∘ fun x : PtX => x.s.rds) (ps.take i)).sum ≤ 5 * i := q2
        have := xok.l5
        omega
      have tk : ps.take (i + 1) = ps.take i ++ [ps.getD i default] := by
        rw [List.take_succ, List.getElem?_eq_getElem hi, List.getD_eq_getElem?_getD, List.getElem?_eq_getElem hi]
        rfl
      refine q_asgLs (i := 11) s9 (ls_catL (e3 _ _ b1) (b2.ex e3) (ev_var (i := 11) s9 rfl) dr z1) fun wa2 wx2 σ10 H10 h10 e10 at10 it10 s10 => ?_
      have o2 : EvP (K := K) (tOp (rIxT K) (tVar 8) (tC (.int 1))) _ H10 (tyE (.ref (ps.getD i default).s.lr)) := ev_nth (i := 1) (ev_var (i := 8) s10 rfl) rfl
      refine q_asgLs' (i := 12) s10 (ls_cat (e10 _ _ (e3 _ _ b3)) ((b4.ex e3).ex e10) (e10 _ _ (eY _ _ r1)) ((r2.ex eY).ex e10) (ev_var (i := 12) s10 rfl) o2 z2) fun ra2 rx2 σ11 H11 h11 e11 at11 it11 s11 => ?_
      refine ⟨p1.trans (e3.trans (e10.trans e11)), wa2, wx2, ra2, rx2, e11 _ _ at10, ?_, at11, ?_, s11.forget (i := 8)⟩
      · rw [tk, List.map_append, List.flatten_append, ← List.append_assoc]
        simpa using it10.ex e11
      · rw [tk, List.map_append, List.flatten_append]
        simpa using it11
    · obtain ⟨p1, wa, wx, ra, rx, b1, b2, b3, b4, s8⟩ := p
      rw [List.take_length] at b2 b4
      refine s_ret (ev_tupA (ea_cons (ev_var (i := 1) s8 rfl) (ea_cons (ev_var (i := 2) s8 rfl) (ea_cons (ev_var (i := 4) s8 rfl) (ea_cons (ev_tupA (ea_cons (ev_var (i := 11) s8 rfl) (ea_cons (ev_var (i := 12) s8 rfl) ea_nil)) (by simp)) ea_nil)))) (by simp)) fun v H4 e4 z => ?_
      have eY := (e57.trans e2).trans (p1.trans e4)
      refine kk v H4 (f05.trans (Fr.of eY)) ⟨⟨lb, pn, q, wa, ra, bd, near, ps⟩, ⟨bdE, nearN, pl3.2, by show ps.length = 2 ∨ ps.length = 3; omega, fun j hj => ok5 j (by have hj : j < ps.length := hj; omega)⟩, ⟨eY _ _ lb5, ⟨xs, eY _ _ n5, itn.ex eY⟩, ⟨rs, eY _ _ at5, it5.ex eY⟩, fun x hx => ?_, ⟨wx, e4 _ _ b1, b2.ex e4⟩, ⟨rx, e4 _ _ b3, b4.ex e4⟩⟩, z⟩
      obtain ⟨h1, h2, h3⟩ := sv5 x hx
      exact h1.fr (S := []) (Fr.of eY) (ge_ex eY) (by simp) (by simp)
end
end Pd

/-! The law's books. -/
namespace Pd
open PySem PySem.Spec PyProof.Rows L2 Evl Pt Pn
open Pb (Ht Sz entV entM)
section
variable {P : Program} {w : World} {K : PySem.W.Frag} {mg : Str → Option Value} {base : Heap}
/-- the height of a name -/
def appOf : List (Str × Rat) → Str → Rat
  | [], _ => 0
  | (m, q) :: l, n => if m = n then q else appOf l n
theorem appOf_at : ∀ {l : List (Str × Rat)} {a : Str × Rat}, (l.map fun a => a.1).Nodup → a ∈ l → appOf l a.1 = a.2
  | [], _, _, h => by cases h
  | (m, q) :: l, a, nd, h => by
    rw [List.map_cons, List.nodup_cons] at nd
    rw [appOf]
    rcases List.mem_cons.mp h with e | e
    · subst e
      rw [if_pos rfl]
    · have h1 : m ≠ a.1 := fun z => nd.1 (by rw [z]; exact List.mem_map.mpr ⟨_, e, rfl⟩)
      rw [if_neg h1]
      exact appOf_at nd.2 e
theorem takeG {α : Type} [Inhabited α] {l : List α} {i : Nat} (hi : i < l.length) : l.take (i + 1) = l.take i ++ [l.getD i default] := by
  rw [List.take_succ, List.getElem?_eq_getElem hi, List.getD_eq_getElem?_getD, List.getElem?_eq_getElem hi]
  rfl
theorem notin_take {α : Type} [Inhabited α] {l : List α} {i : Nat} (nd : l.Nodup) (hi : i < l.length) : l.getD i default ∉ l.take i := fun m => by
  have z : (l.take (i + 1)).Nodup := (List.take_sublist _ _).nodup nd
  rw [takeG hi, List.nodup_append] at z
  exact z.2.2 _ m _ (by simp) rfl
theorem map_getD' {α β : Type} [Inhabited α] [Inhabited β] {l : List α} {f : α → β} {i : Nat} (hi : i < l.length) : (l.map f).getD i default = f (l.getD i default) := by
  rw [List.getD_eq_getElem?_getD, List.getElem?_map, List.getElem?_eq_getElem hi, List.getD_eq_getElem?_getD, List.getElem?_eq_getElem hi]
  rfl
/-- what a book is made of -/
structure BookOk (s : SvD) : Prop where
  nd : (s.near.map fun a => a.1).Nodup
  n8 : s.near.length ≤ 8
  r15 : s.rds.length ≤ 15
  nn : (s.rds.map fun r => r.name).Nodup
  ok : ∀ r, r ∈ s.rds → FitOk r.ts ∧ (∀ n, n ∈ r.ts.map (fun y => y.1) → n ∈ s.near.map fun a => a.1) ∧ 0 < r.wt
abbrev tySv2 (K : PySem.W.Frag) (s : SvD) : Ty K := tyTup [tyE (.ref s.ln), tyE (.ref s.lr)]
def sBook (K : PySem.W.Frag) : Sph K := ⟨SvD, fun x => [tySv2 K x], fun x H => SvAt K x H ∧ BookOk x, fun x H v H' => ∃ A, v = .ref A.b ∧ (H A.b = none ∧ H A.lp = none ∧ H A.da = none ∧ H A.lr = none) ∧ Bk K A (x.near.map fun a => a.1) (appOf x.near) x.rds H'⟩
theorem Bk.geFr {A : BkA} {pts : List Str} {app : Str → Rat} {rds : List Rdg} {H H' : Hp} (b : Bk K A pts app rds H) {S : List Addr} (hS : ∀ a, a ∈ S → a = A.lp ∨ a = A.da ∨ a = A.lr) (f : Fr S H H') : Ge K H H' := fun a o h im => f a o (fun z => by
  rcases hS a z with e | e | e
  · rw [e, b.pt] at h; cases h; exact im
  · rw [e, b.ap.at_] at h; cases h; exact im
  · rw [e, b.rd] at h; cases h; exact im) h
theorem g_quad {σ : L2.St} {H : Hp} {A B D E : Ty K} {v : V} {i j k l : Nat} {Q : L2.St → Hp → Prop} (h : (tyTup [A, B, D, E]).p v H) (q : ∀ x y z u, A.p x H → B.p y H → D.p z H → E.p u H → Q ((((σ.set i (some x)).set j (some y)).set k (some z)).set l (some u)) H) :
    gTup K 4 (gCons (gName i) (gCons (gName j) (gCons (gName k) (gCons (gName l) gNil)))) v σ H Q := by
  obtain ⟨a, xs, e, h1, t⟩ := h
  cases t with
  | cons z1 t =>
  cases t with
  | cons z2 t =>
  cases t with
  | cons z3 t =>
  cases t with
  | cons z4 t =>
  cases t
  exact ⟨a, _, e, SqT.of h1, rfl, _, _, rfl, _, _, rfl, _, _, rfl, _, _, rfl, rfl, q _ _ _ _ z1 z2 z3 z4⟩
theorem sc_f_law_book : FnScope ["_law_survey_here", "_law_book_here", "_law_name", "_law_near", "_law_terms_here", "_law_value", "_law_weight"] ["_law_survey_here"] (defScope sf_law_book) := ⟨rfl, rfl, rfl, by decide +kernel, rfl, by decide +kernel, by decide +kernel⟩
theorem ok_law_book (c : Cxt P K mg base) : Ok P w K mg base df_law_book 37 ["_law_survey_here"] (sBook K).sp := by
  have nd := (sc_f_law_book).nd
  refine okH c.Ff_law_book sc_f_law_book (sBook K) (fun _ => rfl) fun cdv A outer s0 H E hr => ⟨_, PSs.nox ((pss_cons (ps_set (i := 1) nd rfl (by first | exact Or.inl rfl | exact Or.inr rfl) (pe_make0 c.k_Book (ok_Book_init c) (by exact hr.mono (by decide)) rfl c.g_Book c.bm_Book_init .nil pass0))
      (pss_cons (ps_for PassesOwn.never rfl (pi_listK K (pe_ix (ix_tupK K) (pv 0) pe_int (fun _ _ => rfl))) (pg_tupK K rfl (pgs_cons (pg_name (i := 2) nd rfl (by first | exact Or.inl rfl | exact Or.inr rfl)) (pgs_cons (pg_name (i := 3) nd rfl (by first | exact Or.inl rfl | exact Or.inr rfl)) pgs_nil))) (pss_one (ps_expr (pe_meth (pv 1) c.c_Book c.m_Book_add_point (ok_Book_add_point c) (by exact hr.mono (by decide)) c.bm_Book_add_point .nil pass0 (pa_cons (pv 2) (pa_cons (pe_call (ok_law_made c) (by exact hr.mono (by decide)) rfl c.g_law_made c.Ff_law_made.kp c.bf_law_made .nil pass0 (pa_cons (pv 3) pa_nil)) pa_nil))))))
      (pss_cons (ps_for PassesOwn.never rfl (pi_listK K (pe_ix (ix_tupK K) (pv 0) pe_int (fun _ _ => rfl))) (pg_tupK K rfl (pgs_cons (pg_name (i := 2) nd rfl (by first | exact Or.inl rfl | exact Or.inr rfl)) (pgs_cons (pg_name (i := 4) nd rfl (by first | exact Or.inl rfl | exact Or.inr rfl)) (pgs_cons (pg_name (i := 5) nd rfl (by first | exact Or.inl rfl | exact Or.inr rfl)) (pgs_cons (pg_name (i := 6) nd rfl (by first | exact Or.inl rfl | exact Or.inr rfl)) pgs_nil))))) (pss_one (ps_expr (pe_meth (pv 1) c.c_Book c.m_Book_add_reading (ok_Book_add_reading c) (by exact hr.mono (by decide)) c.bm_Book_add_reading .nil pass0 (pa_cons (pv 2) (pa_cons (pv 4) (pa_cons (pe_call (ok_law_made c) (by exact hr.mono (by decide)) rfl c.g_law_made c.Ff_law_made.kp c.bf_law_made .nil pass0 (pa_cons (pv 5) pa_nil)) (pa_cons (pe_call (ok_law_made c) (by exact hr.mono (by decide)) rfl c.g_law_made c.Ff_law_made.kp c.bf_law_made .nil pass0 (pa_cons (pv 6) pa_nil)) pa_nil))))))))
      (pss_one (ps_ret (pv 1))))))), fun x Q σ hx hs k => ?_⟩
  have kk := k
  change SvD at x
  obtain ⟨sv, ok⟩ : SvAt K x H ∧ BookOk x := hx
  have hs : Sat [some (tySv2 K x), none, none, none, none, none, none] σ H := hs
  refine q_raw fun p dx hp hdx hne => ⟨p, dx, rfl, upd_same, fun lp da lr H1 l1 l2 l3 n1 n2 n3 b1 b2 b3 b4 f1 => ⟨rfl, ?_⟩⟩
  have none_of : ∀ {a o}, (upd (upd H dx (.own p)) p o) a = none → H a = none := fun {a o} h => by
    by_cases h1 : a = p
    · rw [h1]; exact hp
    · by_cases h2 : a = dx
      · rw [h2]; exact hdx
      · rw [upd_ne h1, upd_ne h2] at h; exact h
  have hlp := none_of l1
  have hda := none_of l2
  have hlr := none_of l3
  have e1 : Ex H H1 := exFr ((Ex.new hdx).trans (Ex.new (by rw [upd_ne hne.symm]; exact hp))) (fun a h => by
    have h : a = p := by simpa using h
    rw [h]
    exact hp) f1
  have s1 : Sat [some (tySv2 K x), some (tyE (.ref p)), none, none, none, none, none] _ H1 := (hs.ex e1).set (i := 1) (T := tyE (.ref p)) rfl
  obtain ⟨⟨xs, nat, nit⟩, ys, rat, rit⟩ := sv
  have B0 : Bk K ⟨p, dx, lp, da, lr, [], []⟩ [] (appOf x.near) [] H1 := ⟨b1, b2, ⟨b3, .nil⟩, b4, rfl, Its.nil⟩
  have n8 := ok.n8
  have r15 := ok.r15
  have eN : EvP (K := K) (tOp (rIxT K) (tVar 0) (tC (.int 0))) _ H1 (tyE (.ref x.ln)) := ev_nth (i := 0) (ev_var (i := 0) s1 rfl) rfl
  have pl : (x.near.map fun a => a.1).length = x.near.length := List.length_map _
  refine q_for (ei_lsT (T := tyNr K) eN (e1 _ _ nat) (nit.ex e1))
    (fun H2 i σ' H' => Sat [some (tySv2 K x), some (tyE (.ref p)), none, none, none, none, none] σ' H' ∧ Ex H H' ∧ Ge K H1 H' ∧ ∃ A', A'.b = p ∧ A'.lp = lp ∧ A'.da = da ∧ A'.lr = lr ∧ A'.rs = [] ∧ Bk K A' ((x.near.map fun a => a.1).take i) (appOf x.near) [] H')
    (fun H2 e2 => ⟨s1.ex e2, e1.trans e2, ge_ex e2, _, rfl, rfl, rfl, rfl, rfl, B0.ex e2⟩) (fun H2 e2 i σ' H' _ p => ⟨SqL.of (p.2.1 _ _ nat), p.2.2.1⟩)
    (fun H2 e2 i y σ' H' H'' hi ⟨sp, ep, gp, A, c1, c2, c3, c4, c5, B⟩ e3 ty => ?_) (fun H2 e2 σ' H' ⟨sp, ep, gp, A, c1, c2, c3, c4, c5, B⟩ => ?_)
  · refine g_pair ty fun u v hu hv => ?_
    have s3 := ((sp.ex e3).set (i := 2) hu).set (i := 3) hv
    have B3 := B.ex e3
    have gm : x.near.getD i default ∈ x.near := getD_mem hi
    have pn : (x.near.map fun a => a.1).getD i default = (x.near.getD i default).1 := map_getD' hi
    have av := appOf_at ok.nd gm
    have hnew := notin_take ok.nd (show i < (x.near.map fun a => a.1).length by omega)
    rw [pn] at hnew
    refine methW (s := sAddPtB K) ((A, (x.near.map fun a => a.1).take i, appOf x.near, []), (x.near.getD i default).1) B3.at_ (fun H4 e => ⟨B3.ex e, hnew, by show ((x.near.map fun a => a.1).take i).length < 12; rw [List.length_take]; omega, by show A.lp ≠ A.lr; rw [c2, c4]; exact n2⟩) rfl (noB (by decide +kernel)) (by rw [c1]; exact ev_var (i := 1) s3 rfl)
      (ea_cons (ev_var (i := 2) s3 rfl) (ea_cons (by
        have z := ev_call (s := sMadeL K) (σ := (σ'.set 2 (some u)).set 3 (some v)) (x.near.getD i default).2 trivial (ea_cons (ev_var (i := 3) s3 rfl) ea_nil)
        show EvP _ _ _ (tyRat (appOf x.near (x.near.getD i default).1))
        rw [av]
        exact z) ea_nil)) fun H4 v4 H5 e4 f5 ⟨A2, d1, d2, d3, d4, d5, B5⟩ => ?_
    have B4 := B3.ex e4
    have f5 : Fr [A.lp, A.da] H4 H5 := f5
    have g5 : Ge K H4 H5 := B4.geFr (fun a h => by
      have h : a = A.lp ∨ a = A.da := by simpa using h
      rcases h with h | h
      · exact .inl h
      · exact .inr (.inl h)) f5
    have ex5 : Ex H H5 := exFr (ep.trans (e3.trans e4)) (S := [A.lp, A.da]) (fun a h => by
      have h : a = A.lp ∨ a = A.da := by simpa using h
      rcases h with h | h
      · rw [h, c2]; exact hlp
      · rw [h, c3]; exact hda) f5
    have B5 : Bk K A2 ((x.near.map fun a => a.1).take i ++ [(x.near.getD i default).1]) (appOf x.near) [] H5 := B5
    rw [← pn, ← takeG (by omega)] at B5
    exact ⟨(((s3.ex e4).st g5).forget (i := 2)).forget (i := 3), ex5, (gp.trans (ge_ex (e3.trans e4))).trans g5, A2, d1.trans c1, d2.trans c2, d3.trans c3, d4.trans c4, d5.trans c5, B5⟩
  · rw [show x.near.length = (x.near.map fun a => a.1).length from pl.symm, List.take_length] at B
    have eR : EvP (K := K) (tOp (rIxT K) (tVar 0) (tC (.int 1))) _ H' (tyE (.ref x.lr)) := ev_nth (i := 1) (ev_var (i := 0) sp rfl) rfl
    refine q_for (ei_lsT (T := tyRd K) eR (ep _ _ rat) (rit.ex ep))
      (fun H2 i σ' H'' => Sat [some (tySv2 K x), some (tyE (.ref p)), none, none, none, none, none] σ' H'' ∧ Ex H H'' ∧ Ge K H' H'' ∧ ∃ A', A'.b = p ∧ A'.lp = lp ∧ A'.da = da ∧ A'.lr = lr ∧ Bk K A' (x.near.map fun a => a.1) (appOf x.near) (x.rds.take i) H'')
      (fun H2 e2 => ⟨sp.ex e2, ep.trans e2, ge_ex e2, A, c1, c2, c3, c4, B.ex e2⟩) (fun H2 e2 i σ' H' _ p => ⟨SqL.of (p.2.1 _ _ rat), p.2.2.1⟩)
      (fun H2 e2 i y σ' H3 H'' hi ⟨sp, ep, gp, A, c1, c2, c3, c4, B⟩ e3 ty => ?_) (fun H2 e2 σ' H3 ⟨sp, ep, gp, A, c1, c2, c3, c4, B⟩ => ?_)
    · refine g_quad ty fun u1 u2 u3 u4 h1 h2 h3 h4 => ?_
      have s3 := ((((sp.ex e3).set (i := 2) h1).set (i := 4) h2).set (i := 5) h3).set (i := 6) h4
      have B3 := B.ex e3
      have gm : x.rds.getD i default ∈ x.rds := getD_mem hi
      obtain ⟨o1, o2, o3⟩ := ok.ok _ gm
      have hnew : ∀ r, r ∈ x.rds.take i → r.name ≠ (x.rds.getD i default).name := fun r hr z => by
        have q := notin_take ok.nn (show i < (x.rds.map fun r => r.name).length by rw [List.length_map]; exact hi)
        rw [map_getD' hi, ← List.map_take] at q
        exact q (List.mem_map.mpr ⟨r, hr, z⟩)
      refine methW (s := sAddRd K) (A, (x.near.map fun a => a.1), appOf x.near, x.rds.take i, x.rds.getD i default) B3.at_ (fun H4 e => ⟨B3.ex e, hnew, o1, o2, o3, by show (x.rds.take i).length < 24; rw [List.length_take]; omega, by show A.lp ≠ A.lr; rw [c2, c4]; exact n2⟩) rfl (noB (by decide +kernel)) (by rw [c1]; exact ev_var (i := 1) s3 rfl)
        (ea_cons (ev_var (i := 2) s3 rfl) (ea_cons (ev_var (i := 4) s3 rfl) (ea_cons (ev_call (s := sMadeL K) _ trivial (ea_cons (ev_var (i := 5) s3 rfl) ea_nil)) (ea_cons (ev_call (s := sMadeL K) _ trivial (ea_cons (ev_var (i := 6) s3 rfl) ea_nil)) ea_nil)))) fun H4 v4 H5 e4 f5 ⟨A2, d1, d2, d3, d4, B5⟩ => ?_
      have B4 := B3.ex e4
      have f5 : Fr [A.lr] H4 H5 := f5
      have g5 : Ge K H4 H5 := B4.geFr (fun a h => by
        have h : a = A.lr := by simpa using h
        exact .inr (.inr h)) f5
      have ex5 : Ex H H5 := exFr (ep.trans (e3.trans e4)) (S := [A.lr]) (fun a h => by
        have h : a = A.lr := by simpa using h
        rw [h, c4]; exact hlr) f5
      have B5 : Bk K A2 (x.near.map fun a => a.1) (appOf x.near) (x.rds.take i ++ [x.rds.getD i default]) H5 := B5
      rw [← takeG hi] at B5
      exact ⟨(((((s3.ex e4).st g5).forget (i := 2)).forget (i := 4)).forget (i := 5)).forget (i := 6), ex5, (gp.trans (ge_ex (e3.trans e4))).trans g5, A2, d1.trans c1, d2.trans c2, d3.trans c3, d4.trans c4, B5⟩
    · rw [List.take_length] at B
      refine s_ret (ev_var (i := 1) sp rfl) fun v H4 e4 z => kk v H4 (ep.trans e4) ⟨A, by rw [c1]; exact z, ⟨by rw [c1]; exact hp, by rw [c2]; exact hlp, by rw [c3]; exact hda, by rw [c4]; exact hlr⟩, B.ex e4⟩
end
end Pd

/-! Ratios told equal; isinstance. -/
namespace Pd
open PySem PySem.Spec PyProof.Rows L2 Evl Pt Pn
open Pb (Ht Sz entV entM)
section
variable {P : Program} {w : World} {K : PySem.W.Frag} {mg : Str → Option Value} {base : Heap}
abbrev gRa (K : PySem.W.Frag) : Addr := He.ga K "Ratio"
/-- the facts of isinstance(x, Ratio) -/
theorem ty_ratio (c : Cxt P K mg base) {H : Hp} {a dx : Addr} {fs : List (Str × V)} (h : H a = some (.ins (gRa K) dx fs)) : TyX K H (.ref a) (.ref (gRa K)) := by
  have m := (He.ba (He.ba c.more).2).1
  unfold isB at m
  obtain ⟨⟨m1, m2⟩, m3, m4, _⟩ := by simpa only [Bool.and_eq_true] using m
  exact .base (.ins h c.c_Ratio (He.eqO_ok m1) (He.eqO_ok m2) (of_decide_eq_true m3) (of_decide_eq_true m4))
theorem ev_isR (c : Cxt P K mg base) {σ : L2.St} {H : Hp} {te : TE} {q : Rat} (h : EvP (K := K) te σ H (tyRat q)) : EvP (K := K) (tCB (rIsi K) (tCons te (tCons (tC (.ref (gRa K))) tNil))) σ H (tyE (.bl true)) := fun H1 e Q k =>
  h H1 e _ fun v H2 e2 ⟨a, dx, ea, ha⟩ => by
    subst ea
    exact ⟨_, _, _, _, true, rfl, .own _, ty_ratio c ha, if_pos (beq_self_eq_true _), k _ H2 e2 rfl⟩
theorem ev_isB {σ : L2.St} {H : Hp} {te : TE} {i : Int} (h : EvP (K := K) te σ H (tyInt i)) : EvP (K := K) (tCB (rIsi K) (tCons te (tCons (tC (.ty "bool")) tNil))) σ H (tyE (.bl false)) := fun H1 e Q k =>
  h H1 e _ fun v H2 e2 z => by
    cases z
    exact ⟨_, _, _, _, false, rfl, .ty _, .base (.int _), kit_ty rfl, k _ H2 e2 rfl⟩
theorem ev_isInt {σ : L2.St} {H : Hp} {te : TE} {i : Int} (h : EvP (K := K) te σ H (tyInt i)) : EvP (K := K) (tCB (rIsi K) (tCons te (tCons (tC (.ty "int")) tNil))) σ H (tyE (.bl true)) := fun H1 e Q k =>
  h H1 e _ fun v H2 e2 z => by
    cases z
    exact ⟨_, _, _, _, true, rfl, .ty _, .base (.int _), kit_ty rfl, k _ H2 e2 rfl⟩
theorem ev_andV {σ : L2.St} {H : Hp} {ta tb : TE} (ha : EvP (K := K) ta σ H (tyE (.bl true))) (hb : EvP (K := K) tb σ H (tyE (.bl true))) : EvP (K := K) (tAndV ta tb) σ H (tyE (.bl true)) := fun H1 e Q k =>
  ha H1 e _ fun v H2 e2 z => by
    cases z
    exact ⟨true, rfl, hb H2 (e.trans e2) _ fun v H3 e3 z => k v H3 (e2.trans e3) z⟩
theorem ev_eqI {σ : L2.St} {H : Hp} {ta tb : TE} {i : Int} (x : EvP (K := K) ta σ H (tyInt i)) (y : EvP (K := K) tb σ H (tyInt i)) : EvP (K := K) (tOp rEq ta tb) σ H (tyE (.bl true)) := by
  have z := ev_flat (K := K) (Evl.ev_op (flat_ev x) (flat_ev y) (rv_eq rfl))
  rw [decide_eq_true rfl] at z
  exact z
theorem et_B {σ : L2.St} {H : Hp} {te : TE} {b : Bool} (h : EvP (K := K) te σ H (tyE (.bl b))) : EvT (tB te) σ H b := fun H1 e Q q => h H1 e _ fun v H2 e2 z => by
  cases z
  exact ⟨b, rfl, q H2 e2⟩
/-- both are one Ratio's -/
def REq (K : PySem.W.Frag) (a b : Addr) (H : Hp) : Prop := ∃ q, (tyRat (K := K) q).p (.ref a) H ∧ (tyRat (K := K) q).p (.ref b) H
def spREq (K : PySem.W.Frag) : Sp := spEq (REq K)
theorem sc_m_Ratio_eq : FnScope ["self", "other"] ["self", "other"] (defScope sm_Ratio_eq) := ⟨rfl, rfl, rfl, by decide +kernel, rfl, by decide +kernel, by decide +kernel⟩
theorem ok_eq (c : Cxt P K mg base) : Ok P w K mg base dm_Ratio_eq 33 ["self", "other"] (spREq K) := by
  have nd := (sc_m_Ratio_eq).nd
  refine (c.Fm_Ratio_eq).ok sc_m_Ratio_eq (fun vs H Q E h => ?_) (fun cdv A outer s0 H vs Q E hr h => ⟨_, PSs.nox ((pss_one (ps_ret (pe_and (pe_callB (call_isiK2 K) (by rfl) c.z_isinstance (by decide +kernel) (pa_cons (pv 1) (pa_cons (pe_glob (v := .ref (He.ga K "Ratio")) rfl c.g_Ratio rfl) pa_nil))) (pe_and (pe_cmpR op_eq (pe_fldK K (pv 0) rfl) (pe_fldK K (pv 1) rfl) (nomark _)) (pe_one (pe_cmpR op_eq (pe_fldK K (pv 0) rfl) (pe_fldK K (pv 1) rfl) (nomark _)))))))), ?_⟩)
  · obtain ⟨a, b, rfl, _⟩ := h
    rfl
  · obtain ⟨a, b, rfl, ⟨q, ha, hb⟩, k⟩ := h
    have hs : Sat [some (tyRat q), some (tyRat q)] (L2.start ["self", "other"] [V.ref a, V.ref b]) H := .cons (fun T e => by cases e; exact ⟨_, rfl, ha⟩) (.cons (fun T e => by cases e; exact ⟨_, rfl, hb⟩) .nil)
    have e0 := ev_var (i := 0) hs rfl
    have e1 := ev_var (i := 1) hs rfl
    exact s_ret (ev_andV (ev_isR c e1) (ev_andV (ev_eqI (ev_top c e0) (ev_top c e1)) (ev_eqI (ev_bottom c e0) (ev_bottom c e1)))) fun v H1 x z => by
      cases z
      exact k H1 x
end
section
variable {P : Program} {w : World} {K : PySem.W.Frag} {mg : Str → Option Value} {base : Heap}
/-- a pair of ints is that pair -/
theorem ev_eqPair {σ : L2.St} {H : Hp} {ta tb : TE} {q : Rat} (ha : EvP (K := K) ta σ H (tyPr q)) (hb : EvP (K := K) tb σ H (tyPr q)) : EvP (K := K) (tOp (rEqG (DTup K DFlat)) ta tb) σ H (tyE (.bl true)) := fun H1 e Q k =>
  ha H1 e _ fun v H2 e2 z => hb H2 (e.trans e2) _ fun v' H3 e3 ⟨b, ys, eb, hy, ty⟩ => by
    obtain ⟨a, xs, ea, hx, tx⟩ := Ty.st _ _ _ _ (ge_ex e3) z
    subst ea eb
    refine ⟨⟨a, b, xs, ys, rfl, rfl, SqT.of hx, SqT.of hy, ?_⟩, fun H' x => k _ H' ((e2.trans e3).trans x) rfl⟩
    cases tx with
    | cons x1 t1 =>
    cases t1 with
    | cons x2 t2 =>
    cases t2
    cases ty with
    | cons y1 u1 =>
    cases u1 with
    | cons y2 u2 =>
    cases u2
    cases x1; cases x2; cases y1; cases y2
    exact Prs.cons ⟨rfl, rfl, by simp [eqV]⟩ (Prs.cons ⟨rfl, rfl, by simp [eqV]⟩ Prs.nil)
def sIs (K : PySem.W.Frag) : Spc K := ⟨Rat, fun q => [tyRat q, tyPr q], fun _ => True, fun _ => tyE (.bl true)⟩
theorem sc_f_law_is : FnScope ["_law_actual", "_law_pair_here"] ["_law_actual", "_law_pair_here"] (defScope sf_law_is) := ⟨rfl, rfl, rfl, by decide +kernel, rfl, by decide +kernel, by decide +kernel⟩
theorem ok_law_is (c : Cxt P K mg base) : Ok P w K mg base df_law_is 33 ["_law_actual", "_law_pair_here"] (sIs K).sp := by
  have nd := (sc_f_law_is).nd
  refine okS c.Ff_law_is sc_f_law_is (sIs K) (fun _ => rfl) fun cdv A outer s0 H E hr => ⟨_, PSs.nox ((pss_cons (ps_if (PW.pt (pw_or (pt_not (pt_val (pe_callB (call_isiK2 K) (by rfl) c.z_isinstance (by decide +kernel) (pa_cons (pv 0) (pa_cons (pe_glob (v := .ref (He.ga K "Ratio")) rfl c.g_Ratio rfl) pa_nil))))) (pw_or (pt_val (pe_callB (call_isiK2 K) (by rfl) c.z_isinstance (by decide +kernel) (pa_cons (pe_fldK K (pv 0) rfl) (pa_cons (pe_bltn (v := .ty "bool") rfl c.z_bool (by decide +kernel) rfl) pa_nil)))) (pw_or1 (pt_val (pe_callB (call_isiK2 K) (by rfl) c.z_isinstance (by decide +kernel) (pa_cons (pe_fldK K (pv 0) rfl) (pa_cons (pe_bltn (v := .ty "bool") rfl c.z_bool (by decide +kernel) rfl) pa_nil)))))))) (pss_one (ps_ret pe_bl)) pss_nil)
      (pss_one (ps_ret (pe_and (pe_callB (call_isiK2 K) (by rfl) c.z_isinstance (by decide +kernel) (pa_cons (pe_fldK K (pv 0) rfl) (pa_cons (pe_bltn (v := .ty "int") rfl c.z_int (by decide +kernel) rfl) pa_nil))) (pe_one (pe_cmpR (op_eqG (rcG_tup mon_flat eqG_flat) (by exact hr.mono (by decide))) (pe_tup (pa_cons (pe_fldK K (pv 0) rfl) (pa_cons (pe_fldK K (pv 0) rfl) pa_nil))) (pv 1) (nomark _)))))))), fun x Q σ hx hs k => ?_⟩
  have kk := k
  change Rat at x
  have hs : Sat [some (tyRat x), some (tyPr x)] σ H := hs
  have e0 := ev_var (i := 0) hs rfl
  refine Pt.q_if (b := !true || (false || false)) (Evl.et_or (Evl.et_not (et_B (ev_isR c e0))) fun _ => Evl.et_or (et_B (ev_isB (ev_top c e0))) fun _ => et_B (ev_isB (ev_bottom c e0))) (fun z => by cases z) fun _ H1 e1 => ?_
  have e1' := ev_var (i := 0) (hs.ex e1) rfl
  exact s_ret (ev_andV (ev_isInt (ev_top c e1')) (ev_eqPair (ev_pair (ev_top c e1') (ev_bottom c e1')) (ev_var (i := 1) (hs.ex e1) rfl))) fun v H2 e2 z => kk v H2 (e1.trans e2) z
end
end Pd

/-! != by an own __eq__; dicts with such values. -/
namespace Pr
open PySem PySem.Spec PyProof.Rows L2
section
variable {X : Cx} {CX : CXT} {n : Nat} {C f : Addr} {fd : FuncData} {ps : List Str} {R : Addr → Addr → Hp → Prop} {E : XK}
/-- the own == called -/
theorem call_own (F : FnOk X.prog X.w X.K X.mg X.base CX n f fd ps (spEq R)) (hb : Binds X.K fd ps []) (hx : Passes CX X E)
    {A : Around} {pins : List (Addr × Obj)} {s : Shared} {σ : L2.St} {H : Hp} {a b : Addr} (sb : L2.Sub X n A) (I : Inv X pins σ H s) (q : R a b H) :
    wpAny (model X.prog X.w) A (call (.ref f) [.ref a, .ref b]) (fun r s' => r = .bool true ∧ ∃ H', Inv X pins σ H' s' ∧ Ext H H') X.xe s := by
  have want : spEq R [.ref a, .ref b] H (fun v H' => v = .bl true ∧ Ext H H') E := ⟨a, b, rfl, q, fun _ e => ⟨rfl, e⟩⟩
  have e := I.env0
  have env : Env0 X.prog X.w X.K X.mg X.base A X.stack s H := ⟨by rw [sb.fr]; exact e.frames, e.mod, e.bs, e.bsz, e.funs, e.frf, e.hok, e.bare⟩
  have len := F.len _ _ _ _ want
  have vals : Vals [V.ref a, V.ref b] [Value.ref a, Value.ref b] := .cons rfl (.cons rfl .nil)
  have bind := hb s [.ref a, .ref b] I.kIn (by simpa using len)
  refine wpAny_call (codeAny_mono (F.run A X.stack s H ⟨[.ref a, .ref b], []⟩ [.ref a, .ref b] [.ref a, .ref b] _ E sb.room env (by simpa using bind) vals want) fun res s' done => ?_)
  match res, done with
  | .error err, done => exact hx pins σ H s err s' I done
  | .ok (.ret w), done =>
    obtain ⟨z, H', I', rz, ez, ex⟩ := I.after done
    subst ez
    cases rz
    exact ⟨rfl, H', I', ex⟩
  | .ok .next, done => exact False.elim done
  | .ok .brk, done => exact False.elim done
  | .ok .cont, done => exact False.elim done
def rNeG (D : Eqv) : R2 := fun x y H Q => D x y H ∧ ∀ H', Ext H H' → Q (.bl false) H'
theorem ne_plain : plainId "object.__ne__" = true := PySem.F.cmp_object.ne.plain
/-- x != y of two such that are equal: object's own != asks == -/
theorem op_neG (F : FnOk X.prog X.w X.K X.mg X.base CX n f fd ps (spEq R)) (hs : PySem.W.findIn X.K (.ref C) "__eq__" = some (some (.ref f))) (hf : PySem.W.isFn X.K (.ref f) = true) (hb : Binds X.K fd ps []) (hx : Passes CX X E)
    (hn : PySem.W.findIn X.K (.ref C) "__ne__" = some (some (.builtin "object.__ne__"))) (hm : PySem.W.mroIn X.K C (.type "object") = some true) (hr : Room (n + 1) X.A) : OpR X (compareOp .NotEq) (rNeG (DIns C R)) := by
  intro pins s σ H x y v u Q I rx ry h
  obtain ⟨⟨a, b, dx, dy, fs, gs, rfl, rfl, ha, hb', q⟩, k⟩ := h
  cases rx
  cases ry
  obtain ⟨mA, J, _⟩ := ins_get I.hok ha
  obtain ⟨mB, J', _⟩ := ins_get I.hok hb'
  obtain ⟨od, J, _⟩ := J.look
  obtain ⟨od', J', _⟩ := J'.look
  have K0 := I.kIn
  have sb : L2.Sub X n X.A.in1 := L2.Sub.in1 ⟨hr, rfl⟩
  have body : wpAny (model X.prog X.w) X.A (tryCompare (.ref a) "__ne__" (.ref b)) (fun r s' => ∃ v, r = some v ∧ EP X pins σ Q v s') X.xe s := by
    unfold tryCompare
    simp only [callSpecialIfBound?, bindSpecialIfBound?]
    have called : wpAny (model X.prog X.w) X.A (call (.builtin "object.__ne__") [.ref a, .ref b]) (fun v s' => v = .bool false ∧ ∃ H', Inv X pins σ H' s' ∧ Ext H H') X.xe s := by
      refine wpAny_call (codeAny_call_builtin ne_plain PySem.F.cmpEntry_ne (PySem.W.check_slot (i := "object.__ne__") (owner := "object") (n := "__ne__") (by decide +kernel) (by decide +kernel) (J.type.andThen (PySem.W.looks_mroIn K0 hm)) (PySem.F.cmpArgs_ne _ _) ?_))
      unfold Builtin.«object.__ne__»
      refine wpAny_bind (m := slotArgs "__ne__" 1 _) (wpAny_pure ?_)
      refine wpAny_bind (m := cRoomFor _ _) (wpAny_cRoomFor sb.room.units0 ?_)
      refine wpAny_bind (m := callSpecialIfBound? (.ref a) (Str.ofString "__eq__") _) (PySem.W.ifBound_K K0 J hs hf (wpAny_mono (call_own F hb hx sb I q) (fun r s' hq => ?_) fun _ _ e => e))
      obtain ⟨rfl, q'⟩ := hq
      refine wpAny_bind (m := truthy (.bool _)) (wpAny_truthy_bool ?_)
      exact wpAny_pure ⟨rfl, q'⟩
    have fin : wpAny (model X.prog X.w) X.A (call (.builtin "object.__ne__") ([.ref a] ++ [.ref b]) >>= fun v => pure (some v)) (fun r s' => r = some (.bool false) ∧ ∃ H', Inv X pins σ H' s' ∧ Ext H H') X.xe s := by
      refine wpAny_bind (wpAny_mono called (fun v s' z => ?_) fun _ _ e => e)
      obtain ⟨rfl, z⟩ := z
      exact wpAny_pure ⟨rfl, z⟩
    have back : ∀ r s', (r = some (Value.bool false) ∧ ∃ H', Inv X pins σ H' s' ∧ Ext H H') → wpAny (model X.prog X.w) X.A (match r with
        | some Value.notImplemented => pure none
        | none => pure none
        | some v => pure (some v)) (fun r s' => ∃ v, r = some v ∧ EP X pins σ Q v s') X.xe s' := fun r s' ⟨e, H', I', x⟩ => by
      subst e
      exact wpAny_pure ⟨_, rfl, .bl false, H', I', rfl, k H' x⟩
    refine wpAny_bind (wpAny_holding (wpAny_bind (wpAny_bind (wpAny_bind (J.type.here ((PySem.W.looks_findIn K0 hn).here ?_))))))
    refine wpAny_bind (wpAny_askSetting (wpAny_ite ?_))
    have bd := PySem.F.cmp_object.ne.bind (.ref a)
    split
    · exact wpAny_bind (wpAny_of_eq bd (wpAny_pure (wpAny_mono fin back fun _ _ e => e)))
    · exact wpAny_tryCatch (wpAny_bind (wpAny_of_eq bd (wpAny_pure (wpAny_mono fin back fun _ _ e => e))))
  show wpAny (model X.prog X.w) X.A (richCompare .NotEq (.ref a) (.ref b)) (EP X pins σ Q) X.xe s
  unfold richCompare
  simp only [oneThing_ref]
  refine wpAny_holding (wpAny_bind (wpAny_cRoomFor (L2.Sub.mk hr rfl : L2.Sub X (n + 1) X.A).room.units0 ?_))
  refine wpAny_bind (J.type.here (wpAny_bind (J'.type.here ?_)))
  rw [if_neg (by simp)]
  refine wpAny_bind (wpAny_pure ?_)
  simp only [Bool.false_eq_true, if_false]
  refine wpAny_bind (wpAny_mono body (fun r s' z => ?_) fun _ _ e => e)
  obtain ⟨v, rfl, hq⟩ := z
  exact wpAny_pure hq
end
end Pr

/-! Dicts compared, their values by an own __eq__. -/
namespace Pr
open PySem PySem.W PySem.Spec PyProof.Rows PySem.Calls PyProof.V
section
variable {prog : Program} {w : World} {κ : Type} [DecidableEq κ] {kd : KeyKind prog w κ} {A : Around} {E : Value → Shared → Prop} {s : Shared}
theorem pairs_own {nm : String} {a b : Addr} {oa ob : Obj} {xs ys : Array DictEntry} {ex ey : Nat} {ka kb : List (κ × Value)} {Q : Bool → Shared → Prop} (J : Shared → Prop) (na : (a == sysModules) = false) (nb : (b == sysModules) = false)
    (ga : ∀ t, J t → t.heap.get? a = some oa) (gb : ∀ t, J t → t.heap.get? b = some ob) (da : oa.data = .dict xs ex) (db : ob.data = .dict ys ey) (kx : KeysOf kd xs) (ky : KeysOf kd ys) (px : Pairs kd xs.toList ka) (py : Pairs kd ys.toList kb) (len : ka.length = kb.length)
    (hit : ∀ (i : Nat) k v, ka[i]? = some (k, v) → ∃ y, valueAt kb k = some y ∧ ∀ t, J t → wpAny (model prog w) A (eqBool v y) (fun r t2 => r = true ∧ J t2) E t) (j0 : J s) (fin : ∀ t, J t → Q true t) :
    wpAny (model prog w) A (Builtin.Dict.samePairs nm a b) Q E s := by
  have lx : ka.length = xs.size := by rw [← px.length]; exact Array.length_toList
  have ly : kb.length = ys.size := by rw [← py.length]; exact Array.length_toList
  have sz : xs.size = ys.size := by omega
  have find : ∀ k, findBy kd.is ys k = valueAt kb k := fun k => by
    rw [← py.find k]
    clear ly sz py ky db
    obtain ⟨l⟩ := ys
    simp [findBy]
  unfold Builtin.Dict.samePairs Builtin.Dict.showsAll
  rw [if_neg (by rw [na]; exact Bool.false_ne_true), if_neg (by rw [nb]; exact Bool.false_ne_true)]
  refine wpAny_bind (wpAny_pure (wpAny_bind (wpAny_pure (wpAny_bind (wpAny_dictEntries (ga _ j0) da ?_)))))
  dsimp only
  refine wpAny_bind (wpAny_dictEntries (gb _ j0) db ?_)
  rw [if_neg (by rw [sz]; simp)]
  refine wpAny_bind (wpAny_dictEpoch (ga _ j0) da (wpAny_bind ?_))
  rw [Std.Legacy.Range.forIn_eq_forIn_range']
  simp only [Std.Legacy.Range.size, Nat.sub_zero, Nat.add_sub_cancel, Nat.div_one]
  refine wpAny_forIn_list _ (fun left q t => q = (none, ()) ∧ J t ∧ ∃ i, left = List.range' i (xs.size - i) ∧ i ≤ xs.size) _ ?_ ?_ _ _ ⟨rfl, j0, 0, by simp, Nat.zero_le _⟩
  · rintro x left q t ⟨rfl, jt, i, hl, hi⟩
    have lt : i < xs.size := Nat.lt_of_not_le fun h => by rw [Nat.sub_eq_zero_of_le h] at hl; simp at hl
    have e1 : xs.size - i = (xs.size - (i + 1)) + 1 := by omega
    rw [e1, List.range'_succ] at hl
    injection hl with hx hleft
    subst hx
    refine wpAny_bind (wpAny_dictEntries (ga _ jt) da ?_)
    rw [Array.getElem?_eq_getElem lt]
    have lt2 : x < ka.length := by omega
    obtain ⟨k, v, ekv⟩ : ∃ k v, ka[x] = (k, v) := ⟨_, _, rfl⟩
    have at1 : ka[x]? = some (k, v) := by rw [List.getElem?_eq_getElem lt2, ekv]
    obtain ⟨isk, isv⟩ := px.get? (i := x) (e := xs[x]) (k := k) (v := v) (by rw [Array.getElem?_toList, Array.getElem?_eq_getElem lt]) at1
    obtain ⟨k', isk', hold⟩ := kx xs[x] (Array.getElem_mem lt)
    have ek : k' = k := kd.inj _ _ _ isk' isk
    rw [ek] at hold
    show wpAny _ _ (holding [xs[x].key, xs[x].val] _ >>= _) _ _ _
    rw [hold]
    refine wpAny_bind (wpAny_holding (wpAny_bind (wpAny_dictFind_of isk (gb _ jt) db ky ?_)))
    obtain ⟨y, hy, eqs⟩ := hit x k v at1
    have fy := find k
    rw [hy, findBy_of_findIdx?] at fy
    cases hj : ys.findIdx? fun e => kd.is k e.key with
    | none => rw [hj] at fy; cases fy
    | some j =>
      obtain ⟨ltj, _, _⟩ := Array.findIdx?_eq_some_iff_getElem.mp hj
      rw [hj] at fy
      have ey : ys[j].val = y := by simpa [Array.getElem?_eq_getElem ltj] using fy
      refine wpAny_bind (wpAny_dictEntries (gb _ jt) db ?_)
      rw [Array.getElem?_eq_getElem ltj]
      have eqs' := eqs t jt
      rw [← ey, ← isv] at eqs'
      refine wpAny_holding (wpAny_mono eqs' (fun r t2 z => ?_) fun _ _ z => z)
      obtain ⟨rfl, j2⟩ := z
      show wpAny _ _ (if (!true) = true then _ else _) _ _ _
      rw [if_neg (by decide)]
      refine wpAny_bind (wpAny_dictEpoch (ga _ j2) da ?_)
      rw [if_neg (by simp)]
      exact wpAny_pure ⟨rfl, j2, x + 1, hleft, lt⟩
  · rintro q t ⟨rfl, jt, i, hl, hi⟩
    exact wpAny_pure (fin t jt)
end
end Pr
namespace Pr
open PySem PySem.Spec PyProof.Rows L2
section
variable {X : Cx} {n : Nat} {D : Eqv}
theorem paired_at {α β : Type} {T : α → β → Prop} {xs : List α} {ys : List β} (h : Paired T xs ys) : ∀ {i : Nat} {y : β}, ys[i]? = some y → ∃ x, xs[i]? = some x ∧ T x y := by
  induction h with
  | nil => intro i y e; simp at e
  | cons a _ ih =>
    intro i y e
    cases i with
    | zero => simp only [List.getElem?_cons_zero, Option.some.injEq] at e; subst e; exact ⟨_, rfl, a⟩
    | succ i => simpa using ih (i := i) (y := y) (by simpa using e)
/-- two dicts, told apart by nothing: equal keys, equal values -/
def rNeD (D : Eqv) : R2 := fun x y H Q => ∃ a b ks ls, x = .ref a ∧ y = .ref b ∧ a ≠ b ∧ H a = some (.dK ks) ∧ H b = some (.dK ls) ∧ ks.length = ls.length ∧
  (∀ Hl : Hp, (∀ c o, c ≠ a → c ≠ b → H c = some o → Hl c = some o) → ∀ (i : Nat) k v, ks[i]? = some (k, v) → ∃ v', valV ls k = some v' ∧ D v v' Hl) ∧ ∀ H', Ext H H' → Q (.bl false) H'
theorem op_neD (hD : Mon D) (h : EqG X n D) (hr : Room (n + 1) X.A) : OpR X (compareOp .NotEq) (rNeD D) := by
  intro pins s σ H x y v u Q I rx ry hh
  obtain ⟨a, b, ks, ls, rfl, rfl, ab, ha, hb, len, hit, k⟩ := hh
  cases rx
  cases ry
  obtain ⟨oa, I1⟩ := I.lock ha trivial
  have hb1 : (L2.upd H a (.frz oa (.dK ks))) b = some (.dK ls) := by rw [upd_ne ab.symm]; exact hb
  obtain ⟨ob, I2⟩ := I1.lock hb1 trivial
  have ga : (L2.upd (L2.upd H a (.frz oa (.dK ks))) b (.frz ob (.dK ls))) a = some (.frz oa (.dK ks)) := by rw [upd_ne ab, upd_same]
  have gb : (L2.upd (L2.upd H a (.frz oa (.dK ks))) b (.frz ob (.dK ls))) b = some (.frz ob (.dK ls)) := upd_same
  have hit2 := hit (L2.upd (L2.upd H a (.frz oa (.dK ks))) b (.frz ob (.dK ls))) fun c o h1 h2 hc => by rw [upd_ne h2, upd_ne h1]; exact hc
  have rest : ∀ c o, c ≠ a → c ≠ b → H c = some o → (L2.upd (L2.upd H a (.frz oa (.dK ks))) b (.frz ob (.dK ls))) c = some o := fun c o h1 h2 hc => by rw [upd_ne h2, upd_ne h1]; exact hc
  generalize L2.upd (L2.upd H a (.frz oa (.dK ks))) b (.frz ob (.dK ls)) = Hl at *
  obtain ⟨hoa, _, na, va, ra, o1, xs, ex, h1, x1, d1, kx, px, nd1⟩ := (show ObjOk X.prog X.w Hl s.heap a (.frz oa (.dK ks)) from I2.hok a _ ga)
  obtain ⟨hob, _, nb, vb, rb, o2, ys, ey, h2, x2, d2, ky, py, nd2⟩ := (show ObjOk X.prog X.w Hl s.heap b (.frz ob (.dK ls)) from I2.hok b _ gb)
  have e1 : o1 = oa := by rw [hoa] at h1; exact (Option.some.inj h1).symm
  have e2 : o2 = ob := by rw [hob] at h2; exact (Option.some.inj h2).symm
  subst e1 e2
  have da : s.heap.DictOf (mixKind X.prog X.w) a va := ⟨o1, xs, ex, h1, x1, d1, kx, px, nd1⟩
  have db : s.heap.DictOf (mixKind X.prog X.w) b vb := ⟨o2, ys, ey, h2, x2, d2, ky, py, nd2⟩
  have sb : L2.Sub X n X.A.in1 := L2.Sub.in1 ⟨hr, rfl⟩
  have lv : va.length = vb.length := by rw [← ra.length, ← rb.length]; exact len
  have hits : ∀ (i : Nat) kk w, va[i]? = some (kk, w) → ∃ y, valueAt vb kk = some y ∧ ∀ t, LoopI X pins σ Hl t → wpAny (model X.prog X.w) X.A.in1 (eqBool w y) (fun r t2 => r = true ∧ LoopI X pins σ Hl t2) X.xe t := fun i kk w hw => by
    obtain ⟨⟨k0, v0⟩, hq, r1, r2⟩ := paired_at ra hw
    have r1 : k0 = kk := r1
    have r2 : RelV v0 w := r2
    subst r1
    obtain ⟨v', hv', dv⟩ := hit2 i k0 v0 hq
    have ro := rb.val k0
    rw [hv'] at ro
    obtain ⟨y, hy, ry⟩ := ro.some_of
    refine ⟨y, hy, fun t ⟨H', I', e'⟩ => ?_⟩
    refine wpAny_mono (h X.A.in1 pins t σ H' v0 v' w y sb I' r2 ry (hD _ _ _ _ e' dv)) (fun r t2 z => ?_) fun _ _ z => z
    obtain ⟨z1, H2, I3, e3⟩ := z
    exact ⟨z1, H2, I3, e'.trans e3⟩
  show wpAny (model X.prog X.w) X.A (richCompare .NotEq (.ref a) (.ref b)) (EP X pins σ Q) X.xe s
  have slot := PySem.F.slot_dict_ne
  refine wpAny_richCompare_same_room (op := .NotEq) da.typeIs db.typeIs slot (wpAny_call_entry slot da.typeIs PySem.F.entry_dict_ne ?_ (PySem.F.args_dict_ne_2 _ _)) (L2.Sub.mk hr rfl : L2.Sub X (n + 1) X.A).room.units0
  have two : wpAny (model X.prog X.w) X.A.in1 (Builtin.Dict.dictSlotArgs "__ne__" ⟨[.ref a, .ref b], []⟩) (fun r t => r = (Value.ref a, Value.ref b) ∧ t = s) X.xe s := by
    unfold Builtin.Dict.dictSlotArgs
    exact wpAny_bind (wpAny_notOrdered_dict da.typeIs (by
      show wpAny _ _ (pure (Value.ref a, Value.ref b)) _ _ s
      exact wpAny_pure ⟨rfl, rfl⟩))
  show wpAny _ _ (Builtin.Dict.dictSlotArgs "__ne__" _ >>= _) _ _ s
  refine wpAny_bind (wpAny_mono two (fun r t z => ?_) fun _ _ z => z)
  obtain ⟨rfl, rfl⟩ := z
  refine wpAny_bind (wpAny_isInstance db.typeIs PySem.F.sub_dict_dict ?_)
  simp only [Bool.not_true, Bool.false_eq_true, if_false]
  refine wpAny_bind (wpAny_pure (wpAny_bind (wpAny_pure (wpAny_bind ?_))))
  refine pairs_own (LoopI X pins σ Hl) na nb (fun t ⟨H', I', e'⟩ => ?_) (fun t ⟨H', I', e'⟩ => ?_) d1 d2 kx ky px py lv hits ⟨Hl, I2, Ext.rfl'⟩ fun t ⟨H', I', e'⟩ => ?_
  · exact (show ObjOk X.prog X.w H' t.heap a (.frz o1 (.dK ks)) from I'.hok a _ (e' _ _ ga)).1
  · exact (show ObjOk X.prog X.w H' t.heap b (.frz o2 (.dK ls)) from I'.hok b _ (e' _ _ gb)).1
  · have I3 := I'.unlock (e' _ _ ga) (I.nofrz ha trivial)
    have gb3 : (L2.upd H' a (.dK ks)) b = some (.frz o2 (.dK ls)) := by rw [upd_ne ab.symm]; exact e' _ _ gb
    have I4 := I3.unlock gb3 (I.nofrz hb trivial)
    refine wpAny_pure ⟨_, rfl, ?_, fin_bl I4 (k _ fun c o hc => ?_) rfl⟩
    · exact fun z => nomatch z
    by_cases hcb : c = b
    · subst hcb
      rw [hb] at hc
      cases hc
      exact upd_same
    · rw [upd_ne hcb]
      by_cases hca : c = a
      · subst hca
        rw [ha] at hc
        cases hc
        exact upd_same
      · rw [upd_ne hca]
        exact e' _ _ (rest c o hca hcb hc)
end
end Pr

/-! The law's comparisons. -/
namespace Pd
open PySem PySem.Spec PyProof.Rows L2 Evl Pt Pn
open Pb (Ht Sz entV entM)
section
variable {K : PySem.W.Frag}
/-- two Ratios that are equal -/
abbrev DR (K : PySem.W.Frag) : Eqv := DIns (gRa K) (REq K)
theorem mon_R : Mon (DR K) := mon_ins fun a b H H' e ⟨q, h1, h2⟩ => ⟨q, Ty.st _ _ _ _ (ge_ex e) h1, Ty.st _ _ _ _ (ge_ex e) h2⟩
theorem dr_of {q : Rat} {v v' : V} {H : Hp} (h : (tyRat (K := K) q).p v H) (h' : (tyRat (K := K) q).p v' H) : DR K v v' H := by
  have g := h
  have g' := h'
  obtain ⟨a, dx, rfl, e⟩ := h
  obtain ⟨b, dy, rfl, e'⟩ := h'
  exact ⟨a, b, dx, dy, _, _, rfl, rfl, e, e', q, g, g'⟩
variable {X : Cx} {P : Program} {mg : Str → Option Value} {base : Heap}
theorem eqG_R (c : Cxt P K mg base) (h1 : X.prog = P) (h2 : X.K = K) (h3 : X.mg = mg) (h4 : X.base = base) : EqG X 33 (DR K) := by
  subst h1 h2 h3 h4
  exact eqG_ins (CX := CX0) (E := E0) (ok_eq (w := X.w) c) c.m_Ratio_eq.at_ c.m_Ratio_eq.fn c.bm_Ratio_eq pass0
theorem op_rNe (c : Cxt P K mg base) (hr : Room 34 X.A) (h1 : X.prog = P := by rfl) (h2 : X.K = K := by rfl) (h3 : X.mg = mg := by rfl) (h4 : X.base = base := by rfl) : OpR X (compareOp .NotEq) (Pr.rNeG (DR K)) := by
  subst h1 h2 h3 h4
  have ne : PySem.W.findIn X.K (.ref (gRa X.K)) "__ne__" = some (some (.builtin "object.__ne__")) := by
    have m := (He.ba (He.ba (He.ba c.more).1).2).1
    unfold neB at m
    split at m
    · rename_i id e
      rw [e, of_decide_eq_true m]
    · cases m
  have mr : PySem.W.mroIn X.K (gRa X.K) (.type "object") = some true := by
    have m := (He.ba (He.ba c.more).2).1
    unfold isB at m
    exact of_decide_eq_true (He.ba (He.ba (He.ba m).2).2).1
  exact Pr.op_neG (CX := CX0) (E := E0) (ok_eq (w := X.w) c) c.m_Ratio_eq.at_ c.m_Ratio_eq.fn c.bm_Ratio_eq pass0 ne mr hr
theorem op_dNe (c : Cxt P K mg base) (hr : Room 34 X.A) (h1 : X.prog = P := by rfl) (h2 : X.K = K := by rfl) (h3 : X.mg = mg := by rfl) (h4 : X.base = base := by rfl) : OpR X (compareOp .NotEq) (Pr.rNeD (DR K)) :=
  Pr.op_neD mon_R (eqG_R c h1 h2 h3 h4) hr
theorem op_tEq (c : Cxt P K mg base) (hr : Room 34 X.A) (h1 : X.prog = P := by rfl) (h2 : X.K = K := by rfl) (h3 : X.mg = mg := by rfl) (h4 : X.base = base := by rfl) : OpR X (compareOp .Eq) (rEqG (DTup K (DR K))) := by
  have e := rcG_tup (X := X) mon_R (eqG_R c h1 h2 h3 h4)
  subst h2
  exact op_eqG e hr
variable {σ : L2.St} {H : Hp} {ta tb : TE} {q : Rat}
theorem ev_rNe (ha : EvP (K := K) ta σ H (tyRat q)) (hb : EvP (K := K) tb σ H (tyRat q)) : EvP (K := K) (tOp (Pr.rNeG (DR K)) ta tb) σ H (tyE (.bl false)) := fun H1 e Q k =>
  ha H1 e _ fun v H2 e2 z => hb H2 (e.trans e2) _ fun v' H3 e3 z' => ⟨dr_of (Ty.st _ _ _ _ (ge_ex e3) z) z', fun H' x => k _ H' ((e2.trans e3).trans x) rfl⟩
theorem ev_tEq {n : Nat} {f g : Nat → Rat} (ha : EvP (K := K) ta σ H (tyVec n f)) (hb : EvP (K := K) tb σ H (tyVec n g)) (h : ∀ i, i < n → f i = g i) : EvP (K := K) (tOp (rEqG (DTup K (DR K))) ta tb) σ H (tyE (.bl true)) := fun H1 e Q k =>
  ha H1 e _ fun v H2 e2 z => hb H2 (e.trans e2) _ fun v' H3 e3 ⟨b, ys, eb, hy, ly, ty⟩ => by
    obtain ⟨a, xs, ea, hx, lx, tx⟩ := Ty.st _ _ _ _ (ge_ex e3) z
    refine ⟨⟨a, b, xs, ys, ea, eb, SqT.of hx, SqT.of hy, by rw [lx, ly], fun i x y h1 h2 => ?_⟩, fun H' x => k _ H' ((e2.trans e3).trans x) rfl⟩
    have hi : i < n := by rw [← lx]; exact (List.getElem?_eq_some_iff.mp h1).1
    have t2 : (tyRat (K := K) (g i)).p y H3 := ty i y h2
    rw [← h i hi] at t2
    exact dr_of (tx i x h1) t2
/-- dicts of the same heights -/
theorem ev_dNe {d : Addr} {ns : List Str} {h : Str → Rat} {kvs : List (Key × V)} (nd : ns.Nodup) (dc : Dct K d ns (fun n => tyRat (h n)) kvs H) (ha : EvP (K := K) ta σ H (tyE (.ref d)))
    (hb : ∀ H1, Ex H H1 → ∀ Q : VK, (∀ v H2, Ex H1 H2 → (∃ d2 kv2, H1 d2 = none ∧ v = .ref d2 ∧ Dct K d2 ns (fun n => tyRat (h n)) kv2 H2) → Q v H2) → tb σ H1 Q) : EvP (K := K) (tOp (Pr.rNeD (DR K)) ta tb) σ H (tyE (.bl false)) := fun H1 e Q k =>
  ha H1 e _ fun v H2 e2 z => hb H2 (e.trans e2) _ fun v' H3 e3 ⟨d2, kv2, hn, ev, dc2⟩ => by
    cases z
    subst ev
    have dc3 := dc.ex ((e.trans e2).trans e3)
    have ne : d ≠ d2 := fun z => by rw [← z, (dc.ex (e.trans e2)).at_] at hn; cases hn
    refine ⟨d, d2, kvs, kv2, rfl, rfl, ne, dc3.at_, dc2.at_, by rw [dc3.e.len, dc2.e.len], fun Hl hl i kk v hv => ?_, fun H' x => k _ H' ((e2.trans e3).trans x) rfl⟩
    have g : Ge K H3 Hl := fun a o h im => hl a o (fun z => by rw [z, dc3.at_] at h; cases h; exact im) (fun z => by rw [z, dc2.at_] at h; cases h; exact im) h
    have ek := dct_key dc3.e hv
    subst ek
    have hi : i < ns.length := by rw [← dc3.e.len]; exact (List.getElem?_eq_some_iff.mp hv).1
    obtain ⟨w, e4, e5⟩ := dc2.e.get (getD_mem hi)
    refine ⟨w, e4, dr_of (q := h (ns.getD i default)) (Ty.st _ _ _ _ g ?_) (Ty.st _ _ _ _ g e5)⟩
    -- the first dict's own value there
    have own := dc3.e
    unfold DctE at own
    obtain ⟨x, hx, ex, tx⟩ := Pr.paired_at own hv
    have exx : x = ns.getD i default := by rw [List.getD_eq_getElem?_getD, hx]; rfl
    rw [exx] at tx
    exact tx
end
end Pd

/-! Rules for the law's own body. -/
namespace Pd
open PySem PySem.Spec PyProof.Rows L2 Evl Pt Pn
open Pb (Ht Sz entV entM)
open LamX (Tabs ExtN TabB)
section
variable {K : PySem.W.Frag} {σ : L2.St} {H : Hp} {Ts : TEnv K} {te ta tb : TE} {t : TA} {D : Ends} {tz tu : TS}
/-- a call that may write tables -/
theorem callN {s : Spn K} {Q : VK} (x : s.ι) (hx : ∀ H1, Ex H H1 → s.side x H1) (hT : Tabs (TT K) H) (ha : EvPA t σ H (s.args x)) (k : ∀ H1 v H2, Ex H H1 → ExtN H1 H2 → Tabs (TT K) H2 → s.post x H1 v H2 → Q v H2) : tCall s.sp [] E0 t σ H Q :=
  ha H (Ex.refl _) _ fun vs H1 e1 zs => by
    refine ⟨x, hx H1 e1, hT.ext e1, ?_, fun v H2 n T z => k H1 v H2 e1 n T z⟩
    rw [List.append_nil]
    exact zs
variable {α : Type} [Inhabited α] {T : α → Ty K} {l : List α} {p : Addr} {xs : List V}
/-- the items of a new list -/
theorem ei_ls (h : EvLs te σ H T l) : EvI (K := K) (iList K te) σ H l.length (fun i => T (l.getD i default)) (fun H2 H3 => ExtN H2 H3) := fun H1 e R q => by
  show te σ H1 fun x H2 => ∃ a, x = .ref a ∧ (∃ xs, SqL K H2 a xs) ∧ R (Itl K a) H2
  refine h H1 e _ fun p xs H2 hp e2 at2 it => ⟨p, rfl, ⟨xs, SqL.of at2⟩, q _ H2 e2 ?_⟩
  have w := walk_list (K := K) (a := p) (xs := xs)
  rw [it.ln] at w
  refine w.mono (fun H3 g => SqL.of (g _ _ at2 fun ps z => by cases z)) fun i H3 x H4 hi g y => ?_
  obtain ⟨e4, e5⟩ := y
  subst e4
  exact ⟨Ex.refl _, Ty.st _ _ _ _ (ge_extN g) (it.its i x e5)⟩
/-- the items of a list that stands, tables may be written -/
theorem ei_lsN {tl : TE} (h : EvP (K := K) tl σ H (tyE (.ref p))) (hp : H p = some (.lst xs)) (it : LsT T l xs H) : EvI (K := K) (iList K tl) σ H l.length (fun i => T (l.getD i default)) (fun _ H3 => ExtN H H3) := fun H1 e R q =>
  ei_lsT h hp it H1 e R fun J H2 e2 w => q J H2 e2 (w.mono (fun H3 g => ⟨SqL.of (g _ _ hp fun ps z => by cases z), ge_extN g⟩) fun i H3 x H4 hi g y => y)
/-- dict(l), l a list of pairs -/
abbrev rDictP (K : PySem.W.Frag) : List V → Hp → VK → Prop := fun xs H Q => ∃ (a : Addr) (ps : List Addr) (kvs : List (Key × V)), xs = [.ref a] ∧ SqL K H a (ps.map V.ref) ∧ Paired (fun p kv => SqT K H p [kV kv.1, kv.2]) ps kvs ∧
    ∀ p, H p = none → Q (.ref p) (upd H p (.dK (mergeK [] kvs)))
theorem pairs_dict : ∀ {l : List (Str × Rat)} {xs : List V} {H : Hp}, LsT (tyNr K) l xs H → ∃ (ps : List Addr) (kvs : List (Key × V)), xs = ps.map V.ref ∧ Paired (fun p kv => SqT K H p [kV kv.1, kv.2]) ps kvs ∧ kvs.map (fun kv => kv.1) = l.map (fun a => (.inr a.1 : Key)) ∧
    Paired (fun (a : Str × Rat) (kv : Key × V) => kv.1 = .inr a.1 ∧ (tyPr (K := K) a.2).p kv.2 H) l kvs
  | [], xs, H, h => by
    have : xs = [] := List.length_eq_zero_iff.mp h.ln
    subst this
    exact ⟨[], [], rfl, .nil, rfl, .nil⟩
  | a :: l, xs, H, h => by
    cases xs with
    | nil => exact absurd h.ln (by simp)
    | cons x xs =>
      have hx := h.its 0 x rfl
      have ht : LsT (tyNr K) l xs H := by
        have := h.drop 1
        simpa using this
      obtain ⟨ps, kvs, e1, e2, e3, e4⟩ := pairs_dict ht
      obtain ⟨q, ys, eq, hq, ty⟩ := hx
      cases ty with
      | cons y1 ty =>
      cases ty with
      | cons y2 ty =>
      cases ty
      rename_i v1 v2
      have y1 : v1 = .str a.1 := y1
      subst y1
      subst eq
      exact ⟨q :: ps, (.inr a.1, v2) :: kvs, by rw [e1]; rfl, .cons (SqT.of hq) e2, by rw [List.map_cons, e3]; rfl, .cons ⟨rfl, y2⟩ e4⟩
theorem dct_of {l : List (Str × Rat)} {kvs : List (Key × V)} {H : Hp} (nd : (l.map fun a => a.1).Nodup) (h : Paired (fun (a : Str × Rat) (kv : Key × V) => kv.1 = .inr a.1 ∧ (tyPr (K := K) a.2).p kv.2 H) l kvs) : DctE (K := K) (l.map fun a => a.1) (fun n => tyPr (appOf l n)) kvs H := by
  have key : ∀ {m : List (Str × Rat)} {kvs : List (Key × V)}, (∀ a, a ∈ m → a ∈ l) → Paired (fun (a : Str × Rat) (kv : Key × V) => kv.1 = .inr a.1 ∧ (tyPr (K := K) a.2).p kv.2 H) m kvs → DctE (K := K) (m.map fun a => a.1) (fun n => tyPr (appOf l n)) kvs H := by
    intro m kvs sub h
    induction h with
    | nil => exact .nil
    | cons a t ih =>
      refine .cons ⟨a.1, ?_⟩ (ih fun b hb => sub b (List.mem_cons_of_mem _ hb))
      have e := appOf_at nd (sub _ List.mem_cons_self)
      show (tyPr (K := K) (appOf l _)).p _ H
      rw [e]
      exact a.2
  exact key (fun _ h => h) h
theorem do_dictP {l : List (Str × Rat)} (nd : (l.map fun a => a.1).Nodup) (hp : H p = some (.lst xs)) (it : LsT (tyNr K) l xs H) (ha : EvP (K := K) ta σ H (tyE (.ref p))) (H1 : Hp) (e : Ex H H1) (Q : VK)
    (k : ∀ d kv H2, H1 d = none → Ex H1 H2 → Dct K d (l.map fun a => a.1) (fun n => tyPr (appOf l n)) kv H2 → Q (.ref d) H2) : tCB (rDictP K) (tCons ta tNil) σ H1 Q :=
  ha H1 e _ fun v H2 e2 z => by
    cases z
    have e4 := e.trans e2
    obtain ⟨ps, kvs, e5, e6, e7, e8⟩ := pairs_dict (it.ex e4)
    refine ⟨p, ps, kvs, rfl, SqL.of (by rw [← e5]; exact e4 _ _ hp), e6, fun d hd => ?_⟩
    have mk : mergeK [] kvs = kvs := by
      have z := merge_new kvs [] (by
        rw [e7]
        have : (l.map fun a => (.inr a.1 : Key)) = (l.map fun a => a.1).map .inr := by rw [List.map_map]; rfl
        rw [this]
        exact List.Pairwise.map _ (fun a b ne q => ne (by cases q; rfl)) nd) (fun _ _ => rfl)
      simpa using z
    rw [mk]
    have x := Ex.new (o := .dK kvs) hd
    exact k d kvs _ (Evl.fresh_back e2 hd) (e2.trans x) ⟨upd_same, (dct_of nd e8).st (ge_ex x)⟩
/-! ### the books -/
theorem Bk.fr {A : BkA} {pts : List Str} {app : Str → Rat} {rds : List Rdg} {H H' : Hp} {S : List Addr} (h : Bk K A pts app rds H) (f : Fr S H H') (g : Ge K H H') (h1 : A.b ∉ S) (h2 : A.lp ∉ S) (h3 : A.da ∉ S) (h4 : A.lr ∉ S) : Bk K A pts app rds H' :=
  ⟨f _ _ h1 h.at_, f _ _ h2 h.pt, ⟨f _ _ h3 h.ap.at_, h.ap.e.st g⟩, f _ _ h4 h.rd, h.ln, h.its.st g⟩
abbrev BkS (K : PySem.W.Frag) (A : BkA) (s : SvD) (H : Hp) : Prop := Bk K A (s.near.map fun a => a.1) (appOf s.near) s.rds H
instance : Inhabited BkA := ⟨⟨0, 0, 0, 0, 0, [], []⟩⟩
/-- [_law_book(s) for s in surveys] -/
theorem q_books {ps : List PtX} {j r : Nat} (hs : Sat Ts σ H) (hj : Ts[j]? ≠ none) (ha : EvP (K := K) ta σ H (tyE (.ref p))) (hp : H p = some (.lst xs)) (it : LsT (tySx K) ps xs H) (sv : ∀ x, x ∈ ps → SvAt K x.s H ∧ BookOk x.s) (hl : ps.length ≤ 100)
    (k : ∀ q ys σ' H' (As : List BkA), H q = none → Ex H H' → H' q = some (.lst ys) → LsT (K := K) (fun A : BkA => tyE (.ref A.b)) As ys H' → As.length = ps.length → (∀ i, i < ps.length → BkS K (As.getD i default) (ps.getD i default).s H') → Sat (Ts.set r (some (tyE (.ref q)))) σ' H' → tz D σ' H') :
    tSeq (tAsg (tLc (iList K ta) (gName j) tYes (tCall (sBook K).sp [] E0 (tCons (tVar j) tNil)) [j]) (gName r)) tz D σ H := by
  show tLc (iList K ta) (gName j) tYes _ [j] σ H fun v H' => tz D (σ.set r (some v)) H'
  refine ei_lsT ha hp it H (Ex.refl _) _ fun J H2 e2 w N hN => ?_
  refine lc_it w (fun i H' => Ex H2 H' ∧ ∃ acc As, H' N = some (.lst acc) ∧ LsT (K := K) (fun A : BkA => tyE (.ref A.b)) As acc H' ∧ As.length = i ∧ ∀ i', i' < i → (BkS K (As.getD i' default) (ps.getD i' default).s H' ∧ (As.getD i' default).b ≠ N ∧ (As.getD i' default).lp ≠ N ∧ (As.getD i' default).da ≠ N ∧ (As.getD i' default).lr ≠ N))
    ⟨Ex.new hN, [], [], upd_same, LsT.nil, rfl, fun i' h => by omega⟩ (fun i H' _ q => ⟨SqL.of ((e2.trans q.1) _ _ hp), ge_ex (e2.trans q.1)⟩) (fun i x H' H'' hi q y => ?_) (fun H' q => ?_)
  · obtain ⟨y1, y2⟩ := y
    obtain ⟨q1, acc, As, a1, a2, a3, a4⟩ := q
    have eA := (e2.trans q1).trans y1
    have jl : j < Ts.length := by
      rcases Nat.lt_or_ge j Ts.length with h | h
      · exact h
      · exact absurd (List.getElem?_eq_none h) hj
    have s2 : Sat ((Ts.set j none).set j (some (tySx K (ps.getD i default)))) ((wipe σ [j]).set j (some x)) H'' := Sat.set (Sat.del (hs.ex eA)) y2
    have sj : ((Ts.set j none).set j (some (tySx K (ps.getD i default))))[j]? = some (some (tySx K (ps.getD i default))) := by rw [List.getElem?_set]; simp [jl]
    have sm := sv _ (getD_mem (l := ps) hi)
    refine ⟨wipe1 σ j _, do_yes ?_⟩
    refine ea_cons (ev_var s2 sj) ea_nil H'' (Ex.refl _) _ fun vs H3 e3 zs => ?_
    refine ⟨(ps.getD i default).s, ⟨?_, sm.2⟩, by rw [List.append_nil]; exact zs, fun v H4 e4 z => ?_⟩
    · exact sm.1.fr (S := []) (Fr.of (eA.trans e3)) (ge_ex (eA.trans e3)) (by simp) (by simp)
    · obtain ⟨A, ev, ⟨f1, f2, f3, f4⟩, bk⟩ := z
      subst ev
      have at3 := e3 _ _ (y1 _ _ a1)
      have nn : ∀ {a : Addr}, H3 a = none → a ≠ N := fun {a} h z => by rw [z, at3] at h; cases h
      have at4 := e4 _ _ at3
      have g5 : Ge K H4 (L2.upd H4 N (.lst (acc ++ [.ref A.b]))) := ge_lst at4
      have f5 : Fr [N] H4 (L2.upd H4 N (.lst (acc ++ [.ref A.b]))) := Fr.upd (by simp)
      have eB := y1.trans (e3.trans e4)
      refine ⟨acc, at4, Evl.sz_lt (by have := a2.ln; omega), Ex.mut (q1.trans eB) hN, acc ++ [.ref A.b], As ++ [A], upd_same, ((a2.ex eB).st g5).snoc (show (tyE (K := K) (.ref A.b)).p (.ref A.b) _ from rfl), by rw [List.length_append, a3]; rfl, fun i' hi' => ?_⟩
      by_cases h : i' < i
      · obtain ⟨b1, b2, b3, b4, b5⟩ := a4 i' h
        have e : (As ++ [A]).getD i' default = As.getD i' default := by rw [List.getD_eq_getElem?_getD, List.getElem?_append_left (by omega), ← List.getD_eq_getElem?_getD]
        rw [e]
        exact ⟨(Bk.ex b1 eB).fr f5 g5 (by simpa using b2) (by simpa using b3) (by simpa using b4) (by simpa using b5), b2, b3, b4, b5⟩
      · have hie : i' = As.length := by omega
        have e : (As ++ [A]).getD i' default = A := by rw [hie, List.getD_eq_getElem?_getD, List.getElem?_append_right (Nat.le_refl _), Nat.sub_self]; rfl
        rw [e, hie, a3]
        exact ⟨Bk.fr bk f5 g5 (by simpa using nn f1) (by simpa using nn f2) (by simpa using nn f3) (by simpa using nn f4), nn f1, nn f2, nn f3, nn f4⟩
  · obtain ⟨q1, acc, As, a1, a2, a3, a4⟩ := q
    exact k N acc _ H' As (Evl.fresh_back e2 hN) (e2.trans q1) a1 a2 a3 (fun i hi => (a4 i hi).1) ((hs.ex (e2.trans q1)).set rfl)
end
end Pd

/-! What the drawn parts are: plain facts. -/
namespace Pd
open PySem PySem.Spec PyProof.Rows L2 Evl Pt Pn
open Pb (Ht Sz entV entM)
section
/-- a part by its place -/
def PsX.pt (o : PsX) (p : Nat) : PtX := o.ps.getD p default
def PsX.I (o : PsX) (p : Nat) : List Str := (o.pt p).inn
def PsX.R (o : PsX) (p : Nat) : List Rdg := (o.pt p).s.rds
def PsX.all (o : PsX) : List Str := o.bd ++ (o.ps.map fun x => x.inn).flatten
theorem len2 {α : Type} : ∀ {l : List α}, l.length = 2 → ∃ a b, l = [a, b]
  | [a, b], _ => ⟨a, b, rfl⟩
theorem len3 {α : Type} : ∀ {l : List α}, l.length = 3 → ∃ a b d, l = [a, b, d]
  | [a, b, d], _ => ⟨a, b, d, rfl⟩
theorem flat3 {β : Type} {ps : List PtX} {f : PtX → List β} {B : Nat → List β} (h : ∀ j, j < ps.length → (f (ps.getD j default)).Sublist (B j)) (l : ps.length = 2 ∨ ps.length = 3) : ((ps.map f).flatten).Sublist (B 0 ++ (B 1 ++ B 2)) := by
  rcases l with l | l
  · obtain ⟨a, b, rfl⟩ := len2 l
    have h0 := h 0 (by simp)
    have h1 := h 1 (by simp)
    simp only [List.getD_cons_zero, List.getD_cons_succ] at h0 h1
    have z : ([a, b].map f).flatten = f a ++ (f b ++ []) := by simp
    rw [z]
    exact h0.append (h1.append (List.nil_sublist _))
  · obtain ⟨a, b, d, rfl⟩ := len3 l
    have h0 := h 0 (by simp)
    have h1 := h 1 (by simp)
    have h2 := h 2 (by simp)
    simp only [List.getD_cons_zero, List.getD_cons_succ] at h0 h1 h2
    have z : ([a, b, d].map f).flatten = f a ++ (f b ++ f d) := by simp
    rw [z]
    exact h0.append (h1.append h2)
variable {o : PsX}
theorem PsOk.inn_sub (ok : PsOk o) {p : Nat} (hp : p < o.ps.length) : (o.I p).Sublist (INN p) := by
  obtain ⟨k, e⟩ := (ok.ps p hp).inn
  show (o.ps.getD p default).inn.Sublist _
  rw [e]
  exact List.take_sublist _ _
theorem PsOk.bd_sub (ok : PsOk o) : o.bd.Sublist BN := by
  obtain ⟨r, _, e⟩ := ok.bd
  rw [e]
  exact List.take_sublist _ _
theorem PsOk.bd_len (ok : PsOk o) : o.bd.length ≤ 3 := ok.bd_sub.length_le
theorem PsOk.np (ok : PsOk o) : 2 ≤ o.ps.length ∧ o.ps.length ≤ 3 := by have := ok.ln; omega
theorem PsOk.inn_len (ok : PsOk o) {p : Nat} (hp : p < o.ps.length) : (o.I p).length ≤ 2 := by
  have := (ok.inn_sub hp).length_le
  have np := ok.np
  have c : p = 0 ∨ p = 1 ∨ p = 2 := by omega
  rcases c with rfl | rfl | rfl <;> exact Nat.le_trans this (by decide)
theorem ALLN : (BN ++ (INN 0 ++ (INN 1 ++ INN 2))).Nodup := by decide +kernel
theorem PsOk.all_sub (ok : PsOk o) : o.all.Sublist (BN ++ (INN 0 ++ (INN 1 ++ INN 2))) := ok.bd_sub.append (flat3 (f := fun x => x.inn) (B := INN) (fun j hj => ok.inn_sub hj) ok.ln)
theorem PsOk.all_nd (ok : PsOk o) : o.all.Nodup := ok.all_sub.nodup ALLN
theorem PsOk.all_len (ok : PsOk o) : o.all.length ≤ 8 := Nat.le_trans ok.all_sub.length_le (by decide)
theorem PsOk.part_sub (ok : PsOk o) {p : Nat} (hp : p < o.ps.length) : (o.bd ++ o.I p).Sublist (BN ++ INN p) := ok.bd_sub.append (ok.inn_sub hp)
theorem partN : ∀ p : Fin 3, (BN ++ INN p.val).Nodup := by decide +kernel
theorem PsOk.part_nd (ok : PsOk o) {p : Nat} (hp : p < o.ps.length) : (o.bd ++ o.I p).Nodup := (ok.part_sub hp).nodup (partN ⟨p, by have := ok.np; omega⟩)
theorem PsOk.part_len (ok : PsOk o) {p : Nat} (hp : p < o.ps.length) : (o.bd ++ o.I p).length ≤ 5 := by
  have := ok.bd_len
  have := ok.inn_len hp
  rw [List.length_append]
  omega
theorem PsOk.part_in (ok : PsOk o) {p : Nat} (hp : p < o.ps.length) {n : Str} (h : n ∈ o.bd ++ o.I p) : n ∈ o.all := by
  rcases List.mem_append.mp h with h | h
  · exact List.mem_append_left _ h
  · exact List.mem_append_right _ (List.mem_flatten.mpr ⟨_, List.mem_map.mpr ⟨o.ps.getD p default, getD_mem hp, rfl⟩, h⟩)
theorem srt_bd : ∀ r : Fin 3, (BN.take (1 + r.val)).Pairwise fun a b => PySem.W.dataLe false (fun x : Str => PyData.str x) a b = true := by decide +kernel
theorem PsOk.srt (ok : PsOk o) : SrtN o.bd := by
  obtain ⟨r, hr, e⟩ := ok.bd
  rw [e]
  exact srt_bd ⟨r, hr⟩
/-! ### the readings -/
theorem TmOk.nd {inn bd : List Str} {ts : List (Str × Int)} (h : TmOk (nmsOf inn bd) ts) : (ts.map fun x => x.1).Nodup := (h.sub.trans List.filter_sublist).nodup (by decide +kernel)
theorem TmOk.mem {inn bd : List Str} {ts : List (Str × Int)} (h : TmOk (nmsOf inn bd) ts) {n : Str} (m : n ∈ ts.map fun x => x.1) : n ∈ bd ++ inn := by
  have z := (List.mem_filter.mp (h.sub.subset m)).2
  unfold inB at z
  rw [Bool.or_eq_true, decide_eq_true_eq, decide_eq_true_eq] at z
  rw [List.mem_append]
  exact z.symm
theorem TmOk.fit {ns : List Str} {ts : List (Str × Int)} (h : TmOk ns ts) (asc : ns.Pairwise fun a b => a.cps.toList < b.cps.toList) (pos : ∀ n, n ∈ ns → [] < n.cps.toList) : FitOk ts := by
  have pw := asc.sublist h.sub
  refine ⟨h.ne, fun i hi => ?_, fun i hi => ?_⟩
  · obtain ⟨c1, c2⟩ := h.co _ (getD_mem hi)
    exact ⟨c2, by omega, by omega⟩
  · cases i with
    | zero =>
      have m : (ts.getD 0 default).1 ∈ ns := h.sub.subset (List.mem_map.mpr ⟨_, getD_mem hi, rfl⟩)
      exact pos _ m
    | succ i =>
      have q := List.pairwise_iff_getElem.mp pw i (i + 1) (by rw [List.length_map]; omega) (by rw [List.length_map]; omega) (by omega)
      rw [List.getElem_map, List.getElem_map] at q
      show (ts.getD i default).1.cps.toList < _
      rw [List.getD_eq_getElem?_getD, List.getElem?_eq_getElem (by omega), List.getD_eq_getElem?_getD, List.getElem?_eq_getElem hi]
      exact q
theorem DRd.ok {inn bd : List Str} {r : Rdg} (h : DRd (nmsOf inn bd) r) : RdOk r := ⟨h.tm.nd, h.tm.co, h.wt.d, h.wt.pos, h.val.intD⟩
theorem PsOk.rd (ok : PsOk o) {p : Nat} (hp : p < o.ps.length) {r : Rdg} (h : r ∈ o.R p) : DRd (nmsOf (o.I p) o.bd) r := (ok.ps p hp).rd r h
theorem PsOk.rdIn (ok : PsOk o) {p : Nat} (hp : p < o.ps.length) {r : Rdg} (h : r ∈ o.R p) : RdIn (o.bd ++ o.I p) r := ⟨(ok.rd hp h).tm.nd, fun n m => (ok.rd hp h).tm.mem m⟩
theorem PsOk.bex (ok : PsOk o) : ∃ n, n ∈ ALL8 ∧ n ∈ o.bd := by
  obtain ⟨r, _, e⟩ := ok.bd
  rw [e]
  exact ⟨"B", by decide +kernel, by rw [Nat.add_comm]; exact List.mem_cons_self⟩
theorem PsOk.fit (ok : PsOk o) {p : Nat} (hp : p < o.ps.length) {r : Rdg} (h : r ∈ o.R p) : FitOk r.ts := by
  have n := all8_ok (inn := o.I p) ok.bex
  exact (ok.rd hp h).tm.fit n.asc n.pos
theorem PsOk.R_len (ok : PsOk o) {p : Nat} (hp : p < o.ps.length) : (o.R p).length ≤ 5 := (ok.ps p hp).l5
/-- the parts' names -/
theorem PsOk.near_names (ok : PsOk o) {p : Nat} (hp : p < o.ps.length) : (o.pt p).s.near.map (fun a => a.1) = o.bd ++ o.I p := by
  have q := ok.ps p hp
  show (o.ps.getD p default).s.near.map _ = _
  rw [q.near, List.map_append, ok.near, q.own]
  rfl
theorem PsOk.nears_names (ok : PsOk o) : o.nears.map (fun a => a.1) = o.all := by
  unfold PsX.nears PsX.all
  rw [List.map_append, ok.near, List.map_flatten, List.map_map]
  congr 2
  apply List.ext_getElem?
  intro i
  rw [List.getElem?_map, List.getElem?_map]
  by_cases hi : i < o.ps.length
  · rw [List.getElem?_eq_getElem hi]
    have q := (ok.ps i hi).own
    rw [List.getD_eq_getElem?_getD, List.getElem?_eq_getElem hi] at q
    exact congrArg some q
  · rw [List.getElem?_eq_none (by omega)]
    rfl
def NM (j : Nat) : List Str := (List.range 5).map (nmK (MK j))
theorem NMN : (NM 0 ++ (NM 1 ++ NM 2)).Nodup := by decide +kernel
theorem NM1 : ∀ p : Fin 3, (NM p.val).Nodup := by decide +kernel
theorem PsOk.nm_sub (ok : PsOk o) {p : Nat} (hp : p < o.ps.length) : ((o.R p).map fun r => r.name).Sublist (NM p) := by
  have q := (ok.ps p hp).nm
  show ((o.ps.getD p default).s.rds.map fun r => r.name).Sublist _
  rw [q]
  exact (List.range_sublist.mpr (ok.ps p hp).l5).map _
theorem PsOk.R_nn (ok : PsOk o) {p : Nat} (hp : p < o.ps.length) : ((o.R p).map fun r => r.name).Nodup := (ok.nm_sub hp).nodup (NM1 ⟨p, by have := ok.np; omega⟩)
theorem PsOk.rds_nn (ok : PsOk o) : (o.rds.map fun r => r.name).Nodup := by
  unfold PsX.rds
  rw [List.map_flatten, List.map_map]
  exact (flat3 (f := (List.map fun r : Rdg => r.name) ∘ fun x : PtX => x.s.rds) (B := NM) (fun j hj => ok.nm_sub hj) ok.ln).nodup NMN
theorem PsOk.rds_len (ok : PsOk o) : o.rds.length ≤ 15 := by
  have z := (flat3 (f := (List.map fun r : Rdg => r.name) ∘ fun x : PtX => x.s.rds) (B := NM) (fun j hj => ok.nm_sub hj) ok.ln).length_le
  have e : (o.rds.map fun r => r.name).length = ((o.ps.map ((List.map fun r : Rdg => r.name) ∘ fun x : PtX => x.s.rds)).flatten).length := by
    unfold PsX.rds
    rw [List.map_flatten, List.map_map]
  rw [List.length_map] at e
  have : (NM 0 ++ (NM 1 ++ NM 2)).length = 15 := by decide
  omega
theorem PsOk.rds_mem (ok : PsOk o) {r : Rdg} (h : r ∈ o.rds) : ∃ p, p < o.ps.length ∧ r ∈ o.R p := by
  obtain ⟨l, hl, hr⟩ := List.mem_flatten.mp h
  obtain ⟨x, hx, rfl⟩ := List.mem_map.mp hl
  obtain ⟨p, hp, e⟩ := List.getElem_of_mem hx
  refine ⟨p, hp, ?_⟩
  show r ∈ (o.ps.getD p default).s.rds
  rw [List.getD_eq_getElem?_getD, List.getElem?_eq_getElem hp, e]
  exact hr
theorem PsOk.rds_jR (ok : PsOk o) : o.rds = jR o.R (o.ps.length - 1) := by
  unfold PsX.rds PsX.R PsX.pt
  rcases ok.ln with l | l
  · obtain ⟨a, b, e⟩ := len2 l
    rw [e]
    simp [jR]
  · obtain ⟨a, b, d, e⟩ := len3 l
    rw [e]
    simp [jR]
theorem PsOk.book (ok : PsOk o) {p : Nat} (hp : p < o.ps.length) : BookOk (o.pt p).s := by
  have nn := ok.near_names hp
  refine ⟨by rw [nn]; exact ok.part_nd hp, ?_, ?_, ok.R_nn hp, fun r hr => ⟨ok.fit hp hr, fun n m => by rw [nn]; exact (ok.rdIn hp hr).sub n m, (ok.rd hp hr).wt.pos⟩⟩
  · have := congrArg List.length nn
    rw [List.length_map] at this
    have := ok.part_len hp
    omega
  · exact Nat.le_trans (ok.R_len hp) (by decide)
theorem PsOk.wbook (ok : PsOk o) : BookOk ⟨o.wn, o.wr, o.nears, o.rds⟩ := by
  have nn := ok.nears_names
  refine ⟨by show (o.nears.map fun a => a.1).Nodup; rw [nn]; exact ok.all_nd, ?_, ok.rds_len, ok.rds_nn, fun r hr => ?_⟩
  · have := congrArg List.length nn
    rw [List.length_map] at this
    have := ok.all_len
    show o.nears.length ≤ 8
    omega
  · obtain ⟨p, hp, h⟩ := ok.rds_mem hr
    exact ⟨ok.fit hp h, fun n m => by show n ∈ o.nears.map fun a => a.1; rw [nn]; exact ok.part_in hp ((ok.rdIn hp h).sub n m), (ok.rd hp h).wt.pos⟩
theorem PsOk.bkOk (ok : PsOk o) {p : Nat} (hp : p < o.ps.length) : BkOk (o.bd ++ o.I p) (o.R p) := ⟨Nat.lt_of_le_of_lt (ok.part_len hp) (by decide), Nat.lt_of_le_of_lt (ok.R_len hp) (by decide), fun r h => (ok.rd hp h).ok⟩
theorem PsOk.part (ok : PsOk o) {p : Nat} (hp : p < o.ps.length) : PartOk (o.bd ++ o.I p) o.bd (o.I p) (o.R p) := ⟨rfl, ok.part_nd hp, ok.bkOk hp, ok.inn_len hp, ok.bd_len, ok.srt⟩
theorem PsOk.prd (ok : PsOk o) {p : Nat} (hp : p < o.ps.length) : PRd (o.bd ++ o.I p) (o.R p) := ⟨ok.part_nd hp, fun r h => ok.rdIn hp h, fun r h => (ok.rd hp h).wt.pos⟩
theorem PsOk.wrdIn (ok : PsOk o) {r : Rdg} (h : r ∈ o.rds) : RdIn o.all r := by
  obtain ⟨p, hp, h⟩ := ok.rds_mem h
  exact ⟨(ok.rd hp h).tm.nd, fun n m => ok.part_in hp ((ok.rdIn hp h).sub n m)⟩
theorem PsOk.wrd (ok : PsOk o) {r : Rdg} (h : r ∈ o.rds) : RdOk r ∧ r.ts.length ≤ 3 := by
  obtain ⟨p, hp, h⟩ := ok.rds_mem h
  exact ⟨(ok.rd hp h).ok, (ok.rd hp h).tm.l3⟩
theorem PsOk.wprd (ok : PsOk o) : PRd o.all o.rds := ⟨ok.all_nd, fun r h => ok.wrdIn h, fun r h => (ok.wrd h).1.pos⟩
theorem PsOk.near_ok (ok : PsOk o) {p : Nat} (hp : p < o.ps.length) : ∀ a, a ∈ (o.pt p).s.near → NumOk a.2 := fun a h => by
  have q := ok.ps p hp
  have h : a ∈ (o.ps.getD p default).s.near := h
  rw [q.near] at h
  rcases List.mem_append.mp h with h | h
  · exact ok.no a h
  · exact q.no a h
theorem app_ok {l : List (Str × Rat)} (nd : (l.map fun a => a.1).Nodup) (no : ∀ a, a ∈ l → NumOk a.2) {n : Str} (h : n ∈ l.map fun a => a.1) : Pb.IntD 6 36 (appOf l n) := by
  obtain ⟨a, ha, rfl⟩ := List.mem_map.mp h
  rw [appOf_at nd ha]
  exact (no a ha).intD
theorem PsOk.app (ok : PsOk o) {p : Nat} (hp : p < o.ps.length) {n : Str} (h : n ∈ o.bd ++ o.I p) : Pb.IntD 6 36 (appOf (o.pt p).s.near n) :=
  app_ok (by rw [ok.near_names hp]; exact ok.part_nd hp) (ok.near_ok hp) (by rw [ok.near_names hp]; exact h)
theorem PsOk.nears_ok (ok : PsOk o) : ∀ a, a ∈ o.nears → NumOk a.2 := fun a h => by
  rcases List.mem_append.mp h with h | h
  · exact ok.no a h
  · obtain ⟨l, hl, ha⟩ := List.mem_flatten.mp h
    obtain ⟨x, hx, rfl⟩ := List.mem_map.mp hl
    obtain ⟨p, hp, e⟩ := List.getElem_of_mem hx
    have q := (ok.ps p hp).no
    rw [List.getD_eq_getElem?_getD, List.getElem?_eq_getElem hp, Option.getD_some, e] at q
    exact q a ha
theorem PsOk.nof (ok : PsOk o) : NofOk o.all (appOf o.nears) o.rds := by
  refine ⟨⟨ok.all_nd, ok.all_len, Nat.lt_of_le_of_lt ok.rds_len (by decide), fun r h => (ok.wrd h).1, fun r h => ok.wrdIn h, fun i hi => ?_⟩, ok.rds_nn⟩
  exact app_ok (by rw [ok.nears_names]; exact ok.all_nd) ok.nears_ok (by rw [ok.nears_names]; exact getD_mem hi)
end
end Pd

/-! What the law asks, in plain terms. -/
namespace Pd
open PySem PySem.Spec PyProof.Rows L2 Evl Pt Pn
open Pb (Ht Sz entV entM)
section
def setP {α : Type} (P : Nat → α) (k : Nat) (X : α) : Nat → α := fun q => if q = k then X else P q
theorem setP_at {α : Type} {P : Nat → α} {k : Nat} {X : α} : setP P k X k = X := if_pos rfl
theorem setP_ne {α : Type} {P : Nat → α} {k q : Nat} {X : α} (h : q ≠ k) : setP P k X q = P q := if_neg h
theorem jA_cg {F G : Nat → Nat → Nat → Rat} : ∀ {k : Nat}, (∀ p, p ≤ k → F p = G p) → jA F k = jA G k
  | 0, h => h 0 (Nat.le_refl _)
  | k + 1, h => by
    show (fun i j => jA F k i j + F (k + 1) i j) = _
    rw [jA_cg fun p hp => h p (by omega), h (k + 1) (Nat.le_refl _)]
    rfl
theorem jB_cg {F G : Nat → Nat → Rat} : ∀ {k : Nat}, (∀ p, p ≤ k → F p = G p) → jB F k = jB G k
  | 0, h => h 0 (Nat.le_refl _)
  | k + 1, h => by
    show (fun i => jB F k i + F (k + 1) i) = _
    rw [jB_cg fun p hp => h p (by omega), h (k + 1) (Nat.le_refl _)]
    rfl
abbrev M2 := Nat → Nat → Rat
abbrev oA (o : PsX) (P : Nat → M2) : Nat → M2 := fun p => fA o.bd (o.I p) (o.R p) (P p)
abbrev oB (o : PsX) (P : Nat → M2) : Nat → Nat → Rat := fun p => fB o.bd (o.I p) (o.R p) (P p)
abbrev oC (o : PsX) (P : Nat → M2) : Nat → Rat := fun p => fC o.bd (o.I p) (o.R p) (P p)
def PenF (o : PsX) (P : Nat → M2) (k : Nat) : Prop := ∀ p, p ≤ k → Pb.Pen (o.I p).length (pN o.bd (o.I p) (o.R p)) (P p)
variable {o : PsX} {P P' : Nat → M2} {k p : Nat} {X PJ : M2}
theorem oA_set : jA (oA o (setP P (k + 1) X)) (k + 1) = fun i j => jA (oA o P) k i j + fA o.bd (o.I (k + 1)) (o.R (k + 1)) X i j := by
  show (fun i j => jA (oA o (setP P (k + 1) X)) k i j + oA o (setP P (k + 1) X) (k + 1) i j) = _
  rw [jA_cg (G := oA o P) fun p hp => by show fA _ _ _ (setP P (k + 1) X p) = _; rw [setP_ne (by omega)]]
  show (fun i j => jA (oA o P) k i j + fA _ _ _ (setP P (k + 1) X (k + 1)) i j) = _
  rw [setP_at]
theorem oB_set : jB (oB o (setP P (k + 1) X)) (k + 1) = fun i => jB (oB o P) k i + fB o.bd (o.I (k + 1)) (o.R (k + 1)) X i := by
  show (fun i => jB (oB o (setP P (k + 1) X)) k i + oB o (setP P (k + 1) X) (k + 1) i) = _
  rw [jB_cg (G := oB o P) fun p hp => by show fB _ _ _ (setP P (k + 1) X p) = _; rw [setP_ne (by omega)]]
  show (fun i => jB (oB o P) k i + fB _ _ _ (setP P (k + 1) X (k + 1)) i) = _
  rw [setP_at]
theorem oC_set : jC (oC o (setP P (k + 1) X)) (k + 1) = jC (oC o P) k + fC o.bd (o.I (k + 1)) (o.R (k + 1)) X := by
  show jC (oC o (setP P (k + 1) X)) k + oC o (setP P (k + 1) X) (k + 1) = _
  rw [jC_cg (G := oC o P) fun p hp => by show fC _ _ _ (setP P (k + 1) X p) = _; rw [setP_ne (by omega)]]
  show jC (oC o P) k + fC _ _ _ (setP P (k + 1) X (k + 1)) = _
  rw [setP_at]
theorem PenF.set (h : PenF o P k) (hx : Pb.Pen (o.I (k + 1)).length (pN o.bd (o.I (k + 1)) (o.R (k + 1))) X) : PenF o (setP P (k + 1) X) (k + 1) := fun p hp => by
  by_cases e : p = k + 1
  · subst e
    rw [setP_at]
    exact hx
  · rw [setP_ne e]
    exact h p (by omega)
theorem PsOk.rows (ok : PsOk o) (hp : p < o.ps.length) (n : Nat) : Pb.RowsOk n (o.R p).length (rowA (o.bd ++ o.I p) (o.R p)) (rowW (o.R p)) (rowV (o.R p)) := rowsOk (fun r h => (ok.rd hp h).ok) (Nat.lt_of_le_of_lt (ok.R_len hp) (by decide))
theorem PsOk.form (ok : PsOk o) (hp : p < o.ps.length) (pen : Pb.Pen (o.I p).length (pN o.bd (o.I p) (o.R p)) X) : Ht 640 (entM o.bd.length o.bd.length (fA o.bd (o.I p) (o.R p) X)) ∧ Ht 640 (entV o.bd.length (fB o.bd (o.I p) (o.R p) X)) ∧ Ht 640 (fun q => fC o.bd (o.I p) (o.R p) X = q) := by
  have z := (ok.rows hp (o.bd.length + (o.I p).length)).form (ok.inn_len hp) (by have := ok.bd_len; omega) pen
  exact ⟨z.hA, z.hB, z.hC⟩
theorem PsOk.jHt (ok : PsOk o) (hk : k < o.ps.length) (pf : PenF o P k) : Ht 2000 (entM o.bd.length o.bd.length (jA (oA o P) k)) ∧ Ht 2000 (entV o.bd.length (jB (oB o P) k)) ∧ Ht 2000 (fun q => jC (oC o P) k = q) := by
  have np := ok.np
  have f : ∀ p, p ≤ k → _ := fun p hp => ok.form (p := p) (by omega) (pf p hp)
  exact ⟨(jA_ht fun p hp => (f p hp).1).mono (by omega), (jB_ht fun p hp => (f p hp).2.1).mono (by omega), (jC_ht fun p hp => (f p hp).2.2).mono (by omega)⟩
theorem PsOk.bd_nd (ok : PsOk o) : o.bd.Nodup := ok.bd_sub.nodup (by decide +kernel)
theorem PsOk.join (ok : PsOk o) (hk : k + 1 < o.ps.length) (pf : PenF o P k) (pen : Pb.Pen (o.I (k + 1)).length (pN o.bd (o.I (k + 1)) (o.R (k + 1))) X) :
    JoinOk o.bd 2000 (jA (oA o P) k) (fA o.bd (o.I (k + 1)) (o.R (k + 1)) X) (jB (oB o P) k) (fB o.bd (o.I (k + 1)) (o.R (k + 1)) X) (jC (oC o P) k) (fC o.bd (o.I (k + 1)) (o.R (k + 1)) X) := by
  obtain ⟨a1, a2, a3⟩ := ok.jHt (by omega) pf
  obtain ⟨b1, b2, b3⟩ := ok.form hk pen
  exact ⟨ok.bd_nd, ok.bd_len, ok.srt, a1, b1.mono (by decide), a2, b2.mono (by decide), a3.sz rfl, (b3.mono (by decide)).sz rfl, by decide⟩
theorem ints_ht {n : Nat} {f : Nat → Rat} (h : ∀ i, i < n → Pb.IntD 6 36 (f i)) : Ht 6 (entV n f) := Pb.IntD.ht (D := 6) (B := 36) (by decide) (by decide) (by decide) fun q ⟨i, hi, e⟩ => by rw [← e]; exact h i hi
theorem PsOk.app0 (ok : PsOk o) : ∀ i, i < o.bd.length → Pb.IntD 6 36 (appOf o.near (o.bd.getD i default)) := fun i hi => app_ok (by rw [ok.near]; exact ok.bd_nd) ok.no (by rw [ok.near]; exact getD_mem hi)
theorem PsOk.least (ok : PsOk o) (hk : k < o.ps.length) (pf : PenF o P k) : LeastOk o.bd o.bd 2000 (jA (oA o P) k) (jB (oB o P) k) (jC (oC o P) k) (appOf o.near) := by
  obtain ⟨a1, a2, a3⟩ := ok.jHt hk pf
  exact ⟨fun n h => h, ok.bd_nd, ok.bd_len, a1, a2, a3.sz rfl, (ints_ht ok.app0).mono (by decide), by decide⟩
/-- the least border heights -/
abbrev oX (o : PsX) (P : Nat → M2) (k : Nat) (PJ : M2) : Nat → Rat := nearV o.bd.length (jA (oA o P) k) PJ (jB (oB o P) k) fun i => appOf o.near (o.bd.getD i default)
theorem PsOk.xHt (ok : PsOk o) (hk : k < o.ps.length) (pf : PenF o P k) (pj : Pb.Pen o.bd.length (jA (oA o P) k) PJ) : Ht 500000 (entV o.bd.length (oX o P k PJ)) := by
  obtain ⟨a1, a2, a3⟩ := ok.jHt hk pf
  have b3 := ok.bd_len
  have z := near_ht (n := o.bd.length) (b := 2000) (bv := 2000) (by omega) a1 a2 ((ints_ht ok.app0).mono (by decide)) pj
  have := pb3 b3 (show 2000 ≤ 3000 by decide)
  exact z.mono (by omega)
/-! ### the joined heights -/
def nmJ (o : PsX) : Nat → List Str
  | 0 => o.bd
  | p + 1 => nmJ o p ++ o.I p
def hJ (o : PsX) (x : Nat → Rat) (Y : Nat → Nat → Rat) : Nat → Str → Rat
  | 0 => hOf o.bd x
  | p + 1 => fun n => if n ∈ nmJ o p then hJ o x Y p n else hOf (o.I p) (Y p) n
variable {x y : Nat → Rat} {Y Y' : Nat → Nat → Rat} {n : Str}
theorem hJ_cg : ∀ {p : Nat}, (∀ q, q < p → Y q = Y' q) → hJ o x Y p = hJ o x Y' p
  | 0, _ => rfl
  | p + 1, h => by
    show (fun n => if n ∈ nmJ o p then hJ o x Y p n else hOf (o.I p) (Y p) n) = _
    rw [hJ_cg fun q hq => h q (by omega), h p (by omega)]
    rfl
theorem hJ_set : hJ o x (setP Y p y) (p + 1) n = if n ∈ nmJ o p then hJ o x Y p n else hOf (o.I p) y n := by
  show (if n ∈ nmJ o p then hJ o x (setP Y p y) p n else hOf (o.I p) (setP Y p y p) n) = _
  rw [hJ_cg (Y' := Y) fun q hq => setP_ne (by omega), setP_at]
theorem nmJ_mono {q : Nat} (h : n ∈ nmJ o p) : n ∈ nmJ o (p + q) := by
  induction q with
  | zero => exact h
  | succ q ih => exact List.mem_append_left _ ih
theorem hJ_keep {q : Nat} (h : n ∈ nmJ o p) : hJ o x Y (p + q) n = hJ o x Y p n := by
  induction q with
  | zero => rfl
  | succ q ih =>
    show (if n ∈ nmJ o (p + q) then hJ o x Y (p + q) n else _) = _
    rw [if_pos (nmJ_mono h), ih]
theorem nmJ_eq : ∀ {p : Nat}, p ≤ o.ps.length → nmJ o p = o.bd ++ ((o.ps.take p).map fun x => x.inn).flatten
  | 0, _ => by simp [nmJ]
  | p + 1, h => by
    rw [nmJ, nmJ_eq (by omega), takeG (by omega), List.map_append, List.flatten_append, List.append_assoc]
    simp [PsX.I, PsX.pt]
theorem nmJ_all : nmJ o o.ps.length = o.all := by
  rw [nmJ_eq (Nat.le_refl _), List.take_length]
  rfl
theorem nmJ_sub (h : p ≤ o.ps.length) : (nmJ o p).Sublist o.all := by
  rw [nmJ_eq h]
  unfold PsX.all
  refine (List.Sublist.refl _).append ?_
  conv => rhs; rw [← List.take_append_drop p o.ps, List.map_append, List.flatten_append]
  exact List.sublist_append_left _ _
theorem PsOk.nmJ_nd (ok : PsOk o) (h : p ≤ o.ps.length) : (nmJ o p).Nodup := (nmJ_sub h).nodup ok.all_nd
theorem PsOk.htOf (ok : PsOk o) (hp : p < o.ps.length) : HtOf o.bd (o.I p) (fun i => hOf o.bd x (o.bd.getD i default)) (Y p) (hJ o x Y o.ps.length) := by
  refine ⟨fun i hi => ?_, fun i hi => ?_⟩
  · have m : o.bd.getD i default ∈ nmJ o 0 := getD_mem hi
    have z := hJ_keep (x := x) (Y := Y) (q := o.ps.length) m
    rw [Nat.zero_add] at z
    exact z
  · have nd := ok.nmJ_nd (p := p + 1) (by omega)
    have nd' : (nmJ o p ++ o.I p).Nodup := nd
    have mi : (o.I p).getD i default ∈ o.I p := getD_mem hi
    have m : (o.I p).getD i default ∈ nmJ o (p + 1) := List.mem_append_right _ mi
    have z := hJ_keep (x := x) (Y := Y) (q := o.ps.length - (p + 1)) m
    rw [show p + 1 + (o.ps.length - (p + 1)) = o.ps.length by omega] at z
    rw [z]
    show (if _ ∈ nmJ o p then _ else _) = _
    rw [if_neg fun q => (List.nodup_append.mp nd').2.2 _ q _ mi rfl]
    exact hOf_at (List.nodup_append.mp nd').2.1 hi
/-! ### sizes of the heights -/
abbrev oY (o : PsX) (P' : Nat → M2) (x : Nat → Rat) (p : Nat) : Nat → Rat := pY o.bd (o.I p) (o.R p) (P' p) (fun i => hOf o.bd x (o.bd.getD i default)) fun i => appOf (o.pt p).s.near ((o.I p).getD i default)
theorem hJ_next {i : Nat} : hJ o x (oY o (setP P' i X) x) (i + 1) n = if n ∈ nmJ o i then hJ o x (oY o P' x) i n else hOf (o.I i) (pY o.bd (o.I i) (o.R i) X (fun i => hOf o.bd x (o.bd.getD i default)) fun j => appOf (o.pt i).s.near ((o.I i).getD j default)) n := by
  show (if n ∈ nmJ o i then hJ o x (oY o (setP P' i X) x) i n else hOf (o.I i) (oY o (setP P' i X) x i) n) = _
  rw [hJ_cg (Y' := oY o P' x) fun q hq => by show pY _ _ _ (setP P' i X q) _ _ = _; rw [setP_ne (by omega)]]
  show (if n ∈ nmJ o i then _ else hOf (o.I i) (pY _ _ _ (setP P' i X i) _ _) n) = _
  rw [setP_at]
theorem PsOk.stI (ok : PsOk o) (hp : p < o.ps.length) : Ht 6 (entV (o.I p).length fun i => appOf (o.pt p).s.near ((o.I p).getD i default)) := ints_ht fun i hi => ok.app hp (List.mem_append_right _ (getD_mem hi))
theorem PsOk.xHt' (ok : PsOk o) {B : Nat} (h : Ht B (entV o.bd.length x)) : Ht B (entV o.bd.length fun i => hOf o.bd x (o.bd.getD i default)) := h.sub fun q ⟨i, hi, e⟩ => ⟨i, hi, by rw [← e]; exact (hOf_at ok.bd_nd hi).symm⟩
theorem PsOk.inner (ok : PsOk o) (hp : p < o.ps.length) (h : Ht 500000 (entV o.bd.length x)) : InnOk (o.bd ++ o.I p) o.bd (o.I p) (o.R p) (appOf (o.pt p).s.near) (hOf o.bd x) 500000 := ⟨ok.part hp, ok.xHt' h, ok.stI hp, Nat.le_refl _⟩
theorem PsOk.yHt (ok : PsOk o) (hp : p < o.ps.length) (h : Ht 500000 (entV o.bd.length x)) (pen : Pb.Pen (o.I p).length (pN o.bd (o.I p) (o.R p)) (P' p)) : Ht 1501000 (entV (o.I p).length (oY o P' x p)) := by
  have rw0 := ok.rows hp (o.bd.length + (o.I p).length)
  have b3 := ok.bd_len
  have i2 := ok.inn_len hp
  have w : Ht 500030 (entV (o.I p).length (pW o.bd (o.I p) (o.R p) fun i => hOf o.bd x (o.bd.getD i default))) :=
    ((rw0.inn.gR).minus (Ht.mv (h := (o.I p).length) (w := o.bd.length) (by omega) rw0.acr.tr (ok.xHt' h)) fun q ⟨i, hi, e⟩ => ⟨_, _, ⟨i, hi, rfl⟩, ⟨i, hi, rfl⟩, e⟩).mono (by omega)
  have z := near_ht (n := (o.I p).length) (b := 11) (bv := 500030) (by omega) rw0.inn.gN w ((ok.stI hp).mono (by decide)) pen
  have := Pb.pb2 i2
  exact z.mono (by omega)
theorem PsOk.hHt (ok : PsOk o) (h : Ht 500000 (entV o.bd.length x)) (pens : ∀ p, p < o.ps.length → Pb.Pen (o.I p).length (pN o.bd (o.I p) (o.R p)) (P' p)) : ∀ p, p ≤ o.ps.length → Ht (500000 + 1501000 * p) (fun q => ∃ n, n ∈ nmJ o p ∧ hJ o x (oY o P' x) p n = q)
  | 0, _ => (h.sub fun q ⟨n, hn, e⟩ => by
      obtain ⟨i, hi, rfl⟩ := List.getElem_of_mem (show n ∈ o.bd from hn)
      refine ⟨i, hi, ?_⟩
      rw [← e]
      have z := hOf_at (f := x) ok.bd_nd hi
      rw [List.getD_eq_getElem?_getD, List.getElem?_eq_getElem hi] at z
      exact z.symm).mono (by omega)
  | p + 1, hp => ((PsOk.hHt ok h pens p (by omega)).both (ok.yHt (P' := P') (by omega) h (pens p (by omega))) fun q ⟨n, hn, e⟩ => by
      by_cases m : n ∈ nmJ o p
      · refine .inl ⟨n, m, ?_⟩
        rw [← e]
        show _ = if n ∈ nmJ o p then _ else _
        rw [if_pos m]
      · have mi : n ∈ o.I p := (List.mem_append.mp (show n ∈ nmJ o p ++ o.I p from hn)).resolve_left m
        obtain ⟨i, hi, rfl⟩ := List.getElem_of_mem mi
        refine .inr ⟨i, hi, ?_⟩
        rw [← e]
        show _ = if (o.I p)[i] ∈ nmJ o p then _ else _
        rw [if_neg m]
        have nd := ok.nmJ_nd (p := p + 1) (by omega)
        have nd' : (nmJ o p ++ o.I p).Nodup := nd
        have z := hOf_at (f := oY o P' x p) (List.nodup_append.mp nd').2.1 hi
        rw [List.getD_eq_getElem?_getD, List.getElem?_eq_getElem hi] at z
        exact z.symm).mono (by omega)
theorem PsOk.sqsOk (ok : PsOk o) (h : Ht 500000 (entV o.bd.length x)) (pens : ∀ p, p < o.ps.length → Pb.Pen (o.I p).length (pN o.bd (o.I p) (o.R p)) (P' p)) : SqsOk o.rds (hJ o x (oY o P' x) o.ps.length) := by
  have np := ok.np
  refine sqsOk_of (b := 500000 + 1501000 * o.ps.length) (by omega) ((ok.hHt h pens _ (Nat.le_refl _)).sub fun q ⟨n, ⟨r, hr, hn⟩, e⟩ => ⟨n, ?_, e⟩) (fun r h => (ok.wrd h).1) (fun r h => (ok.wrd h).2) (Nat.lt_of_le_of_lt ok.rds_len (by decide))
  rw [nmJ_all]
  exact (ok.wrdIn hr).sub n hn
/-! ### the law -/
theorem PsOk.plain (ok : PsOk o) {m : Nat} (em : o.ps.length = m + 1) (pf : PenF o P m) (pj : Pb.Pen o.bd.length (jA (oA o P) m) PJ) (pens : ∀ p, p < o.ps.length → Pb.Pen (o.I p).length (pN o.bd (o.I p) (o.R p)) (P' p)) :
    (∀ g, dsL o.rds (hJ o (oX o P m PJ) (oY o P' (oX o P m PJ)) o.ps.length) g = 0) ∧ formAt o.bd.length (jA (oA o P) m) (jB (oB o P) m) (jC (oC o P) m) (oX o P m PJ) = qsL o.rds (hJ o (oX o P m PJ) (oY o P' (oX o P m PJ)) o.ps.length) := by
  have pa : Parts o.bd m o.I o.R P P' := ⟨fun p hp => ok.prd (by omega), fun p hp => pf p hp, fun p hp => pens p (by omega)⟩
  have ex : ∀ i, i < o.bd.length → hOf o.bd (oX o P m PJ) (o.bd.getD i default) = oX o P m PJ i := fun i hi => hOf_at ok.bd_nd hi
  have z := join_least pa (x := fun i => hOf o.bd (oX o P m PJ) (o.bd.getD i default)) (st := fun i => appOf o.near (o.bd.getD i default)) (sti := fun p i => appOf (o.pt p).s.near ((o.I p).getD i default)) (h := hJ o (oX o P m PJ) (oY o P' (oX o P m PJ)) o.ps.length) pj ex fun p hp => ok.htOf (p := p) (x := oX o P m PJ) (Y := oY o P' (oX o P m PJ)) (show p < o.ps.length by omega)
  rw [ok.rds_jR, em]
  rw [em] at z
  rw [Nat.add_sub_cancel]
  exact ⟨z.1, (formAt_cg ex).symm.trans z.2⟩
end
end Pd

/-! The law's own body. -/
namespace Pd
open PySem PySem.Spec PyProof.Rows L2 Evl Pt Pn
open Pb (Ht Sz entV entM)
open LamX (Tabs ExtN TabB)
section
variable {K : PySem.W.Frag} {σ : L2.St} {H : Hp} {Ts : TEnv K} {te ta tb : TE} {t : TA} {D : Ends} {tz tu tw : TS}
theorem callH {s : Sph K} {Q : VK} (x : s.ι) (hx : ∀ H1, Ex H H1 → s.side x H1) (ha : EvPA t σ H (s.args x)) (k : ∀ H1 v H2, Ex H H1 → Ex H1 H2 → s.post x H1 v H2 → Q v H2) : tCall s.sp [] E0 t σ H Q :=
  ha H (Ex.refl _) _ fun vs H1 e1 zs => by
    refine ⟨x, hx H1 e1, ?_, fun v H2 f z => k H1 v H2 e1 f z⟩
    rw [List.append_nil]
    exact zs
theorem methH {C : Addr} {m : Str} {s : Sph K} {Ts : List (Ty K)} {p dx : Addr} {fs : List (Str × V)} {Q : VK} (x : s.ι) (hp : H p = some (.ins C dx fs)) (hx : ∀ H1, Ex H H1 → s.side x H1) (hs : s.args x = tyE (.ref p) :: Ts) (hm : fs.lookup m = none) (ho : EvP (K := K) ta σ H (tyE (.ref p))) (ha : EvPA t σ H Ts)
    (k : ∀ H1 v H2, Ex H H1 → Ex H1 H2 → s.post x H1 v H2 → Q v H2) : tMeth C m s.sp [] E0 ta t σ H Q :=
  ho H (Ex.refl _) _ fun v H2 e2 z => by
    cases z
    exact ⟨p, dx, fs, rfl, e2 _ _ hp, hm, ha H2 e2 _ fun vs H3 e4 zs => by
      refine ⟨x, hx H3 (e2.trans e4), ?_, fun v H4 e5 r => k H3 v H4 (e2.trans e4) e5 r⟩
      rw [List.append_nil, hs]
      exact .cons rfl zs⟩
theorem do_cb {r : List V → Hp → VK → Prop} {Q : VK} (h : t σ H fun vs H1 => r vs H1 Q) : tCB r t σ H Q := h
theorem do_next (h : D.nx σ H) : tNext D σ H := h
theorem do_B {Q : Bool → Hp → Prop} (h : te σ H fun x H1 => ∃ c, x = .bl c ∧ Q c H1) : tB te σ H Q := h
theorem et_neI {i j : Nat} (ha : EvP (K := K) ta σ H (tyE (.int (i : Int)))) (hb : EvP (K := K) tb σ H (tyE (.int (j : Int)))) (h : i = j) : EvT (tTest (tOp rNe ta tb)) σ H false := by
  have z := ev_flat (K := K) (Evl.ev_op (flat_ev ha) (flat_ev hb) (rv_ne rfl))
  rw [h, decide_eq_true rfl] at z
  exact et_of z
theorem ev_ixLs {α : Type} [Inhabited α] {T : α → Ty K} {l : List α} {p : Addr} {xs : List V} {i : Nat} (hp : H p = some (.lst xs)) (it : LsT T l xs H) (ha : EvP (K := K) ta σ H (tyE (.ref p))) (hb : EvP (K := K) tb σ H (tyE (.int (i : Nat)))) (hi : i < l.length) : EvP (K := K) (tOp (rIxL K) ta tb) σ H (T (l.getD i default)) :=
  ev_ixL (T := fun i => T (l.getD i default)) hp it.its ha hb (by rw [it.ln]; exact hi)
theorem do_asgT {g : TG} (h : te σ H fun v H1 => g v σ H1 fun σ' H' => tz D σ' H') : tSeq (tAsg te g) tz D σ H := h
theorem do_asg1 {i : Nat} (h : te σ H fun v H1 => D.nx (σ.set i (some v)) H1) : tAsg te (gName i) D σ H := h
theorem do_if {c : L2.TT} (h : c σ H fun b H1 => if b = true then tu { D with nx := tz D } σ H1 else tw { D with nx := tz D } σ H1) : tSeq (tIfS c tu tw) tz D σ H := h
theorem do_testEq {Q : Bool → Hp → Prop} {rr : R2} (h : ta σ H fun x H1 => tb σ H1 fun y H2 => rr x y H2 fun z H3 => ∃ k, z = .bl k ∧ Q k H3) : tTest (tOp rr ta tb) σ H Q := h
theorem exN_of {H1 H2 : Hp} (a : Ex H H1) (b : ExtN H1 H2) : ExtN H H2 := (extN_ex a).trans b
end
section
variable {P : Program} {w : World} {K : PySem.W.Frag} {mg : Str → Option Value} {base : Heap}
def spLaw (K : PySem.W.Frag) : Sp := fun vs H Q _ => ∃ (a : Addr) (ns : List Int), vs = [.ref a] ∧ Tabs (TT K) H ∧ SqL K H a (ns.map V.int) ∧ ns.length ≤ 63 ∧ ∀ H', Q (.bl true) H'
theorem sc_f_law : FnScope ["_law_script", "_law_state", "_law_border", "_law_near", "_law_surveys", "_law_whole", "_law_books", "_law_survey_here", "_law_form", "_law_book_here", "_law_passed", "_law_told", "_law_heights_here", "_law_net", "_law_name"] ["_law_script"] (defScope sf_law) := ⟨rfl, rfl, rfl, by decide +kernel, rfl, by decide +kernel, by decide +kernel⟩
theorem ok_law (c : Cxt P K mg base) : Ok P w K mg base df_law 44 ["_law_script"] (spLaw K) := by
  have nd := (sc_f_law).nd
  refine (c.Ff_law).ok sc_f_law (fun vs H Q E h => ?_) (fun cdv A outer s0 H vs Q E hr h => ⟨_, PSs.nox ((pss_cons (ps_set (i := 1) nd rfl (by first | exact Or.inl rfl | exact Or.inr rfl) (pe_lst (pa_cons (pe_call (ok_law_tape c) (by exact hr.mono (by decide)) rfl c.g_law_tape c.Ff_law_tape.kp c.bf_law_tape .nil pass0 (pa_cons (pv 0) pa_nil)) (pa_cons pe_int pa_nil))))
      (pss_cons (ps_asg (pe_call (ok_law_parts c) (by exact hr.mono (by decide)) rfl c.g_law_parts c.Ff_law_parts.kp c.bf_law_parts .nil pass0 (pa_cons (pv 1) pa_nil)) (pg_tupK K rfl (pgs_cons (pg_name (i := 2) nd rfl (by first | exact Or.inl rfl | exact Or.inr rfl)) (pgs_cons (pg_name (i := 3) nd rfl (by first | exact Or.inl rfl | exact Or.inr rfl)) (pgs_cons (pg_name (i := 4) nd rfl (by first | exact Or.inl rfl | exact Or.inr rfl)) (pgs_cons (pg_name (i := 5) nd rfl (by first | exact Or.inl rfl | exact Or.inr rfl)) pgs_nil))))))
      (pss_cons (ps_setLc (i := 6) (own := [("_law_survey_here", 7)]) (g := gName 7) (tt := tYes) rfl nd rfl rfl (sw_true rfl rfl rfl (by decide +kernel)) (pi_listK K (pv 4)) (blkOk_by rfl) (fun _ _ _ _ _ => (pg_name (i := 7) nd rfl (by first | exact Or.inl rfl | exact Or.inr rfl))) (fun _ _ _ _ _ => pts_nil) (fun _ _ _ _ _ => (pe_call (ok_law_book c) (by exact hr.mono (by decide)) rfl c.g_law_book c.Ff_law_book.kp c.bf_law_book .nil pass0 (pa_cons (pv 7) pa_nil))))
      (pss_cons (ps_set (i := 8) nd rfl (by first | exact Or.inl rfl | exact Or.inr rfl) (pe_call (ok_border_form c) (by exact hr.mono (by decide)) rfl c.g_border_form c.Ff_border_form.kp c.bf_border_form .nil pass0 (pa_cons (pe_ix (ix_listK K) (pv 6) pe_int (fun _ _ => rfl)) (pa_cons (pv 2) pa_nil))))
      (pss_cons (ps_for PassesOwn.never rfl (pi_listK K (pe_slice (sl_listK K) (pv 6) (po_some pe_int) po_none)) (pg_name (i := 9) nd rfl (by first | exact Or.inl rfl | exact Or.inr rfl)) (pss_one (ps_set (i := 8) nd rfl (by first | exact Or.inl rfl | exact Or.inr rfl) (pe_call (ok_join c) (by exact hr.mono (by decide)) rfl c.g_join c.Ff_join.kp c.bf_join .nil pass0 (pa_cons (pv 8) (pa_cons (pe_call (ok_border_form c) (by exact hr.mono (by decide)) rfl c.g_border_form c.Ff_border_form.kp c.bf_border_form .nil pass0 (pa_cons (pv 9) (pa_cons (pv 2) pa_nil))) pa_nil))))))
      (pss_cons (ps_set (i := 10) nd rfl (by first | exact Or.inl rfl | exact Or.inr rfl) (pe_call (ok_law_heights c) (by exact hr.mono (by decide)) rfl c.g_law_heights c.Ff_law_heights.kp c.bf_law_heights .nil pass0 (pa_cons (pe_callTy (call_dictP rfl) (by rfl) c.z_dict (by decide +kernel) (pa_cons (pv 3) pa_nil)) pa_nil)))
      (pss_cons (ps_set (i := 11) nd rfl (by first | exact Or.inl rfl | exact Or.inr rfl) (pe_call (ok_least_of c) (by exact hr.mono (by decide)) rfl c.g_least_of c.Ff_least_of.kp c.bf_least_of .nil pass0 (pa_cons (pv 8) (pa_cons (pv 10) pa_nil))))
      (pss_cons (ps_if (pt_cmpR (op_dNe c (by exact hr.mono (by decide))) (pv 10) (pe_call (ok_law_heights c) (by exact hr.mono (by decide)) rfl c.g_law_heights c.Ff_law_heights.kp c.bf_law_heights .nil pass0 (pa_cons (pe_callTy (call_dictP rfl) (by rfl) c.z_dict (by decide +kernel) (pa_cons (pv 3) pa_nil)) pa_nil)) (nomark _)) (pss_one (ps_ret pe_bl)) pss_nil)
      (pss_cons (ps_set (i := 12) nd rfl (by first | exact Or.inl rfl | exact Or.inr rfl) (pe_callTy call_dictD (by rfl) c.z_dict (by decide +kernel) (pa_cons (pe_ix (ix_tupK K) (pv 11) pe_int (fun _ _ => rfl)) pa_nil)))
      (pss_cons (ps_for PassesOwn.never rfl (pi_listK K (pv 6)) (pg_name (i := 9) nd rfl (by first | exact Or.inl rfl | exact Or.inr rfl)) (pss_cons (ps_set (i := 12) nd rfl (by first | exact Or.inl rfl | exact Or.inr rfl) (pe_call (ok_law_joined c) (by exact hr.mono (by decide)) rfl c.g_law_joined c.Ff_law_joined.kp c.bf_law_joined .nil pass0 (pa_cons (pv 12) (pa_cons (pe_call (ok_inner_heights c) (by exact hr.mono (by decide)) rfl c.g_inner_heights c.Ff_inner_heights.kp c.bf_inner_heights .nil pass0 (pa_cons (pv 9) (pa_cons (pe_ix (ix_tupK K) (pv 11) pe_int (fun _ _ => rfl)) pa_nil))) pa_nil))))
      (pss_one (ps_if (pt_cmpR op_ne (pe_callB call_lenD (by rfl) c.z_len PySem.boot_len (pa_cons (pe_ix (ix_tupK K) (pv 11) pe_int (fun _ _ => rfl)) pa_nil)) (pe_callB (call_lenK K) (by rfl) c.z_len PySem.boot_len (pa_cons (pv 2) pa_nil)) (nomark _)) (pss_one (ps_ret pe_bl)) pss_nil))))
      (pss_cons (ps_set (i := 13) nd rfl (by first | exact Or.inl rfl | exact Or.inr rfl) (pe_call (ok_net_of c) (by exact hr.mono (by decide)) rfl c.g_net_of c.Ff_net_of.kp c.bf_net_of .nil pass0 (pa_cons (pe_call (ok_law_book c) (by exact hr.mono (by decide)) rfl c.g_law_book c.Ff_law_book.kp c.bf_law_book .nil pass0 (pa_cons (pv 5) pa_nil)) pa_nil)))
      (pss_cons (ps_if (PW.pt (pw_or (pt_cmpR (op_rNe c (by exact hr.mono (by decide))) (pe_meth0 (pv 13) c.c_Net c.m_Net_squares (ok_Net_squares c) (by exact hr.mono (by decide)) c.bm_Net_squares .nil pass0) (pe_ix (ix_tupK K) (pv 11) pe_int (fun _ _ => rfl)) (nomark _)) (pw_or1 (pt_cmpR op_ne (pe_callB call_lenD (by rfl) c.z_len PySem.boot_len (pa_cons (pv 12) pa_nil)) (pe_callB (call_lenK K) (by rfl) c.z_len PySem.boot_len (pa_cons (pe_ix (ix_tupK K) (pv 5) pe_int (fun _ _ => rfl)) pa_nil)) (nomark _))))) (pss_one (ps_ret pe_bl)) pss_nil)
      (pss_cons (ps_if (pt_not (pt_val (pe_call (ok_law_is c) (by exact hr.mono (by decide)) rfl c.g_law_is c.Ff_law_is.kp c.bf_law_is .nil pass0 (pa_cons (pe_ix (ix_tupK K) (pv 11) pe_int (fun _ _ => rfl)) (pa_cons (pe_call (ok_law_squares c) (by exact hr.mono (by decide)) rfl c.g_law_squares c.Ff_law_squares.kp c.bf_law_squares .nil pass0 (pa_cons (pv 5) (pa_cons (pe_call (ok_law_pairs c) (by exact hr.mono (by decide)) rfl c.g_law_pairs c.Ff_law_pairs.kp c.bf_law_pairs .nil pass0 (pa_cons (pv 12) pa_nil)) pa_nil))) pa_nil))))) (pss_one (ps_ret pe_bl)) pss_nil)
      (pss_cons (ps_if (pt_cmpR op_eq (pe_callB (call_lenK K) (by rfl) c.z_len PySem.boot_len (pa_cons (pe_meth0 (pv 13) c.c_Net c.m_Net_movements (ok_Net_movements c) (by exact hr.mono (by decide)) c.bm_Net_movements .nil pass0) pa_nil)) pe_int (nomark _)) (pss_one (ps_ret (pe_cmpR (op_tEq c (by exact hr.mono (by decide))) (pe_meth0 (pv 13) c.c_Net c.m_Net_heights (ok_Net_heights c) (by exact hr.mono (by decide)) c.bm_Net_heights .nil pass0) (pe_callTy (call_tupleK K) (by rfl) c.z_tuple (by decide +kernel) (pa_cons (pe_lc (own := [("_law_name", 14)]) (g := gName 14) (tt := tYes) rfl nd (pi_listK K (pe_fldK K (pv 13) rfl)) (blkOk_by rfl) (fun _ _ _ _ _ => (pg_name (i := 14) nd rfl (by first | exact Or.inl rfl | exact Or.inr rfl))) (fun _ _ _ _ _ => pts_nil) (fun _ _ _ _ _ => (pe_dget (hu_of hr) (pv 12) (pv 14) (fun _ _ => rfl)))) pa_nil)) (nomark _)))) pss_nil)
      (pss_one (ps_ret pe_bl))))))))))))))))), ?_⟩)
  · obtain ⟨a, ns, rfl, _⟩ := h
    rfl
  · obtain ⟨a, ns, rfl, hT, hq, hl, kk⟩ := h
    have hs : Sat (K := K) [some (tyE (.ref a)), none, none, none, none, none, none, none, none, none, none, none, none, none, none] (L2.start ["_law_script", "_law_state", "_law_border", "_law_near", "_law_surveys", "_law_whole", "_law_books", "_law_survey_here", "_law_form", "_law_book_here", "_law_passed", "_law_told", "_law_heights_here", "_law_net", "_law_name"] [V.ref a]) H := sat_start (K := K) (Ts := [tyE (.ref a)]) (vs := [V.ref a]) (H := H) (N := ["_law_script", "_law_state", "_law_border", "_law_near", "_law_surveys", "_law_whole", "_law_books", "_law_survey_here", "_law_form", "_law_book_here", "_law_passed", "_law_told", "_law_heights_here", "_law_net", "_law_name"]) (.cons rfl .nil)
    generalize L2.start ["_law_script", "_law_state", "_law_border", "_law_near", "_law_surveys", "_law_whole", "_law_books", "_law_survey_here", "_law_form", "_law_book_here", "_law_passed", "_law_told", "_law_heights_here", "_law_net", "_law_name"] [V.ref a] = σ at hs
    -- the state
    refine do_asg (do_lst (do_cons ?_))
    refine callH (s := sTape K) (a, ns) (fun H1 e => ⟨Evl.ex_l e hq, by show ns.length < 1000; omega⟩) (ea_cons (ev_var (i := 0) hs rfl) ea_nil) fun H1 v H2 e1 e2 ⟨lt, tp, ev, hlt, tape⟩ => ?_
    subst ev
    refine do_cons (do_c (do_nil ⟨two_le' _ _, fun st hst => ?_⟩))
    have hst0 : H st = none := Evl.fresh_back (e1.trans e2) hst
    have x3 := Ex.new (o := .lst [V.ref lt, V.int 0]) hst
    have ne : st ≠ lt := fun z => by
      have := tape.at_
      rw [← z, hst] at this
      cases this
    have d3 : Dr st lt tp 0 (L2.upd H2 st (.lst [V.ref lt, V.int 0])) := ⟨upd_same, tape.ex x3⟩
    have s3 := (hs.ex ((e1.trans e2).trans x3)).set (i := 1) (T := tyE (.ref st)) rfl
    have f3 : Fr [st] H (L2.upd H2 st (.lst [V.ref lt, V.int 0])) := Fr.of ((e1.trans e2).trans x3)
    generalize L2.upd H2 st (.lst [V.ref lt, V.int 0]) = H3 at *
    -- the parts
    refine do_asgT ?_
    refine callW (s := sParts K) (st, lt, tp, 0) (fun H4 e => ⟨d3.ex e, by show 0 < 10; decide, ne⟩) (ea_cons (ev_var (i := 1) s3 rfl) ea_nil) fun H4 v H5 e4 f5 ⟨o, ok, pat, z5⟩ => ?_
    have f35 : Fr [st] H3 H5 := (Fr.of e4).trans f5
    have e05 : Ex H H5 := exFr (Ex.refl _) (fun a m => by rw [List.mem_singleton.mp m]; exact hst0) (f3.trans f35)
    have s5' := s3.st (d3.ge f35)
    refine g_quad z5 fun v1 v2 v3 v4 z1 z2 z3 z4 => ?_
    have s5 := (((s5'.set (i := 2) z1).set (i := 3) z2).set (i := 4) z3).set (i := 5) z4
    clear s5' z1 z2 z3 z4 z5
    have T5 := hT.ext e05
    have np := ok.np
    -- the books
    obtain ⟨lsx, lsa, lsi⟩ := pat.ls
    refine q_books (j := 7) (r := 6) s5 (by simp) (ev_var (i := 4) s5 rfl) lsa lsi (fun x hx => ⟨pat.sv x hx, ?_⟩) (by omega) fun q ys σ6 H6 As hq0 e6 at6 it6 ln6 bk6 s6 => ?_
    · obtain ⟨p, hp, e⟩ := List.getElem_of_mem hx
      have := ok.book hp
      unfold PsX.pt at this
      rw [List.getD_eq_getElem?_getD, List.getElem?_eq_getElem hp, Option.getD_some, e] at this
      exact this
    have bkP : ∀ p, p < o.ps.length → Bk K (As.getD p default) (o.bd ++ o.I p) (appOf (o.pt p).s.near) (o.R p) H6 := fun p hp => by
      have := bk6 p hp
      rw [← ok.near_names hp]
      exact this
    have T6 := T5.ext e6
    have lb6 := e6 _ _ pat.bd
    have s6 : Sat (K := K) [some (tyE (.ref a)), some (tyE (.ref st)), some (tyE (.ref o.lb)), some (tyE (.ref o.ln)), some (tyE (.ref o.ls)), some (tyTup [tyE (.ref o.wn), tyE (.ref o.wr)]), some (tyE (.ref q)), none, none, none, none, none, none, none, none] σ6 H6 := s6
    -- the first part's form
    refine do_asg ?_
    refine callN (s := sBorder K) ((As.getD 0 default, o.bd ++ o.I 0, appOf (o.pt 0).s.near, o.R 0), o.lb, o.bd, o.I 0) (fun H7 e => ⟨(bkP 0 (by omega)).ex e, e _ _ lb6, ok.part (by omega)⟩) T6
      (ea_cons (ev_ixLs (i := 0) at6 it6 (ev_var (i := 6) s6 rfl) ev_c (by omega)) (ea_cons (ev_var (i := 2) s6 rfl) ea_nil)) fun H7 v8 H8 e7 n8 T8 ⟨P0, pen0, tf0⟩ => ?_
    have n68 : ExtN H6 H8 := exN_of e7 n8
    have s8 := (Sat.exN s6 n68).set (i := 8) tf0
    have pen0 : Pb.Pen (o.I 0).length (pN o.bd (o.I 0) (o.R 0)) P0 := pen0
    have em : o.ps.length = (o.ps.length - 1) + 1 := by omega
    -- the other parts' forms joined
    refine q_for (ei_ls (ls_drop (k := 1) (n68 _ _ at6 fun ps z => by cases z) (it6.st (ge_extN n68)) (ev_var (i := 6) s8 rfl) ev_c)) (fun H9 i σ' H' => ExtN H9 H' ∧ Tabs (TT K) H' ∧ ∃ P : Nat → M2, PenF o P i ∧
        Sat (K := K) [some (tyE (.ref a)), some (tyE (.ref st)), some (tyE (.ref o.lb)), some (tyE (.ref o.ln)), some (tyE (.ref o.ls)), some (tyTup [tyE (.ref o.wn), tyE (.ref o.wr)]), some (tyE (.ref q)), none, some (tyForm K o.bd (jA (oA o P) i) (jB (oB o P) i) (jC (oC o P) i)), none, none, none, none, none, none] σ' H')
      (fun H9 e9 => ⟨ExtN.refl _, T8.ext e9, fun _ => P0, fun p hp => by
        have e0 : p = 0 := Nat.le_zero.mp hp
        subst e0
        exact pen0, s8.ex e9⟩) (fun H9 e9 i σ' H' _ p => p.1)
      (fun H9 e9 i x σ' H' H'' hi p e10 y => ?_) (fun H9 e9 σ' H' p => ?_)
    · obtain ⟨p1, p2, P, pf, sp⟩ := p
      rw [List.length_drop, ln6] at hi
      have y : (tyE (K := K) (.ref ((As.drop 1).getD i default).b)).p x H'' := y
      have eg : (As.drop 1).getD i default = As.getD (i + 1) default := by
        rw [List.getD_eq_getElem?_getD, List.getElem?_drop, show 1 + i = i + 1 from Nat.add_comm 1 i, ← List.getD_eq_getElem?_getD]
      rw [eg] at y
      have s11 := (sp.ex e10).set (i := 9) y
      have n6 : ExtN H6 H'' := (n68.trans (exN_of e9 p1)).trans (extN_ex e10)
      refine do_asg1 (do_call (do_cons ?_))
      refine ev_var (i := 8) s11 rfl _ (Ex.refl _) _ fun v11 H11 e11 z11 => do_cons ?_
      have s12 := s11.ex e11
      have n6' := n6.trans (extN_ex e11)
      refine callN (s := sBorder K) ((As.getD (i + 1) default, o.bd ++ o.I (i + 1), appOf (o.pt (i + 1)).s.near, o.R (i + 1)), o.lb, o.bd, o.I (i + 1)) (fun H7 e => ⟨((bkP (i + 1) (by omega)).exN n6').ex e, e _ _ (n6' _ _ lb6 fun ps z => by cases z), ok.part (by omega)⟩) ((p2.ext e10).ext e11)
        (ea_cons (ev_var (i := 9) s12 rfl) (ea_cons (ev_var (i := 2) s12 rfl) ea_nil)) fun H12 v13 H13 e12 n13 T13 ⟨X, penX, tfX⟩ => do_nil ?_
      have penX : Pb.Pen (o.I (i + 1)).length (pN o.bd (o.I (i + 1)) (o.R (i + 1))) X := penX
      have n1113 : ExtN H11 H13 := exN_of e12 n13
      have z13 := Ty.st _ _ _ _ (ge_extN n1113) z11
      refine ⟨(o.bd, 2000, (jA (oA o P) i, jB (oB o P) i, jC (oC o P) i), (fA o.bd (o.I (i + 1)) (o.R (i + 1)) X, fB o.bd (o.I (i + 1)) (o.R (i + 1)) X, fC o.bd (o.I (i + 1)) (o.R (i + 1)) X)), ok.join (by omega) pf penX, T13, .cons z13 (.cons tfX .nil), fun v14 H14 n14 T14 z14 => ?_⟩
      have z14 : (tyForm K o.bd (fun i' j => jA (oA o P) i i' j + fA o.bd (o.I (i + 1)) (o.R (i + 1)) X i' j) (fun i' => jB (oB o P) i i' + fB o.bd (o.I (i + 1)) (o.R (i + 1)) X i') (jC (oC o P) i + fC o.bd (o.I (i + 1)) (o.R (i + 1)) X)).p v14 H14 := z14
      rw [← oA_set, ← oB_set, ← oC_set] at z14
      exact ⟨p1.trans ((exN_of (e10.trans e11) n1113).trans n14), T14, setP P (i + 1) X, pf.set penX, ((Sat.exN s12 (n1113.trans n14)).set (i := 8) z14).forget (i := 9)⟩
    obtain ⟨p1, T10, P, pf, s10⟩ := p
    rw [List.length_drop, ln6] at pf s10
    have n6 : ExtN H6 H' := n68.trans (exN_of e9 p1)
    clear p1
    -- what is passed
    obtain ⟨nxs, nat, nit⟩ := pat.near
    have nat10 := n6 _ _ (e6 _ _ nat) fun ps z => by cases z
    have nit10 := (nit.ex e6).st (ge_extN n6)
    have ndn : (o.near.map fun a => a.1).Nodup := by rw [ok.near]; exact ok.bd_nd
    have bl : o.bd.length ≤ 100 := by have := ok.bd_len; omega
    have mkH : ∀ {σ' : L2.St} {G1 : Hp}, Ex H' G1 → EvP (K := K) (tVar 3) σ' G1 (tyE (.ref o.ln)) → ∀ G2, Ex G1 G2 → ∀ Q' : VK, (∀ v G3, Ex G2 G3 → (∃ d2 kv2, G2 d2 = none ∧ v = .ref d2 ∧ Dct K d2 o.bd (fun n => tyRat (appOf o.near n)) kv2 G3) → Q' v G3) →
        tCall (sHtsL K).sp [] E0 (tCons (tCB (rDictP K) (tCons (tVar 3) tNil)) tNil) σ' G2 Q' := fun {σ' G1} x1 ev G2 x2 Q' hQ => by
      refine do_call (do_cons ?_)
      refine do_dictP ndn ((x1.trans x2) _ _ nat10) (nit10.ex (x1.trans x2)) (ev.mono x2) G2 (Ex.refl _) _ fun d kv G3 hd x3 dc => do_nil ?_
      rw [ok.near] at dc
      refine ⟨(d, o.bd, appOf o.near, kv), ⟨dc, ok.bd_nd, bl⟩, .cons rfl .nil, fun v G4 x4 ⟨d2, kv2, h2, ev2, dc2⟩ => ?_⟩
      exact hQ v G4 (x3.trans x4) ⟨d2, kv2, Evl.fresh_back x3 h2, ev2, dc2⟩
    refine do_asg ?_
    refine mkH (Ex.refl _) (ev_var (i := 3) s10 rfl) H' (Ex.refl _) _ fun v11 H11 e11 ⟨dp, kvp, _, ev11, dcp⟩ => ?_
    subst ev11
    have s11 := (s10.ex e11).set (i := 10) (T := tyE (.ref dp)) rfl
    -- the least heights
    have em1 : o.ps.length - 1 < o.ps.length := by omega
    refine do_asg ?_
    refine callH (s := sLeast K) ((o.bd, jA (oA o P) (o.ps.length - 1), jB (oB o P) (o.ps.length - 1), jC (oC o P) (o.ps.length - 1)), dp, o.bd, appOf o.near, kvp, 2000) (fun H12 e => ⟨dcp.ex e, ok.least em1 pf⟩) (ea_cons (ev_var (i := 8) s11 rfl) (ea_cons (ev_var (i := 10) s11 rfl) ea_nil)) fun H12 v12 H13 e12 e13 ⟨tt, dh, vq, kvh, PJ, ev12, at12, penJ, dch, tq⟩ => ?_
    subst ev12
    have penJ : Pb.Pen o.bd.length (jA (oA o P) (o.ps.length - 1)) PJ := penJ
    have dch : Dct K dh o.bd (fun n => tyRat (hOf o.bd (oX o P (o.ps.length - 1) PJ) n)) kvh H13 := dch
    have tq : (tyRat (K := K) (formAt o.bd.length (jA (oA o P) (o.ps.length - 1)) (jB (oB o P) (o.ps.length - 1)) (jC (oC o P) (o.ps.length - 1)) (oX o P (o.ps.length - 1) PJ))).p vq H13 := tq
    have xht := ok.xHt em1 pf penJ
    have plain : ∀ {P' : Nat → M2}, (∀ p, p < o.ps.length → Pb.Pen (o.I p).length (pN o.bd (o.I p) (o.R p)) (P' p)) → _ := fun {P'} pens => ok.plain (P' := P') em pf penJ pens
    generalize oX o P (o.ps.length - 1) PJ = x at *
    generalize formAt o.bd.length (jA (oA o P) (o.ps.length - 1)) (jB (oB o P) (o.ps.length - 1)) (jC (oC o P) (o.ps.length - 1)) x = val at *
    have s13 := (s11.ex (e12.trans e13)).set (i := 11) (T := tyTup [tyE (.ref dh), tyRat val]) (v := .ref tt) ⟨tt, _, rfl, at12, .cons rfl (.cons tq .nil)⟩
    have eU : Ex H' H13 := e11.trans (e12.trans e13)
    have dcp13 := dcp.ex (e12.trans e13)
    -- what was passed is unchanged
    refine Pt.q_if (b := false) (et_of (ev_dNe ok.bd_nd dcp13 (ev_var (i := 10) s13 rfl) (mkH eU (ev_var (i := 3) s13 rfl)))) (fun z => by cases z) fun _ H14 e14 => ?_
    have s14 := s13.ex e14
    have dch14 := dch.ex e14
    have evD : ∀ {σ' : L2.St} {G : Hp}, EvP (K := K) (tVar 11) σ' G (tyTup [tyE (.ref dh), tyRat val]) → EvP (K := K) (tOp (rIxT K) (tVar 11) (tC (.int 0))) σ' G (tyE (.ref dh)) := fun e => ev_nth (i := 0) e rfl
    have evV : ∀ {σ' : L2.St} {G : Hp}, EvP (K := K) (tVar 11) σ' G (tyTup [tyE (.ref dh), tyRat val]) → EvP (K := K) (tOp (rIxT K) (tVar 11) (tC (.int 1))) σ' G (tyRat val) := fun e => ev_nth (i := 1) e rfl
    refine q_copyD (i := 12) s14 (evD (ev_var (i := 11) s14 rfl)) dch14 fun dd σ15 H15 hdd e15 dc15 s15 => ?_
    have n15 : ExtN H6 H15 := n6.trans (extN_ex (eU.trans (e14.trans e15)))
    have T15 := T10.ext (eU.trans (e14.trans e15))
    have dch15 := dch14.ex e15
    have s15 : Sat (K := K) [some (tyE (.ref a)), some (tyE (.ref st)), some (tyE (.ref o.lb)), some (tyE (.ref o.ln)), some (tyE (.ref o.ls)), some (tyTup [tyE (.ref o.wn), tyE (.ref o.wr)]), some (tyE (.ref q)), none, none, none, none, some (tyTup [tyE (.ref dh), tyRat val]), some (tyE (.ref dd)), none, none] σ15 H15 := (s15.forget (i := 8)).forget (i := 10)
    -- the inner heights
    refine q_for (ei_lsN (ev_var (i := 6) s15 rfl) (n15 _ _ at6 fun ps z => by cases z) (it6.st (ge_extN n15))) (fun H16 i σ' H' => ExtN H16 H' ∧ Tabs (TT K) H' ∧ ∃ (P' : Nat → M2) (d : Addr) (kv : List (Key × V)), (∀ p, p < i → Pb.Pen (o.I p).length (pN o.bd (o.I p) (o.R p)) (P' p)) ∧ Dct K d (nmJ o i) (fun n => tyRat (hJ o x (oY o P' x) i n)) kv H' ∧
        Sat (K := K) [some (tyE (.ref a)), some (tyE (.ref st)), some (tyE (.ref o.lb)), some (tyE (.ref o.ln)), some (tyE (.ref o.ls)), some (tyTup [tyE (.ref o.wn), tyE (.ref o.wr)]), some (tyE (.ref q)), none, none, none, none, some (tyTup [tyE (.ref dh), tyRat val]), some (tyE (.ref d)), none, none] σ' H')
      (fun H16 e16 => ⟨ExtN.refl _, T15.ext e16, fun _ _ _ => 0, dd, _, fun p hp => by omega, dc15.ex e16, s15.ex e16⟩) (fun H16 e16 i σ' H' _ p => exN_of e16 p.1)
      (fun H16 e16 i xx σ' H' H'' hi p e17 y => ?_) (fun H16 e16 σ' H' p => ?_)
    · obtain ⟨p1, p2, P', d, kv, pens, dcc, sp⟩ := p
      rw [ln6] at hi
      have s17 := (sp.ex e17).set (i := 9) y
      have n17 : ExtN H15 H'' := (exN_of e16 p1).trans (extN_ex e17)
      refine do_asg (do_call (do_cons ?_))
      refine ev_var (i := 12) s17 rfl _ (Ex.refl _) _ fun v18 H18 e18 z18 => do_cons ?_
      cases z18
      have s18 := s17.ex e18
      have n18 := n17.trans (extN_ex e18)
      refine callN (s := sInner K) ((As.getD i default, o.bd ++ o.I i, appOf (o.pt i).s.near, o.R i), (dh, o.bd, o.I i), hOf o.bd x, kvh, 500000) (fun H7 e => ⟨((bkP i hi).exN (n15.trans n18)).ex e, (Dct.exN dch15 n18).ex e, ok.inner hi xht⟩) ((p2.ext e17).ext e18)
        (ea_cons (ev_var (i := 9) s18 rfl) (ea_cons (evD (ev_var (i := 11) s18 rfl)) ea_nil)) fun H19 v20 H20 e19 n20 T20 ⟨dy, kvy, PI, ev20, penI, dcy⟩ => do_nil ?_
      subst ev20
      have penI : Pb.Pen (o.I i).length (pN o.bd (o.I i) (o.R i)) PI := penI
      have n1820 : ExtN H18 H20 := exN_of e19 n20
      have n1720 : ExtN H'' H20 := exN_of e18 n1820
      have dc20 : Dct K d (nmJ o i) (fun n => tyRat (hJ o x (oY o P' x) i n)) kv H20 := Dct.exN (dcc.ex e17) n1720
      have ndn2 : (nmJ o i ++ o.I i).Nodup := ok.nmJ_nd (p := i + 1) (by omega)
      have ll2 : (nmJ o i ++ o.I i).length ≤ 100 := Nat.le_trans (show (nmJ o (i + 1)).length ≤ 8 from Nat.le_trans (nmJ_sub (p := i + 1) (by omega)).length_le ok.all_len) (by decide)
      refine ⟨((d, nmJ o i, hJ o x (oY o P' x) i, kv), (dy, o.I i, _, kvy)), ⟨dc20, dcy, ndn2, ll2⟩, .cons rfl (.cons rfl .nil), fun v21 H21 e21 ⟨d2, kv2, ev21, dc21⟩ => ?_⟩
      subst ev21
      have dc21 : Dct K d2 (nmJ o i ++ o.I i) (fun n => if n ∈ nmJ o i then tyRat (hJ o x (oY o P' x) i n) else tyRat (hOf (o.I i) (pY o.bd (o.I i) (o.R i) PI (fun i => hOf o.bd x (o.bd.getD i default)) fun j => appOf (o.pt i).s.near ((o.I i).getD j default)) n)) kv2 H21 := dc21
      have s21 := ((Sat.exN s17 n1720).ex e21).set (i := 12) (T := tyE (.ref d2)) rfl
      have n21 : ExtN H'' H21 := n1720.trans (extN_ex e21)
      have n1521 := n17.trans n21
      have dch21 := Dct.exN dch15 n1521
      have eA := ev_lenD dch21 (evD (ev_var (i := 11) s21 rfl))
      have eB := ev_lenL (K := K) (n1521 _ _ (n15 _ _ lb6 fun ps z => by cases z) fun ps z => by cases z) (ev_var (i := 2) s21 rfl)
      rw [List.length_map] at eB
      refine Evl.s_if (b := false) (et_neI eA eB rfl) (fun z => by cases z) fun _ H22 e22 => ?_
      refine ⟨p1.trans ((extN_ex e17).trans (n21.trans (extN_ex e22))), (T20.ext e21).ext e22, setP P' i PI, d2, kv2, fun p hp => ?_, ⟨e22 _ _ dc21.at_, DctE.cg (DctE.st (ge_ex e22) dc21.e) fun n v _ h => ?_⟩, (s21.ex e22).forget (i := 9)⟩
      · by_cases e : p = i
        · subst e
          rw [setP_at]
          exact penI
        · rw [setP_ne e]
          exact pens p (by omega)
      · show (tyRat (K := K) (hJ o x (oY o (setP P' i PI) x) (i + 1) n)).p v H22
        rw [hJ_next]
        by_cases m : n ∈ nmJ o i
        · simp only [if_pos m] at h ⊢
          exact h
        · simp only [if_neg m] at h ⊢
          exact h
    obtain ⟨p1, T16, P', d, kv, pens, dcc, s16⟩ := p
    rw [ln6] at pens dcc
    obtain ⟨stat, eVal⟩ := plain pens
    have sqO := ok.sqsOk xht pens
    generalize hJ o x (oY o P' x) o.ps.length = hh at *
    rw [nmJ_all] at dcc
    have n16 : ExtN H6 H' := n15.trans (exN_of e16 p1)
    have T16' := T16
    obtain ⟨wnx, wna, wni⟩ := pat.wn
    obtain ⟨wrx, wra, wri⟩ := pat.wr
    have n56 : ExtN H5 H' := (extN_ex e6).trans n16
    have wna' := n56 _ _ wna fun ps z => by cases z
    have wra' := n56 _ _ wra fun ps z => by cases z
    have wni' := wni.st (ge_extN n56)
    have wri' := wri.st (ge_extN n56)
    have wp := ok.wprd
    -- the net of the whole
    refine do_asg (do_call (do_cons ?_))
    refine callH (s := sBook K) ⟨o.wn, o.wr, o.nears, o.rds⟩ (fun H17 e => ⟨⟨⟨wnx, e _ _ wna', wni'.ex e⟩, ⟨wrx, e _ _ wra', wri'.ex e⟩⟩, ok.wbook⟩) (ea_cons (ev_var (i := 5) s16 rfl) ea_nil) fun H17 v17 H18 e17 e18 ⟨A, ev17, _, bkW⟩ => do_nil ?_
    subst ev17
    have bkW : Bk K A (o.nears.map fun a => a.1) (appOf o.nears) o.rds H18 := bkW
    rw [ok.nears_names] at bkW
    refine ⟨(A, o.all, appOf o.nears, o.rds), ⟨bkW, ok.nof⟩, .cons rfl .nil, fun v19 H19 e19 ⟨N, Pi, ev19, ntr⟩ => ?_⟩
    subst ev19
    have ntr : NtR K N o.all (fun i => appOf o.nears (o.all.getD i default)) o.rds o.rds.length Pi H19 := ntr
    have eT : Ex H' H19 := e17.trans (e18.trans e19)
    have s19 := (s16.ex eT).set (i := 13) (T := tyE (.ref N.nt)) rfl
    obtain ⟨eS, _⟩ := net_same (app := fun i => appOf o.nears (o.all.getD i default)) wp ntr.pen stat
    have eS' : netS o.all (fun i => appOf o.nears (o.all.getD i default)) o.rds Pi = val := by rw [eS, eVal]
    have nok := ok.nof.ok
    have dcc19 := dcc.ex eT
    -- the squares are the least value, every point has its height
    have eSq : EvP (K := K) (tMeth (gNt K) "squares" (sSquares K).sp [] E0 (tVar 13) tNil) (σ'.set 13 (some (.ref N.nt))) H19 (tyRat val) := by
      have z := ev_methH (s := sSquares K) (B := tyRat (netS o.all (fun i => appOf o.nears (o.all.getD i default)) o.rds Pi)) (N, o.all, (fun i => appOf o.nears (o.all.getD i default)), o.rds, Pi) ntr.s.at_ (fun H1 e => ⟨ntr.ex e, nok⟩) rfl (noN (m := "squares") (by decide +kernel)) (ev_var (i := 13) s19 rfl) ea_nil fun _ _ _ _ _ z => z
      rw [eS'] at z
      exact z
    have eL1 := ev_lenD dcc19 (ev_var (i := 12) s19 rfl)
    have eL2 := ev_lenL (K := K) (eT _ _ wna') (ev_nth (i := 0) (ev_var (i := 5) s19 rfl) rfl)
    have eL3 : o.all.length = wnx.length := by
      rw [wni.ln, ← ok.nears_names, List.length_map]
    refine Pt.q_if (b := false || false) (Evl.et_or (et_of (ev_rNe eSq (evV (ev_var (i := 11) s19 rfl)))) fun _ => et_neI eL1 eL2 eL3) (fun z => by cases z) fun _ H20 e20 => ?_
    have s20 := s19.ex e20
    have eT20 := eT.trans e20
    have dcc20 := dcc.ex eT20
    -- reckoned here
    have eW : sqs o.rds hh o.rds.length = val := by rw [sqs_qsL, eVal]
    have isV : EvT (tB (tCall (sIs K).sp [] E0 (tCons (tOp (rIxT K) (tVar 11) (tC (.int 1))) (tCons (tCall (sSqL K).sp [] E0 (tCons (tVar 5) (tCons (tCall (sPairs K).sp [] E0 (tCons (tVar 12) tNil)) tNil))) tNil)))) (σ'.set 13 (some (.ref N.nt))) H20 true := fun G1 x1 Q' hQ => by
      refine do_B (do_call (do_cons ?_))
      refine evV (ev_var (i := 11) (s20.ex x1) rfl) G1 (Ex.refl _) _ fun w1 G2 x2 y1 => do_cons (do_call (do_cons ?_))
      refine ev_var (i := 5) ((s20.ex x1).ex x2) rfl G2 (Ex.refl _) _ fun w2 G3 x3 y2 => do_cons ?_
      have sg := ((s20.ex x1).ex x2).ex x3
      have x13 := x1.trans (x2.trans x3)
      refine callH (s := sPairs K) (d, o.all, hh, kv) (fun G e => ⟨(dcc20.ex x13).ex e, ok.all_nd, Nat.le_trans ok.all_len (by decide)⟩) (ea_cons (ev_var (i := 12) sg rfl) ea_nil) fun G4 w3 G5 x4 x5 ⟨d2, kv2, ew, dc2⟩ => do_nil ?_
      subst ew
      have x45 := x4.trans x5
      have xA := eT20.trans (x13.trans x45)
      refine ⟨((⟨.ref o.wn, o.wr, wrx, o.rds⟩ : SvX), d2, o.all, hh, kv2), ⟨⟨xA _ _ wra', wri'.ln, (wri'.ex xA).its⟩, dc2, fun i hi k hk => (ok.wrdIn (getD_mem hi)).sub _ (List.mem_map.mpr ⟨_, getD_mem hk, rfl⟩), sqO⟩, .cons (Ty.st _ _ _ _ (ge_ex x45) y2) (.cons rfl .nil), fun w4 G6 x6 y4 => do_nil ?_⟩
      have y4 : (tyPr (K := K) (sqs o.rds hh o.rds.length)).p w4 G6 := y4
      rw [eW] at y4
      refine ⟨val, trivial, .cons (Ty.st _ _ _ _ (ge_ex (x3.trans (x45.trans x6))) y1) (.cons y4 .nil), fun w5 G7 x7 y5 => ⟨true, y5, hQ G7 (x2.trans (x3.trans (x45.trans (x6.trans x7))))⟩⟩
    refine Pt.q_if (b := !true) (Evl.et_not isV) (fun z => by cases z) fun _ H21 e21 => ?_
    have s21 := s20.ex e21
    have eT21 := eT20.trans e21
    have ntr21 := ntr.ex (e20.trans e21)
    have dcc21 := dcc.ex eT21
    -- without movements the heights are told
    refine do_next ?_
    dsimp only
    refine do_if ?_
    refine do_testEq ?_
    refine do_cb ?_
    refine do_cons ?_
    refine methH (s := sMoves K) (N, o.all, (fun i => appOf o.nears (o.all.getD i default)), o.rds, Pi) ntr21.s.at_ (fun H1 e => ⟨ntr21.ex e, nok⟩) rfl (noN (by decide +kernel)) (ev_var (i := 13) s21 rfl) ea_nil fun H22 v22 H23 e22 e23 ⟨pm, ms, ev22, at22, mv⟩ => do_nil ?_
    subst ev22
    refine ⟨_, ms.length, rfl, .inl ⟨ms, SqL.of at22, rfl⟩, do_c ⟨rfl, _, rfl, ?_⟩⟩
    have x23 := e22.trans e23
    have s23 := s21.ex x23
    by_cases hms : ms = []
    · subst hms
      rw [if_pos (by decide)]
      obtain ⟨b, k, pp, F, red, all⟩ := mv rfl
      have hN := net_heights (app := fun i => appOf o.nears (o.all.getD i default)) wp ntr.pen stat rfl red all
      have ntr23 := ntr21.ex x23
      have dcc23 := dcc21.ex x23
      have eH := ev_methH (s := sHeights K) (B := tyVec o.all.length (netH o.all (fun i => appOf o.nears (o.all.getD i default)) o.rds Pi)) (N, o.all, (fun i => appOf o.nears (o.all.getD i default)), o.rds, Pi) ntr23.s.at_ (fun H1 e => ⟨ntr23.ex e, nok⟩) rfl (noN (m := "heights") (by decide +kernel)) (ev_var (i := 13) s23 rfl) ea_nil fun _ _ _ _ _ z => z
      have ePt : EvP (K := K) (tFld K (tVar 13) "points") (σ'.set 13 (some (.ref N.nt))) H23 (tyE (.ref N.lp)) := ev_fldB ntr23.s.at_ (ev_var (i := 13) s23 rfl) c.c_Net c.n_Net_points lookN.1
      have eC := ev_tuple (el_lc (j := 14) (te := tDGet (tVar 12) (tVar 14)) (U := fun i => tyRat (hh (o.all.getD i default))) s23 (ei_strs ePt ntr23.s.pt) (fun H2 H3 a e => ⟨SqL.of (e _ _ (a _ _ ntr23.s.pt)), ge_ex (a.trans e)⟩) (Nat.le_trans ok.all_len (by decide)) fun i σ' G hi e s => ev_dget (dcc23.ex e) (ev_var (i := 12) s rfl) (ev_var (K := K) (i := 14) s rfl) (getD_mem hi))
      exact s_ret (ev_tEq eH eC fun i hi => (hN i hi).symm) fun v H24 e24 z => by
        cases z
        exact kk H24
    · rw [if_neg (by
        intro z
        have z := of_decide_eq_true z
        have : (ms.length : Int) = 0 := by injection z
        exact hms (List.length_eq_zero_iff.mp (by omega)))]
      refine do_next ?_
      dsimp only
      exact s_ret (K := K) (T := tyE (.bl true)) ev_c fun v H24 e24 z => by
        cases z
        exact kk H24
end
end Pd

/-! The end: head and law joined. -/
namespace Pn
open PySem PySem.Spec PyProof.Rows L2
theorem law_at {w : World} {mg : Str → Option Value} {fa' : Addr} {h : Heap} (Y : hk.says w h) (hg : h.Ns mainGlobals mg) (hm : mg "law" = some (.ref fa')) :
    ∃ K : PySem.W.Frag, K.In h ∧ LamX.LawAtS PySem.Challenge.rw_plumbnet_k62_whole_parts_make_the_whole w K CX0 44 63 "_law_script" mg fa' h := by
  obtain ⟨K, hK, say⟩ := Y
  have ctx : ∀ base : Heap, K.In base → base.Ns mainGlobals mg → (∀ p ∈ tf.map (He.cT K), LamX.TabB base mg p.1 p.2) → Cxt R.prog K mg base := fun base hb hn ht =>
    ⟨hb, hn, say.t.d, say.more, by decide +kernel, fun p hp => ht _ (List.mem_map.mpr ⟨p, hp, rfl⟩)⟩
  refine ⟨K, hK, fdA K df_law, tf.map (He.cT K), Pd.spLaw K, ?_, ?_, ?_, ?_, ?_, ?_⟩
  · intro p hp
    obtain ⟨q, hq, rfl⟩ := List.mem_map.mp hp
    exact say.empty q hq
  · intro p hp
    obtain ⟨q, hq, rfl⟩ := List.mem_map.mp hp
    exact say.out q hq
  · intro p hp
    obtain ⟨q, hq, rfl⟩ := List.mem_map.mp hp
    exact PySem.W.codeHd_of_K hK (say.hd q hq)
  · intro s u
    exact FunD.bindsA (ps := ["_law_script"]) (fd_at (say.t.d.def_ 82 (d := df_law) rfl)) (fun _ _ _ _ _ _ us hl => match us, hl with | [_], _ => rfl) s [u] rfl
  · intro H a ns hl _ ht hs
    refine ⟨a, ns, rfl, fun p hp => ?_, hs, hl, fun _ => rfl⟩
    obtain ⟨q, hq, rfl⟩ := List.mem_map.mp hp
    exact LamX.TabS.nil (ht _ (List.mem_map.mpr ⟨q, hq, rfl⟩))
  · intro base hb hn ht
    have c := ctx base hb hn ht
    have e : fa' = He.fAd K df_law.at_ := by
      have g := c.g_law
      rw [hm] at g
      cases g
      rfl
    rw [e]
    exact Pd.ok_law c
end Pn
/-! ### what is asked of the row, piece by piece (one look at all would want too much memory) -/
namespace Pn
open PySem PySem.W
theorem looks : looksOpen R.prog = true := by
  unfold looksOpen
  repeat' (with_reducible refine Bool.and_eq_true_iff.mpr ⟨?_, ?_⟩)
  all_goals decide +kernel
theorem said : R.wellSaid = true := by
  unfold OpenRow.wellSaid OpenRow.partSaid
  rw [looks]
  repeat' (with_reducible refine Bool.and_eq_true_iff.mpr ⟨?_, ?_⟩)
  all_goals decide +kernel
theorem lawSaid : PySem.Challenge.rw_plumbnet_k62_whole_parts_make_the_whole.wellSaid = true := by
  unfold OpenLaw.wellSaid
  rw [show PySem.Challenge.rw_plumbnet_k62_whole_parts_make_the_whole.row.wellSaid = true from said]
  repeat' (with_reducible refine Bool.and_eq_true_iff.mpr ⟨?_, ?_⟩)
  all_goals decide +kernel
theorem bare : R.prog.bare := ⟨rfl, rfl, rfl, rfl, rfl, by decide +kernel⟩
theorem ways : (chainsOk (view R.prog [0, 93]) && opensWell R.prog && (frees R.toRowW && R.within.isEmpty)) = true := by decide +kernel
theorem kept : R.toRowW.promised := ⟨[.list []], by decide +kernel, by decide +kernel⟩
end Pn
theorem PySem.Challenge.cw_plumbnet_k62_whole_parts_make_the_whole_holds : PySem.Challenge.rw_plumbnet_k62_whole_parts_make_the_whole.Holds := by
  refine ⟨Pn.lawSaid, ?_⟩
  refine HandSHeadRun.head_imp (r := Pn.R) (q := PySem.W.view Pn.R.prog [0, 93]) (H := Pn.hk) (ob := Pn.ob) (M := 7000) (loose := Pn.nm) (kwd := []) Pn.ob_eq Pn.run (by rfl) (by rfl) (by rfl) (by decide) Pn.said Pn.ways Pn.bare Pn.kept ?_
  exact LamX.walk_ofTsE (l := PySem.Challenge.rw_plumbnet_k62_whole_parts_make_the_whole) (n := 63) (k := 44) (CX := fun _ => L2.CX0) (x := "_law_script") rfl (by decide) rfl ⟨rfl, by decide, by decide⟩ (fun w mg fa h Y hg hm => Pn.law_at Y hg hm) (fun _ _ _ _ _ z => z)
