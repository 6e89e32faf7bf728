import PyProof.Rows.All
import Wide.All
import OpenK.AllK
import Wide.FinOn
import Open.SpecLaws
import KE.OsGo
import KE.DataMinMax
import HandS.ForSpec
import HandS.ForMost
import HandS.Conv
import HandS.SortInts
import HandS.Zip
import HandS.Evl
import PySem.Challenge.RW_smallertrades_s01_answers
set_option Elab.async false
set_option linter.all false
section
namespace NT
/-! Sums, networks, circulations, potentials: plain Lean. -/
def S : Nat → (Nat → Int) → Int
  | 0, _ => 0
  | n + 1, f => S n f + f n
theorem S_succ (n : Nat) (f : Nat → Int) : S (n + 1) f = S n f + f n := rfl
theorem S_congr {f g : Nat → Int} : ∀ {n : Nat}, (∀ i, i < n → f i = g i) → S n f = S n g
  | 0, _ => rfl
  | n + 1, h => by rw [S_succ, S_succ, S_congr fun i hi => h i (by omega), h n (by omega)]
theorem S_add (f g : Nat → Int) : ∀ n, S n (fun i => f i + g i) = S n f + S n g
  | 0 => rfl
  | n + 1 => by simp only [S_succ, S_add f g n]; omega
theorem S_sub (f g : Nat → Int) : ∀ n, S n (fun i => f i - g i) = S n f - S n g
  | 0 => rfl
  | n + 1 => by simp only [S_succ, S_sub f g n]; omega
theorem S_mul (c : Int) (f : Nat → Int) : ∀ n, S n (fun i => c * f i) = c * S n f
  | 0 => by simp [S]
  | n + 1 => by simp only [S_succ, S_mul c f n, Int.mul_add]
theorem S_zero : ∀ n, S n (fun _ => 0) = 0
  | 0 => rfl
  | n + 1 => by rw [S_succ, S_zero n]; rfl
theorem S_nonneg {f : Nat → Int} : ∀ {n : Nat}, (∀ i, i < n → 0 ≤ f i) → 0 ≤ S n f
  | 0, _ => Int.le_refl 0
  | n + 1, h => by
    have a := S_nonneg (n := n) fun i hi => h i (by omega)
    have b := h n (by omega)
    rw [S_succ]; omega
theorem S_le {f g : Nat → Int} : ∀ {n : Nat}, (∀ i, i < n → f i ≤ g i) → S n f ≤ S n g
  | 0, _ => Int.le_refl 0
  | n + 1, h => by
    have a := S_le (n := n) fun i hi => h i (by omega)
    have b := h n (by omega)
    rw [S_succ, S_succ]; omega
theorem S_eq_of_le {f g : Nat → Int} : ∀ {n : Nat}, (∀ i, i < n → f i ≤ g i) → S n f = S n g → ∀ i, i < n → f i = g i
  | 0, _, _, i, hi => absurd hi (Nat.not_lt_zero i)
  | n + 1, h, e, i, hi => by
    have a := S_le (n := n) fun i hi => h i (by omega)
    have b := h n (by omega)
    rw [S_succ, S_succ] at e
    by_cases q : i < n
    · exact S_eq_of_le (n := n) (fun i hi => h i (by omega)) (by omega) i q
    · have : i = n := by omega
      subst this; omega
theorem S_nonneg_zero {f : Nat → Int} {n : Nat} (h : ∀ i, i < n → 0 ≤ f i) (e : S n f ≤ 0) : ∀ i, i < n → f i = 0 := fun i hi => by
  have a := S_nonneg h
  have := S_eq_of_le (f := fun _ => 0) (g := f) h (by rw [S_zero]; omega) i hi
  exact this.symm
theorem S_swap (f : Nat → Nat → Int) (m : Nat) : ∀ n, S n (fun i => S m (fun j => f i j)) = S m (fun j => S n (fun i => f i j))
  | 0 => by simp [S, S_zero]
  | n + 1 => by
    rw [S_succ, S_swap f m n, ← S_add]
    rfl
theorem S_single (k : Nat) (c : Int) : ∀ n, S n (fun v => if k = v then c else 0) = if k < n then c else 0
  | 0 => by simp [S]
  | n + 1 => by
    rw [S_succ, S_single k c n]
    by_cases h : k < n
    · rw [if_pos h, if_neg (by omega), if_pos (by omega)]; omega
    · by_cases e : k = n
      · subst e; rw [if_neg h, if_pos rfl, if_pos (by omega)]; omega
      · rw [if_neg h, if_neg e, if_neg (by omega)]; omega
theorem S_single_mul (p : Nat → Int) (k : Nat) (c : Int) (n : Nat) (h : k < n) : S n (fun v => p v * (if k = v then c else 0)) = p k * c := by
  have e : S n (fun v => p v * (if k = v then c else 0)) = S n (fun v => if k = v then p k * c else 0) := S_congr fun v _ => by
    by_cases q : k = v
    · subst q; simp
    · rw [if_neg q, if_neg q, Int.mul_zero]
  rw [e, S_single, if_pos h]

structure N where
  m : Nat
  s : Nat → Nat
  e : Nat → Nat
  r : Nat → Int

def exc (A : N) (x : Nat → Int) (v : Nat) : Int := S A.m fun i => (if A.e i = v then x i else 0) - (if A.s i = v then x i else 0)
theorem bound_ex (f : Nat → Int) : ∀ n, ∃ B, ∀ i, i < n → f i ≤ B
  | 0 => ⟨0, fun i hi => absurd hi (Nat.not_lt_zero i)⟩
  | n + 1 => by
    obtain ⟨B, hB⟩ := bound_ex f n
    refine ⟨max B (f n), fun i hi => ?_⟩
    by_cases q : i < n
    · have := hB i q; omega
    · have : i = n := by omega
      subst this; omega
theorem verts (A : N) : ∃ B, ∀ i, i < A.m → A.s i < B ∧ A.e i < B := by
  obtain ⟨B1, h1⟩ := bound_ex (fun i => (A.s i : Int)) A.m
  obtain ⟨B2, h2⟩ := bound_ex (fun i => (A.e i : Int)) A.m
  refine ⟨(max B1 B2).toNat + 1, fun i hi => ?_⟩
  have := h1 i hi
  have := h2 i hi
  omega
theorem pot_exc (A : N) (x p : Nat → Int) (B : Nat) (h : ∀ i, i < A.m → A.s i < B ∧ A.e i < B) : S B (fun v => p v * exc A x v) = S A.m (fun i => x i * (p (A.e i) - p (A.s i))) := by
  have e1 : S B (fun v => p v * exc A x v) = S B (fun v => S A.m (fun i => p v * ((if A.e i = v then x i else 0) - (if A.s i = v then x i else 0)))) := S_congr fun v _ => by
    rw [S_mul]; rfl
  rw [e1, S_swap]
  refine S_congr fun i hi => ?_
  have e2 : S B (fun v => p v * ((if A.e i = v then x i else 0) - (if A.s i = v then x i else 0))) = S B (fun v => p v * (if A.e i = v then x i else 0) - p v * (if A.s i = v then x i else 0)) := S_congr fun v _ => Int.mul_sub _ _ _
  rw [e2, S_sub, S_single_mul p _ _ _ (h i hi).2, S_single_mul p _ _ _ (h i hi).1, Int.mul_sub, Int.mul_comm (x i), Int.mul_comm (x i)]
def Bd (A : N) (x : Nat → Int) : Prop := ∀ i, i < A.m → 0 ≤ x i ∧ x i ≤ A.r i
def Circ (A : N) (x : Nat → Int) : Prop := ∀ v, exc A x v = 0
def worth (A : N) (p : Nat → Int) (i : Nat) : Int := 1 + p (A.s i) - p (A.e i)
def Feas (A : N) (p x : Nat → Int) : Prop := ∀ i, i < A.m → (x i < A.r i → worth A p i ≤ 0) ∧ (0 < x i → 0 ≤ worth A p i)
def pos (z : Int) : Int := if 0 < z then z else 0
def bound (A : N) (p : Nat → Int) : Int := S A.m fun i => A.r i * pos (worth A p i)
def total (A : N) (x : Nat → Int) : Int := S A.m x
structure Opt (A : N) (x : Nat → Int) : Prop where
  bd : Bd A x
  circ : Circ A x
  feas : ∃ p, Feas A p x
theorem circ_pot {A : N} {x : Nat → Int} (h : Circ A x) (p : Nat → Int) : S A.m (fun i => x i * (p (A.e i) - p (A.s i))) = 0 := by
  obtain ⟨B, hB⟩ := verts A
  rw [← pot_exc A x p B hB]
  have : S B (fun v => p v * exc A x v) = S B (fun _ => 0) := S_congr fun v _ => by rw [h v, Int.mul_zero]
  rw [this, S_zero]
theorem total_worth {A : N} {x : Nat → Int} (h : Circ A x) (p : Nat → Int) : total A x = S A.m (fun i => x i * worth A p i) := by
  have e : S A.m (fun i => x i * worth A p i) = S A.m (fun i => x i - x i * (p (A.e i) - p (A.s i))) := S_congr fun i _ => by
    show x i * (1 + p (A.s i) - p (A.e i)) = x i - x i * (p (A.e i) - p (A.s i))
    rw [Int.mul_sub, Int.mul_sub, Int.mul_add, Int.mul_one]; omega
  rw [e, S_sub, circ_pot h p, Int.sub_zero]; rfl
theorem term_le {x r w : Int} (h0 : 0 ≤ x) (h1 : x ≤ r) : x * w ≤ r * pos w := by
  unfold pos
  by_cases q : 0 < w
  · rw [if_pos q]; exact Int.mul_le_mul_of_nonneg_right h1 (Int.le_of_lt q)
  · rw [if_neg q, Int.mul_zero]; exact Int.mul_nonpos_of_nonneg_of_nonpos h0 (by omega)
theorem weak {A : N} {x : Nat → Int} (b : Bd A x) (c : Circ A x) (p : Nat → Int) : total A x ≤ bound A p := by
  rw [total_worth c p]
  exact S_le fun i hi => term_le (b i hi).1 (b i hi).2
theorem feas_iff {A : N} {x : Nat → Int} (b : Bd A x) (c : Circ A x) (p : Nat → Int) : Feas A p x ↔ total A x = bound A p := by
  rw [total_worth c p]
  constructor
  · intro h
    refine S_congr fun i hi => ?_
    obtain ⟨h1, h2⟩ := h i hi
    obtain ⟨b1, b2⟩ := b i hi
    show x i * worth A p i = A.r i * pos (worth A p i)
    unfold pos
    by_cases q : 0 < worth A p i
    · have : x i = A.r i := by
        by_cases z : x i < A.r i
        · have := h1 z; omega
        · omega
      rw [if_pos q, this]
    · rw [if_neg q, Int.mul_zero]
      by_cases z : 0 < x i
      · have := h2 z
        have : worth A p i = 0 := by omega
        rw [this, Int.mul_zero]
      · have : x i = 0 := by omega
        rw [this, Int.zero_mul]
  · intro h i hi
    have e := S_eq_of_le (fun i hi => term_le (b i hi).1 (b i hi).2) h i hi
    obtain ⟨b1, b2⟩ := b i hi
    have e : x i * worth A p i = A.r i * pos (worth A p i) := e
    unfold pos at e
    constructor
    · intro z
      by_cases q : 0 < worth A p i
      · rw [if_pos q] at e
        have := Int.mul_lt_mul_of_pos_right z q
        omega
      · omega
    · intro z
      by_cases q : worth A p i < 0
      · rw [if_neg (by omega), Int.mul_zero] at e
        have := Int.mul_neg_of_pos_of_neg z q
        omega
      · omega
theorem Opt.le {A : N} {x y : Nat → Int} (a : Opt A x) (b : Opt A y) : total A x ≤ total A y := by
  obtain ⟨p, hp⟩ := b.feas
  rw [(feas_iff b.bd b.circ p).mp hp]
  exact weak a.bd a.circ p
theorem Opt.total_eq {A : N} {x y : Nat → Int} (a : Opt A x) (b : Opt A y) : total A x = total A y := Int.le_antisymm (a.le b) (b.le a)
theorem Opt.feas_of {A : N} {x y p : Nat → Int} (a : Opt A x) (b : Opt A y) (h : Feas A p x) : Feas A p y := by
  rw [feas_iff b.bd b.circ p, ← a.total_eq b]
  exact (feas_iff a.bd a.circ p).mp h

/-! ### the told one -/
def LexMax (A : N) (x : Nat → Int) : Prop := Opt A x ∧ ∀ j, j < A.m → ∀ z, Opt A z → (∀ i, i < j → z i = x i) → z j ≤ x j
theorem LexMax.eq {A : N} {x y : Nat → Int} (a : LexMax A x) (b : LexMax A y) : ∀ i, i < A.m → x i = y i := by
  intro i
  induction i using Nat.strongRecOn with
  | ind i ih =>
    intro hi
    have h1 := a.2 i hi y b.1 fun j hj => (ih j hj (by omega)).symm
    have h2 := b.2 i hi x a.1 fun j hj => ih j hj (by omega)
    omega
/-- least potentials on the vertices below n -/
structure LeastPot (A : N) (n : Nat) (x p : Nat → Int) : Prop where
  feas : Feas A p x
  nn : ∀ v, v < n → 0 ≤ p v
  least : ∀ q, Feas A q x → (∀ v, v < n → 0 ≤ q v) → ∀ v, v < n → p v ≤ q v
theorem LeastPot.eq {A : N} {n : Nat} {x y p q : Nat → Int} (hx : Opt A x) (hy : Opt A y) (a : LeastPot A n x p) (b : LeastPot A n y q) : ∀ v, v < n → p v = q v := fun v hv => by
  have h1 := a.least q (hy.feas_of hx b.feas) b.nn v hv
  have h2 := b.least p (hx.feas_of hy a.feas) a.nn v hv
  omega
end NT
end
section
namespace NT
/-! Augmenting along a way. -/
structure Ed where
  u : Nat
  v : Nat
  c : Int
  i : Nat
  sg : Int
  cap : Int
def Ori (A : N) (w : Ed) : Prop := w.i < A.m ∧ ((w.sg = 1 ∧ w.u = A.s w.i ∧ w.v = A.e w.i) ∨ (w.sg = -1 ∧ w.u = A.e w.i ∧ w.v = A.s w.i))
/-- the edges along which y may be changed; g: what a unit of an arc costs -/
def Res (A : N) (g : Int) (y : Nat → Int) (w : Ed) : Prop :=
  w.i < A.m ∧ ((w.sg = 1 ∧ w.u = A.s w.i ∧ w.v = A.e w.i ∧ w.c = g ∧ y w.i < A.r w.i ∧ w.cap = A.r w.i - y w.i) ∨
    (w.sg = -1 ∧ w.u = A.e w.i ∧ w.v = A.s w.i ∧ w.c = -g ∧ 0 < y w.i ∧ w.cap = y w.i))
theorem Res.ori {A : N} {g : Int} {y : Nat → Int} {w : Ed} (h : Res A g y w) : Ori A w :=
  ⟨h.1, h.2.elim (fun q => .inl ⟨q.1, q.2.1, q.2.2.1⟩) fun q => .inr ⟨q.1, q.2.1, q.2.2.1⟩⟩
def push1 (y : Nat → Int) (d : Int) (w : Ed) : Nat → Int := fun j => if j = w.i then y j + w.sg * d else y j
def push (y : Nat → Int) (d : Int) : List Ed → Nat → Int
  | [] => y
  | w :: P => push1 (push y d P) d w
/-- steps, the last one first, from o to t -/
def Path : List Ed → Nat → Nat → Prop
  | [], o, t => o = t
  | w :: P, o, t => w.v = t ∧ Path P o w.u
theorem exc_push1 {A : N} {w : Ed} (h : Ori A w) (y : Nat → Int) (d : Int) (x : Nat) : exc A (push1 y d w) x = exc A y x + ((if w.v = x then d else 0) - (if w.u = x then d else 0)) := by
  have e : exc A (push1 y d w) x - exc A y x = S A.m (fun i => if w.i = i then ((if A.e w.i = x then w.sg * d else 0) - (if A.s w.i = x then w.sg * d else 0)) else 0) := by
    unfold exc
    rw [← S_sub]
    refine S_congr fun i hi => ?_
    unfold push1
    by_cases q : w.i = i
    · subst q
      simp only [if_true]
      split <;> split <;> omega
    · rw [if_neg q, if_neg (Ne.symm q)]
      omega
  rw [S_single, if_pos h.1] at e
  rcases h.2 with ⟨h1, h2, h3⟩ | ⟨h1, h2, h3⟩
  · rw [h1, Int.one_mul, ← h2, ← h3] at e
    omega
  · rw [h1, ← h2, ← h3] at e
    rw [Int.neg_mul, Int.one_mul] at e
    split at e <;> split at e <;> simp only [*, if_true, if_false] <;> omega
theorem exc_push {A : N} {y : Nat → Int} {d : Int} {o : Nat} (x : Nat) : ∀ {P : List Ed} {t : Nat}, (∀ w ∈ P, Ori A w) → Path P o t → exc A (push y d P) x = exc A y x + ((if t = x then d else 0) - (if o = x then d else 0))
  | [], t, _, h => by
    have e : o = t := h
    subst e
    show exc A y x = _
    omega
  | w :: P, t, hw, h => by
    obtain ⟨h1, h2⟩ := h
    have ih := exc_push (y := y) (d := d) x (fun w hw' => hw w (List.mem_cons_of_mem _ hw')) h2
    show exc A (push1 (push y d P) d w) x = _
    rw [exc_push1 (hw w List.mem_cons_self), ih, h1]
    omega
theorem path_rank {rk : Nat → Nat} {o : Nat} : ∀ {P : List Ed} {t : Nat}, Path P o t → (∀ w ∈ P, rk w.u < rk w.v) → ∀ w ∈ P, rk w.v ≤ rk t
  | [], _, _, _, w, hw => nomatch hw
  | a :: P, t, h, hr, w, hw => by
    obtain ⟨h1, h2⟩ := h
    rcases List.mem_cons.mp hw with rfl | hw
    · rw [h1]; exact Nat.le_refl _
    · have := path_rank h2 (fun w hw => hr w (List.mem_cons_of_mem _ hw)) w hw
      have := hr a List.mem_cons_self
      rw [h1] at this
      omega
theorem push_out {y : Nat → Int} {d : Int} : ∀ {P : List Ed} {j : Nat}, (∀ w ∈ P, w.i ≠ j) → push y d P j = y j
  | [], _, _ => rfl
  | a :: P, j, h => by
    show (if j = a.i then _ else _) = _
    rw [if_neg (Ne.symm (h a List.mem_cons_self))]
    exact push_out fun w hw => h w (List.mem_cons_of_mem _ hw)
/-- no arc twice on a ranked way -/
theorem push_in {A : N} {y : Nat → Int} {d : Int} {rk : Nat → Nat} {o : Nat} : ∀ {P : List Ed} {t : Nat}, (∀ w ∈ P, Ori A w) → Path P o t → (∀ w ∈ P, rk w.u < rk w.v) → ∀ w ∈ P, push y d P w.i = y w.i + w.sg * d
  | [], _, _, _, _, w, hw => nomatch hw
  | a :: P, t, ho, h, hr, w, hw => by
    obtain ⟨h1, h2⟩ := h
    have hr' : ∀ w ∈ P, rk w.u < rk w.v := fun w hw => hr w (List.mem_cons_of_mem _ hw)
    have ra := hr a List.mem_cons_self
    have oa := ho a List.mem_cons_self
    have ne : ∀ b ∈ P, b.i ≠ a.i := fun b hb e => by
      have ob := ho b (List.mem_cons_of_mem _ hb)
      have rb := hr' b hb
      have lb := path_rank h2 hr' b hb
      rcases oa.2 with ⟨_, a2, a3⟩ | ⟨_, a2, a3⟩ <;> rcases ob.2 with ⟨_, b2, b3⟩ | ⟨_, b2, b3⟩ <;> rw [e] at b2 b3 <;> rw [a2, a3] at ra <;> rw [a2, b3] at lb <;> rw [b2, b3] at rb <;> omega
    show (if w.i = a.i then _ else _) = _
    rcases List.mem_cons.mp hw with rfl | hw
    · rw [if_pos rfl, push_out ne]
    · rw [if_neg (ne w hw)]
      exact push_in (fun w hw => ho w (List.mem_cons_of_mem _ hw)) h2 hr' w hw
theorem push_bd {A : N} {g : Int} {y : Nat → Int} {d : Int} {rk : Nat → Nat} {o t : Nat} {P : List Ed} (b : Bd A y) (hw : ∀ w ∈ P, Res A g y w) (hp : Path P o t) (hr : ∀ w ∈ P, rk w.u < rk w.v) (d0 : 0 ≤ d) (hd : ∀ w ∈ P, d ≤ w.cap) : Bd A (push y d P) := fun i hi => by
  by_cases q : ∃ w ∈ P, w.i = i
  · obtain ⟨w, hm, rfl⟩ := q
    rw [push_in (fun w h => (hw w h).ori) hp hr w hm]
    have bi := b w.i hi
    have dc := hd w hm
    rcases (hw w hm).2 with ⟨h1, _, _, _, h5, h6⟩ | ⟨h1, _, _, _, h5, h6⟩ <;> rw [h1] <;> omega
  · rw [push_out fun w hm e => q ⟨w, hm, e⟩]
    exact b i hi
/-- potentials for a unit's cost g -/
def FeasG (A : N) (g : Int) (p y : Nat → Int) : Prop := ∀ i, i < A.m → (y i < A.r i → p (A.e i) ≤ p (A.s i) + g) ∧ (0 < y i → p (A.s i) ≤ p (A.e i) - g)
abbrev Lab := Nat → Option (Int × Nat)
def LexLe (a b : Int × Nat) : Prop := a.1 < b.1 ∨ (a.1 = b.1 ∧ a.2 ≤ b.2)
def Fixed (A : N) (g : Int) (y : Nat → Int) (D : Lab) : Prop := ∀ w, Res A g y w → ∀ a, D w.u = some a → ∃ b, D w.v = some b ∧ LexLe b (a.1 + w.c, a.2 + 1)
def Tight (D : Lab) (w : Ed) : Prop := ∃ a, D w.u = some a ∧ D w.v = some (a.1 + w.c, a.2 + 1)
def cost (D : Lab) (v : Nat) : Int := match D v with
  | some a => a.1
  | none => 0
def steps (D : Lab) (v : Nat) : Nat := match D v with
  | some a => a.2
  | none => 0
theorem Tight.rank {D : Lab} {w : Ed} (h : Tight D w) : steps D w.u < steps D w.v := by
  obtain ⟨a, h1, h2⟩ := h
  unfold steps
  rw [h1, h2]
  exact Nat.lt_succ_self _
theorem cost_some {D : Lab} {v : Nat} {a : Int × Nat} (h : D v = some a) : cost D v = a.1 := by unfold cost; rw [h]
theorem push_feas {A : N} {g : Int} {y p : Nat → Int} {d : Int} {D : Lab} {P : List Ed} (hF : FeasG A g p y) (hw : ∀ w ∈ P, Res A g y w) (hD : Fixed A g y D) (ht : ∀ w ∈ P, Tight D w) : ∃ q, FeasG A g q (push y d P) := by
  obtain ⟨K1, hK1⟩ := bound_ex (fun i => cost D (A.e i) - p (A.s i) - g) A.m
  obtain ⟨K2, hK2⟩ := bound_ex (fun i => cost D (A.s i) - p (A.e i) + g) A.m
  let q : Nat → Int := fun v => match D v with
    | some a => a.1
    | none => p v + max K1 K2
  have qs : ∀ {v a}, D v = some a → q v = a.1 := fun {v a} h => by
    show (match D v with
    | some a => a.1
    | none => p v + max K1 K2) = _
    rw [h]
  have qn : ∀ {v}, D v = none → q v = p v + max K1 K2 := fun {v} h => by
    show (match D v with
    | some a => a.1
    | none => p v + max K1 K2) = _
    rw [h]
  refine ⟨q, fun i hi => ?_⟩
  by_cases z : ∃ w ∈ P, w.i = i
  · obtain ⟨w, hm, rfl⟩ := z
    obtain ⟨a, h1, h2⟩ := ht w hm
    have e1 := qs h1
    have e2 := qs h2
    rcases (hw w hm).2 with ⟨_, u1, u2, u3, _, _⟩ | ⟨_, u1, u2, u3, _, _⟩ <;> rw [u1] at e1 <;> rw [u2] at e2 <;> simp only [u3] at e2 <;> constructor <;> intro _ <;> omega
  · rw [push_out fun w hm e => z ⟨w, hm, e⟩]
    obtain ⟨f1, f2⟩ := hF i hi
    have k1 := hK1 i hi
    have k2 := hK2 i hi
    constructor
    · intro hy
      have f1 := f1 hy
      have r : Res A g y ⟨A.s i, A.e i, g, i, 1, A.r i - y i⟩ := ⟨hi, .inl ⟨rfl, rfl, rfl, rfl, hy, rfl⟩⟩
      cases hs : D (A.s i) with
      | some a =>
        obtain ⟨b, hb, l⟩ := hD _ r a hs
        have e1 := qs hs
        have e2 := qs hb
        have l : b.1 < a.1 + g ∨ (b.1 = a.1 + g ∧ _) := l
        dsimp only at e2
        rcases l with l | l <;> omega
      | none =>
        have e1 := qn hs
        cases he : D (A.e i) with
        | some b =>
          have e2 := qs he
          have := cost_some he
          omega
        | none =>
          have e2 := qn he
          omega
    · intro hy
      have f2 := f2 hy
      have r : Res A g y ⟨A.e i, A.s i, -g, i, -1, y i⟩ := ⟨hi, .inr ⟨rfl, rfl, rfl, rfl, hy, rfl⟩⟩
      cases hs : D (A.e i) with
      | some a =>
        obtain ⟨b, hb, l⟩ := hD _ r a hs
        have e1 := qs hs
        have e2 := qs hb
        have l : b.1 < a.1 + -g ∨ (b.1 = a.1 + -g ∧ _) := l
        dsimp only at e2
        rcases l with l | l <;> omega
      | none =>
        have e1 := qn hs
        cases he : D (A.s i) with
        | some b =>
          have e2 := qs he
          have := cost_some he
          omega
        | none =>
          have e2 := qn he
          omega
theorem exc_out {A : N} {x : Nat → Int} {v : Nat} (h : ∀ i, i < A.m → A.s i ≠ v ∧ A.e i ≠ v) : exc A x v = 0 := by
  have e : exc A x v = S A.m (fun _ => 0) := S_congr fun i hi => by
    obtain ⟨h1, h2⟩ := h i hi
    show (if A.e i = v then x i else 0) - (if A.s i = v then x i else 0) = 0
    rw [if_neg h1, if_neg h2]
    rfl
  rw [e, S_zero]
/-- the cut: nothing that lacks can be reached: then nothing lacks -/
theorem balanced {A : N} {y z b : Nat → Int} {R : Nat → Prop} (hb : Bd A z) (hz : ∀ v, b v + exc A z v = 0) (by_ : Bd A y) (src : ∀ v, 0 < b v + exc A y v → R v) (snk : ∀ v, R v → 0 ≤ b v + exc A y v)
    (cl : ∀ i, i < A.m → (y i < A.r i → R (A.s i) → R (A.e i)) ∧ (0 < y i → R (A.e i) → R (A.s i))) : ∀ v, b v + exc A y v = 0 := by
  obtain ⟨B, hB⟩ := verts A
  have key : ∀ p : Nat → Int, S B (fun v => p v * (b v + exc A y v)) = S A.m (fun i => (y i - z i) * (p (A.e i) - p (A.s i))) := fun p => by
    have e : S B (fun v => p v * (b v + exc A y v)) = S B (fun v => p v * exc A y v - p v * exc A z v) := S_congr fun v _ => by
      have := hz v
      rw [← Int.mul_sub]
      congr 1
      omega
    rw [e, S_sub, pot_exc A y p B hB, pot_exc A z p B hB, ← S_sub]
    refine S_congr fun i _ => ?_
    rw [Int.sub_mul]
  have out : ∀ v, ¬ v < B → b v + exc A y v = 0 := fun v hv => by
    have h : ∀ i, i < A.m → A.s i ≠ v ∧ A.e i ≠ v := fun i hi => by have := hB i hi; omega
    have := hz v
    rw [exc_out h] at this ⊢
    exact this
  have hR : ∀ v, v < B → R v → b v + exc A y v = 0 := by
    classical
    let p : Nat → Int := fun v => if R v then 1 else 0
    have pt : ∀ {v}, R v → p v = 1 := fun h => if_pos h
    have pf : ∀ {v}, ¬ R v → p v = 0 := fun h => if_neg h
    have h0 : ∀ v, v < B → 0 ≤ p v * (b v + exc A y v) := fun v _ => by
      by_cases q : R v
      · rw [pt q, Int.one_mul]; exact snk v q
      · rw [pf q, Int.zero_mul]; exact Int.le_refl 0
    have h1 : S B (fun v => p v * (b v + exc A y v)) ≤ 0 := by
      rw [key p, ← S_zero A.m]
      refine S_le fun i hi => ?_
      obtain ⟨c1, c2⟩ := cl i hi
      have b1 := hb i hi
      have b2 := by_ i hi
      by_cases q1 : R (A.s i) <;> by_cases q2 : R (A.e i)
      · rw [pt q1, pt q2]; simp
      · rw [pt q1, pf q2]
        have : ¬ y i < A.r i := fun h => q2 (c1 h q1)
        omega
      · rw [pf q1, pt q2]
        have : ¬ 0 < y i := fun h => q1 (c2 h q2)
        omega
      · rw [pf q1, pf q2]; simp
    intro v hv q
    have := S_nonneg_zero h0 h1 v hv
    rw [pt q, Int.one_mul] at this
    exact this
  have le : ∀ v, b v + exc A y v ≤ 0 := fun v => by
    by_cases hv : v < B
    · by_cases q : 0 < b v + exc A y v
      · have := hR v hv (src v q); omega
      · omega
    · have := out v hv; omega
  have all := key fun _ => 1
  have z0 : S A.m (fun i => (y i - z i) * ((1 : Int) - 1)) = 0 := by
    rw [← S_zero A.m]
    exact S_congr fun i _ => by simp
  rw [z0] at all
  have n0 : S B (fun v => - (b v + exc A y v)) ≤ 0 := by
    have : S B (fun v => - (b v + exc A y v)) = S B (fun v => 0 - 1 * (b v + exc A y v)) := S_congr fun v _ => by omega
    rw [this, S_sub, S_zero, all]
    exact Int.le_refl 0
  intro v
  by_cases hv : v < B
  · have := S_nonneg_zero (fun v _ => by have := le v; omega) n0 v hv
    omega
  · exact out v hv
/-- the cut for one arc -/
theorem greatest_at {A : N} {x z : Nat → Int} {j : Nat} {Fr : Nat → Prop} {R : Nat → Prop} (hj : j < A.m) (cx : Circ A x) (cz : Circ A z) (hz : Bd A z) (same : ∀ i, i < A.m → i ≠ j → ¬ Fr i → z i = x i) (re : R (A.e j)) (rs : ¬ R (A.s j))
    (cl : ∀ i, i < A.m → i ≠ j → Fr i → (x i < A.r i → R (A.s i) → R (A.e i)) ∧ (0 < x i → R (A.e i) → R (A.s i))) : z j ≤ x j := by
  classical
  let p : Nat → Int := fun v => if R v then 1 else 0
  have pt : ∀ {v}, R v → p v = 1 := fun h => if_pos h
  have pf : ∀ {v}, ¬ R v → p v = 0 := fun h => if_neg h
  have e : S A.m (fun i => (z i - x i) * (p (A.e i) - p (A.s i))) = 0 := by
    have : S A.m (fun i => (z i - x i) * (p (A.e i) - p (A.s i))) = S A.m (fun i => z i * (p (A.e i) - p (A.s i)) - x i * (p (A.e i) - p (A.s i))) := S_congr fun i _ => Int.sub_mul _ _ _
    rw [this, S_sub, circ_pot cx p, circ_pot cz p]
    rfl
  by_cases g : z j ≤ x j
  · exact g
  · exfalso
    have h0 : ∀ i, i < A.m → 0 ≤ (z i - x i) * (p (A.e i) - p (A.s i)) := fun i hi => by
      by_cases ij : i = j
      · subst ij
        rw [pt re, pf rs]
        omega
      · by_cases f : Fr i
        · obtain ⟨c1, c2⟩ := cl i hi ij f
          have b := hz i hi
          by_cases q1 : R (A.s i) <;> by_cases q2 : R (A.e i)
          · rw [pt q1, pt q2]; simp
          · rw [pt q1, pf q2]
            have : ¬ x i < A.r i := fun h => q2 (c1 h q1)
            omega
          · rw [pf q1, pt q2]
            have : ¬ 0 < x i := fun h => q1 (c2 h q2)
            omega
          · rw [pf q1, pf q2]; simp
        · rw [same i hi ij f]; simp
    have := S_nonneg_zero h0 (Int.le_of_eq e) j hj
    rw [pt re, pf rs] at this
    omega
end NT
end
section
namespace NT
/-! Congruences, one augmentation as a whole, networks that differ in their vertices' names. -/
theorem exc_congr {A : N} {x y : Nat → Int} (h : ∀ i, i < A.m → x i = y i) (v : Nat) : exc A x v = exc A y v := S_congr fun i hi => by rw [h i hi]
theorem Bd.congr {A : N} {x y : Nat → Int} (h : ∀ i, i < A.m → x i = y i) (b : Bd A x) : Bd A y := fun i hi => by rw [← h i hi]; exact b i hi
theorem Circ.congr {A : N} {x y : Nat → Int} (h : ∀ i, i < A.m → x i = y i) (b : Circ A x) : Circ A y := fun v => by rw [← exc_congr h v]; exact b v
theorem Feas.congr {A : N} {p x y : Nat → Int} (h : ∀ i, i < A.m → x i = y i) (b : Feas A p x) : Feas A p y := fun i hi => by rw [← h i hi]; exact b i hi
theorem FeasG.congr {A : N} {g : Int} {p x y : Nat → Int} (h : ∀ i, i < A.m → x i = y i) (b : FeasG A g p x) : FeasG A g p y := fun i hi => by rw [← h i hi]; exact b i hi
theorem Opt.congr {A : N} {x y : Nat → Int} (h : ∀ i, i < A.m → x i = y i) (b : Opt A x) : Opt A y := ⟨b.bd.congr h, b.circ.congr h, let ⟨p, hp⟩ := b.feas; ⟨p, hp.congr h⟩⟩
theorem LexMax.congr {A : N} {x y : Nat → Int} (h : ∀ i, i < A.m → x i = y i) (b : LexMax A x) : LexMax A y :=
  ⟨b.1.congr h, fun j hj z hz e => by rw [← h j hj]; exact b.2 j hj z hz fun i hi => by rw [e i hi, h i (by omega)]⟩
theorem total_congr {A : N} {x y : Nat → Int} (h : ∀ i, i < A.m → x i = y i) : total A x = total A y := S_congr h
theorem bound_congr {A : N} {p q : Nat → Int} (h : ∀ i, i < A.m → worth A p i = worth A q i) : bound A p = bound A q := S_congr fun i hi => by rw [h i hi]
/-- how much is still too much somewhere -/
def PP (A : N) (b : Nat → Int) (B : Nat) (y : Nat → Int) : Int := S B fun v => pos (b v + exc A y v)
theorem pos_nn (z : Int) : 0 ≤ pos z := by unfold pos; split <;> omega
theorem PP_nn (A : N) (b : Nat → Int) (B : Nat) (y : Nat → Int) : 0 ≤ PP A b B y := S_nonneg fun _ _ => pos_nn _
theorem PP_congr {A : N} {b : Nat → Int} {B : Nat} {x y : Nat → Int} (h : ∀ i, i < A.m → x i = y i) : PP A b B x = PP A b B y := S_congr fun v _ => by rw [exc_congr h v]
theorem aug {A : N} {g : Int} {b : Nat → Int} {B : Nat} {y p : Nat → Int} {D : Lab} {o t : Nat} {P : List Ed} {d : Int} (hB : ∀ i, i < A.m → A.s i < B ∧ A.e i < B) (hb : ∀ v, ¬ v < B → b v = 0) (bd : Bd A y) (hF : FeasG A g p y)
    (hD : Fixed A g y D) (hw : ∀ w ∈ P, Res A g y w) (hp : Path P o t) (ht : ∀ w ∈ P, Tight D w) (d1 : 1 ≤ d) (hd : ∀ w ∈ P, d ≤ w.cap) (ho : d ≤ b o + exc A y o) (hs : d ≤ -(b t + exc A y t)) :
    Bd A (push y d P) ∧ (∃ q, FeasG A g q (push y d P)) ∧ PP A b B (push y d P) + d = PP A b B y := by
  refine ⟨push_bd bd hw hp (fun w h => (ht w h).rank) (by omega) hd, push_feas hF hw hD ht, ?_⟩
  have oB : o < B := by
    by_cases q : o < B
    · exact q
    · have e1 := hb o q
      have e2 : exc A y o = 0 := exc_out fun i hi => by have := hB i hi; omega
      omega
  have e : PP A b B (push y d P) = S B (fun v => pos (b v + exc A y v) - if o = v then d else 0) := S_congr fun v _ => by
    rw [exc_push v (fun w h => (hw w h).ori) hp]
    unfold pos
    by_cases q1 : o = v
    · subst q1
      have : t ≠ o := fun z => by subst z; omega
      rw [if_neg this, if_pos rfl]
      split <;> split <;> omega
    · by_cases q2 : t = v
      · subst q2
        rw [if_pos rfl, if_neg q1]
        split <;> split <;> omega
      · rw [if_neg q2, if_neg q1]
        split <;> split <;> omega
  rw [e, S_sub, S_single, if_pos oB]
  show PP A b B y - d + d = _
  omega
/-- the same arcs, the vertices under other names -/
structure Iso (A C : N) (f h : Nat → Nat) : Prop where
  m : A.m = C.m
  r : ∀ i, i < A.m → A.r i = C.r i
  s : ∀ i, i < A.m → A.s i = f (C.s i) ∧ C.s i = h (A.s i)
  e : ∀ i, i < A.m → A.e i = f (C.e i) ∧ C.e i = h (A.e i)
theorem Iso.symm {A C : N} {f h : Nat → Nat} (q : Iso A C f h) : Iso C A h f :=
  ⟨q.m.symm, fun i hi => (q.r i (q.m ▸ hi)).symm, fun i hi => (q.s i (q.m ▸ hi)).symm, fun i hi => (q.e i (q.m ▸ hi)).symm⟩
theorem Iso.exc {A C : N} {f h : Nat → Nat} (q : Iso A C f h) {x : Nat → Int} {k : Nat} (hk : h (f k) = k) : exc C x k = exc A x (f k) := by
  unfold NT.exc
  rw [← q.m]
  refine S_congr fun i hi => ?_
  obtain ⟨s1, s2⟩ := q.s i hi
  obtain ⟨e1, e2⟩ := q.e i hi
  have a : (C.e i = k) ↔ (A.e i = f k) := ⟨fun z => by rw [e1, z], fun z => by rw [e2, z, hk]⟩
  have b : (C.s i = k) ↔ (A.s i = f k) := ⟨fun z => by rw [s1, z], fun z => by rw [s2, z, hk]⟩
  simp only [a, b]
theorem Iso.circ {A C : N} {f h : Nat → Nat} (q : Iso A C f h) {x : Nat → Int} (c : Circ A x) : Circ C x := fun k => by
  by_cases z : ∃ i, i < C.m ∧ (C.s i = k ∨ C.e i = k)
  · obtain ⟨i, hi, e⟩ := z
    have hk : h (f k) = k := by
      rcases e with e | e
      · obtain ⟨s1, s2⟩ := q.s i (q.m ▸ hi)
        rw [← e, ← s1, ← s2]
      · obtain ⟨s1, s2⟩ := q.e i (q.m ▸ hi)
        rw [← e, ← s1, ← s2]
    rw [q.exc hk]
    exact c _
  · exact exc_out fun i hi => ⟨fun e => z ⟨i, hi, .inl e⟩, fun e => z ⟨i, hi, .inr e⟩⟩
theorem Iso.worth {A C : N} {f h : Nat → Nat} (q : Iso A C f h) (p : Nat → Int) {i : Nat} (hi : i < A.m) : worth C (fun k => p (f k)) i = worth A p i := by
  unfold NT.worth
  rw [(q.s i hi).1, (q.e i hi).1]
theorem Iso.feas {A C : N} {f h : Nat → Nat} (q : Iso A C f h) {p x : Nat → Int} (c : Feas A p x) : Feas C (fun k => p (f k)) x := fun i hi => by
  rw [q.worth p (q.m ▸ hi), ← q.r i (q.m ▸ hi)]
  exact c i (q.m ▸ hi)
theorem Iso.bd {A C : N} {f h : Nat → Nat} (q : Iso A C f h) {x : Nat → Int} (c : Bd A x) : Bd C x := fun i hi => by
  rw [← q.r i (q.m ▸ hi)]
  exact c i (q.m ▸ hi)
theorem Iso.opt {A C : N} {f h : Nat → Nat} (q : Iso A C f h) {x : Nat → Int} (c : Opt A x) : Opt C x := ⟨q.bd c.bd, q.circ c.circ, let ⟨p, hp⟩ := c.feas; ⟨_, q.feas hp⟩⟩
theorem Iso.lexMax {A C : N} {f h : Nat → Nat} (q : Iso A C f h) {x : Nat → Int} (c : LexMax A x) : LexMax C x :=
  ⟨q.opt c.1, fun j hj z hz e => c.2 j (q.m ▸ hj) z (q.symm.opt hz) e⟩
theorem Iso.total {A C : N} {f h : Nat → Nat} (q : Iso A C f h) (x : Nat → Int) : total A x = total C x := by
  unfold NT.total
  rw [q.m]
end NT
end
section
namespace SP
open NT
open Vbchad (Way wayTo better setWay relaxed ways bestWay)
/-! The specification's best ways: what so many rounds as members reach. -/
abbrev VArc := Vbchad.Arc
def lab (ws : List Way) : Lab := fun v => (wayTo ws v).map fun w => (w.cost, w.steps.length)
theorem lab_of {ws : List Way} {v : Nat} {w : Way} (h : wayTo ws v = some w) : lab ws v = some (w.cost, w.steps.length) := by unfold lab; rw [h]; rfl
theorem lab_inv {ws : List Way} {v : Nat} {a : Int × Nat} (h : lab ws v = some a) : ∃ w, wayTo ws v = some w ∧ a = (w.cost, w.steps.length) := by
  unfold lab at h
  cases e : wayTo ws v with
  | none => rw [e] at h; cases h
  | some w => rw [e] at h; exact ⟨w, rfl, (Option.some.inj h).symm⟩
theorem LexLe.refl (a : Int × Nat) : LexLe a a := .inr ⟨rfl, Nat.le_refl _⟩
theorem LexLe.trans {a b c : Int × Nat} (h : LexLe a b) (h' : LexLe b c) : LexLe a c := by unfold LexLe at *; omega
/-- a way's steps are a path from one of the first ones -/
def PathW (arcs : List VArc) (src : List Nat) : List VArc → Nat → Int → Prop
  | [], v, c => v ∈ src ∧ c = 0
  | a :: P, v, c => a ∈ arcs ∧ a.last = v ∧ ∃ c', PathW arcs src P a.first c' ∧ c = c' + a.cost
inductive Wk (arcs : List VArc) (src : List Nat) : Nat → Int → Nat → Prop
  | src {v} : v ∈ src → Wk arcs src v 0 0
  | step {a c k} : a ∈ arcs → Wk arcs src a.first c k → Wk arcs src a.last (c + a.cost) (k + 1)
inductive SWk (arcs : List VArc) (src : List Nat) : Nat → Int → List Nat → Prop
  | src {v} : v ∈ src → SWk arcs src v 0 [v]
  | step {a c L} : a ∈ arcs → SWk arcs src a.first c L → ¬ a.last ∈ L → SWk arcs src a.last (c + a.cost) (a.last :: L)
section
variable {arcs : List VArc} {src : List Nat}
theorem PathW.wk : ∀ {P : List VArc} {v : Nat} {c : Int}, PathW arcs src P v c → Wk arcs src v c P.length
  | [], v, c, h => by
    obtain ⟨h1, h2⟩ := h
    subst h2
    exact .src h1
  | a :: P, v, c, h => by
    obtain ⟨h1, h2, c', h3, h4⟩ := h
    subst h2 h4
    exact .step h1 (PathW.wk h3)
theorem SWk.wk {v : Nat} {c : Int} {L : List Nat} (h : SWk arcs src v c L) : Wk arcs src v c (L.length - 1) ∧ 1 ≤ L.length := by
  induction h with
  | src h => exact ⟨.src h, Nat.le_refl _⟩
  | @step a c L h1 h2 h3 ih =>
    obtain ⟨i1, i2⟩ := ih
    have e : (a.last :: L).length - 1 = (L.length - 1) + 1 := by simp only [List.length_cons]; omega
    rw [e]
    exact ⟨.step h1 i1, by simp⟩
theorem SWk.nodup {v : Nat} {c : Int} {L : List Nat} (h : SWk arcs src v c L) : L.Nodup := by
  induction h with
  | src h => simp
  | step h1 h2 h3 ih => exact List.nodup_cons.mpr ⟨h3, ih⟩
theorem SWk.sub {v : Nat} {c : Int} {L : List Nat} (h : SWk arcs src v c L) {ms : List Nat} (hs : ∀ v ∈ src, v ∈ ms) (ha : ∀ a ∈ arcs, a.last ∈ ms) : ∀ x ∈ L, x ∈ ms := by
  induction h with
  | src h => intro x hx; rw [List.mem_singleton.mp hx]; exact hs _ h
  | step h1 h2 h3 ih =>
    intro x hx
    rcases List.mem_cons.mp hx with rfl | hx
    · exact ha _ h1
    · exact ih x hx
/-- so many different ones are not more than there are -/
theorem nodup_le {L : List Nat} : ∀ {ms : List Nat}, L.Nodup → (∀ x ∈ L, x ∈ ms) → L.length ≤ ms.length := by
  induction L with
  | nil => intro ms _ _; exact Nat.zero_le _
  | cons x L ih =>
    intro ms hn hs
    obtain ⟨h1, h2⟩ := List.nodup_cons.mp hn
    have hx : x ∈ ms := hs x List.mem_cons_self
    have := ih (ms := ms.erase x) h2 fun y hy => by
      have : y ≠ x := fun e => h1 (e ▸ hy)
      exact (List.mem_erase_of_ne this).mpr (hs y (List.mem_cons_of_mem _ hy))
    rw [List.length_erase_of_mem hx] at this
    have : 0 < ms.length := List.length_pos_of_mem hx
    simp only [List.length_cons]
    omega
/-- the part up to one of its vertices -/
theorem SWk.part {p : Nat → Int} (hp : ∀ a ∈ arcs, p a.last ≤ p a.first + a.cost) {u : Nat} {c : Int} {L : List Nat} (h : SWk arcs src u c L) {v : Nat} (hv : v ∈ L) : ∃ c2 L2, SWk arcs src v c2 L2 ∧ L2.length ≤ L.length ∧ p u - p v ≤ c - c2 := by
  induction h with
  | src h =>
    have := List.mem_singleton.mp hv
    subst this
    exact ⟨0, [v], .src h, Nat.le_refl _, by omega⟩
  | @step a c L h1 h2 h3 ih =>
    rcases List.mem_cons.mp hv with e | hv
    · rw [e]
      exact ⟨_, _, .step h1 h2 h3, Nat.le_refl _, by omega⟩
    · obtain ⟨c2, L2, i1, i2, i3⟩ := ih hv
      have := hp a h1
      exact ⟨c2, L2, i1, by simp only [List.length_cons]; omega, by omega⟩
theorem Wk.simple {p : Nat → Int} (hp : ∀ a ∈ arcs, p a.last ≤ p a.first + a.cost) {v : Nat} {c : Int} {k : Nat} (h : Wk arcs src v c k) : ∃ c2 L2, SWk arcs src v c2 L2 ∧ LexLe (c2, L2.length - 1) (c, k) := by
  induction h with
  | src h => exact ⟨0, _, .src h, LexLe.refl _⟩
  | @step a c k h1 h2 ih =>
    obtain ⟨c2, L2, i1, i2⟩ := ih
    have l1 := i1.wk.2
    by_cases q : a.last ∈ L2
    · obtain ⟨c3, L3, j1, j2, j3⟩ := i1.part hp q
      have := hp a h1
      refine ⟨c3, L3, j1, ?_⟩
      unfold LexLe at *
      dsimp only at *
      omega
    · refine ⟨_, _, .step h1 i1 q, ?_⟩
      unfold LexLe at *
      simp only [List.length_cons] at *
      omega
/-! ### the rounds -/
def Good (arcs : List VArc) (src : List Nat) (ws : List Way) : Prop := ∀ v w, wayTo ws v = some w → PathW arcs src w.steps v w.cost ∧ w.goal = v
theorem wayTo_cons (w : Way) (ws : List Way) (v : Nat) : wayTo (w :: ws) v = if w.goal = v then some w else wayTo ws v := by
  unfold wayTo
  rw [List.find?_cons]
  by_cases e : w.goal = v
  · rw [if_pos e, beq_iff_eq.mpr e]
  · rw [if_neg e, beq_eq_false_iff_ne.mpr e]
theorem wayTo_filter (g v : Nat) (hv : v ≠ g) : ∀ ws : List Way, wayTo (ws.filter fun x => x.goal != g) v = wayTo ws v
  | [] => rfl
  | w :: ws => by
    rw [List.filter_cons]
    by_cases e : w.goal = g
    · have : (w.goal != g) = false := by simp [e]
      rw [this, if_neg Bool.false_ne_true, wayTo_filter g v hv ws, wayTo_cons, if_neg (by omega)]
    · have : (w.goal != g) = true := by simp [e]
      rw [this, if_pos rfl, wayTo_cons, wayTo_cons, wayTo_filter g v hv ws]
theorem wayTo_set (w : Way) (ws : List Way) (v : Nat) : wayTo (setWay w ws) v = if w.goal = v then some w else wayTo ws v := by
  unfold setWay
  rw [wayTo_cons]
  by_cases e : w.goal = v
  · rw [if_pos e, if_pos e]
  · rw [if_neg e, if_neg e, wayTo_filter _ _ (Ne.symm e)]
def rstep (l : List Way) (a : VArc) : List Way := match wayTo l a.first with
  | none => l
  | some w => if better (w.cost + a.cost) (w.steps.length + 1) (wayTo l a.last) = true then setWay ⟨a.last, w.cost + a.cost, a :: w.steps⟩ l else l
theorem relaxed_eq (ws : List Way) : relaxed arcs ws = arcs.foldl rstep ws := rfl
theorem rstep_none {l : List Way} {a : VArc} (h : wayTo l a.first = none) : rstep l a = l := by unfold rstep; rw [h]
theorem rstep_some {l : List Way} {a : VArc} {w : Way} (h : wayTo l a.first = some w) : rstep l a = if better (w.cost + a.cost) (w.steps.length + 1) (wayTo l a.last) = true then setWay ⟨a.last, w.cost + a.cost, a :: w.steps⟩ l else l := by unfold rstep; rw [h]
def Le (l l' : List Way) : Prop := ∀ v a, lab l v = some a → ∃ b, lab l' v = some b ∧ LexLe b a
theorem Le.refl (l : List Way) : Le l l := fun v a h => ⟨a, h, LexLe.refl a⟩
theorem Le.trans {l l' l'' : List Way} (h : Le l l') (h' : Le l' l'') : Le l l'' := fun v a e => by
  obtain ⟨b, e1, l1⟩ := h v a e
  obtain ⟨c, e2, l2⟩ := h' v b e1
  exact ⟨c, e2, LexLe.trans l2 l1⟩
theorem better_some {c : Int} {n : Nat} {x : Way} : better c n (some x) = true ↔ c < x.cost ∨ (c = x.cost ∧ n < x.steps.length) := by
  simp [better]
theorem rstep_le (l : List Way) (a : VArc) : Le l (rstep l a) := by
  cases h : wayTo l a.first with
  | none => rw [rstep_none h]; exact Le.refl l
  | some w =>
    rw [rstep_some h]
    split
    · rename_i hb
      intro v x hx
      obtain ⟨y, hy, ex⟩ := lab_inv hx
      by_cases e : a.last = v
      · refine ⟨(w.cost + a.cost, (a :: w.steps).length), lab_of (w := ⟨a.last, w.cost + a.cost, a :: w.steps⟩) (by rw [wayTo_set, if_pos e]), ?_⟩
        rw [e, hy, better_some] at hb
        subst ex
        unfold LexLe
        simp only [List.length_cons]
        omega
      · exact ⟨x, by rw [← hx]; unfold lab; rw [wayTo_set, if_neg e], LexLe.refl x⟩
    · exact Le.refl l
theorem rstep_edge (l : List Way) (a : VArc) {x : Int × Nat} (hx : lab l a.first = some x) : ∃ y, lab (rstep l a) a.last = some y ∧ LexLe y (x.1 + a.cost, x.2 + 1) := by
  obtain ⟨w, hw, ex⟩ := lab_inv hx
  subst ex
  rw [rstep_some hw]
  split
  · exact ⟨_, lab_of (w := ⟨a.last, w.cost + a.cost, a :: w.steps⟩) (by rw [wayTo_set, if_pos rfl]), LexLe.refl _⟩
  · rename_i hb
    cases e : wayTo l a.last with
    | none => rw [e] at hb; exact absurd rfl hb
    | some y =>
      rw [e, better_some] at hb
      refine ⟨_, lab_of e, ?_⟩
      unfold LexLe
      dsimp only
      omega
theorem rstep_good {l : List Way} {a : VArc} (ha : a ∈ arcs) (h : Good arcs src l) : Good arcs src (rstep l a) := by
  cases e : wayTo l a.first with
  | none => rw [rstep_none e]; exact h
  | some w =>
    rw [rstep_some e]
    split
    · intro v x hx
      rw [wayTo_set] at hx
      split at hx
      · rename_i q
        cases hx
        obtain ⟨h1, h2⟩ := h _ _ e
        exact ⟨⟨ha, q, w.cost, h1, rfl⟩, q⟩
      · exact h v x hx
    · exact h
theorem fold_le : ∀ (as : List VArc) (l : List Way), Le l (as.foldl rstep l)
  | [], l => Le.refl l
  | a :: as, l => (rstep_le l a).trans (fold_le as _)
theorem fold_good : ∀ (as : List VArc) (l : List Way), (∀ a ∈ as, a ∈ arcs) → Good arcs src l → Good arcs src (as.foldl rstep l)
  | [], l, _, h => h
  | a :: as, l, hs, h => fold_good as _ (fun b hb => hs b (List.mem_cons_of_mem _ hb)) (rstep_good (hs a List.mem_cons_self) h)
theorem fold_edge : ∀ (as : List VArc) (l : List Way) (a : VArc), a ∈ as → ∀ x, lab l a.first = some x → ∃ y, lab (as.foldl rstep l) a.last = some y ∧ LexLe y (x.1 + a.cost, x.2 + 1)
  | [], _, _, h, _, _ => nomatch h
  | b :: as, l, a, h, x, hx => by
    rcases List.mem_cons.mp h with rfl | h
    · obtain ⟨y, h1, h2⟩ := rstep_edge l a hx
      obtain ⟨z, h3, h4⟩ := fold_le as _ _ _ h1
      exact ⟨z, h3, LexLe.trans h4 h2⟩
    · obtain ⟨x', h1, h2⟩ := rstep_le l b _ _ hx
      obtain ⟨y, h3, h4⟩ := fold_edge as _ a h x' h1
      refine ⟨y, h3, LexLe.trans h4 ?_⟩
      unfold LexLe at *
      dsimp only
      omega
theorem lab_zero (v : Nat) : lab (ways arcs src 0) v = if v ∈ src then some (0, 0) else none := by
  show lab (src.map fun m => ⟨m, 0, []⟩) v = _
  induction src with
  | nil => rfl
  | cons m r ih =>
    unfold lab at *
    rw [List.map_cons, wayTo_cons]
    by_cases e : m = v
    · subst e
      simp
    · rw [if_neg e, ih]
      simp [Ne.symm e]
theorem good_zero : Good arcs src (ways arcs src 0) := by
  show Good arcs src (src.map fun m => ⟨m, 0, []⟩)
  have : ∀ r : List Nat, (∀ m ∈ r, m ∈ src) → Good arcs src (r.map fun m => ⟨m, 0, []⟩) := by
    intro r
    induction r with
    | nil => intro _ v w h; cases h
    | cons m r ih =>
      intro hs v w h
      rw [List.map_cons, wayTo_cons] at h
      split at h
      · rename_i e
        cases h
        exact ⟨⟨e ▸ hs m List.mem_cons_self, rfl⟩, e⟩
      · exact ih (fun x hx => hs x (List.mem_cons_of_mem _ hx)) v w h
  exact this src fun m h => h
theorem good_ways : ∀ k, Good arcs src (ways arcs src k)
  | 0 => good_zero
  | k + 1 => fold_good arcs _ (fun _ h => h) (good_ways k)
theorem ways_mono (k j : Nat) : Le (ways arcs src k) (ways arcs src (k + j)) := by
  induction j with
  | zero => exact Le.refl _
  | succ j ih => exact ih.trans (fold_le arcs _)
theorem ways_walk {v : Nat} {c : Int} {j : Nat} (h : Wk arcs src v c j) : ∃ b, lab (ways arcs src j) v = some b ∧ LexLe b (c, j) := by
  induction h with
  | src h => exact ⟨(0, 0), by rw [lab_zero, if_pos h], LexLe.refl _⟩
  | @step a c k h1 h2 ih =>
    obtain ⟨b, i1, i2⟩ := ih
    obtain ⟨y, j1, j2⟩ := fold_edge arcs _ a h1 b i1
    refine ⟨y, j1, LexLe.trans j2 ?_⟩
    unfold LexLe at *
    dsimp only at *
    omega
/-- THE ROUNDS ARE ENOUGH -/
theorem ways_all {p : Nat → Int} {ms : List Nat} (hp : ∀ a ∈ arcs, p a.last ≤ p a.first + a.cost) (hs : ∀ v ∈ src, v ∈ ms) (ha : ∀ a ∈ arcs, a.last ∈ ms) {v : Nat} {c : Int} {k : Nat} (h : Wk arcs src v c k) : ∃ b, lab (ways arcs src ms.length) v = some b ∧ LexLe b (c, k) := by
  obtain ⟨c2, L, h1, h2⟩ := h.simple hp
  obtain ⟨w1, w2⟩ := h1.wk
  have hl := nodup_le h1.nodup (h1.sub hs ha)
  obtain ⟨b, i1, i2⟩ := ways_walk w1
  have e : ms.length = (L.length - 1) + (ms.length - (L.length - 1)) := by omega
  obtain ⟨b', j1, j2⟩ := ways_mono (L.length - 1) (ms.length - (L.length - 1)) v b i1
  rw [← e] at j1
  exact ⟨b', j1, LexLe.trans j2 (LexLe.trans i2 h2)⟩
theorem ways_fixed {p : Nat → Int} {ms : List Nat} (hp : ∀ a ∈ arcs, p a.last ≤ p a.first + a.cost) (hs : ∀ v ∈ src, v ∈ ms) (ha : ∀ a ∈ arcs, a.last ∈ ms) {a : VArc} (hm : a ∈ arcs) {x : Int × Nat} (hx : lab (ways arcs src ms.length) a.first = some x) :
    ∃ y, lab (ways arcs src ms.length) a.last = some y ∧ LexLe y (x.1 + a.cost, x.2 + 1) := by
  obtain ⟨w, hw, e⟩ := lab_inv hx
  subst e
  obtain ⟨g, _⟩ := good_ways _ _ _ hw
  exact ways_all hp hs ha (.step hm g.wk)
/-- along a way of the answer every step is tight -/
theorem ways_tight {p : Nat → Int} {ms : List Nat} (hp : ∀ a ∈ arcs, p a.last ≤ p a.first + a.cost) (hs : ∀ v ∈ src, v ∈ ms) (ha : ∀ a ∈ arcs, a.last ∈ ms) : ∀ {P : List VArc} {v : Nat} {c : Int}, PathW arcs src P v c → lab (ways arcs src ms.length) v = some (c, P.length) →
    (∀ a ∈ P, a ∈ arcs ∧ ∃ x, lab (ways arcs src ms.length) a.first = some x ∧ lab (ways arcs src ms.length) a.last = some (x.1 + a.cost, x.2 + 1))
  | [], _, _, _, _ => fun _ h => nomatch h
  | b :: P, v, c, h, hl => by
    obtain ⟨h1, h2, c', h3, h4⟩ := h
    subst h2 h4
    obtain ⟨x, x1, x2⟩ := ways_all hp hs ha h3.wk
    obtain ⟨y, y1, y2⟩ := ways_fixed hp hs ha h1 x1
    rw [hl] at y1
    cases y1
    have ex : x = (c', P.length) := by
      unfold LexLe at *
      simp only [List.length_cons] at *
      obtain ⟨x3, x4⟩ := x
      dsimp only at *
      congr 1 <;> omega
    subst ex
    intro a hm
    rcases List.mem_cons.mp hm with rfl | hm
    · exact ⟨h1, _, x1, hl⟩
    · exact ways_tight hp hs ha h3 x1 a hm
/-- where a way begins -/
def origin (w : Way) : Nat := match w.steps.getLast? with
  | some a => a.first
  | none => w.goal
def orgn (P : List VArc) (v : Nat) : Nat := match P.getLast? with
  | some a => a.first
  | none => v
theorem path_origin {arcs : List VArc} {src : List Nat} : ∀ {P : List VArc} {v : Nat} {c : Int}, PathW arcs src P v c → orgn P v ∈ src
  | [], v, c, h => h.1
  | [a], v, c, h => by
    obtain ⟨_, _, _, h3, _⟩ := h
    exact h3.1
  | a :: b :: P, v, c, h => by
    obtain ⟨_, _, c', h3, _⟩ := h
    have := path_origin h3
    unfold orgn at *
    rw [List.getLast?_cons_cons]
    have e : ∃ z, (b :: P).getLast? = some z := ⟨_, List.getLast?_eq_some_getLast (List.cons_ne_nil b P)⟩
    obtain ⟨z, e⟩ := e
    rw [e] at this ⊢
    exact this
theorem best_none {ws : List Way} : ∀ {l : List Nat}, bestWay ws l = none → ∀ m ∈ l, wayTo ws m = none
  | [], _, m, h => nomatch h
  | x :: l, e, m, h => by
    unfold bestWay at e
    cases e1 : wayTo ws x with
    | none =>
      rw [e1] at e
      rcases List.mem_cons.mp h with rfl | h
      · exact e1
      · exact best_none e m h
    | some w =>
      rw [e1] at e
      cases e2 : bestWay ws l with
      | none => rw [e2] at e; cases e
      | some b =>
        rw [e2] at e
        dsimp only at e
        split at e <;> cases e
theorem best_some {ws : List Way} : ∀ {l : List Nat} {w : Way}, bestWay ws l = some w → ∃ m ∈ l, wayTo ws m = some w
  | [], _, e => nomatch e
  | x :: l, w, e => by
    unfold bestWay at e
    cases e1 : wayTo ws x with
    | none =>
      rw [e1] at e
      obtain ⟨m, h1, h2⟩ := best_some e
      exact ⟨m, List.mem_cons_of_mem _ h1, h2⟩
    | some y =>
      rw [e1] at e
      cases e2 : bestWay ws l with
      | none =>
        rw [e2] at e
        cases e
        exact ⟨x, List.mem_cons_self, e1⟩
      | some b =>
        rw [e2] at e
        dsimp only at e
        split at e
        · cases e
          exact ⟨x, List.mem_cons_self, e1⟩
        · cases e
          obtain ⟨m, h1, h2⟩ := best_some e2
          exact ⟨m, List.mem_cons_of_mem _ h1, h2⟩
end
end SP
end
section
namespace SP
open NT
open Vbchad (Trade Way wayTo ways bestWay room rooms outOf into membersOf number keepArcs lacks keep leastKept someGreatest greatestOf pushed least)
/-! The network of some trades; what is kept of the rooms is the least. -/
def t0 : Trade := ⟨0, 0, 0, 0, 0⟩
def tr (l : List Trade) (i : Nat) : Trade := l.getD i t0
def netK (l : List Trade) : N := ⟨l.length, fun i => (tr l i).from_, fun i => (tr l i).to, fun i => (room (tr l i) : Int)⟩
def fl (f : List Nat) (i : Nat) : Int := ((f.getD i 0 : Nat) : Int)
theorem S_front (f : Nat → Int) : ∀ n, S (n + 1) f = f 0 + S n (fun i => f (i + 1))
  | 0 => by simp [S]
  | n + 1 => by
    rw [S_succ, S_front f n, S_succ n (fun i => f (i + 1))]
    omega
theorem sum_cons (a : Nat) (l : List Nat) : Vbchad.sum (a :: l) = a + Vbchad.sum l := rfl
theorem sum_S : ∀ (f : List Nat), (Vbchad.sum f : Int) = S f.length (fl f)
  | [] => rfl
  | a :: f => by
    rw [List.length_cons, S_front, sum_cons]
    show _ = (a : Int) + S f.length (fl f)
    rw [← sum_S f]
    omega
theorem sum_zip {g : Trade × Nat → Nat} : ∀ {l : List Trade} {f : List Nat}, f.length = l.length → (Vbchad.sum ((l.zip f).map g) : Int) = S l.length (fun i => (g (tr l i, f.getD i 0) : Int))
  | [], _, _ => rfl
  | t :: l, [], h => by simp at h
  | t :: l, x :: f, h => by
    rw [List.length_cons, S_front, List.zip_cons_cons, List.map_cons, sum_cons]
    have ih := sum_zip (g := g) (l := l) (f := f) (by simpa using h)
    show ((g (t, x) + Vbchad.sum ((l.zip f).map g) : Nat) : Int) = (g (t, x) : Int) + S l.length (fun i => (g (tr l i, f.getD i 0) : Int))
    rw [← ih]
    omega
theorem out_eq {l : List Trade} {f : List Nat} (h : f.length = l.length) (v : Nat) : (outOf l f v : Int) = S l.length (fun i => if (tr l i).from_ = v then fl f i else 0) := by
  unfold outOf
  rw [sum_zip h]
  refine S_congr fun i _ => ?_
  dsimp only
  split <;> rfl
theorem into_eq {l : List Trade} {f : List Nat} (h : f.length = l.length) (v : Nat) : (into l f v : Int) = S l.length (fun i => if (tr l i).to = v then fl f i else 0) := by
  unfold into
  rw [sum_zip h]
  refine S_congr fun i _ => ?_
  dsimp only
  split <;> rfl
theorem exc_eq {l : List Trade} {f : List Nat} (h : f.length = l.length) (v : Nat) : exc (netK l) (fl f) v = (into l f v : Int) - (outOf l f v : Int) := by
  rw [out_eq h, into_eq h, ← S_sub]
  rfl
theorem rooms_len (l : List Trade) : (rooms l).length = l.length := List.length_map _
theorem fl_rooms (l : List Trade) {i : Nat} (hi : i < l.length) : fl (rooms l) i = (room (tr l i) : Int) := by
  unfold fl rooms tr
  simp [List.getD_eq_getElem?_getD, hi]
def bK (l : List Trade) (v : Nat) : Int := (outOf l (rooms l) v : Int) - (into l (rooms l) v : Int)
theorem lacks_eq {l : List Trade} {f : List Nat} (h : f.length = l.length) (v : Nat) : lacks l f v = bK l v + exc (netK l) (fl f) v := by
  rw [exc_eq h]
  unfold lacks bK
  omega
theorem bK_eq (l : List Trade) (v : Nat) : bK l v + exc (netK l) (fl (rooms l)) v = 0 := by
  rw [exc_eq (rooms_len l)]
  unfold bK
  omega
/-! ### members -/
theorem mem_number {v x : Nat} : ∀ {l : List Nat}, x ∈ number v l ↔ x = v ∨ x ∈ l
  | [] => by simp [number]
  | y :: l => by
    unfold number
    split
    · simp
    · split
      · rename_i h1 h2
        subst h2
        simp
      · rw [List.mem_cons, mem_number, List.mem_cons]
        constructor <;> rintro (h | h | h) <;> simp [h]
theorem number_sorted {v : Nat} : ∀ {l : List Nat}, l.Pairwise (· < ·) → (number v l).Pairwise (· < ·)
  | [], _ => by simp [number]
  | y :: l, h => by
    obtain ⟨h1, h2⟩ := List.pairwise_cons.mp h
    unfold number
    split
    · rename_i hv
      refine List.pairwise_cons.mpr ⟨fun x hx => ?_, h⟩
      rcases List.mem_cons.mp hx with rfl | hx
      · exact hv
      · exact Nat.lt_trans hv (h1 x hx)
    · split
      · exact h
      · refine List.pairwise_cons.mpr ⟨fun x hx => ?_, number_sorted h2⟩
        rcases mem_number.mp hx with rfl | hx
        · omega
        · exact h1 x hx
theorem mem_foldr_number {x : Nat} : ∀ {l : List Nat}, x ∈ l.foldr number [] ↔ x ∈ l
  | [] => by simp
  | y :: l => by rw [List.foldr_cons, mem_number, mem_foldr_number, List.mem_cons]
theorem members_sorted (l : List Trade) : (membersOf l).Pairwise (· < ·) := by
  unfold membersOf
  generalize (l.flatMap fun t => [t.from_, t.to]) = xs
  induction xs with
  | nil => simp
  | cons x xs ih => exact number_sorted ih
theorem mem_members {l : List Trade} {x : Nat} : x ∈ membersOf l ↔ ∃ t ∈ l, t.from_ = x ∨ t.to = x := by
  unfold membersOf
  rw [mem_foldr_number, List.mem_flatMap]
  constructor
  · rintro ⟨t, h1, h2⟩
    refine ⟨t, h1, ?_⟩
    simp at h2
    omega
  · rintro ⟨t, h1, h2⟩
    refine ⟨t, h1, ?_⟩
    simp
    omega
theorem tr_mem {l : List Trade} {i : Nat} (hi : i < l.length) : tr l i ∈ l := by
  unfold tr
  simp [List.getD_eq_getElem?_getD, hi]
theorem tr_some {l : List Trade} {i : Nat} {t : Trade} (h : l[i]? = some t) : i < l.length ∧ tr l i = t := by
  obtain ⟨h1, h2⟩ := List.getElem?_eq_some_iff.mp h
  refine ⟨h1, ?_⟩
  unfold tr
  simp [List.getD_eq_getElem?_getD, h]
theorem fl_some {f : List Nat} {i k : Nat} (h : f[i]? = some k) : fl f i = k := by
  unfold fl
  simp [List.getD_eq_getElem?_getD, h]
theorem end_members {l : List Trade} {i : Nat} (hi : i < l.length) : (tr l i).from_ ∈ membersOf l ∧ (tr l i).to ∈ membersOf l := ⟨mem_members.mpr ⟨_, tr_mem hi, .inl rfl⟩, mem_members.mpr ⟨_, tr_mem hi, .inr rfl⟩⟩
/-! ### the steps as edges -/
def ed (a : VArc) : Ed := ⟨a.first, a.last, a.cost, a.place, if a.along = true then 1 else -1, (a.most : Int)⟩
theorem mem_zipz {l : List Trade} {f : List Nat} {x : (Trade × Nat) × Nat} : x ∈ (l.zip f).zipIdx ↔ l[x.2]? = some x.1.1 ∧ f[x.2]? = some x.1.2 := by
  obtain ⟨⟨t, k⟩, i⟩ := x
  rw [List.mem_zipIdx_iff_getElem?]
  exact List.getElem?_zip_eq_some
/-- both ends' arcs of one trade -/
def both (t : Trade) (k i : Nat) (c : Int) : List VArc := (if k < room t then [⟨i, true, t.from_, t.to, room t - k, c⟩] else []) ++ (if 0 < k then [⟨i, false, t.to, t.from_, k, -c⟩] else [])
theorem both_res {l : List Trade} {f : List Nat} {t : Trade} {k i : Nat} {c : Int} (h1 : l[i]? = some t) (h2 : f[i]? = some k) {a : VArc} (h : a ∈ both t k i c) : Res (netK l) c (fl f) (ed a) ∧ a.place = i := by
  obtain ⟨hi, ht⟩ := tr_some h1
  have hk := fl_some h2
  unfold both at h
  rcases List.mem_append.mp h with h | h
  · split at h
    · rename_i q
      rw [List.mem_singleton.mp h]
      refine ⟨⟨hi, .inl ⟨rfl, ?_, ?_, rfl, ?_, ?_⟩⟩, rfl⟩
      · show t.from_ = (tr l i).from_
        rw [ht]
      · show t.to = (tr l i).to
        rw [ht]
      · show fl f i < (room (tr l i) : Int)
        rw [ht, hk]; omega
      · show ((room t - k : Nat) : Int) = (room (tr l i) : Int) - fl f i
        rw [ht, hk]; omega
    · cases h
  · split at h
    · rename_i q
      rw [List.mem_singleton.mp h]
      refine ⟨⟨hi, .inr ⟨rfl, ?_, ?_, rfl, ?_, ?_⟩⟩, rfl⟩
      · show t.to = (tr l i).to
        rw [ht]
      · show t.from_ = (tr l i).from_
        rw [ht]
      · show 0 < fl f i
        rw [hk]; omega
      · exact hk.symm
    · cases h
theorem res_both {l : List Trade} {f : List Nat} (hf : f.length = l.length) {c : Int} {w : Ed} (h : Res (netK l) c (fl f) w) : ∃ t k, l[w.i]? = some t ∧ f[w.i]? = some k ∧ ∃ a ∈ both t k w.i c, ed a = w := by
  obtain ⟨hi, h⟩ := h
  have hi : w.i < l.length := hi
  have e1 : l[w.i]? = some (tr l w.i) := by
    unfold tr
    simp [List.getD_eq_getElem?_getD, hi]
  have hi' : w.i < f.length := by omega
  have e2 : f[w.i]? = some (f.getD w.i 0) := by simp [List.getD_eq_getElem?_getD, hi']
  refine ⟨_, _, e1, e2, ?_⟩
  obtain ⟨u, v, cc, i, sg, cap⟩ := w
  dsimp only at *
  rcases h with ⟨a1, a2, a3, a4, a5, a6⟩ | ⟨a1, a2, a3, a4, a5, a6⟩
  · have q : f.getD i 0 < room (tr l i) := by
      have : fl f i < (room (tr l i) : Int) := a5
      unfold fl at this
      omega
    refine ⟨⟨i, true, (tr l i).from_, (tr l i).to, room (tr l i) - f.getD i 0, c⟩, by unfold both; rw [if_pos q]; simp, ?_⟩
    have e : ((room (tr l i) - f.getD i 0 : Nat) : Int) = cap := by
      have : cap = (room (tr l i) : Int) - fl f i := a6
      unfold fl at this
      omega
    unfold ed
    dsimp only
    rw [e, a1, a2, a3, a4]
    rfl
  · have q : 0 < f.getD i 0 := by
      have : 0 < fl f i := a5
      unfold fl at this
      omega
    refine ⟨⟨i, false, (tr l i).to, (tr l i).from_, f.getD i 0, -c⟩, by unfold both; rw [if_pos q]; simp, ?_⟩
    have e : ((f.getD i 0 : Nat) : Int) = cap := a6.symm
    unfold ed
    dsimp only
    rw [e, a1, a2, a3, a4]
    rfl
theorem mem_keepArcs {l : List Trade} {f : List Nat} {a : VArc} : a ∈ keepArcs l f ↔ ∃ t k i, l[i]? = some t ∧ f[i]? = some k ∧ a ∈ both t k i 1 := by
  unfold keepArcs
  rw [List.mem_flatMap]
  constructor
  · rintro ⟨x, h1, h2⟩
    obtain ⟨e1, e2⟩ := mem_zipz.mp h1
    exact ⟨_, _, _, e1, e2, h2⟩
  · rintro ⟨t, k, i, e1, e2, h⟩
    exact ⟨((t, k), i), mem_zipz.mpr ⟨e1, e2⟩, h⟩
theorem keep_res {l : List Trade} {f : List Nat} {a : VArc} (h : a ∈ keepArcs l f) : Res (netK l) 1 (fl f) (ed a) := by
  obtain ⟨t, k, i, h1, h2, h3⟩ := mem_keepArcs.mp h
  exact (both_res h1 h2 h3).1
theorem res_keep {l : List Trade} {f : List Nat} (hf : f.length = l.length) {w : Ed} (h : Res (netK l) 1 (fl f) w) : ∃ a ∈ keepArcs l f, ed a = w := by
  obtain ⟨t, k, h1, h2, a, h3, h4⟩ := res_both hf h
  exact ⟨a, mem_keepArcs.mpr ⟨t, k, _, h1, h2, h3⟩, h4⟩
theorem res_ends {l : List Trade} {g : Int} {y : Nat → Int} {w : Ed} (h : Res (netK l) g y w) : w.u ∈ membersOf l ∧ w.v ∈ membersOf l := by
  obtain ⟨e1, e2⟩ := end_members h.1
  rcases h.2 with ⟨_, a, b, _⟩ | ⟨_, a, b, _⟩ <;> rw [a, b] <;> first | exact ⟨e1, e2⟩ | exact ⟨e2, e1⟩
theorem path_ed {arcs : List VArc} {src : List Nat} : ∀ {P : List VArc} {v : Nat} {c : Int}, PathW arcs src P v c → Path (P.map ed) (orgn P v) v
  | [], v, c, h => rfl
  | [a], v, c, h => by
    obtain ⟨_, h2, _⟩ := h
    exact ⟨h2, rfl⟩
  | a :: b :: P, v, c, h => by
    obtain ⟨_, h2, c', h3, _⟩ := h
    have := path_ed h3
    unfold orgn at *
    rw [List.getLast?_cons_cons]
    obtain ⟨z, e⟩ : ∃ z, (b :: P).getLast? = some z := ⟨_, List.getLast?_eq_some_getLast (List.cons_ne_nil b P)⟩
    rw [e] at this ⊢
    exact ⟨h2, this⟩
theorem pushed_len (f : List Nat) (P : List VArc) (n : Nat) : (pushed f P n).length = f.length := by unfold pushed; simp
theorem pushed_at {f : List Nat} {P : List VArc} {n i : Nat} (hi : i < f.length) : (pushed f P n).getD i 0 = match P.find? fun a => a.place == i with
    | none => f.getD i 0
    | some a => if a.along = true then f.getD i 0 + n else f.getD i 0 - n := by
  unfold pushed
  simp [List.getD_eq_getElem?_getD, hi]
  cases P.find? (fun a => a.place == i) <;> rfl
theorem pushed_push {A : N} {f : List Nat} {P : List VArc} {n : Nat} {rk : Nat → Nat} {o t : Nat} (hw : ∀ w ∈ P.map ed, Ori A w) (hp : Path (P.map ed) o t) (hr : ∀ w ∈ P.map ed, rk w.u < rk w.v) (hn : ∀ a ∈ P, a.along = false → n ≤ f.getD a.place 0) {i : Nat} (hi : i < f.length) :
    fl (pushed f P n) i = push (fl f) n (P.map ed) i := by
  unfold fl
  rw [pushed_at hi]
  cases e : P.find? fun a => a.place == i with
  | none =>
    have : ∀ w ∈ P.map ed, w.i ≠ i := fun w hm => by
      obtain ⟨a, ha, rfl⟩ := List.mem_map.mp hm
      have := List.find?_eq_none.mp e a ha
      show ¬ a.place = i
      simpa using this
    rw [push_out this]
  | some a =>
    have ha := List.mem_of_find?_eq_some e
    have hb : a.place = i := by
      have := List.find?_some e
      simpa using this
    have hm : ed a ∈ P.map ed := List.mem_map.mpr ⟨a, ha, rfl⟩
    have := push_in (y := fl f) (d := n) hw hp hr (ed a) hm
    have e2 : (ed a).i = i := hb
    rw [e2] at this
    show _ = push (fl f) n (P.map ed) i
    rw [this]
    have hn := hn a ha
    rw [hb] at hn
    show ((if a.along = true then f.getD i 0 + n else f.getD i 0 - n : Nat) : Int) = fl f i + (if a.along = true then 1 else -1) * n
    unfold fl
    cases q : a.along with
    | true =>
      rw [if_pos rfl, if_pos rfl]
      omega
    | false =>
      have := hn q
      rw [if_neg Bool.false_ne_true, if_neg Bool.false_ne_true]
      omega
theorem least_le {d : Nat} : ∀ {l : List Nat}, least d l ≤ d ∧ ∀ x ∈ l, least d l ≤ x
  | [] => ⟨Nat.le_refl _, fun _ h => nomatch h⟩
  | a :: l => by
    obtain ⟨h1, h2⟩ := least_le (d := d) (l := l)
    have e : least d (a :: l) = min a (least d l) := rfl
    rw [e]
    refine ⟨by omega, fun x hx => ?_⟩
    rcases List.mem_cons.mp hx with rfl | hx
    · omega
    · have := h2 x hx
      omega
theorem least_pos {d : Nat} (hd : 1 ≤ d) : ∀ {l : List Nat}, (∀ x ∈ l, 1 ≤ x) → 1 ≤ least d l
  | [], _ => hd
  | a :: l, h => by
    have h1 := least_pos hd (l := l) fun x hx => h x (List.mem_cons_of_mem _ hx)
    have h2 := h a List.mem_cons_self
    have e : least d (a :: l) = min a (least d l) := rfl
    rw [e]
    omega
theorem feas_arcs {l : List Trade} {f : List Nat} {p : Nat → Int} {c : Int} (hF : FeasG (netK l) c p (fl f)) {a : VArc} (h : Res (netK l) c (fl f) (ed a)) : p a.last ≤ p a.first + a.cost := by
  obtain ⟨hi, h⟩ := h
  obtain ⟨f1, f2⟩ := hF _ hi
  rcases h with ⟨_, b1, b2, b3, b4, _⟩ | ⟨_, b1, b2, b3, b4, _⟩
  · have := f1 b4
    have c1 : a.first = (netK l).s (ed a).i := b1
    have c2 : a.last = (netK l).e (ed a).i := b2
    have c3 : a.cost = c := b3
    rw [c1, c2, c3]
    exact this
  · have := f2 b4
    have c1 : a.first = (netK l).e (ed a).i := b1
    have c2 : a.last = (netK l).s (ed a).i := b2
    have c3 : a.cost = -c := b3
    rw [c1, c2, c3]
    omega
structure Kept (l : List Trade) (f : List Nat) : Prop where
  len : f.length = l.length
  bd : Bd (netK l) (fl f)
  feas : ∃ p, FeasG (netK l) 1 p (fl f)
theorem keep_ok {l : List Trade} {B : Nat} (hB : ∀ i, i < (netK l).m → (netK l).s i < B ∧ (netK l).e i < B) (hb : ∀ v, ¬ v < B → bK l v = 0) : ∀ (n : Nat) (f : List Nat), Kept l f → PP (netK l) (bK l) B (fl f) < n →
    Kept l (keep l n f) ∧ ∀ v, bK l v + exc (netK l) (fl (keep l n f)) v = 0
  | 0, f, _, h => by
    have := PP_nn (netK l) (bK l) B (fl f)
    omega
  | n + 1, f, k, h => by
    obtain ⟨p, hF⟩ := k.feas
    have hp : ∀ a ∈ keepArcs l f, p a.last ≤ p a.first + a.cost := fun a ha => feas_arcs hF (keep_res ha)
    generalize hs : ((membersOf l).filter fun m => decide (0 < lacks l f m)) = src
    have hsm : ∀ v ∈ src, v ∈ membersOf l := fun v hv => by rw [← hs] at hv; exact (List.mem_filter.mp hv).1
    have hsl : ∀ v ∈ src, 0 < bK l v + exc (netK l) (fl f) v := fun v hv => by
      rw [← hs] at hv
      have := of_decide_eq_true (List.mem_filter.mp hv).2
      rw [lacks_eq k.len] at this
      exact this
    have hal : ∀ a ∈ keepArcs l f, a.last ∈ membersOf l := fun a ha => (res_ends (keep_res ha)).2
    have out : ∀ v, ¬ v ∈ membersOf l → bK l v + exc (netK l) (fl f) v = 0 := fun v hv => by
      have h : ∀ i, i < (netK l).m → (netK l).s i ≠ v ∧ (netK l).e i ≠ v := fun i hi => by
        obtain ⟨e1, e2⟩ := end_members (l := l) hi
        exact ⟨fun e => hv (e ▸ e1), fun e => hv (e ▸ e2)⟩
      have e := bK_eq l v
      rw [exc_out h] at e ⊢
      exact e
    have hfix : Fixed (netK l) 1 (fl f) (lab (ways (keepArcs l f) src (membersOf l).length)) := fun w hw a ha => by
      obtain ⟨x, hx, rfl⟩ := res_keep k.len hw
      exact ways_fixed hp hsm hal hx ha
    have step : keep l (n + 1) f = match bestWay (ways (keepArcs l f) src (membersOf l).length) ((membersOf l).filter fun m => decide (lacks l f m < 0)) with
      | none => f
      | some w => keep l n (pushed f w.steps (least (lacks l f (origin w)).toNat ((-(lacks l f w.goal)).toNat :: w.steps.map fun a => a.most))) := by
      rw [← hs]
      rfl
    rw [step]
    cases e : bestWay (ways (keepArcs l f) src (membersOf l).length) ((membersOf l).filter fun m => decide (lacks l f m < 0)) with
    | none =>
      show Kept l f ∧ ∀ v, bK l v + exc (netK l) (fl f) v = 0
      refine ⟨k, ?_⟩
      refine balanced (R := fun v => lab (ways (keepArcs l f) src (membersOf l).length) v ≠ none) (z := fl (rooms l)) (fun i hi => ?_) (bK_eq l) k.bd (fun v hv => ?_) (fun v hv => ?_) (fun i hi => ?_)
      · rw [fl_rooms l hi]
        exact ⟨by omega, Int.le_refl _⟩
      · have hm : v ∈ membersOf l := by
          by_cases q : v ∈ membersOf l
          · exact q
          · have := out v q; omega
        have : v ∈ src := by
          rw [← hs]
          exact List.mem_filter.mpr ⟨hm, decide_eq_true (by rw [lacks_eq k.len]; exact hv)⟩
        obtain ⟨b, hb, _⟩ := ways_all hp hsm hal (Wk.src this)
        rw [hb]
        exact Option.some_ne_none _
      · by_cases q : 0 ≤ bK l v + exc (netK l) (fl f) v
        · exact q
        · exfalso
          have hm : v ∈ membersOf l := by
            by_cases q : v ∈ membersOf l
            · exact q
            · have := out v q; omega
          have := best_none e v (List.mem_filter.mpr ⟨hm, decide_eq_true (by rw [lacks_eq k.len]; omega)⟩)
          exact hv (by unfold lab; rw [this]; rfl)
      · constructor
        · intro hy hR
          cases q : lab (ways (keepArcs l f) src (membersOf l).length) ((netK l).s i) with
          | none => exact absurd q hR
          | some a =>
            obtain ⟨b, hb, _⟩ := hfix ⟨(netK l).s i, (netK l).e i, 1, i, 1, (netK l).r i - fl f i⟩ ⟨hi, .inl ⟨rfl, rfl, rfl, rfl, hy, rfl⟩⟩ a q
            rw [hb]
            exact Option.some_ne_none _
        · intro hy hR
          cases q : lab (ways (keepArcs l f) src (membersOf l).length) ((netK l).e i) with
          | none => exact absurd q hR
          | some a =>
            obtain ⟨b, hb, _⟩ := hfix ⟨(netK l).e i, (netK l).s i, -1, i, -1, fl f i⟩ ⟨hi, .inr ⟨rfl, rfl, rfl, rfl, hy, rfl⟩⟩ a q
            rw [hb]
            exact Option.some_ne_none _
    | some w =>
      dsimp only
      obtain ⟨m, hm, hw⟩ := best_some e
      obtain ⟨hmm, hml⟩ := List.mem_filter.mp hm
      have hml := of_decide_eq_true hml
      obtain ⟨pw, hg⟩ := good_ways _ _ _ hw
      have tight := ways_tight hp hsm hal pw (lab_of hw)
      have ho : origin w ∈ src := by
        have := path_origin pw
        rw [← hg] at this
        exact this
      have hpath : Path (w.steps.map ed) (origin w) m := by
        have := path_ed pw
        rw [← hg] at this ⊢
        exact this
      have wres : ∀ x ∈ w.steps.map ed, Res (netK l) 1 (fl f) x := fun x hx => by
        obtain ⟨a, ha, rfl⟩ := List.mem_map.mp hx
        exact keep_res (tight a ha).1
      have wt : ∀ x ∈ w.steps.map ed, Tight (lab (ways (keepArcs l f) src (membersOf l).length)) x := fun x hx => by
        obtain ⟨a, ha, rfl⟩ := List.mem_map.mp hx
        exact (tight a ha).2
      generalize hd : least (lacks l f (origin w)).toNat ((-(lacks l f w.goal)).toNat :: w.steps.map fun a => a.most) = d
      obtain ⟨d1, d2⟩ := least_le (d := (lacks l f (origin w)).toNat) (l := (-(lacks l f w.goal)).toNat :: w.steps.map fun a => a.most)
      rw [hd] at d1 d2
      have lo := hsl _ ho
      rw [← lacks_eq k.len] at lo
      have d3 := d2 _ List.mem_cons_self
      rw [hg] at d3
      have dpos : 1 ≤ d := by
        rw [← hd]
        refine least_pos (by omega) fun x hx => ?_
        rcases List.mem_cons.mp hx with rfl | hx
        · rw [hg]; omega
        · obtain ⟨a, ha, rfl⟩ := List.mem_map.mp hx
          have r := keep_res (tight a ha).1
          have bdi := k.bd _ r.1
          rcases r.2 with ⟨_, _, _, _, r5, r6⟩ | ⟨_, _, _, _, r5, r6⟩
          · have : (a.most : Int) = _ := r6
            omega
          · have : (a.most : Int) = _ := r6
            omega
      have dcap : ∀ x ∈ w.steps.map ed, (d : Int) ≤ x.cap := fun x hx => by
        obtain ⟨a, ha, rfl⟩ := List.mem_map.mp hx
        have := d2 a.most (List.mem_cons_of_mem _ (List.mem_map.mpr ⟨a, ha, rfl⟩))
        show (d : Int) ≤ (a.most : Int)
        omega
      obtain ⟨a1, a2, a3⟩ := aug hB hb k.bd hF hfix wres hpath wt (d := d) (by omega) dcap (by rw [← lacks_eq k.len]; omega) (by rw [← lacks_eq k.len]; omega)
      have hpl : (pushed f w.steps d).length = l.length := (pushed_len _ _ _).trans k.len
      have same : ∀ i, i < (netK l).m → push (fl f) d (w.steps.map ed) i = fl (pushed f w.steps d) i := fun i hi =>
        (pushed_push (fun x hx => (wres x hx).ori) hpath (fun x hx => (wt x hx).rank) (fun a ha hl => by
          have r := keep_res (tight a ha).1
          have c := dcap (ed a) (List.mem_map.mpr ⟨a, ha, rfl⟩)
          rcases r.2 with ⟨r1, _⟩ | ⟨_, _, _, _, _, r6⟩
          · have : (if a.along = true then (1 : Int) else -1) = 1 := r1
            rw [hl] at this
            simp at this
          · rw [r6] at c
            have : (d : Int) ≤ ((f.getD a.place 0 : Nat) : Int) := c
            omega) (by rw [k.len]; exact hi)).symm
      refine keep_ok hB hb n _ ⟨hpl, a1.congr same, let ⟨q, hq⟩ := a2; ⟨q, hq.congr same⟩⟩ ?_
      rw [← PP_congr same]
      omega
end SP
end
section
namespace SP
open NT
open Vbchad (Trade Way wayTo ways bestWay room rooms outOf into membersOf number keepArcs lacks keep leastKept someGreatest greatestOf pushed least potentialOf worthOf boundOf raised raise potentials isReduction)
theorem fl_zero (l : List Trade) (i : Nat) : fl (l.map fun _ => 0) i = 0 := by
  unfold fl
  rw [List.getD_eq_getElem?_getD, List.getElem?_map]
  cases l[i]? <;> rfl
theorem kept_zero (l : List Trade) : Kept l (l.map fun _ => 0) where
  len := List.length_map _
  bd := fun i hi => by
    rw [fl_zero]
    exact ⟨Int.le_refl _, Int.natCast_nonneg _⟩
  feas := ⟨fun _ => 0, fun i hi => by
    rw [fl_zero]
    exact ⟨fun _ => (by show (0 : Int) ≤ 0 + 1; decide), fun h => absurd h (by omega)⟩⟩
theorem S_pos_single {p : Nat → Int} (f : Nat → Nat) (m B : Nat) (h : ∀ i, i < m → f i < B) : S B (fun v => S m fun i => if f i = v then p i else 0) = S m p := by
  rw [S_swap]
  refine S_congr fun i hi => ?_
  rw [S_single, if_pos (h i hi)]
theorem PP_zero (l : List Trade) {B : Nat} (hB : ∀ i, i < (netK l).m → (netK l).s i < B ∧ (netK l).e i < B) : PP (netK l) (bK l) B (fl (l.map fun _ => 0)) ≤ Vbchad.sum (rooms l) := by
  have e : (Vbchad.sum (rooms l) : Int) = S B (fun v => (outOf l (rooms l) v : Int)) := by
    have : S B (fun v => (outOf l (rooms l) v : Int)) = S B (fun v => S l.length fun i => if (tr l i).from_ = v then fl (rooms l) i else 0) := S_congr fun v _ => out_eq (rooms_len l) v
    rw [this, S_pos_single (p := fl (rooms l)) (fun i => (tr l i).from_) l.length B fun i hi => (hB i hi).1, sum_S, rooms_len]
  rw [e]
  refine S_le fun v _ => ?_
  have e0 : exc (netK l) (fl (l.map fun _ => 0)) v = 0 := by
    have : exc (netK l) (fl (l.map fun _ => 0)) v = S (netK l).m (fun _ => 0) := S_congr fun i _ => by rw [fl_zero]; simp
    rw [this, S_zero]
  rw [e0]
  unfold bK pos
  split <;> omega
theorem leastKept_ok (l : List Trade) : Kept l (leastKept l) ∧ ∀ v, bK l v + exc (netK l) (fl (leastKept l)) v = 0 := by
  obtain ⟨B, hB⟩ := verts (netK l)
  refine keep_ok hB (fun v hv => ?_) _ _ (kept_zero l) ?_
  · have e := bK_eq l v
    rw [exc_out fun i hi => by have := hB i hi; omega] at e
    omega
  · have := PP_zero l hB
    omega
theorem someGreatest_len (l : List Trade) : (someGreatest l).length = l.length := by
  have := (leastKept_ok l).1.len
  unfold someGreatest
  rw [List.length_map, List.length_zip, this, Nat.min_self]
theorem fl_someGreatest (l : List Trade) {i : Nat} (hi : i < l.length) : fl (someGreatest l) i = (room (tr l i) : Int) - fl (leastKept l) i := by
  have k := (leastKept_ok l).1
  have hk : i < (leastKept l).length := by rw [k.len]; exact hi
  have b := k.bd i hi
  have e : fl (someGreatest l) i = ((room (tr l i) - (leastKept l).getD i 0 : Nat) : Int) := by
    have z : (l.zip (leastKept l))[i]? = some (l[i], (leastKept l)[i]) := by
      rw [List.getElem?_zip_eq_some]
      simp [hi, hk]
    unfold fl someGreatest tr
    simp [List.getD_eq_getElem?_getD, hi, hk, z]
  have b2 : fl (leastKept l) i ≤ (room (tr l i) : Int) := b.2
  rw [e]
  unfold fl at *
  omega
theorem someGreatest_opt (l : List Trade) : Opt (netK l) (fl (someGreatest l)) := by
  obtain ⟨k, z⟩ := leastKept_ok l
  have e : ∀ i, i < (netK l).m → fl (rooms l) i - fl (leastKept l) i = fl (someGreatest l) i := fun i hi => by
    rw [fl_someGreatest l hi, fl_rooms l hi]
  refine Opt.congr (x := fun i => fl (rooms l) i - fl (leastKept l) i) e ⟨fun i hi => ?_, fun v => ?_, ?_⟩
  · have b := k.bd i hi
    show 0 ≤ fl (rooms l) i - fl (leastKept l) i ∧ fl (rooms l) i - fl (leastKept l) i ≤ (room (tr l i) : Int)
    have : fl (leastKept l) i ≤ (room (tr l i) : Int) := b.2
    rw [fl_rooms l hi]
    omega
  · have e1 : exc (netK l) (fun i => fl (rooms l) i - fl (leastKept l) i) v = exc (netK l) (fl (rooms l)) v - exc (netK l) (fl (leastKept l)) v := by
      unfold exc
      rw [← S_sub]
      refine S_congr fun i _ => ?_
      dsimp only
      split <;> split <;> omega
    have := z v
    have := bK_eq l v
    omega
  · obtain ⟨p, hp⟩ := k.feas
    refine ⟨p, fun i hi => ?_⟩
    obtain ⟨f1, f2⟩ := hp i hi
    have b := k.bd i hi
    unfold worth
    have b2 : fl (leastKept l) i ≤ (netK l).r i := b.2
    have er : (netK l).r i = fl (rooms l) i := (fl_rooms l hi).symm
    dsimp only
    constructor
    · intro h
      have := f2 (by omega)
      omega
    · intro h
      have := f1 (by omega)
      omega
theorem greatestOf_eq (l : List Trade) : (greatestOf l : Int) = total (netK l) (fl (someGreatest l)) := by
  unfold greatestOf
  rw [sum_S, someGreatest_len]
  rfl
/-- the greatest total is any optimum's -/
theorem greatestOf_opt {l : List Trade} {x : Nat → Int} (h : Opt (netK l) x) : (greatestOf l : Int) = total (netK l) x := by
  rw [greatestOf_eq]
  exact (someGreatest_opt l).total_eq h
/-! ### reductions -/
theorem isReduction_iff {l : List Trade} {f : List Nat} (h : f.length = l.length) : isReduction l f = true ↔ Bd (netK l) (fl f) ∧ Circ (netK l) (fl f) := by
  unfold isReduction
  rw [Bool.and_eq_true, Bool.and_eq_true, beq_iff_eq, List.all_eq_true, List.all_eq_true]
  constructor
  · rintro ⟨_, h1, h2⟩
    refine ⟨fun i hi => ?_, fun v => ?_⟩
    · have hi : i < l.length := hi
      have hi' : i < f.length := by omega
      have := h1 (tr l i, f.getD i 0) (List.mem_iff_getElem?.mpr ⟨i, by
        rw [List.getElem?_zip_eq_some]
        unfold tr
        simp [List.getD_eq_getElem?_getD, hi, hi']⟩)
      have := of_decide_eq_true this
      exact ⟨Int.natCast_nonneg _, Int.ofNat_le.mpr this⟩
    · by_cases q : v ∈ membersOf l
      · have := h2 v q
        rw [beq_iff_eq] at this
        rw [exc_eq h, this]
        omega
      · exact exc_out fun i hi => by
          obtain ⟨e1, e2⟩ := end_members (l := l) hi
          exact ⟨fun e => q (e ▸ e1), fun e => q (e ▸ e2)⟩
  · rintro ⟨b, c⟩
    refine ⟨h, fun x hx => ?_, fun v hv => ?_⟩
    · obtain ⟨i, hi⟩ := List.mem_iff_getElem?.mp hx
      obtain ⟨h1, h2⟩ := List.getElem?_zip_eq_some.mp hi
      obtain ⟨i1, i2⟩ := tr_some h1
      have := (b i i1).2
      rw [fl_some h2] at this
      have e : (netK l).r i = (room (tr l i) : Int) := rfl
      rw [e, i2] at this
      exact decide_eq_true (by omega)
    · rw [beq_iff_eq]
      have := c v
      rw [exc_eq h] at this
      omega
/-! ### the network by the members' places -/
def netI (ms : List Nat) (l : List Trade) : N := ⟨l.length, fun i => ms.idxOf (tr l i).from_, fun i => ms.idxOf (tr l i).to, fun i => (room (tr l i) : Int)⟩
theorem idx_get {ms : List Nat} {m : Nat} (h : m ∈ ms) : ms.getD (ms.idxOf m) 0 = m := by
  have := List.idxOf_lt_length_of_mem h
  rw [List.getD_eq_getElem?_getD, List.getElem?_eq_getElem this, Option.getD_some, List.getElem_idxOf]
theorem iso_IK {ms : List Nat} {l : List Trade} (h : ∀ m ∈ membersOf l, m ∈ ms) : Iso (netI ms l) (netK l) (fun k => ms.idxOf k) (fun j => ms.getD j 0) where
  m := rfl
  r := fun _ _ => rfl
  s := fun i hi => ⟨rfl, (idx_get (h _ (end_members hi).1)).symm⟩
  e := fun i hi => ⟨rfl, (idx_get (h _ (end_members hi).2)).symm⟩
theorem find_zip {ms : List Nat} : ∀ {p : List Int} {m : Nat}, p.length = ms.length → potentialOf ms p m = p.getD (ms.idxOf m) 0 := by
  unfold potentialOf
  induction ms with
  | nil =>
    intro p m h
    have : p = [] := List.length_eq_zero_iff.mp h
    subst this
    rfl
  | cons a ms ih =>
    intro p m h
    cases p with
    | nil => simp at h
    | cons z p =>
      rw [List.zip_cons_cons, List.find?_cons, List.idxOf_cons]
      by_cases e : a = m
      · subst e
        simp
      · have : (a == m) = false := beq_eq_false_iff_ne.mpr e
        simp only [this, cond_false]
        rw [ih (by simpa using h)]
        simp
def pf (p : List Int) (j : Nat) : Int := p.getD j 0
theorem worthOf_eq {ms : List Nat} {l : List Trade} {p : List Int} (h : p.length = ms.length) (i : Nat) : worthOf ms p (tr l i) = worth (netI ms l) (pf p) i := by
  unfold worthOf worth
  rw [find_zip h, find_zip h]
  show 1 + (pf p (ms.idxOf (tr l i).from_) - pf p (ms.idxOf (tr l i).to)) = 1 + pf p (ms.idxOf (tr l i).from_) - pf p (ms.idxOf (tr l i).to)
  omega
theorem map_S : ∀ (l : List Trade) (g : Trade → Int), (l.map g).foldr (fun a b => a + b) 0 = S l.length (fun i => g (tr l i))
  | [], _ => rfl
  | t :: l, g => by
    rw [List.length_cons, S_front, List.map_cons, List.foldr_cons, map_S l g]
    rfl
theorem boundOf_eq {l : List Trade} {p : List Int} (h : p.length = (membersOf l).length) : boundOf l p = bound (netI (membersOf l) l) (pf p) := by
  unfold boundOf bound
  rw [map_S]
  refine S_congr fun i _ => ?_
  rw [worthOf_eq h]
  rfl
end SP
end
section
namespace NT
/-! Least potentials: there are such; so many rounds as vertices reach them. -/
theorem least_nat {P : Nat → Prop} : ∀ n, P n → ∃ k, P k ∧ ∀ j, P j → k ≤ j := by
  intro n
  induction n using Nat.strongRecOn with
  | ind n ih =>
    intro h
    by_cases q : ∃ j, P j ∧ j < n
    · obtain ⟨j, h1, h2⟩ := q
      exact ih j h2 h1
    · exact ⟨n, h, fun j hj => by
        by_cases z : n ≤ j
        · exact z
        · exact absurd ⟨j, hj, by omega⟩ q⟩
theorem leastPot_ex {A : N} {n : Nat} {x : Nat → Int} (hn : ∀ i, i < A.m → A.s i < n ∧ A.e i < n) (h : ∃ p, Feas A p x) : ∃ p, LeastPot A n x p := by
  obtain ⟨p0, h0⟩ := h
  obtain ⟨B, hB⟩ := bound_ex (fun v => - p0 v) n
  let q0 : Nat → Int := fun v => p0 v + B
  have f0 : Feas A q0 x := fun i hi => by
    have := h0 i hi
    unfold worth at *
    show (_ → 1 + (p0 (A.s i) + B) - (p0 (A.e i) + B) ≤ 0) ∧ (_ → 0 ≤ 1 + (p0 (A.s i) + B) - (p0 (A.e i) + B))
    omega
  have n0 : ∀ v, v < n → 0 ≤ q0 v := fun v hv => by
    have := hB v hv
    show 0 ≤ p0 v + B
    omega
  have ex : ∀ v, ∃ k : Nat, v < n → (∃ q, Feas A q x ∧ (∀ v, v < n → 0 ≤ q v) ∧ q v = k) ∧ ∀ q, Feas A q x → (∀ v, v < n → 0 ≤ q v) → (k : Int) ≤ q v := fun v => by
    by_cases hv : v < n
    · obtain ⟨k, ⟨q, a, b, c⟩, hk⟩ := least_nat (P := fun k => ∃ q, Feas A q x ∧ (∀ v, v < n → 0 ≤ q v) ∧ q v = (k : Int)) (q0 v).toNat ⟨q0, f0, n0, by have := n0 v hv; omega⟩
      refine ⟨k, fun _ => ⟨⟨q, a, b, c⟩, fun q' a' b' => ?_⟩⟩
      have := hk (q' v).toNat ⟨q', a', b', by have := b' v hv; omega⟩
      have := b' v hv
      omega
    · exact ⟨0, fun z => absurd z hv⟩
  let p : Nat → Int := fun v => ((Classical.choose (ex v) : Nat) : Int)
  have sp : ∀ v, v < n → (∃ q, Feas A q x ∧ (∀ v, v < n → 0 ≤ q v) ∧ q v = p v) ∧ ∀ q, Feas A q x → (∀ v, v < n → 0 ≤ q v) → p v ≤ q v := fun v hv => Classical.choose_spec (ex v) hv
  refine ⟨p, fun i hi => ?_, fun v _ => Int.natCast_nonneg _, fun q a b v hv => (sp v hv).2 q a b⟩
  obtain ⟨v1, v2⟩ := hn i hi
  obtain ⟨⟨q1, a1, b1, c1⟩, m1⟩ := sp _ v1
  obtain ⟨⟨q2, a2, b2, c2⟩, m2⟩ := sp _ v2
  have r1 := m1 q2 a2 b2
  have r2 := m2 q1 a1 b1
  have t1 := a1 i hi
  have t2 := a2 i hi
  unfold worth at *
  constructor
  · intro hy
    have := t2.1 hy
    omega
  · intro hy
    have := t1.2 hy
    omega
theorem LeastPot.of_opt {A : N} {n : Nat} {x y p : Nat → Int} (hx : Opt A x) (hy : Opt A y) (h : LeastPot A n x p) : LeastPot A n y p :=
  ⟨hx.feas_of hy h.feas, h.nn, fun q a b => h.least q (hy.feas_of hx a) b⟩
/-! ### the rounds -/
/-- the vertices whose value the k-th round has at the latest -/
def T (A : N) (x p : Nat → Int) : Nat → Nat → Prop
  | 0, v => p v = 0
  | k + 1, v => T A x p k v ∨ (∃ i, i < A.m ∧ x i < A.r i ∧ A.e i = v ∧ T A x p k (A.s i) ∧ p v = p (A.s i) + 1) ∨ (∃ i, i < A.m ∧ 0 < x i ∧ A.s i = v ∧ T A x p k (A.e i) ∧ p v = p (A.e i) - 1)
theorem S_lt {f g : Nat → Int} {n : Nat} (h : ∀ i, i < n → f i ≤ g i) {j : Nat} (hj : j < n) (l : f j < g j) : S n f + 1 ≤ S n g := by
  have := S_le h
  by_cases e : S n f = S n g
  · have := S_eq_of_le h e j hj
    omega
  · omega
theorem S_one : ∀ n : Nat, S n (fun _ => 1) = n
  | 0 => rfl
  | n + 1 => by rw [S_succ, S_one n]; omega
theorem T_grows {A : N} {n : Nat} {x p : Nat → Int} (hn : ∀ i, i < A.m → A.s i < n ∧ A.e i < n) (h : LeastPot A n x p) (k : Nat) (hv : ∃ v, v < n ∧ ¬ T A x p k v) : ∃ v, v < n ∧ ¬ T A x p k v ∧ T A x p (k + 1) v := by
  classical
  by_cases g : ∃ v, v < n ∧ ¬ T A x p k v ∧ T A x p (k + 1) v
  · exact g
  · exfalso
    have same : ∀ v, v < n → T A x p (k + 1) v → T A x p k v := fun v hv z => by
      by_cases q : T A x p k v
      · exact q
      · exact absurd ⟨v, hv, q, z⟩ g
    have zero : ∀ v, ∀ k, p v = 0 → T A x p k v := fun v k z => by
      induction k with
      | zero => exact z
      | succ k ih => exact .inl ih
    let q : Nat → Int := fun v => if T A x p k v then p v else p v - 1
    have qt : ∀ {v}, T A x p k v → q v = p v := fun h => if_pos h
    have qf : ∀ {v}, ¬ T A x p k v → q v = p v - 1 := fun h => if_neg h
    have hq : Feas A q x := fun i hi => by
      obtain ⟨f1, f2⟩ := h.feas i hi
      obtain ⟨v1, v2⟩ := hn i hi
      unfold worth at *
      constructor
      · intro hy
        have f1 := f1 hy
        by_cases a : T A x p k (A.s i) <;> by_cases b : T A x p k (A.e i)
        · rw [qt a, qt b]; exact f1
        · rw [qt a, qf b]
          have : ¬ p (A.e i) = p (A.s i) + 1 := fun z => b (same _ v2 (.inr (.inl ⟨i, hi, hy, rfl, a, z⟩)))
          omega
        · rw [qf a, qt b]; omega
        · rw [qf a, qf b]; omega
      · intro hy
        have f2 := f2 hy
        by_cases a : T A x p k (A.s i) <;> by_cases b : T A x p k (A.e i)
        · rw [qt a, qt b]; exact f2
        · rw [qt a, qf b]; omega
        · rw [qf a, qt b]
          have : ¬ p (A.s i) = p (A.e i) - 1 := fun z => a (same _ v1 (.inr (.inr ⟨i, hi, hy, rfl, b, z⟩)))
          omega
        · rw [qf a, qf b]; omega
    have n0 : ∀ v, v < n → 0 ≤ q v := fun v hv => by
      have := h.nn v hv
      by_cases a : T A x p k v
      · rw [qt a]; exact this
      · rw [qf a]
        have : p v ≠ 0 := fun z => a (zero v k z)
        omega
    obtain ⟨v, hv, nv⟩ := hv
    have := h.least q hq n0 v hv
    rw [qf nv] at this
    omega
theorem T_all {A : N} {n : Nat} {x p : Nat → Int} (hn : ∀ i, i < A.m → A.s i < n ∧ A.e i < n) (h : LeastPot A n x p) : ∀ v, v < n → T A x p n v := by
  classical
  have key : ∀ k, (∀ v, v < n → T A x p k v) ∨ (k : Int) ≤ S n (fun v => if T A x p k v then 1 else 0) := by
    intro k
    induction k with
    | zero => exact .inr (S_nonneg fun i _ => by split <;> decide)
    | succ k ih =>
      rcases ih with ih | ih
      · exact .inl fun v hv => .inl (ih v hv)
      · by_cases g : ∃ v, v < n ∧ ¬ T A x p k v
        · obtain ⟨v, hv, a, b⟩ := T_grows hn h k g
          have := S_lt (f := fun v => if T A x p k v then 1 else 0) (g := fun v => if T A x p (k + 1) v then 1 else 0) (n := n) (fun i _ => by
            by_cases q : T A x p k i
            · have q' : T A x p (k + 1) i := .inl q
              simp [q, q']
            · simp only [q, if_false]
              split <;> decide) hv (by simp [a, b])
          exact .inr (by omega)
        · exact .inl fun v hv => .inl (by
            by_cases q : T A x p k v
            · exact q
            · exact absurd ⟨v, hv, q⟩ g)
  rcases key n with k | k
  · exact k
  · intro v hv
    have z : S n (fun v => 1 - if T A x p n v then 1 else 0) ≤ 0 := by
      rw [S_sub, S_one]
      omega
    have := S_nonneg_zero (fun i _ => by split <;> decide) z v hv
    by_cases q : T A x p n v
    · exact q
    · rw [if_neg q] at this
      omega
/-- a sequence of rounds that begins at 0 and never passes the least ones -/
theorem rounds {A : N} {n : Nat} {x p : Nat → Int} (hn : ∀ i, i < A.m → A.s i < n ∧ A.e i < n) (h : LeastPot A n x p) (R : Nat → Nat → Int) (h0 : ∀ v, v < n → R 0 v = 0) (up : ∀ k v, v < n → R k v ≤ R (k + 1) v)
    (hs : ∀ k i, i < A.m → (x i < A.r i → R k (A.s i) + 1 ≤ R (k + 1) (A.e i)) ∧ (0 < x i → R k (A.e i) - 1 ≤ R (k + 1) (A.s i)))
    (le : ∀ k v U, v < n → R k v ≤ U → (∀ i, i < A.m → x i < A.r i → A.e i = v → R k (A.s i) + 1 ≤ U) → (∀ i, i < A.m → 0 < x i → A.s i = v → R k (A.e i) - 1 ≤ U) → R (k + 1) v ≤ U) : ∀ v, v < n → R n v = p v := by
  have below : ∀ k v, v < n → R k v ≤ p v := by
    intro k
    induction k with
    | zero =>
      intro v hv
      rw [h0 v hv]
      exact h.nn v hv
    | succ k ih =>
      intro v hv
      refine le k v _ hv (ih v hv) (fun i hi hy e => ?_) (fun i hi hy e => ?_)
      · have := (h.feas i hi).1 hy
        have := ih _ (hn i hi).1
        unfold worth at *
        rw [← e]
        omega
      · have := (h.feas i hi).2 hy
        have := ih _ (hn i hi).2
        unfold worth at *
        rw [← e]
        omega
  have hit : ∀ k v, v < n → T A x p k v → R k v = p v := by
    intro k
    induction k with
    | zero =>
      intro v hv t
      rw [h0 v hv]
      exact t.symm
    | succ k ih =>
      intro v hv t
      have b := below (k + 1) v hv
      rcases t with t | ⟨i, hi, hy, e, t, z⟩ | ⟨i, hi, hy, e, t, z⟩
      · have := ih v hv t
        have := up k v hv
        omega
      · have := ih _ (hn i hi).1 t
        have := (hs k i hi).1 hy
        rw [e] at this
        omega
      · have := ih _ (hn i hi).2 t
        have := (hs k i hi).2 hy
        rw [e] at this
        omega
  exact fun v hv => hit n v hv (T_all hn h v hv)
end NT
end
section
namespace SP
open NT
open Vbchad (Trade Way wayTo ways bestWay room rooms outOf into membersOf number keepArcs lacks keep leastKept someGreatest greatestOf pushed least potentialOf worthOf boundOf raised raise potentials isReduction)
/-! The specification's potentials are the least ones. -/
def rfold (ms : List Nat) (p : List Int) (m : Nat) (q : Int) (x : Trade × Nat) : Int :=
  if x.1.from_ = m ∧ 0 < x.2 then max (if x.1.to = m ∧ x.2 < room x.1 then max q (potentialOf ms p x.1.from_ + 1) else q) (potentialOf ms p x.1.to - 1) else (if x.1.to = m ∧ x.2 < room x.1 then max q (potentialOf ms p x.1.from_ + 1) else q)
theorem raised_eq (l : List Trade) (f ms : List Nat) (p : List Int) : raised l f ms p = ms.map fun m => (l.zip f).foldl (rfold ms p m) (potentialOf ms p m) := rfl
theorem rfold_up (ms : List Nat) (p : List Int) (m : Nat) : ∀ (xs : List (Trade × Nat)) (q : Int), q ≤ xs.foldl (rfold ms p m) q ∧ (∀ x ∈ xs, (x.1.to = m ∧ x.2 < room x.1 → potentialOf ms p x.1.from_ + 1 ≤ xs.foldl (rfold ms p m) q) ∧ (x.1.from_ = m ∧ 0 < x.2 → potentialOf ms p x.1.to - 1 ≤ xs.foldl (rfold ms p m) q))
  | [], q => ⟨Int.le_refl _, fun _ h => nomatch h⟩
  | y :: xs, q => by
    obtain ⟨h1, h2⟩ := rfold_up ms p m xs (rfold ms p m q y)
    rw [List.foldl_cons]
    have a1 : q ≤ rfold ms p m q y := by unfold rfold; split <;> split <;> omega
    refine ⟨by omega, fun x hx => ?_⟩
    rcases List.mem_cons.mp hx with rfl | hx
    · constructor
      · intro c
        have : potentialOf ms p x.1.from_ + 1 ≤ rfold ms p m q x := by
          unfold rfold
          rw [if_pos c]
          split <;> omega
        omega
      · intro c
        have : potentialOf ms p x.1.to - 1 ≤ rfold ms p m q x := by
          unfold rfold
          rw [if_pos c]
          omega
        omega
    · exact h2 x hx
theorem rfold_le (ms : List Nat) (p : List Int) (m : Nat) (U : Int) : ∀ (xs : List (Trade × Nat)) (q : Int), q ≤ U → (∀ x ∈ xs, (x.1.to = m ∧ x.2 < room x.1 → potentialOf ms p x.1.from_ + 1 ≤ U) ∧ (x.1.from_ = m ∧ 0 < x.2 → potentialOf ms p x.1.to - 1 ≤ U)) → xs.foldl (rfold ms p m) q ≤ U
  | [], q, h, _ => h
  | y :: xs, q, h, hx => by
    rw [List.foldl_cons]
    refine rfold_le ms p m U xs _ ?_ fun x hm => hx x (List.mem_cons_of_mem _ hm)
    obtain ⟨a, b⟩ := hx y List.mem_cons_self
    unfold rfold
    split
    · rename_i c
      have := b c
      split
      · rename_i d
        have := a d
        omega
      · omega
    · split
      · rename_i d
        have := a d
        omega
      · exact h
theorem raised_len (l : List Trade) (f ms : List Nat) (p : List Int) : (raised l f ms p).length = ms.length := by rw [raised_eq]; simp
theorem raise_succ (l : List Trade) (f ms : List Nat) : ∀ (k : Nat) (p : List Int), raise l f ms (k + 1) p = raised l f ms (raise l f ms k p)
  | 0, _ => rfl
  | k + 1, p => by
    show raise l f ms (k + 1) (raised l f ms p) = raised l f ms (raise l f ms k (raised l f ms p))
    rw [raise_succ l f ms k]
theorem zip_mem {l : List Trade} {f : List Nat} (h : f.length = l.length) {i : Nat} (hi : i < l.length) : (tr l i, f.getD i 0) ∈ l.zip f := by
  refine List.mem_iff_getElem?.mpr ⟨i, ?_⟩
  have hi' : i < f.length := by omega
  rw [List.getElem?_zip_eq_some]
  unfold tr
  simp [List.getD_eq_getElem?_getD, hi, hi']
theorem mem_zip {l : List Trade} {f : List Nat} {x : Trade × Nat} (h : x ∈ l.zip f) : ∃ i, i < l.length ∧ tr l i = x.1 ∧ fl f i = x.2 := by
  obtain ⟨i, hi⟩ := List.mem_iff_getElem?.mp h
  obtain ⟨h1, h2⟩ := List.getElem?_zip_eq_some.mp hi
  obtain ⟨i1, i2⟩ := tr_some h1
  exact ⟨i, i1, i2, fl_some h2⟩
theorem members_nodup (l : List Trade) : (membersOf l).Nodup := (members_sorted l).imp fun h => Nat.ne_of_lt h
theorem idx_of_get {ms : List Nat} (hn : ms.Nodup) {j : Nat} (hj : j < ms.length) : ms.idxOf (ms[j]) = j := hn.idxOf_getElem j hj
theorem raised_at {l : List Trade} {f ms : List Nat} {p : List Int} {j : Nat} (hj : j < ms.length) : pf (raised l f ms p) j = (l.zip f).foldl (rfold ms p ms[j]) (potentialOf ms p ms[j]) := by
  rw [raised_eq]
  unfold pf
  simp [List.getD_eq_getElem?_getD, hj]
theorem potentials_len (l : List Trade) : ∀ k p, p.length = (membersOf l).length → (raise l (someGreatest l) (membersOf l) k p).length = (membersOf l).length
  | 0, _, h => h
  | k + 1, p, _ => by rw [raise_succ]; exact raised_len _ _ _ _
theorem netI_ends {ms : List Nat} {l : List Trade} (h : ∀ m ∈ membersOf l, m ∈ ms) : ∀ i, i < (netI ms l).m → (netI ms l).s i < ms.length ∧ (netI ms l).e i < ms.length := fun i hi =>
  ⟨List.idxOf_lt_length_of_mem (h _ (end_members hi).1), List.idxOf_lt_length_of_mem (h _ (end_members hi).2)⟩
theorem pf_zero (ms : List Nat) (v : Nat) : pf (ms.map fun _ => (0 : Int)) v = 0 := by
  unfold pf
  rw [List.getD_eq_getElem?_getD, List.getElem?_map]
  cases ms[v]? <;> rfl
theorem potentials_at {l : List Trade} {p : Nat → Int} (h : LeastPot (netI (membersOf l) l) (membersOf l).length (fl (someGreatest l)) p) : ∀ v, v < (membersOf l).length → pf (potentials l) v = p v := by
  have hl : ∀ k, (raise l (someGreatest l) (membersOf l) k ((membersOf l).map fun _ => 0)).length = (membersOf l).length := fun k => potentials_len l k _ (List.length_map _)
  have fz := someGreatest_len l
  refine rounds (netI_ends fun m hm => hm) h (fun k => pf (raise l (someGreatest l) (membersOf l) k ((membersOf l).map fun _ => 0))) (fun v _ => pf_zero _ v) (fun k v hv => ?_) (fun k i hi => ?_) (fun k v U hv h1 h2 h3 => ?_)
  · rw [raise_succ, raised_at hv]
    have := (rfold_up (membersOf l) (raise l (someGreatest l) (membersOf l) k ((membersOf l).map fun _ => 0)) (membersOf l)[v] (l.zip (someGreatest l)) (potentialOf (membersOf l) (raise l (someGreatest l) (membersOf l) k ((membersOf l).map fun _ => 0)) (membersOf l)[v])).1
    rw [find_zip (hl k), idx_of_get (members_nodup l) hv] at this
    rw [find_zip (hl k), idx_of_get (members_nodup l) hv]
    exact this
  · have hi : i < l.length := hi
    obtain ⟨e1, e2⟩ := end_members hi
    have l1 := List.idxOf_lt_length_of_mem e1
    have l2 := List.idxOf_lt_length_of_mem e2
    constructor
    · intro hy
      have hy : fl (someGreatest l) i < (room (tr l i) : Int) := hy
      have := ((rfold_up (membersOf l) (raise l (someGreatest l) (membersOf l) k ((membersOf l).map fun _ => 0)) (tr l i).to (l.zip (someGreatest l)) (potentialOf (membersOf l) (raise l (someGreatest l) (membersOf l) k ((membersOf l).map fun _ => 0)) (tr l i).to)).2 _ (zip_mem fz hi)).1 ⟨rfl, (by unfold fl at hy; show (someGreatest l).getD i 0 < room (tr l i); omega)⟩
      rw [raise_succ]
      show pf _ ((membersOf l).idxOf (tr l i).from_) + 1 ≤ pf _ ((membersOf l).idxOf (tr l i).to)
      rw [raised_at l2, List.getElem_idxOf]
      rw [find_zip (hl k)] at this
      exact this
    · intro hy
      have hy : 0 < fl (someGreatest l) i := hy
      have := ((rfold_up (membersOf l) (raise l (someGreatest l) (membersOf l) k ((membersOf l).map fun _ => 0)) (tr l i).from_ (l.zip (someGreatest l)) (potentialOf (membersOf l) (raise l (someGreatest l) (membersOf l) k ((membersOf l).map fun _ => 0)) (tr l i).from_)).2 _ (zip_mem fz hi)).2 ⟨rfl, (by unfold fl at hy; show 0 < (someGreatest l).getD i 0; omega)⟩
      rw [raise_succ]
      show pf _ ((membersOf l).idxOf (tr l i).to) - 1 ≤ pf _ ((membersOf l).idxOf (tr l i).from_)
      rw [raised_at l1, List.getElem_idxOf]
      rw [find_zip (hl k)] at this
      exact this
  · rw [raise_succ, raised_at hv]
    refine rfold_le _ _ _ U _ _ ?_ fun x hx => ?_
    · rw [find_zip (hl k), idx_of_get (members_nodup l) hv]
      exact h1
    · obtain ⟨i, hi, e1, e2⟩ := mem_zip hx
      constructor
      · rintro ⟨c1, c2⟩
        have := h2 i hi (by show fl (someGreatest l) i < (room (tr l i) : Int); rw [e1, e2]; omega) (by show (membersOf l).idxOf (tr l i).to = v; rw [e1, c1]; exact idx_of_get (members_nodup l) hv)
        rw [find_zip (hl k), ← e1]
        exact this
      · rintro ⟨c1, c2⟩
        have := h3 i hi (by show 0 < fl (someGreatest l) i; rw [e2]; omega) (by show (membersOf l).idxOf (tr l i).from_ = v; rw [e1, c1]; exact idx_of_get (members_nodup l) hv)
        rw [find_zip (hl k), ← e1]
        exact this
theorem list_of_pf {p : List Int} {n : Nat} {q : Nat → Int} (hl : p.length = n) (h : ∀ v, v < n → pf p v = q v) : p = (List.range n).map q := by
  refine List.ext_getElem (by simp [hl]) fun i h1 h2 => ?_
  have := h i (by omega)
  unfold pf at this
  rw [List.getD_eq_getElem?_getD, List.getElem?_eq_getElem h1] at this
  simp at this ⊢
  exact this
theorem potentials_length (l : List Trade) : (potentials l).length = (membersOf l).length := potentials_len l _ _ (List.length_map _)
/-- WHATEVER FINDS THE LEAST POTENTIALS FINDS THESE -/
theorem potentials_eq {l : List Trade} {x p : Nat → Int} (hx : Opt (netI (membersOf l) l) x) (h : LeastPot (netI (membersOf l) l) (membersOf l).length x p) : potentials l = (List.range (membersOf l).length).map p :=
  list_of_pf (potentials_length l) (potentials_at (h.of_opt hx ((iso_IK fun m hm => hm).symm.opt (someGreatest_opt l))))
theorem potentials_feas (l : List Trade) : Feas (netI (membersOf l) l) (pf (potentials l)) (fl (someGreatest l)) := by
  have o : Opt (netI (membersOf l) l) (fl (someGreatest l)) := (iso_IK fun m hm => hm).symm.opt (someGreatest_opt l)
  obtain ⟨p, hp⟩ := leastPot_ex (netI_ends fun m hm => hm) o.feas
  have e := potentials_at hp
  intro i hi
  have := hp.feas i hi
  obtain ⟨h1, h2⟩ := netI_ends (ms := membersOf l) (l := l) (fun m hm => hm) i hi
  unfold worth at *
  rw [e _ h1, e _ h2]
  exact this
end SP
end
section
namespace NT
/-! The told one: arc by arc as great as can be. -/
theorem opt_of {A : N} {x p : Nat → Int} (b : Bd A x) (c : Circ A x) (f : Feas A p x) : Opt A x := ⟨b, c, p, f⟩
theorem forced {A : N} {x z p : Nat → Int} (hx : Opt A x) (hz : Opt A z) (f : Feas A p x) {j : Nat} (hj : j < A.m) (w : worth A p j ≠ 0) : z j = x j := by
  have g := hx.feas_of hz f
  have f1 := f j hj
  have g1 := g j hj
  have b1 := hx.bd j hj
  have b2 := hz.bd j hj
  by_cases q : 0 < worth A p j
  · have : ¬ x j < A.r j := fun h => by have := f1.1 h; omega
    have : ¬ z j < A.r j := fun h => by have := g1.1 h; omega
    omega
  · have : ¬ 0 < x j := fun h => by have := f1.2 h; omega
    have : ¬ 0 < z j := fun h => by have := g1.2 h; omega
    omega
def Top (A : N) (x : Nat → Int) (j : Nat) : Prop := ∀ z, Opt A z → (∀ i, i < j → z i = x i) → z j ≤ x j
def Upto (A : N) (x : Nat → Int) (j : Nat) : Prop := ∀ k, k < j → Top A x k
theorem Upto.zero (A : N) (x : Nat → Int) : Upto A x 0 := fun k h => absurd h (Nat.not_lt_zero k)
theorem Upto.next {A : N} {x y : Nat → Int} {j : Nat} (h : Upto A x j) (same : ∀ i, i < j → y i = x i) (t : Top A y j) : Upto A y (j + 1) := fun k hk => by
  by_cases q : k < j
  · intro z hz e
    have := h k q z hz fun i hi => by rw [e i hi, same i (by omega)]
    rw [same k q]
    exact this
  · have : k = j := by omega
    subst this
    exact t
theorem lexMax_of {A : N} {x : Nat → Int} (o : Opt A x) (u : Upto A x A.m) : LexMax A x := ⟨o, u⟩
theorem Top.full {A : N} {x : Nat → Int} {j : Nat} (hj : j < A.m) (h : A.r j ≤ x j) : Top A x j := fun z hz _ => by
  have := (hz.bd j hj).2
  omega
theorem Top.forced {A : N} {x p : Nat → Int} {j : Nat} (hx : Opt A x) (f : Feas A p x) (hj : j < A.m) (w : worth A p j ≠ 0) : Top A x j := fun z hz _ => Int.le_of_eq (NT.forced hx hz f hj w)
/-- no way back by the free arcs behind it -/
theorem Top.cut {A : N} {x p : Nat → Int} {j : Nat} {R : Nat → Prop} (hx : Opt A x) (f : Feas A p x) (hj : j < A.m) (re : R (A.e j)) (rs : ¬ R (A.s j))
    (cl : ∀ i, i < A.m → j < i → worth A p i = 0 → (x i < A.r i → R (A.s i) → R (A.e i)) ∧ (0 < x i → R (A.e i) → R (A.s i))) : Top A x j := fun z hz e => by
  refine greatest_at (Fr := fun i => j < i ∧ worth A p i = 0) hj hx.circ hz.circ hz.bd (fun i hi ij nf => ?_) re rs fun i hi ij fr => cl i hi fr.1 fr.2
  by_cases q : i < j
  · exact e i q
  · by_cases w : worth A p i = 0
    · exact absurd ⟨by omega, w⟩ nf
    · exact NT.forced hx hz f hi w
/-- one turn: along a way back, and as much at the arc itself -/
theorem turn_ok {A : N} {g : Int} {x p : Nat → Int} {i : Nat} {d : Int} {P : List Ed} {rk : Nat → Nat} (bd : Bd A x) (c : Circ A x) (f : Feas A p x) (hi : i < A.m) (wi : worth A p i = 0)
    (hw : ∀ w ∈ P, Res A g x w) (hf : ∀ w ∈ P, w.i ≠ i ∧ worth A p w.i = 0) (path : Path P (A.e i) (A.s i)) (rank : ∀ w ∈ P, rk w.u < rk w.v) (d0 : 0 ≤ d) (hd : ∀ w ∈ P, d ≤ w.cap) (hr : x i + d ≤ A.r i) :
    Bd A (fun j => if j = i then x i + d else push x d P j) ∧ Circ A (fun j => if j = i then x i + d else push x d P j) ∧ Feas A p (fun j => if j = i then x i + d else push x d P j) := by
  have pi : push x d P i = x i := push_out fun w hm => (hf w hm).1
  have e : (fun j => if j = i then x i + d else push x d P j) = push x d (⟨A.s i, A.e i, 0, i, 1, 0⟩ :: P) := by
    funext j
    show _ = if j = i then push x d P j + 1 * d else push x d P j
    by_cases q : j = i
    · subst q
      rw [if_pos rfl, if_pos rfl, pi, Int.one_mul]
    · rw [if_neg q, if_neg q]
  refine ⟨fun j hj => ?_, fun v => ?_, fun j hj => ?_⟩
  · dsimp only
    by_cases q : j = i
    · subst q
      rw [if_pos rfl]
      have := bd j hj
      omega
    · rw [if_neg q]
      exact push_bd bd hw path rank d0 hd j hj
  · rw [e, exc_push (P := ⟨A.s i, A.e i, 0, i, 1, 0⟩ :: P) (o := A.e i) (t := A.e i) v (fun w hm => ?_) ⟨rfl, path⟩, c v]
    · omega
    · rcases List.mem_cons.mp hm with rfl | hm
      · exact ⟨hi, .inl ⟨rfl, rfl, rfl⟩⟩
      · exact (hw w hm).ori
  · dsimp only
    by_cases q : worth A p j = 0
    · rw [q]
      exact ⟨fun _ => Int.le_refl _, fun _ => Int.le_refl _⟩
    · have e1 : ¬ j = i := fun z => q (z ▸ wi)
      rw [if_neg e1, push_out fun w hm z => q (by rw [← z]; exact (hf w hm).2)]
      exact f j hj
end NT
end
section
namespace SP
open NT
open Vbchad (Trade Way wayTo ways bestWay room rooms outOf into membersOf number keepArcs lacks keep leastKept someGreatest greatestOf pushed least potentialOf worthOf boundOf raised raise potentials isReduction freeArcs grown toldFrom told)
/-! The specification's told reduction is the lexicographically greatest optimum. -/
theorem mem_freeArcs {l : List Trade} {f ms : List Nat} {p : List Int} {i : Nat} {a : VArc} : a ∈ freeArcs l f ms p i ↔ ∃ t k j, l[j]? = some t ∧ f[j]? = some k ∧ (i < j ∧ worthOf ms p t = 0) ∧ a ∈ both t k j 0 := by
  unfold freeArcs
  rw [List.mem_flatMap]
  constructor
  · rintro ⟨x, h1, h2⟩
    obtain ⟨e1, e2⟩ := mem_zipz.mp h1
    dsimp only at h2
    split at h2
    · cases h2
    · rename_i q
      refine ⟨_, _, _, e1, e2, ?_, h2⟩
      have q1 : ¬ x.2 ≤ i := fun z => q (.inl z)
      have q2 : worthOf ms p x.1.1 = 0 := by
        by_cases z : worthOf ms p x.1.1 = 0
        · exact z
        · exact absurd (.inr z) q
      exact ⟨by omega, q2⟩
  · rintro ⟨t, k, j, e1, e2, ⟨q1, q2⟩, h⟩
    refine ⟨((t, k), j), mem_zipz.mpr ⟨e1, e2⟩, ?_⟩
    dsimp only
    rw [if_neg (by rintro (z | z); · omega
                   · exact z q2)]
    exact h
structure Tst (l : List Trade) (p : List Int) (f : List Nat) : Prop where
  len : f.length = l.length
  bd : Bd (netK l) (fl f)
  circ : Circ (netK l) (fl f)
  feas : Feas (netK l) (fun k => pf p ((membersOf l).idxOf k)) (fl f)
theorem Tst.opt {l : List Trade} {p : List Int} {f : List Nat} (h : Tst l p f) : Opt (netK l) (fl f) := opt_of h.bd h.circ h.feas
theorem worthK {l : List Trade} {p : List Int} (hp : p.length = (membersOf l).length) (i : Nat) : worthOf (membersOf l) p (tr l i) = worth (netK l) (fun k => pf p ((membersOf l).idxOf k)) i := worthOf_eq hp i
theorem fl_set {f : List Nat} {i v j : Nat} (hi : i < f.length) : fl (f.set i v) j = if j = i then (v : Int) else fl f j := by
  unfold fl
  rw [List.getD_eq_getElem?_getD, List.getElem?_set]
  by_cases q : i = j
  · subst q
    simp [hi]
  · rw [if_neg q, if_neg (Ne.symm q), List.getD_eq_getElem?_getD]
theorem grown_ok {l : List Trade} {p : List Int} (hp : p.length = (membersOf l).length) {i : Nat} (hi : i < l.length) (wi : worthOf (membersOf l) p (tr l i) = 0) : ∀ (n : Nat) (f : List Nat), Tst l p f → (room (tr l i) : Int) - fl f i < n →
    Tst l p (grown l (membersOf l) p i (tr l i) n f) ∧ (∀ j, j < i → fl (grown l (membersOf l) p i (tr l i) n f) j = fl f j) ∧ Top (netK l) (fl (grown l (membersOf l) p i (tr l i) n f)) i
  | 0, f, h, hf => by
    refine ⟨h, fun _ _ => rfl, Top.full hi ?_⟩
    show (room (tr l i) : Int) ≤ fl f i
    omega
  | n + 1, f, h, hf => by
    have step : grown l (membersOf l) p i (tr l i) (n + 1) f = if room (tr l i) ≤ f.getD i 0 then f else match wayTo (ways (freeArcs l f (membersOf l) p i) [(tr l i).to] (membersOf l).length) (tr l i).from_ with
      | none => f
      | some w => grown l (membersOf l) p i (tr l i) n ((pushed f w.steps (least (room (tr l i) - f.getD i 0) (w.steps.map fun a => a.most))).set i (f.getD i 0 + least (room (tr l i) - f.getD i 0) (w.steps.map fun a => a.most))) := rfl
    rw [step]
    by_cases full : room (tr l i) ≤ f.getD i 0
    · rw [if_pos full]
      refine ⟨h, fun _ _ => rfl, Top.full hi ?_⟩
      show (room (tr l i) : Int) ≤ fl f i
      unfold fl
      omega
    · rw [if_neg full]
      have hres : ∀ a ∈ freeArcs l f (membersOf l) p i, Res (netK l) 0 (fl f) (ed a) ∧ i < (ed a).i ∧ worth (netK l) (fun k => pf p ((membersOf l).idxOf k)) (ed a).i = 0 := fun a ha => by
        obtain ⟨t, k, j, e1, e2, ⟨q1, q2⟩, ha⟩ := mem_freeArcs.mp ha
        obtain ⟨r1, r2⟩ := both_res e1 e2 ha
        obtain ⟨_, ht⟩ := tr_some e1
        have r2 : (ed a).i = j := r2
        refine ⟨r1, by omega, ?_⟩
        rw [r2, ← worthK hp, ht]
        exact q2
      obtain ⟨q0, hq0⟩ : ∃ q : Nat → Int, ∀ v, q v = 0 := ⟨fun _ => 0, fun _ => rfl⟩
      have hp0 : ∀ a ∈ freeArcs l f (membersOf l) p i, q0 a.last ≤ q0 a.first + a.cost := fun a ha => by
        obtain ⟨_, r⟩ := (hres a ha).1
        rw [hq0, hq0]
        rcases r with ⟨_, _, _, r, _⟩ | ⟨_, _, _, r, _⟩
        · have : a.cost = 0 := r
          omega
        · have : a.cost = -0 := r
          omega
      have hs : ∀ v ∈ [(tr l i).to], v ∈ membersOf l := fun v hv => by
        rw [List.mem_singleton.mp hv]
        exact (end_members hi).2
      have hal : ∀ a ∈ freeArcs l f (membersOf l) p i, a.last ∈ membersOf l := fun a ha => (res_ends (hres a ha).1).2
      cases e : wayTo (ways (freeArcs l f (membersOf l) p i) [(tr l i).to] (membersOf l).length) (tr l i).from_ with
      | none =>
        refine ⟨h, fun _ _ => rfl, ?_⟩
        refine Top.cut (R := fun v => lab (ways (freeArcs l f (membersOf l) p i) [(tr l i).to] (membersOf l).length) v ≠ none) h.opt h.feas hi ?_ ?_ fun j hj ij wj => ?_
        · obtain ⟨b, hb, _⟩ := ways_all hp0 hs hal (Wk.src (List.mem_singleton.mpr rfl))
          show lab _ (tr l i).to ≠ none
          rw [hb]
          exact Option.some_ne_none _
        · intro q
          exact q (by show lab _ (tr l i).from_ = none; unfold lab; rw [e]; rfl)
        · have fix : ∀ w, Res (netK l) 0 (fl f) w → w.i = j → lab (ways (freeArcs l f (membersOf l) p i) [(tr l i).to] (membersOf l).length) w.u ≠ none → lab (ways (freeArcs l f (membersOf l) p i) [(tr l i).to] (membersOf l).length) w.v ≠ none := fun w hw ew hR => by
            obtain ⟨t, k, e1, e2, a, ha, ea⟩ := res_both h.len hw
            rw [ew] at e1 e2 ha
            obtain ⟨_, ht⟩ := tr_some e1
            have hm : a ∈ freeArcs l f (membersOf l) p i := mem_freeArcs.mpr ⟨t, k, j, e1, e2, ⟨ij, by rw [← ht, worthK hp]; exact wj⟩, ha⟩
            subst ea
            cases q : lab (ways (freeArcs l f (membersOf l) p i) [(tr l i).to] (membersOf l).length) a.first with
            | none => exact absurd q hR
            | some x =>
              obtain ⟨b, hb, _⟩ := ways_fixed hp0 hs hal hm q
              show lab _ a.last ≠ none
              rw [hb]
              exact Option.some_ne_none _
          constructor
          · intro hy hR
            exact fix ⟨(netK l).s j, (netK l).e j, 0, j, 1, (netK l).r j - fl f j⟩ ⟨hj, .inl ⟨rfl, rfl, rfl, rfl, hy, rfl⟩⟩ rfl hR
          · intro hy hR
            exact fix ⟨(netK l).e j, (netK l).s j, -0, j, -1, fl f j⟩ ⟨hj, .inr ⟨rfl, rfl, rfl, rfl, hy, rfl⟩⟩ rfl hR
      | some w =>
        dsimp only
        obtain ⟨pw, hg⟩ := good_ways _ _ _ e
        have tight := ways_tight hp0 hs hal pw (lab_of e)
        have ho := path_origin pw
        have hpath := path_ed pw
        rw [List.mem_singleton.mp ho] at hpath
        generalize hd : least (room (tr l i) - f.getD i 0) (w.steps.map fun a => a.most) = d
        obtain ⟨d1, d2⟩ := least_le (d := room (tr l i) - f.getD i 0) (l := w.steps.map fun a => a.most)
        rw [hd] at d1 d2
        have wres : ∀ x ∈ w.steps.map ed, Res (netK l) 0 (fl f) x := fun x hx => by
          obtain ⟨a, ha, rfl⟩ := List.mem_map.mp hx
          exact (hres a (tight a ha).1).1
        have wfree : ∀ x ∈ w.steps.map ed, x.i ≠ i ∧ worth (netK l) (fun k => pf p ((membersOf l).idxOf k)) x.i = 0 := fun x hx => by
          obtain ⟨a, ha, rfl⟩ := List.mem_map.mp hx
          obtain ⟨_, r1, r2⟩ := hres a (tight a ha).1
          exact ⟨by omega, r2⟩
        have wafter : ∀ x ∈ w.steps.map ed, i < x.i := fun x hx => by
          obtain ⟨a, ha, rfl⟩ := List.mem_map.mp hx
          exact (hres a (tight a ha).1).2.1
        have wrank : ∀ x ∈ w.steps.map ed, steps (lab (ways (freeArcs l f (membersOf l) p i) [(tr l i).to] (membersOf l).length)) x.u < steps (lab (ways (freeArcs l f (membersOf l) p i) [(tr l i).to] (membersOf l).length)) x.v := fun x hx => by
          obtain ⟨a, ha, rfl⟩ := List.mem_map.mp hx
          exact Tight.rank (w := ed a) (tight a ha).2
        have dpos : 1 ≤ d := by
          rw [← hd]
          refine least_pos (by omega) fun x hx => ?_
          obtain ⟨a, ha, rfl⟩ := List.mem_map.mp hx
          have r := (hres a (tight a ha).1).1
          rcases r.2 with ⟨_, _, _, _, r5, r6⟩ | ⟨_, _, _, _, r5, r6⟩
          · have : (a.most : Int) = _ := r6
            omega
          · have : (a.most : Int) = _ := r6
            omega
        have dcap : ∀ x ∈ w.steps.map ed, (d : Int) ≤ x.cap := fun x hx => by
          obtain ⟨a, ha, rfl⟩ := List.mem_map.mp hx
          have := d2 a.most (List.mem_map.mpr ⟨a, ha, rfl⟩)
          show (d : Int) ≤ (a.most : Int)
          omega
        have hlen : i < f.length := by rw [h.len]; exact hi
        obtain ⟨t1, t2, t3⟩ := turn_ok (d := (d : Int)) h.bd h.circ h.feas hi (by rw [← worthK hp]; exact wi) wres wfree hpath wrank (by omega) dcap (by
          show fl f i + d ≤ (room (tr l i) : Int)
          unfold fl
          omega)
        have same : ∀ j, j < (netK l).m → (fun j => if j = i then fl f i + d else push (fl f) d (w.steps.map ed) j) j = fl ((pushed f w.steps d).set i (f.getD i 0 + d)) j := fun j hj => by
          rw [fl_set (by rw [pushed_len]; exact hlen)]
          dsimp only
          by_cases q : j = i
          · rw [if_pos q, if_pos q]
            unfold fl
            omega
          · rw [if_neg q, if_neg q]
            refine (pushed_push (fun x hx => (wres x hx).ori) hpath wrank (fun a ha hl => ?_) (by rw [h.len]; exact hj)).symm
            have r := (hres a (tight a ha).1).1
            have c := dcap (ed a) (List.mem_map.mpr ⟨a, ha, rfl⟩)
            rcases r.2 with ⟨r1, _⟩ | ⟨_, _, _, _, _, r6⟩
            · have : (if a.along = true then (1 : Int) else -1) = 1 := r1
              rw [hl] at this
              simp at this
            · rw [r6] at c
              have : (d : Int) ≤ ((f.getD a.place 0 : Nat) : Int) := c
              omega
        have fin := grown_ok hp hi wi n ((pushed f w.steps d).set i (f.getD i 0 + d)) ⟨by rw [List.length_set, pushed_len]; exact h.len, t1.congr same, t2.congr same, t3.congr same⟩ (by
          rw [← same i hi]
          dsimp only
          rw [if_pos rfl]
          omega)
        refine ⟨fin.1, fun j hj => ?_, fin.2.2⟩
        rw [fin.2.1 j hj, ← same j (Nat.lt_trans hj hi)]
        dsimp only
        rw [if_neg (by omega)]
        exact push_out fun x hx => by have := wafter x hx; omega
theorem toldFrom_ok {l : List Trade} {p : List Int} (hp : p.length = (membersOf l).length) : ∀ (r : List Trade) (j : Nat) (f : List Nat), j + r.length = l.length → (∀ i, i < r.length → r[i]? = l[j + i]?) → Tst l p f → Upto (netK l) (fl f) j →
    Tst l p (toldFrom l (membersOf l) p (r.zipIdx j) f) ∧ Upto (netK l) (fl (toldFrom l (membersOf l) p (r.zipIdx j) f)) l.length
  | [], j, f, h, _, t, u => by
    have : j = l.length := by simpa using h
    subst this
    exact ⟨t, u⟩
  | a :: r, j, f, h, e, t, u => by
    have hj : j < l.length := by simp only [List.length_cons] at h; omega
    have ea : tr l j = a := by
      have := e 0 (by simp)
      simp only [List.getElem?_cons_zero, Nat.add_zero] at this
      exact (tr_some this.symm).2
    have er : ∀ i, i < r.length → r[i]? = l[j + 1 + i]? := fun i hi => by
      have := e (i + 1) (by simp only [List.length_cons]; omega)
      rw [List.getElem?_cons_succ] at this
      rw [this]
      congr 1
      omega
    have el : j + 1 + r.length = l.length := by simp only [List.length_cons] at h; omega
    rw [List.zipIdx_cons]
    show Tst l p (toldFrom l (membersOf l) p (r.zipIdx (j + 1)) (if worthOf (membersOf l) p a = 0 then grown l (membersOf l) p j a (room a + 1) f else f)) ∧ Upto (netK l) (fl (toldFrom l (membersOf l) p (r.zipIdx (j + 1)) (if worthOf (membersOf l) p a = 0 then grown l (membersOf l) p j a (room a + 1) f else f))) l.length
    rw [← ea]
    by_cases w : worthOf (membersOf l) p (tr l j) = 0
    · rw [if_pos w]
      obtain ⟨g1, g2, g3⟩ := grown_ok hp hj w (room (tr l j) + 1) f t (by
        have := (t.bd j hj).1
        omega)
      exact toldFrom_ok hp r (j + 1) _ el er g1 (u.next g2 g3)
    · rw [if_neg w]
      exact toldFrom_ok hp r (j + 1) f el er t (u.next (fun _ _ => rfl) (Top.forced t.opt t.feas hj (by rw [← worthK hp]; exact w)))
theorem told_lexMax (l : List Trade) : LexMax (netK l) (fl (told l)) ∧ (told l).length = l.length := by
  have o := someGreatest_opt l
  have f := potentials_feas l
  have := toldFrom_ok (potentials_length l) l 0 (someGreatest l) (by simp) (fun i _ => by rw [Nat.zero_add]) ⟨someGreatest_len l, o.bd, o.circ, (iso_IK fun m hm => hm).feas f⟩ (Upto.zero _ _)
  exact ⟨lexMax_of this.1.opt this.2, this.1.len⟩
/-- WHATEVER FINDS THE GREATEST ONE FINDS THIS -/
theorem told_eq {l : List Trade} {x : Nat → Int} (h : LexMax (netK l) x) : ∀ i, i < l.length → x i = fl (told l) i := h.eq (told_lexMax l).1
theorem told_total (l : List Trade) : Vbchad.sum (told l) = greatestOf l := by
  have h := told_lexMax l
  have e := greatestOf_opt h.1.1
  have s := sum_S (told l)
  rw [h.2] at s
  have : (Vbchad.sum (told l) : Int) = (greatestOf l : Int) := by
    rw [s, e]
    rfl
  omega
end SP
end
section
namespace NT
/-! The program's labels: rounds till nothing changes. -/
structure LS where
  D : Lab
  la : Nat → Option Ed
def lup {α : Type} (f : Nat → α) (v : Nat) (a : α) : Nat → α := fun j => if j = v then a else f j
theorem lup_same {α : Type} {f : Nat → α} {v : Nat} {a : α} : lup f v a v = a := if_pos rfl
theorem lup_ne {α : Type} {f : Nat → α} {v j : Nat} {a : α} (h : j ≠ v) : lup f v a j = f j := if_neg h
def lexLt (a b : Int × Nat) : Bool := decide (a.1 < b.1) || (decide (a.1 = b.1) && decide (a.2 < b.2))
theorem lexLt_iff {a b : Int × Nat} : lexLt a b = true ↔ a.1 < b.1 ∨ (a.1 = b.1 ∧ a.2 < b.2) := by
  unfold lexLt
  simp
/-- does the way make its end's label less? -/
def gains (D : Lab) (w : Ed) : Bool := match D w.u with
  | none => false
  | some a => match D w.v with
    | none => true
    | some b => lexLt (a.1 + w.c, a.2 + 1) b
def more (D : Lab) (w : Ed) : Int × Nat := match D w.u with
  | none => (0, 0)
  | some a => (a.1 + w.c, a.2 + 1)
def lstep (st : LS × Bool) (w : Ed) : LS × Bool := if gains st.1.D w = true then (⟨lup st.1.D w.v (some (more st.1.D w)), lup st.1.la w.v (some w)⟩, true) else st
def lpass (ws : List Ed) (st : LS) : LS × Bool := ws.foldl lstep (st, false)
structure LI (n : Nat) (ws : List Ed) (E p : Nat → Int) (K : Int) (st : LS) : Prop where
  low : ∀ v, v < n → ∀ a, st.D v = some a → p v - K ≤ a.1
  way : ∀ v w, st.la v = some w → w ∈ ws ∧ w.v = v ∧ ∃ a b, st.D w.u = some a ∧ st.D v = some b ∧ LexLe (a.1 + w.c, a.2 + 1) b
  org : ∀ v, st.la v = none → st.D v = none ∨ (st.D v = some (0, 0) ∧ 0 < E v)
  src : ∀ v, v < n → 0 < E v → st.D v ≠ none
  out : ∀ v, ¬ v < n → st.D v = none
structure Lw (n : Nat) (ws : List Ed) (p : Nat → Int) : Prop where
  u : ∀ w ∈ ws, w.u < n
  v : ∀ w ∈ ws, w.v < n
  p : ∀ w ∈ ws, p w.v ≤ p w.u + w.c
section
variable {n : Nat} {ws : List Ed} {E p : Nat → Int} {K : Int}
def lstart (n : Nat) (E : Nat → Int) : LS := ⟨fun v => if v < n ∧ 0 < E v then some (0, 0) else none, fun _ => none⟩
theorem LI.start (hK : ∀ v, v < n → p v ≤ K) : LI n ws E p K (lstart n E) where
  low := fun v hv a h => by
    have h : (if v < n ∧ 0 < E v then some ((0 : Int), (0 : Nat)) else none) = some a := h
    split at h
    · cases h
      have := hK v hv
      show p v - K ≤ 0
      omega
    · cases h
  way := fun v w h => nomatch h
  org := fun v _ => by
    show (if v < n ∧ 0 < E v then some ((0 : Int), (0 : Nat)) else none) = none ∨ ((if v < n ∧ 0 < E v then some ((0 : Int), (0 : Nat)) else none) = some (0, 0) ∧ 0 < E v)
    split
    · rename_i h
      exact .inr ⟨rfl, h.2⟩
    · exact .inl rfl
  src := fun v hv he => by
    show (if v < n ∧ 0 < E v then some ((0 : Int), (0 : Nat)) else none) ≠ none
    rw [if_pos ⟨hv, he⟩]
    exact Option.some_ne_none _
  out := fun v hv => if_neg fun h => hv h.1
theorem gains_some {D : Lab} {w : Ed} (h : gains D w = true) : ∃ a, D w.u = some a ∧ more D w = (a.1 + w.c, a.2 + 1) ∧ (D w.v = none ∨ ∃ b, D w.v = some b ∧ lexLt (a.1 + w.c, a.2 + 1) b = true) := by
  unfold gains at h
  unfold more
  cases e : D w.u with
  | none => rw [e] at h; cases h
  | some a =>
    rw [e] at h
    refine ⟨a, rfl, rfl, ?_⟩
    cases e2 : D w.v with
    | none => exact .inl rfl
    | some b =>
      rw [e2] at h
      exact .inr ⟨b, rfl, h⟩
theorem LI.step (L : Lw n ws p) {st : LS} (I : LI n ws E p K st) {w : Ed} (hw : w ∈ ws) (h : gains st.D w = true) : LI n ws E p K ⟨lup st.D w.v (some (more st.D w)), lup st.la w.v (some w)⟩ := by
  obtain ⟨a, e1, e2, e3⟩ := gains_some h
  have hu := L.u w hw
  have hv := L.v w hw
  have hp := L.p w hw
  have la := I.low _ hu _ e1
  have ne : w.u ≠ w.v := fun z => by
    rcases e3 with e3 | ⟨b, e3, e4⟩
    · rw [← z, e1] at e3; cases e3
    · rw [← z, e1] at e3; cases e3
      rw [lexLt_iff] at e4
      rw [z] at hp
      dsimp only at e4
      omega
  refine ⟨fun v hv' b hb => ?_, fun v x hx => ?_, fun v hx => ?_, fun v hv' he => ?_, fun v hv' => ?_⟩
  · have hb : lup st.D w.v (some (more st.D w)) v = some b := hb
    by_cases q : v = w.v
    · subst q
      rw [lup_same, e2] at hb
      cases hb
      dsimp only
      omega
    · rw [lup_ne q] at hb
      exact I.low v hv' b hb
  · have hx : lup st.la w.v (some w) v = some x := hx
    show x ∈ ws ∧ x.v = v ∧ ∃ a b, lup st.D w.v (some (more st.D w)) x.u = some a ∧ lup st.D w.v (some (more st.D w)) v = some b ∧ LexLe (a.1 + x.c, a.2 + 1) b
    by_cases q : v = w.v
    · subst q
      rw [lup_same] at hx
      cases hx
      rw [lup_same, lup_ne ne, e1, e2]
      exact ⟨hw, rfl, a, _, rfl, rfl, .inr ⟨rfl, Nat.le_refl _⟩⟩
    · rw [lup_ne q] at hx
      obtain ⟨x1, x2, c, b, x3, x4, x5⟩ := I.way v x hx
      refine ⟨x1, x2, ?_⟩
      rw [lup_ne q, x4]
      by_cases z : x.u = w.v
      · rw [z, lup_same, e2]
        rw [z] at x3
        refine ⟨_, b, rfl, rfl, ?_⟩
        rcases e3 with e3 | ⟨d, e3, e4⟩
        · rw [e3] at x3; cases x3
        · rw [e3] at x3; cases x3
          rw [lexLt_iff] at e4
          unfold LexLe at *
          dsimp only at *
          omega
      · rw [lup_ne z, x3]
        exact ⟨c, b, rfl, rfl, x5⟩
  · have hx : lup st.la w.v (some w) v = none := hx
    show lup st.D w.v (some (more st.D w)) v = none ∨ (lup st.D w.v (some (more st.D w)) v = some (0, 0) ∧ 0 < E v)
    by_cases q : v = w.v
    · subst q
      rw [lup_same] at hx
      cases hx
    · rw [lup_ne q] at hx ⊢
      exact I.org v hx
  · show lup st.D w.v (some (more st.D w)) v ≠ none
    by_cases q : v = w.v
    · subst q
      rw [lup_same]
      exact Option.some_ne_none _
    · rw [lup_ne q]
      exact I.src v hv' he
  · show lup st.D w.v (some (more st.D w)) v = none
    rw [lup_ne (by omega)]
    exact I.out v hv'
/-! ### an end -/
def nones (n : Nat) (D : Lab) : Int := S n fun v => match D v with
  | none => 1
  | some _ => 0
def costs (n : Nat) (p : Nat → Int) (K : Int) (D : Lab) : Int := S n fun v => match D v with
  | none => 0
  | some a => a.1 - p v + K
def lens (n : Nat) (D : Lab) : Int := S n fun v => match D v with
  | none => 0
  | some a => (a.2 : Int)
def msr (n : Nat) (p : Nat → Int) (K : Int) (D : Lab) : Nat × Nat × Nat := ((nones n D).toNat, (costs n p K D).toNat, (lens n D).toNat)
def Lt3 (a b : Nat × Nat × Nat) : Prop := a.1 < b.1 ∨ (a.1 = b.1 ∧ (a.2.1 < b.2.1 ∨ (a.2.1 = b.2.1 ∧ a.2.2 < b.2.2)))
theorem lt3_acc : ∀ (a b c : Nat), Acc Lt3 (a, b, c) := by
  intro a
  induction a using Nat.strongRecOn with
  | ind a iha =>
    intro b
    induction b using Nat.strongRecOn with
    | ind b ihb =>
      intro c
      induction c using Nat.strongRecOn with
      | ind c ihc =>
        refine ⟨_, fun y h => ?_⟩
        obtain ⟨x, y, z⟩ := y
        rcases h with h | ⟨h1, h | ⟨h2, h⟩⟩
        · exact iha x h y z
        · dsimp only at h1 h
          subst h1
          exact ihb y h z
        · dsimp only at h1 h2 h
          subst h1 h2
          exact ihc z h
theorem Lt3.trans {a b c : Nat × Nat × Nat} (h : Lt3 a b) (h' : Lt3 b c) : Lt3 a c := by unfold Lt3 at *; omega
theorem S_lup (f g : Nat → Int) {v : Nat} : ∀ {n : Nat}, v < n → (∀ j, j ≠ v → g j = f j) → S n g = S n f - f v + g v
  | 0, h, _ => absurd h (Nat.not_lt_zero _)
  | n + 1, h, e => by
    rw [S_succ, S_succ]
    by_cases q : v = n
    · subst q
      rw [S_congr (f := g) (g := f) fun i hi => e i (by omega)]
      omega
    · rw [S_lup f g (by omega) e, e n (Ne.symm q)]
      omega
theorem msr_step (L : Lw n ws p) {st : LS} (I : LI n ws E p K st) {w : Ed} (hw : w ∈ ws) (h : gains st.D w = true) : Lt3 (msr n p K (lup st.D w.v (some (more st.D w)))) (msr n p K st.D) := by
  have J := I.step L hw h
  obtain ⟨a, e1, e2, e3⟩ := gains_some h
  have hu := L.u w hw
  have hv := L.v w hw
  have hp := L.p w hw
  have lo := I.low _ hu _ e1
  have c1 : nones n (lup st.D w.v (some (more st.D w))) = nones n st.D - (match st.D w.v with | none => 1 | some _ => 0) + 0 := by
    refine (S_lup _ _ hv fun j hj => by rw [lup_ne hj]).trans ?_
    rw [lup_same]
    rfl
  have c2 : costs n p K (lup st.D w.v (some (more st.D w))) = costs n p K st.D - (match st.D w.v with | none => 0 | some a => a.1 - p w.v + K) + ((more st.D w).1 - p w.v + K) := by
    refine (S_lup _ _ hv fun j hj => by rw [lup_ne hj]).trans ?_
    rw [lup_same]
    rfl
  have c3 : lens n (lup st.D w.v (some (more st.D w))) = lens n st.D - (match st.D w.v with | none => 0 | some a => (a.2 : Int)) + ((more st.D w).2 : Int) := by
    refine (S_lup _ _ hv fun j hj => by rw [lup_ne hj]).trans ?_
    rw [lup_same]
    rfl
  have n1 : 0 ≤ nones n (lup st.D w.v (some (more st.D w))) := S_nonneg fun i _ => by split <;> decide
  have n2 : 0 ≤ costs n p K (lup st.D w.v (some (more st.D w))) := S_nonneg fun i hi => by
    split
    · decide
    · rename_i b hb
      have := J.low i hi b hb
      omega
  have n3 : 0 ≤ lens n (lup st.D w.v (some (more st.D w))) := S_nonneg fun i hi => by
    split
    · decide
    · omega
  unfold Lt3 msr
  dsimp only
  rcases e3 with e3 | ⟨b, e3, e4⟩
  · rw [e3] at c1
    have c1 : _ = nones n st.D - 1 + 0 := c1
    omega
  · rw [e3] at c1 c2 c3
    rw [e2] at c2 c3
    rw [lexLt_iff] at e4
    rw [e2] at n1 n2 n3 c1
    have c1 : _ = nones n st.D - 0 + 0 := c1
    have c2 : _ = costs n p K st.D - (b.1 - p w.v + K) + ((a.1 + w.c) - p w.v + K) := c2
    have c3 : _ = lens n st.D - (b.2 : Int) + ((a.2 + 1 : Nat) : Int) := c3
    rw [e2]
    dsimp only at e4
    omega
theorem lfold (L : Lw n ws p) : ∀ (xs : List Ed) (st : LS) (f : Bool), (∀ w ∈ xs, w ∈ ws) → LI n ws E p K st →
    LI n ws E p K (xs.foldl lstep (st, f)).1 ∧ ((xs.foldl lstep (st, f)) = (st, f) ∧ (∀ w ∈ xs, gains st.D w = false) ∨ ((xs.foldl lstep (st, f)).2 = true ∧ Lt3 (msr n p K (xs.foldl lstep (st, f)).1.D) (msr n p K st.D)))
  | [], st, f, _, I => ⟨I, .inl ⟨rfl, fun _ h => nomatch h⟩⟩
  | w :: xs, st, f, hs, I => by
    rw [List.foldl_cons]
    have hs' : ∀ x ∈ xs, x ∈ ws := fun x hx => hs x (List.mem_cons_of_mem _ hx)
    by_cases g : gains st.D w = true
    · have e : lstep (st, f) w = (⟨lup st.D w.v (some (more st.D w)), lup st.la w.v (some w)⟩, true) := if_pos g
      rw [e]
      have J := I.step L (hs w List.mem_cons_self) g
      have m := msr_step L I (hs w List.mem_cons_self) g
      obtain ⟨h1, h2⟩ := lfold L xs _ true hs' J
      refine ⟨h1, .inr ?_⟩
      rcases h2 with ⟨h2, _⟩ | ⟨h2, h3⟩
      · rw [h2]
        exact ⟨rfl, m⟩
      · exact ⟨h2, h3.trans m⟩
    · have e : lstep (st, f) w = (st, f) := if_neg g
      rw [e]
      obtain ⟨h1, h2⟩ := lfold L xs st f hs' I
      refine ⟨h1, ?_⟩
      rcases h2 with ⟨h2, h3⟩ | h2
      · refine .inl ⟨h2, fun x hx => ?_⟩
        rcases List.mem_cons.mp hx with rfl | hx
        · simpa using g
        · exact h3 x hx
      · exact .inr h2
/-- it ends within so many passes -/
def TermIn (ws : List Ed) : Nat → LS → Prop
  | 0, _ => False
  | m + 1, st => (lpass ws st).2 = false ∨ TermIn ws m (lpass ws st).1
theorem term_ex (L : Lw n ws p) : ∀ st, LI n ws E p K st → ∃ m, TermIn ws m st := by
  have key : ∀ x, Acc Lt3 x → ∀ st, msr n p K st.D = x → LI n ws E p K st → ∃ m, TermIn ws m st := by
    intro x hx
    induction hx with
    | intro x _ ih =>
      intro st e I
      obtain ⟨h1, h2⟩ := lfold L ws st false (fun _ h => h) I
      rcases h2 with ⟨h2, _⟩ | ⟨_, h2⟩
      · refine ⟨1, .inl ?_⟩
        unfold lpass
        rw [h2]
      · rw [e] at h2
        obtain ⟨m, hm⟩ := ih _ h2 _ rfl h1
        exact ⟨m + 1, .inr hm⟩
  exact fun st I => key _ (lt3_acc _ _ _) st rfl I
/-- nothing gains -/
def Fixp (ws : List Ed) (st : LS) : Prop := ∀ w ∈ ws, gains st.D w = false
structure LabPost (n : Nat) (ws : List Ed) (E : Nat → Int) (D : Lab) (la : Nat → Option Ed) : Prop where
  fix : ∀ w ∈ ws, ∀ a, D w.u = some a → ∃ b, D w.v = some b ∧ LexLe b (a.1 + w.c, a.2 + 1)
  way : ∀ v w, la v = some w → w ∈ ws ∧ w.v = v ∧ Tight D w
  org : ∀ v, la v = none → D v ≠ none → 0 < E v
  src : ∀ v, v < n → 0 < E v → D v ≠ none
  out : ∀ v, ¬ v < n → D v = none
theorem LI.post {st : LS} (I : LI n ws E p K st) (f : Fixp ws st) : LabPost n ws E st.D st.la := by
  have fix : ∀ w ∈ ws, ∀ a, st.D w.u = some a → ∃ b, st.D w.v = some b ∧ LexLe b (a.1 + w.c, a.2 + 1) := fun w hw a ha => by
    have g := f w hw
    unfold gains at g
    rw [ha] at g
    cases e : st.D w.v with
    | none => rw [e] at g; cases g
    | some b =>
      rw [e] at g
      refine ⟨b, rfl, ?_⟩
      have g : ¬ lexLt (a.1 + w.c, a.2 + 1) b = true := by
        have g : lexLt (a.1 + w.c, a.2 + 1) b = false := g
        rw [g]
        exact Bool.false_ne_true
      rw [lexLt_iff] at g
      unfold LexLe
      dsimp only at *
      omega
  refine ⟨fix, fun v w h => ?_, fun v h hd => ?_, I.src, I.out⟩
  · obtain ⟨h1, h2, a, b, h3, h4, h5⟩ := I.way v w h
    refine ⟨h1, h2, a, h3, ?_⟩
    obtain ⟨b', f1, f2⟩ := fix w h1 a h3
    rw [h2, h4] at f1
    cases f1
    rw [h2, h4]
    congr 1
    obtain ⟨b1, b2⟩ := b
    unfold LexLe at *
    dsimp only at *
    congr 1 <;> omega
  · rcases I.org v h with e | e
    · exact absurd e hd
    · exact e.2
end
/-! ### the way back -/
def Led (la : Nat → Option Ed) : List Ed → Nat → Nat → Prop
  | [], o, t => o = t ∧ la t = none
  | w :: P, o, t => la t = some w ∧ Led la P o w.u
theorem Led.path {la : Nat → Option Ed} (h : ∀ v w, la v = some w → w.v = v) : ∀ {P : List Ed} {o t : Nat}, Led la P o t → Path P o t
  | [], _, _, l => l.1
  | w :: P, o, t, l => ⟨h t w l.1, Led.path h l.2⟩
theorem Led.mem {la : Nat → Option Ed} : ∀ {P : List Ed} {o t : Nat}, Led la P o t → ∀ w ∈ P, ∃ v, la v = some w
  | [], _, _, _, w, hw => nomatch hw
  | a :: P, o, t, l, w, hw => by
    rcases List.mem_cons.mp hw with rfl | hw
    · exact ⟨t, l.1⟩
    · exact Led.mem l.2 w hw
theorem Led.origin {la : Nat → Option Ed} : ∀ {P : List Ed} {o t : Nat}, Led la P o t → la o = none
  | [], _, _, l => by rw [l.1]; exact l.2
  | _ :: _, _, _, l => Led.origin l.2
theorem Led.first {la : Nat → Option Ed} : ∀ {P : List Ed} {o t : Nat} {w : Ed}, Led la P o t → P.getLast? = some w → w.u = o
  | [], _, _, _, _, e => nomatch e
  | [a], o, t, w, l, e => by
    cases e
    exact l.2.1.symm
  | a :: b :: P, o, t, w, l, e => by
    rw [List.getLast?_cons_cons] at e
    exact Led.first l.2 e
end NT
end
section
namespace NT
/-! The program's breadth first search. -/
structure BF (ws : List Ed) (b : Nat) (L : List Nat) (la : Nat → Option Ed) (k : Nat) : Prop where
  nd : L.Nodup
  b0 : L[0]? = some b
  lab : la b = none
  way : ∀ (i v : Nat), L[i]? = some v → i ≠ 0 → ∃ w, w ∈ ws ∧ la v = some w ∧ w.v = v ∧ ∃ j, j < i ∧ L[j]? = some w.u
  done : ∀ (i u : Nat), i < k → L[i]? = some u → ∀ w ∈ ws, w.u = u → w.v ∈ L
section
variable {ws : List Ed} {b : Nat} {L : List Nat} {la : Nat → Option Ed} {k : Nat}
theorem BF.start : BF ws b [b] (fun _ => none) 0 := ⟨by simp, rfl, rfl, fun i v h n => by
    cases i with
    | zero => exact absurd rfl n
    | succ i => simp at h, fun i u h => absurd h (Nat.not_lt_zero i)⟩
theorem BF.len (h : BF ws b L la k) : L.length ≤ ws.length + 1 := by
  have := SP.nodup_le (ms := b :: ws.map fun w => w.v) h.nd fun v hv => by
    obtain ⟨i, hi⟩ := List.mem_iff_getElem?.mp hv
    by_cases e : i = 0
    · subst e
      rw [h.b0] at hi
      cases hi
      exact List.mem_cons_self
    · obtain ⟨w, h1, _, h3, _⟩ := h.way i v hi e
      exact List.mem_cons_of_mem _ (List.mem_map.mpr ⟨w, h1, h3⟩)
  simpa using this
theorem BF.bmem (h : BF ws b L la k) : b ∈ L := List.mem_of_getElem? h.b0
theorem get_app {α : Type} {l : List α} {x y : α} {i : Nat} (h : (l ++ [x])[i]? = some y) : (i < l.length ∧ l[i]? = some y) ∨ (i = l.length ∧ y = x) := by
  rw [List.getElem?_append] at h
  by_cases e : i < l.length
  · rw [if_pos e] at h
    exact .inl ⟨e, h⟩
  · rw [if_neg e] at h
    rcases Nat.eq_zero_or_pos (i - l.length) with z | z
    · rw [z] at h
      cases h
      exact .inr ⟨by omega, rfl⟩
    · rw [List.getElem?_eq_none (by simp; omega)] at h
      cases h
theorem app_get {α : Type} {l : List α} {x y : α} {i : Nat} (h : l[i]? = some y) : (l ++ [x])[i]? = some y := by
  have := (List.getElem?_eq_some_iff.mp h).1
  rw [List.getElem?_append, if_pos this]
  exact h
theorem BF.add (h : BF ws b L la k) (hk : k ≤ L.length) {w : Ed} (hw : w ∈ ws) (hv : ¬ w.v ∈ L) {j : Nat} (hj : L[j]? = some w.u) : BF ws b (L ++ [w.v]) (lup la w.v (some w)) k where
  nd := by
    rw [List.nodup_append]
    refine ⟨h.nd, by simp, fun a ha c hc => ?_⟩
    rw [List.mem_singleton.mp hc]
    exact fun e => hv (e ▸ ha)
  b0 := app_get h.b0
  lab := by
    have e : b ≠ w.v := fun e => hv (e ▸ h.bmem)
    rw [lup_ne e]
    exact h.lab
  way := fun i v hi n => by
    rcases get_app hi with ⟨_, hi⟩ | ⟨hi, e⟩
    · obtain ⟨x, h1, h2, h3, m, h4, h5⟩ := h.way i v hi n
      have e : v ≠ w.v := fun e => hv (e ▸ List.mem_of_getElem? hi)
      exact ⟨x, h1, by rw [lup_ne e]; exact h2, h3, m, h4, app_get h5⟩
    · subst e
      have hl : i = L.length := by assumption
      exact ⟨w, hw, lup_same, rfl, j, by have := (List.getElem?_eq_some_iff.mp hj).1; omega, app_get hj⟩
  done := fun i u hi hu x hx e => by
    rcases get_app hu with ⟨_, hu⟩ | ⟨hi', _⟩
    · exact List.mem_append_left _ (h.done i u hi hu x hx e)
    · omega
theorem BF.next (h : BF ws b L la k) {u : Nat} (hu : L[k]? = some u) (hd : ∀ w ∈ ws, w.u = u → w.v ∈ L) : BF ws b L la (k + 1) :=
  ⟨h.nd, h.b0, h.lab, h.way, fun i v hi hv w hw e => by
    by_cases q : i < k
    · exact h.done i v q hv w hw e
    · have : i = k := by omega
      subst this
      rw [hu] at hv
      cases hv
      exact hd w hw e⟩
/-- the way back goes down in the list -/
theorem BF.rank (h : BF ws b L la k) {v : Nat} (hv : v ∈ L) {w : Ed} (hw : la v = some w) : w ∈ ws ∧ w.v = v ∧ w.u ∈ L ∧ L.idxOf w.u < L.idxOf v := by
  obtain ⟨i, hi⟩ := List.mem_iff_getElem?.mp hv
  have ei : L.idxOf v = i := by
    obtain ⟨h1, h2⟩ := List.getElem?_eq_some_iff.mp hi
    rw [← h2]
    exact h.nd.idxOf_getElem i h1
  by_cases e : i = 0
  · subst e
    rw [h.b0] at hi
    cases hi
    rw [h.lab] at hw
    cases hw
  · obtain ⟨x, h1, h2, h3, j, h4, h5⟩ := h.way i v hi e
    rw [hw] at h2
    cases h2
    have ej : L.idxOf w.u = j := by
      obtain ⟨g1, g2⟩ := List.getElem?_eq_some_iff.mp h5
      rw [← g2]
      exact h.nd.idxOf_getElem j g1
    exact ⟨h1, h3, List.mem_of_getElem? h5, by omega⟩
theorem BF.first (h : BF ws b L la k) {v : Nat} (hv : v ∈ L) (hw : la v = none) : v = b := by
  obtain ⟨i, hi⟩ := List.mem_iff_getElem?.mp hv
  by_cases e : i = 0
  · subst e
    rw [h.b0] at hi
    exact (Option.some.inj hi).symm
  · obtain ⟨x, _, h2, _⟩ := h.way i v hi e
    rw [hw] at h2
    cases h2
end
end NT
end
section
set_option maxRecDepth 100000
set_option maxHeartbeats 4000000
/-! The base of the walk: the text by places, what the top has written, rules that the layer lacks. -/
namespace St
open PySem PySem.Spec PyProof.Rows L2
def topS (i : Nat) : Stmt := PySem.Challenge.pw_smallertrades_s01_answers.main.body.getD i (.Pass ⟨0, 0, 0, 0⟩)
abbrev s_excesses : Stmt := topS 1
abbrev N_excesses : List Str := ["many", "arcs", "flow", "found", "at"]
theorem sc_excesses : FnScope N_excesses ["many", "arcs", "flow"] (defScope s_excesses) := ⟨rfl, rfl, rfl, by decide +kernel, rfl, by decide +kernel, by decide +kernel⟩
abbrev s_ways : Stmt := topS 2
abbrev N_ways : List Str := ["arcs", "flow", "found", "at", "start", "end", "room"]
theorem sc_ways : FnScope N_ways ["arcs", "flow"] (defScope s_ways) := ⟨rfl, rfl, rfl, by decide +kernel, rfl, by decide +kernel, by decide +kernel⟩
abbrev s_labels : Stmt := topS 3
abbrev N_labels : List Str := ["many", "found", "excess", "told", "last", "is_done", "way", "more", "at"]
theorem sc_labels : FnScope N_labels ["many", "found", "excess"] (defScope s_labels) := ⟨rfl, rfl, rfl, by decide +kernel, rfl, by decide +kernel, by decide +kernel⟩
abbrev s_led_back : Stmt := topS 4
abbrev N_led_back : List Str := ["last", "place", "found", "at"]
theorem sc_led_back : FnScope N_led_back ["last", "place"] (defScope s_led_back) := ⟨rfl, rfl, rfl, by decide +kernel, rfl, by decide +kernel, by decide +kernel⟩
abbrev s_push : Stmt := topS 5
abbrev N_push : List Str := ["flow", "steps", "amount", "way"]
theorem sc_push : FnScope N_push ["flow", "steps", "amount"] (defScope s_push) := ⟨rfl, rfl, rfl, by decide +kernel, rfl, by decide +kernel, by decide +kernel⟩
abbrev s_even_out : Stmt := topS 6
abbrev N_even_out : List Str := ["many", "arcs", "flow", "excess", "told", "last", "lacking", "place", "steps", "first", "at", "way"]
theorem sc_even_out : FnScope N_even_out ["many", "arcs", "flow"] (defScope s_even_out) := ⟨rfl, rfl, rfl, by decide +kernel, rfl, by decide +kernel, by decide +kernel⟩
abbrev s_greatest_flow : Stmt := topS 7
abbrev N_greatest_flow : List Str := ["many", "arcs", "flow", "start", "end", "room"]
theorem sc_greatest_flow : FnScope N_greatest_flow ["many", "arcs"] (defScope s_greatest_flow) := ⟨rfl, rfl, rfl, by decide +kernel, rfl, by decide +kernel, by decide +kernel⟩
abbrev s_least_potentials : Stmt := topS 8
abbrev N_least_potentials : List Str := ["many", "arcs", "flow", "found", "is_done", "start", "end", "loss", "at", "sign", "most"]
theorem sc_least_potentials : FnScope N_least_potentials ["many", "arcs", "flow"] (defScope s_least_potentials) := ⟨rfl, rfl, rfl, by decide +kernel, rfl, by decide +kernel, by decide +kernel⟩
abbrev s_worth_of : Stmt := topS 9
abbrev N_worth_of : List Str := ["potentials", "start", "end"]
theorem sc_worth_of : FnScope N_worth_of ["potentials", "start", "end"] (defScope s_worth_of) := ⟨rfl, rfl, rfl, by decide +kernel, rfl, by decide +kernel, by decide +kernel⟩
abbrev s_bound_of : Stmt := topS 10
abbrev N_bound_of : List Str := ["potentials", "arcs", "found", "start", "end", "room"]
theorem sc_bound_of : FnScope N_bound_of ["potentials", "arcs"] (defScope s_bound_of) := ⟨rfl, rfl, rfl, by decide +kernel, rfl, by decide +kernel, by decide +kernel⟩
abbrev s_way_round : Stmt := topS 11
abbrev N_way_round : List Str := ["found", "begin", "target", "last", "rest", "here", "way", "steps", "at"]
theorem sc_way_round : FnScope N_way_round ["found", "begin", "target"] (defScope s_way_round) := ⟨rfl, rfl, rfl, by decide +kernel, rfl, by decide +kernel, by decide +kernel⟩
abbrev s_raise_arc : Stmt := topS 12
abbrev N_raise_arc : List Str := ["arcs", "flow", "at", "free", "start", "end", "room", "steps", "amount", "way"]
theorem sc_raise_arc : FnScope N_raise_arc ["arcs", "flow", "at", "free"] (defScope s_raise_arc) := ⟨rfl, rfl, rfl, by decide +kernel, rfl, by decide +kernel, by decide +kernel⟩
abbrev s_first_flow : Stmt := topS 13
abbrev N_first_flow : List Str := ["many", "arcs", "flow", "potentials", "free", "at"]
theorem sc_first_flow : FnScope N_first_flow ["many", "arcs"] (defScope s_first_flow) := ⟨rfl, rfl, rfl, by decide +kernel, rfl, by decide +kernel, by decide +kernel⟩
abbrev s_Trade_init : Stmt := inClass (topS 15) 0
abbrev N_Trade_init : List Str := ["self", "giver", "taker", "amount", "least"]
theorem sc_Trade_init : FnScope N_Trade_init ["self", "giver", "taker", "amount", "least"] (defScope s_Trade_init) := ⟨rfl, rfl, rfl, by decide +kernel, rfl, by decide +kernel, by decide +kernel⟩
abbrev s_Trade_room : Stmt := inClass (topS 15) 1
abbrev N_Trade_room : List Str := ["self"]
theorem sc_Trade_room : FnScope N_Trade_room ["self"] (defScope s_Trade_room) := ⟨rfl, rfl, rfl, by decide +kernel, rfl, by decide +kernel, by decide +kernel⟩
abbrev s_Book_init : Stmt := inClass (topS 16) 0
abbrev N_Book_init : List Str := ["self"]
theorem sc_Book_init : FnScope N_Book_init ["self"] (defScope s_Book_init) := ⟨rfl, rfl, rfl, by decide +kernel, rfl, by decide +kernel, by decide +kernel⟩
abbrev s_Book_members : Stmt := inClass (topS 16) 1
abbrev N_Book_members : List Str := ["self", "found", "key"]
theorem sc_Book_members : FnScope N_Book_members ["self"] (defScope s_Book_members) := ⟨rfl, rfl, rfl, by decide +kernel, rfl, by decide +kernel, by decide +kernel⟩
abbrev s_Book_arcs : Stmt := inClass (topS 16) 2
abbrev N_Book_arcs : List Str := ["self", "without", "bare", "members", "found", "key", "trade", "room"]
theorem sc_Book_arcs : FnScope N_Book_arcs ["self", "without", "bare"] (defScope s_Book_arcs) := ⟨rfl, rfl, rfl, by decide +kernel, rfl, by decide +kernel, by decide +kernel⟩
abbrev s_Book_key_rows : Stmt := inClass (topS 16) 3
abbrev N_Book_key_rows : List Str := ["self"]
theorem sc_Book_key_rows : FnScope N_Book_key_rows ["self"] (defScope s_Book_key_rows) := ⟨rfl, rfl, rfl, by decide +kernel, rfl, by decide +kernel, by decide +kernel⟩
abbrev s_Book_all_arcs : Stmt := inClass (topS 16) 4
abbrev N_Book_all_arcs : List Str := ["self"]
theorem sc_Book_all_arcs : FnScope N_Book_all_arcs ["self"] (defScope s_Book_all_arcs) := ⟨rfl, rfl, rfl, by decide +kernel, rfl, by decide +kernel, by decide +kernel⟩
abbrev s_Book_total : Stmt := inClass (topS 16) 5
abbrev N_Book_total : List Str := ["self", "without", "bare"]
theorem sc_Book_total : FnScope N_Book_total ["self", "without", "bare"] (defScope s_Book_total) := ⟨rfl, rfl, rfl, by decide +kernel, rfl, by decide +kernel, by decide +kernel⟩
abbrev s_Book_greatest : Stmt := inClass (topS 16) 6
abbrev N_Book_greatest : List Str := ["self"]
theorem sc_Book_greatest : FnScope N_Book_greatest ["self"] (defScope s_Book_greatest) := ⟨rfl, rfl, rfl, by decide +kernel, rfl, by decide +kernel, by decide +kernel⟩
abbrev s_Book_told : Stmt := inClass (topS 16) 7
abbrev N_Book_told : List Str := ["self"]
theorem sc_Book_told : FnScope N_Book_told ["self"] (defScope s_Book_told) := ⟨rfl, rfl, rfl, by decide +kernel, rfl, by decide +kernel, by decide +kernel⟩
abbrev s_Book_potentials : Stmt := inClass (topS 16) 8
abbrev N_Book_potentials : List Str := ["self", "many", "arcs"]
theorem sc_Book_potentials : FnScope N_Book_potentials ["self"] (defScope s_Book_potentials) := ⟨rfl, rfl, rfl, by decide +kernel, rfl, by decide +kernel, by decide +kernel⟩
abbrev s_Book_worth : Stmt := inClass (topS 16) 9
abbrev N_Book_worth : List Str := ["self", "key", "members", "trade"]
theorem sc_Book_worth : FnScope N_Book_worth ["self", "key"] (defScope s_Book_worth) := ⟨rfl, rfl, rfl, by decide +kernel, rfl, by decide +kernel, by decide +kernel⟩
abbrev s_Book_bound : Stmt := inClass (topS 16) 10
abbrev N_Book_bound : List Str := ["self", "potentials"]
theorem sc_Book_bound : FnScope N_Book_bound ["self", "potentials"] (defScope s_Book_bound) := ⟨rfl, rfl, rfl, by decide +kernel, rfl, by decide +kernel, by decide +kernel⟩
abbrev s_Book_is_reduction : Stmt := inClass (topS 16) 11
abbrev N_Book_is_reduction : List Str := ["self", "numbers", "arcs", "number", "arc", "excess"]
theorem sc_Book_is_reduction : FnScope N_Book_is_reduction ["self", "numbers"] (defScope s_Book_is_reduction) := ⟨rfl, rfl, rfl, by decide +kernel, rfl, by decide +kernel, by decide +kernel⟩
abbrev s_Book_lessen : Stmt := inClass (topS 16) 12
abbrev N_Book_lessen : List Str := ["self", "numbers", "key", "number"]
theorem sc_Book_lessen : FnScope N_Book_lessen ["self", "numbers"] (defScope s_Book_lessen) := ⟨rfl, rfl, rfl, by decide +kernel, rfl, by decide +kernel, by decide +kernel⟩
abbrev s_Book_net : Stmt := inClass (topS 16) 13
abbrev N_Book_net : List Str := ["self", "member", "found", "key", "trade"]
theorem sc_Book_net : FnScope N_Book_net ["self", "member"] (defScope s_Book_net) := ⟨rfl, rfl, rfl, by decide +kernel, rfl, by decide +kernel, by decide +kernel⟩
abbrev s_Book_sums : Stmt := inClass (topS 16) 14
abbrev N_Book_sums : List Str := ["self", "giver", "taker", "some", "key", "trade"]
theorem sc_Book_sums : FnScope N_Book_sums ["self", "giver", "taker"] (defScope s_Book_sums) := ⟨rfl, rfl, rfl, by decide +kernel, rfl, by decide +kernel, by decide +kernel⟩
abbrev s_Book_pair : Stmt := inClass (topS 16) 15
abbrev N_Book_pair : List Str := ["self", "one", "other"]
theorem sc_Book_pair : FnScope N_Book_pair ["self", "one", "other"] (defScope s_Book_pair) := ⟨rfl, rfl, rfl, by decide +kernel, rfl, by decide +kernel, by decide +kernel⟩
abbrev s_Book_pairs : Stmt := inClass (topS 16) 16
abbrev N_Book_pairs : List Str := ["self", "members", "found", "at", "other"]
theorem sc_Book_pairs : FnScope N_Book_pairs ["self"] (defScope s_Book_pairs) := ⟨rfl, rfl, rfl, by decide +kernel, rfl, by decide +kernel, by decide +kernel⟩
abbrev s_is_key : Stmt := topS 22
abbrev N_is_key : List Str := ["number"]
theorem sc_is_key : FnScope N_is_key ["number"] (defScope s_is_key) := ⟨rfl, rfl, rfl, by decide +kernel, rfl, by decide +kernel, by decide +kernel⟩
abbrev s_House_init : Stmt := inClass (topS 23) 0
abbrev N_House_init : List Str := ["self"]
theorem sc_House_init : FnScope N_House_init ["self"] (defScope s_House_init) := ⟨rfl, rfl, rfl, by decide +kernel, rfl, by decide +kernel, by decide +kernel⟩
abbrev s_House_key_fault : Stmt := inClass (topS 23) 1
abbrev N_House_key_fault : List Str := ["self", "key"]
theorem sc_House_key_fault : FnScope N_House_key_fault ["self", "key"] (defScope s_House_key_fault) := ⟨rfl, rfl, rfl, by decide +kernel, rfl, by decide +kernel, by decide +kernel⟩
abbrev s_House_is_full : Stmt := inClass (topS 23) 2
abbrev N_House_is_full : List Str := ["self", "giver", "taker", "members", "member"]
theorem sc_House_is_full : FnScope N_House_is_full ["self", "giver", "taker"] (defScope s_House_is_full) := ⟨rfl, rfl, rfl, by decide +kernel, rfl, by decide +kernel, by decide +kernel⟩
abbrev s_House_trade : Stmt := inClass (topS 23) 3
abbrev N_House_trade : List Str := ["self", "key", "giver", "taker", "amount", "least", "number"]
theorem sc_House_trade : FnScope N_House_trade ["self", "key", "giver", "taker", "amount", "least"] (defScope s_House_trade) := ⟨rfl, rfl, rfl, by decide +kernel, rfl, by decide +kernel, by decide +kernel⟩
abbrev s_House_drop : Stmt := inClass (topS 23) 4
abbrev N_House_drop : List Str := ["self", "key", "fault"]
theorem sc_House_drop : FnScope N_House_drop ["self", "key"] (defScope s_House_drop) := ⟨rfl, rfl, rfl, by decide +kernel, rfl, by decide +kernel, by decide +kernel⟩
abbrev s_House_floor : Stmt := inClass (topS 23) 5
abbrev N_House_floor : List Str := ["self", "key", "least"]
theorem sc_House_floor : FnScope N_House_floor ["self", "key", "least"] (defScope s_House_floor) := ⟨rfl, rfl, rfl, by decide +kernel, rfl, by decide +kernel, by decide +kernel⟩
abbrev s_House_take : Stmt := inClass (topS 23) 6
abbrev N_House_take : List Str := ["self", "numbers"]
theorem sc_House_take : FnScope N_House_take ["self"] (defScope s_House_take) := ⟨rfl, rfl, rfl, by decide +kernel, rfl, by decide +kernel, by decide +kernel⟩
abbrev s_House_are_numbers : Stmt := inClass (topS 23) 7
abbrev N_House_are_numbers : List Str := ["self", "numbers", "number"]
theorem sc_House_are_numbers : FnScope N_House_are_numbers ["self", "numbers"] (defScope s_House_are_numbers) := ⟨rfl, rfl, rfl, by decide +kernel, rfl, by decide +kernel, by decide +kernel⟩
abbrev s_House_are_potentials : Stmt := inClass (topS 23) 8
abbrev N_House_are_potentials : List Str := ["self", "numbers", "number"]
theorem sc_House_are_potentials : FnScope N_House_are_potentials ["self", "numbers"] (defScope s_House_are_potentials) := ⟨rfl, rfl, rfl, by decide +kernel, rfl, by decide +kernel, by decide +kernel⟩
abbrev s_House_apply : Stmt := inClass (topS 23) 9
abbrev N_House_apply : List Str := ["self", "numbers", "greatest"]
theorem sc_House_apply : FnScope N_House_apply ["self", "numbers"] (defScope s_House_apply) := ⟨rfl, rfl, rfl, by decide +kernel, rfl, by decide +kernel, by decide +kernel⟩
abbrev s_House_net : Stmt := inClass (topS 23) 10
abbrev N_House_net : List Str := ["self", "member"]
theorem sc_House_net : FnScope N_House_net ["self", "member"] (defScope s_House_net) := ⟨rfl, rfl, rfl, by decide +kernel, rfl, by decide +kernel, by decide +kernel⟩
abbrev s_House_gross : Stmt := inClass (topS 23) 11
abbrev N_House_gross : List Str := ["self", "some", "key", "trade"]
theorem sc_House_gross : FnScope N_House_gross ["self"] (defScope s_House_gross) := ⟨rfl, rfl, rfl, by decide +kernel, rfl, by decide +kernel, by decide +kernel⟩
abbrev s_House_told : Stmt := inClass (topS 23) 12
abbrev N_House_told : List Str := ["self", "keys", "numbers", "found", "key", "number"]
theorem sc_House_told : FnScope N_House_told ["self"] (defScope s_House_told) := ⟨rfl, rfl, rfl, by decide +kernel, rfl, by decide +kernel, by decide +kernel⟩
abbrev s_House_is_one : Stmt := inClass (topS 23) 13
abbrev N_House_is_one : List Str := ["self", "numbers"]
theorem sc_House_is_one : FnScope N_House_is_one ["self", "numbers"] (defScope s_House_is_one) := ⟨rfl, rfl, rfl, by decide +kernel, rfl, by decide +kernel, by decide +kernel⟩
abbrev s_House_bound : Stmt := inClass (topS 23) 14
abbrev N_House_bound : List Str := ["self", "potentials"]
theorem sc_House_bound : FnScope N_House_bound ["self", "potentials"] (defScope s_House_bound) := ⟨rfl, rfl, rfl, by decide +kernel, rfl, by decide +kernel, by decide +kernel⟩
abbrev s_House_potentials : Stmt := inClass (topS 23) 15
abbrev N_House_potentials : List Str := ["self", "members", "potentials", "found", "member", "potential"]
theorem sc_House_potentials : FnScope N_House_potentials ["self"] (defScope s_House_potentials) := ⟨rfl, rfl, rfl, by decide +kernel, rfl, by decide +kernel, by decide +kernel⟩
abbrev s_House_proves : Stmt := inClass (topS 23) 16
abbrev N_House_proves : List Str := ["self", "potentials", "numbers"]
theorem sc_House_proves : FnScope N_House_proves ["self", "potentials", "numbers"] (defScope s_House_proves) := ⟨rfl, rfl, rfl, by decide +kernel, rfl, by decide +kernel, by decide +kernel⟩
abbrev s_House_without : Stmt := inClass (topS 23) 17
abbrev N_House_without : List Str := ["self", "key", "fault"]
theorem sc_House_without : FnScope N_House_without ["self", "key"] (defScope s_House_without) := ⟨rfl, rfl, rfl, by decide +kernel, rfl, by decide +kernel, by decide +kernel⟩
abbrev s_House_worth : Stmt := inClass (topS 23) 18
abbrev N_House_worth : List Str := ["self", "key", "fault"]
theorem sc_House_worth : FnScope N_House_worth ["self", "key"] (defScope s_House_worth) := ⟨rfl, rfl, rfl, by decide +kernel, rfl, by decide +kernel, by decide +kernel⟩
abbrev s_House_members : Stmt := inClass (topS 23) 19
abbrev N_House_members : List Str := ["self"]
theorem sc_House_members : FnScope N_House_members ["self"] (defScope s_House_members) := ⟨rfl, rfl, rfl, by decide +kernel, rfl, by decide +kernel, by decide +kernel⟩
abbrev s_House_trades : Stmt := inClass (topS 23) 20
abbrev N_House_trades : List Str := ["self", "found", "key", "trade"]
theorem sc_House_trades : FnScope N_House_trades ["self"] (defScope s_House_trades) := ⟨rfl, rfl, rfl, by decide +kernel, rfl, by decide +kernel, by decide +kernel⟩
abbrev s_House_between : Stmt := inClass (topS 23) 21
abbrev N_House_between : List Str := ["self", "one", "other"]
theorem sc_House_between : FnScope N_House_between ["self", "one", "other"] (defScope s_House_between) := ⟨rfl, rfl, rfl, by decide +kernel, rfl, by decide +kernel, by decide +kernel⟩
abbrev s_row_at : Stmt := topS 26
abbrev N_row_at : List Str := ["calls", "at", "end"]
theorem sc_row_at : FnScope N_row_at ["calls", "at"] (defScope s_row_at) := ⟨rfl, rfl, rfl, by decide +kernel, rfl, by decide +kernel, by decide +kernel⟩
abbrev s_plain_answer : Stmt := topS 27
abbrev N_plain_answer : List Str := ["house", "call"]
theorem sc_plain_answer : FnScope N_plain_answer ["house", "call"] (defScope s_plain_answer) := ⟨rfl, rfl, rfl, by decide +kernel, rfl, by decide +kernel, by decide +kernel⟩
abbrev s_row_answer : Stmt := topS 28
abbrev N_row_answer : List Str := ["house", "call", "row"]
theorem sc_row_answer : FnScope N_row_answer ["house", "call", "row"] (defScope s_row_answer) := ⟨rfl, rfl, rfl, by decide +kernel, rfl, by decide +kernel, by decide +kernel⟩
abbrev s_number_answer : Stmt := topS 29
abbrev N_number_answer : List Str := ["house", "call", "numbers"]
theorem sc_number_answer : FnScope N_number_answer ["house", "call", "numbers"] (defScope s_number_answer) := ⟨rfl, rfl, rfl, by decide +kernel, rfl, by decide +kernel, by decide +kernel⟩
abbrev s_answer_at : Stmt := topS 30
abbrev N_answer_at : List Str := ["house", "calls", "at", "call", "potentials", "middle", "numbers", "end", "row", "size"]
theorem sc_answer_at : FnScope N_answer_at ["house", "calls", "at"] (defScope s_answer_at) := ⟨rfl, rfl, rfl, by decide +kernel, rfl, by decide +kernel, by decide +kernel⟩
abbrev s_answers : Stmt := topS 31
abbrev N_answers : List Str := ["calls", "house", "found", "at", "told"]
theorem sc_answers : FnScope N_answers ["calls"] (defScope s_answers) := ⟨rfl, rfl, rfl, by decide +kernel, rfl, by decide +kernel, by decide +kernel⟩
structure Tx (K : PySem.W.Frag) (mg : Str → Option Value) where
  C_Trade : Addr
  g_Trade : mg "Trade" = some (.ref C_Trade)
  cl_Trade : Cls K C_Trade
  n_Trade_giver : NoAttr K C_Trade "giver"
  n_Trade_taker : NoAttr K C_Trade "taker"
  n_Trade_amount : NoAttr K C_Trade "amount"
  n_Trade_least : NoAttr K C_Trade "least"
  C_Book : Addr
  g_Book : mg "Book" = some (.ref C_Book)
  cl_Book : Cls K C_Book
  n_Book_held : NoAttr K C_Book "held"
  C_House : Addr
  g_House : mg "House" = some (.ref C_House)
  cl_House : Cls K C_House
  n_House_book : NoAttr K C_House "book"
  f_excesses : Addr
  d_excesses : FuncData
  F_excesses : Fun K "excesses" "excesses" s_excesses f_excesses d_excesses
  b_excesses : Binds K d_excesses ["many", "arcs", "flow"] []
  g_excesses : mg "excesses" = some (.ref f_excesses)
  f_ways : Addr
  d_ways : FuncData
  F_ways : Fun K "ways" "ways" s_ways f_ways d_ways
  b_ways : Binds K d_ways ["arcs", "flow"] []
  g_ways : mg "ways" = some (.ref f_ways)
  f_labels : Addr
  d_labels : FuncData
  F_labels : Fun K "labels" "labels" s_labels f_labels d_labels
  b_labels : Binds K d_labels ["many", "found", "excess"] []
  g_labels : mg "labels" = some (.ref f_labels)
  f_led_back : Addr
  d_led_back : FuncData
  F_led_back : Fun K "led_back" "led_back" s_led_back f_led_back d_led_back
  b_led_back : Binds K d_led_back ["last", "place"] []
  g_led_back : mg "led_back" = some (.ref f_led_back)
  f_push : Addr
  d_push : FuncData
  F_push : Fun K "push" "push" s_push f_push d_push
  b_push : Binds K d_push ["flow", "steps", "amount"] []
  g_push : mg "push" = some (.ref f_push)
  f_even_out : Addr
  d_even_out : FuncData
  F_even_out : Fun K "even_out" "even_out" s_even_out f_even_out d_even_out
  b_even_out : Binds K d_even_out ["many", "arcs", "flow"] []
  g_even_out : mg "even_out" = some (.ref f_even_out)
  f_greatest_flow : Addr
  d_greatest_flow : FuncData
  F_greatest_flow : Fun K "greatest_flow" "greatest_flow" s_greatest_flow f_greatest_flow d_greatest_flow
  b_greatest_flow : Binds K d_greatest_flow ["many", "arcs"] []
  g_greatest_flow : mg "greatest_flow" = some (.ref f_greatest_flow)
  f_least_potentials : Addr
  d_least_potentials : FuncData
  F_least_potentials : Fun K "least_potentials" "least_potentials" s_least_potentials f_least_potentials d_least_potentials
  b_least_potentials : Binds K d_least_potentials ["many", "arcs", "flow"] []
  g_least_potentials : mg "least_potentials" = some (.ref f_least_potentials)
  f_worth_of : Addr
  d_worth_of : FuncData
  F_worth_of : Fun K "worth_of" "worth_of" s_worth_of f_worth_of d_worth_of
  b_worth_of : Binds K d_worth_of ["potentials", "start", "end"] []
  g_worth_of : mg "worth_of" = some (.ref f_worth_of)
  f_bound_of : Addr
  d_bound_of : FuncData
  F_bound_of : Fun K "bound_of" "bound_of" s_bound_of f_bound_of d_bound_of
  b_bound_of : Binds K d_bound_of ["potentials", "arcs"] []
  g_bound_of : mg "bound_of" = some (.ref f_bound_of)
  f_way_round : Addr
  d_way_round : FuncData
  F_way_round : Fun K "way_round" "way_round" s_way_round f_way_round d_way_round
  b_way_round : Binds K d_way_round ["found", "begin", "target"] []
  g_way_round : mg "way_round" = some (.ref f_way_round)
  f_raise_arc : Addr
  d_raise_arc : FuncData
  F_raise_arc : Fun K "raise_arc" "raise_arc" s_raise_arc f_raise_arc d_raise_arc
  b_raise_arc : Binds K d_raise_arc ["arcs", "flow", "at", "free"] []
  g_raise_arc : mg "raise_arc" = some (.ref f_raise_arc)
  f_first_flow : Addr
  d_first_flow : FuncData
  F_first_flow : Fun K "first_flow" "first_flow" s_first_flow f_first_flow d_first_flow
  b_first_flow : Binds K d_first_flow ["many", "arcs"] []
  g_first_flow : mg "first_flow" = some (.ref f_first_flow)
  f_Trade_init : Addr
  d_Trade_init : FuncData
  F_Trade_init : Fun K "__init__" "Trade.__init__" s_Trade_init f_Trade_init d_Trade_init
  b_Trade_init : Binds K d_Trade_init ["self", "giver", "taker", "amount", "least"] []
  k_Trade : Mk K C_Trade f_Trade_init
  f_Trade_room : Addr
  d_Trade_room : FuncData
  F_Trade_room : Fun K "room" "Trade.room" s_Trade_room f_Trade_room d_Trade_room
  b_Trade_room : Binds K d_Trade_room ["self"] []
  m_Trade_room : Meth K C_Trade "room" f_Trade_room
  f_Book_init : Addr
  d_Book_init : FuncData
  F_Book_init : Fun K "__init__" "Book.__init__" s_Book_init f_Book_init d_Book_init
  b_Book_init : Binds K d_Book_init ["self"] []
  k_Book : Mk K C_Book f_Book_init
  f_Book_members : Addr
  d_Book_members : FuncData
  F_Book_members : Fun K "members" "Book.members" s_Book_members f_Book_members d_Book_members
  b_Book_members : Binds K d_Book_members ["self"] []
  m_Book_members : Meth K C_Book "members" f_Book_members
  f_Book_arcs : Addr
  d_Book_arcs : FuncData
  F_Book_arcs : Fun K "arcs" "Book.arcs" s_Book_arcs f_Book_arcs d_Book_arcs
  b_Book_arcs : Binds K d_Book_arcs ["self", "without", "bare"] []
  m_Book_arcs : Meth K C_Book "arcs" f_Book_arcs
  f_Book_key_rows : Addr
  d_Book_key_rows : FuncData
  F_Book_key_rows : Fun K "key_rows" "Book.key_rows" s_Book_key_rows f_Book_key_rows d_Book_key_rows
  b_Book_key_rows : Binds K d_Book_key_rows ["self"] []
  m_Book_key_rows : Meth K C_Book "key_rows" f_Book_key_rows
  f_Book_all_arcs : Addr
  d_Book_all_arcs : FuncData
  F_Book_all_arcs : Fun K "all_arcs" "Book.all_arcs" s_Book_all_arcs f_Book_all_arcs d_Book_all_arcs
  b_Book_all_arcs : Binds K d_Book_all_arcs ["self"] []
  m_Book_all_arcs : Meth K C_Book "all_arcs" f_Book_all_arcs
  f_Book_total : Addr
  d_Book_total : FuncData
  F_Book_total : Fun K "total" "Book.total" s_Book_total f_Book_total d_Book_total
  b_Book_total : Binds K d_Book_total ["self", "without", "bare"] []
  m_Book_total : Meth K C_Book "total" f_Book_total
  f_Book_greatest : Addr
  d_Book_greatest : FuncData
  F_Book_greatest : Fun K "greatest" "Book.greatest" s_Book_greatest f_Book_greatest d_Book_greatest
  b_Book_greatest : Binds K d_Book_greatest ["self"] []
  m_Book_greatest : Meth K C_Book "greatest" f_Book_greatest
  f_Book_told : Addr
  d_Book_told : FuncData
  F_Book_told : Fun K "told" "Book.told" s_Book_told f_Book_told d_Book_told
  b_Book_told : Binds K d_Book_told ["self"] []
  m_Book_told : Meth K C_Book "told" f_Book_told
  f_Book_potentials : Addr
  d_Book_potentials : FuncData
  F_Book_potentials : Fun K "potentials" "Book.potentials" s_Book_potentials f_Book_potentials d_Book_potentials
  b_Book_potentials : Binds K d_Book_potentials ["self"] []
  m_Book_potentials : Meth K C_Book "potentials" f_Book_potentials
  f_Book_worth : Addr
  d_Book_worth : FuncData
  F_Book_worth : Fun K "worth" "Book.worth" s_Book_worth f_Book_worth d_Book_worth
  b_Book_worth : Binds K d_Book_worth ["self", "key"] []
  m_Book_worth : Meth K C_Book "worth" f_Book_worth
  f_Book_bound : Addr
  d_Book_bound : FuncData
  F_Book_bound : Fun K "bound" "Book.bound" s_Book_bound f_Book_bound d_Book_bound
  b_Book_bound : Binds K d_Book_bound ["self", "potentials"] []
  m_Book_bound : Meth K C_Book "bound" f_Book_bound
  f_Book_is_reduction : Addr
  d_Book_is_reduction : FuncData
  F_Book_is_reduction : Fun K "is_reduction" "Book.is_reduction" s_Book_is_reduction f_Book_is_reduction d_Book_is_reduction
  b_Book_is_reduction : Binds K d_Book_is_reduction ["self", "numbers"] []
  m_Book_is_reduction : Meth K C_Book "is_reduction" f_Book_is_reduction
  f_Book_lessen : Addr
  d_Book_lessen : FuncData
  F_Book_lessen : Fun K "lessen" "Book.lessen" s_Book_lessen f_Book_lessen d_Book_lessen
  b_Book_lessen : Binds K d_Book_lessen ["self", "numbers"] []
  m_Book_lessen : Meth K C_Book "lessen" f_Book_lessen
  f_Book_net : Addr
  d_Book_net : FuncData
  F_Book_net : Fun K "net" "Book.net" s_Book_net f_Book_net d_Book_net
  b_Book_net : Binds K d_Book_net ["self", "member"] []
  m_Book_net : Meth K C_Book "net" f_Book_net
  f_Book_sums : Addr
  d_Book_sums : FuncData
  F_Book_sums : Fun K "sums" "Book.sums" s_Book_sums f_Book_sums d_Book_sums
  b_Book_sums : Binds K d_Book_sums ["self", "giver", "taker"] []
  m_Book_sums : Meth K C_Book "sums" f_Book_sums
  f_Book_pair : Addr
  d_Book_pair : FuncData
  F_Book_pair : Fun K "pair" "Book.pair" s_Book_pair f_Book_pair d_Book_pair
  b_Book_pair : Binds K d_Book_pair ["self", "one", "other"] []
  m_Book_pair : Meth K C_Book "pair" f_Book_pair
  f_Book_pairs : Addr
  d_Book_pairs : FuncData
  F_Book_pairs : Fun K "pairs" "Book.pairs" s_Book_pairs f_Book_pairs d_Book_pairs
  b_Book_pairs : Binds K d_Book_pairs ["self"] []
  m_Book_pairs : Meth K C_Book "pairs" f_Book_pairs
  f_is_key : Addr
  d_is_key : FuncData
  F_is_key : Fun K "is_key" "is_key" s_is_key f_is_key d_is_key
  b_is_key : Binds K d_is_key ["number"] []
  g_is_key : mg "is_key" = some (.ref f_is_key)
  f_House_init : Addr
  d_House_init : FuncData
  F_House_init : Fun K "__init__" "House.__init__" s_House_init f_House_init d_House_init
  b_House_init : Binds K d_House_init ["self"] []
  k_House : Mk K C_House f_House_init
  f_House_key_fault : Addr
  d_House_key_fault : FuncData
  F_House_key_fault : Fun K "key_fault" "House.key_fault" s_House_key_fault f_House_key_fault d_House_key_fault
  b_House_key_fault : Binds K d_House_key_fault ["self", "key"] []
  m_House_key_fault : Meth K C_House "key_fault" f_House_key_fault
  f_House_is_full : Addr
  d_House_is_full : FuncData
  F_House_is_full : Fun K "is_full" "House.is_full" s_House_is_full f_House_is_full d_House_is_full
  b_House_is_full : Binds K d_House_is_full ["self", "giver", "taker"] []
  m_House_is_full : Meth K C_House "is_full" f_House_is_full
  f_House_trade : Addr
  d_House_trade : FuncData
  F_House_trade : Fun K "trade" "House.trade" s_House_trade f_House_trade d_House_trade
  b_House_trade : Binds K d_House_trade ["self", "key", "giver", "taker", "amount", "least"] []
  m_House_trade : Meth K C_House "trade" f_House_trade
  f_House_drop : Addr
  d_House_drop : FuncData
  F_House_drop : Fun K "drop" "House.drop" s_House_drop f_House_drop d_House_drop
  b_House_drop : Binds K d_House_drop ["self", "key"] []
  m_House_drop : Meth K C_House "drop" f_House_drop
  f_House_floor : Addr
  d_House_floor : FuncData
  F_House_floor : Fun K "floor" "House.floor" s_House_floor f_House_floor d_House_floor
  b_House_floor : Binds K d_House_floor ["self", "key", "least"] []
  m_House_floor : Meth K C_House "floor" f_House_floor
  f_House_take : Addr
  d_House_take : FuncData
  F_House_take : Fun K "take" "House.take" s_House_take f_House_take d_House_take
  b_House_take : Binds K d_House_take ["self"] []
  m_House_take : Meth K C_House "take" f_House_take
  f_House_are_numbers : Addr
  d_House_are_numbers : FuncData
  F_House_are_numbers : Fun K "are_numbers" "House.are_numbers" s_House_are_numbers f_House_are_numbers d_House_are_numbers
  b_House_are_numbers : Binds K d_House_are_numbers ["self", "numbers"] []
  m_House_are_numbers : Meth K C_House "are_numbers" f_House_are_numbers
  f_House_are_potentials : Addr
  d_House_are_potentials : FuncData
  F_House_are_potentials : Fun K "are_potentials" "House.are_potentials" s_House_are_potentials f_House_are_potentials d_House_are_potentials
  b_House_are_potentials : Binds K d_House_are_potentials ["self", "numbers"] []
  m_House_are_potentials : Meth K C_House "are_potentials" f_House_are_potentials
  f_House_apply : Addr
  d_House_apply : FuncData
  F_House_apply : Fun K "apply" "House.apply" s_House_apply f_House_apply d_House_apply
  b_House_apply : Binds K d_House_apply ["self", "numbers"] []
  m_House_apply : Meth K C_House "apply" f_House_apply
  f_House_net : Addr
  d_House_net : FuncData
  F_House_net : Fun K "net" "House.net" s_House_net f_House_net d_House_net
  b_House_net : Binds K d_House_net ["self", "member"] []
  m_House_net : Meth K C_House "net" f_House_net
  f_House_gross : Addr
  d_House_gross : FuncData
  F_House_gross : Fun K "gross" "House.gross" s_House_gross f_House_gross d_House_gross
  b_House_gross : Binds K d_House_gross ["self"] []
  m_House_gross : Meth K C_House "gross" f_House_gross
  f_House_told : Addr
  d_House_told : FuncData
  F_House_told : Fun K "told" "House.told" s_House_told f_House_told d_House_told
  b_House_told : Binds K d_House_told ["self"] []
  m_House_told : Meth K C_House "told" f_House_told
  f_House_is_one : Addr
  d_House_is_one : FuncData
  F_House_is_one : Fun K "is_one" "House.is_one" s_House_is_one f_House_is_one d_House_is_one
  b_House_is_one : Binds K d_House_is_one ["self", "numbers"] []
  m_House_is_one : Meth K C_House "is_one" f_House_is_one
  f_House_bound : Addr
  d_House_bound : FuncData
  F_House_bound : Fun K "bound" "House.bound" s_House_bound f_House_bound d_House_bound
  b_House_bound : Binds K d_House_bound ["self", "potentials"] []
  m_House_bound : Meth K C_House "bound" f_House_bound
  f_House_potentials : Addr
  d_House_potentials : FuncData
  F_House_potentials : Fun K "potentials" "House.potentials" s_House_potentials f_House_potentials d_House_potentials
  b_House_potentials : Binds K d_House_potentials ["self"] []
  m_House_potentials : Meth K C_House "potentials" f_House_potentials
  f_House_proves : Addr
  d_House_proves : FuncData
  F_House_proves : Fun K "proves" "House.proves" s_House_proves f_House_proves d_House_proves
  b_House_proves : Binds K d_House_proves ["self", "potentials", "numbers"] []
  m_House_proves : Meth K C_House "proves" f_House_proves
  f_House_without : Addr
  d_House_without : FuncData
  F_House_without : Fun K "without" "House.without" s_House_without f_House_without d_House_without
  b_House_without : Binds K d_House_without ["self", "key"] []
  m_House_without : Meth K C_House "without" f_House_without
  f_House_worth : Addr
  d_House_worth : FuncData
  F_House_worth : Fun K "worth" "House.worth" s_House_worth f_House_worth d_House_worth
  b_House_worth : Binds K d_House_worth ["self", "key"] []
  m_House_worth : Meth K C_House "worth" f_House_worth
  f_House_members : Addr
  d_House_members : FuncData
  F_House_members : Fun K "members" "House.members" s_House_members f_House_members d_House_members
  b_House_members : Binds K d_House_members ["self"] []
  m_House_members : Meth K C_House "members" f_House_members
  f_House_trades : Addr
  d_House_trades : FuncData
  F_House_trades : Fun K "trades" "House.trades" s_House_trades f_House_trades d_House_trades
  b_House_trades : Binds K d_House_trades ["self"] []
  m_House_trades : Meth K C_House "trades" f_House_trades
  f_House_between : Addr
  d_House_between : FuncData
  F_House_between : Fun K "between" "House.between" s_House_between f_House_between d_House_between
  b_House_between : Binds K d_House_between ["self", "one", "other"] []
  m_House_between : Meth K C_House "between" f_House_between
  f_row_at : Addr
  d_row_at : FuncData
  F_row_at : Fun K "row_at" "row_at" s_row_at f_row_at d_row_at
  b_row_at : Binds K d_row_at ["calls", "at"] []
  g_row_at : mg "row_at" = some (.ref f_row_at)
  f_plain_answer : Addr
  d_plain_answer : FuncData
  F_plain_answer : Fun K "plain_answer" "plain_answer" s_plain_answer f_plain_answer d_plain_answer
  b_plain_answer : Binds K d_plain_answer ["house", "call"] []
  g_plain_answer : mg "plain_answer" = some (.ref f_plain_answer)
  f_row_answer : Addr
  d_row_answer : FuncData
  F_row_answer : Fun K "row_answer" "row_answer" s_row_answer f_row_answer d_row_answer
  b_row_answer : Binds K d_row_answer ["house", "call", "row"] []
  g_row_answer : mg "row_answer" = some (.ref f_row_answer)
  f_number_answer : Addr
  d_number_answer : FuncData
  F_number_answer : Fun K "number_answer" "number_answer" s_number_answer f_number_answer d_number_answer
  b_number_answer : Binds K d_number_answer ["house", "call", "numbers"] []
  g_number_answer : mg "number_answer" = some (.ref f_number_answer)
  f_answer_at : Addr
  d_answer_at : FuncData
  F_answer_at : Fun K "answer_at" "answer_at" s_answer_at f_answer_at d_answer_at
  b_answer_at : Binds K d_answer_at ["house", "calls", "at"] []
  g_answer_at : mg "answer_at" = some (.ref f_answer_at)
  f_answers : Addr
  d_answers : FuncData
  F_answers : Fun K "answers" "answers" s_answers f_answers d_answers
  b_answers : Binds K d_answers ["calls"] []
  g_answers : mg "answers" = some (.ref f_answers)
  t_MOST_KEY : Tok
  g_MOST_KEY : mg "MOST_KEY" = some (.int 1000000000 t_MOST_KEY)
  t_MOST_TRADES : Tok
  g_MOST_TRADES : mg "MOST_TRADES" = some (.int 40 t_MOST_TRADES)
  t_MOST_MEMBERS : Tok
  g_MOST_MEMBERS : mg "MOST_MEMBERS" = some (.int 12 t_MOST_MEMBERS)
  t_MOST_POTENTIAL : Tok
  g_MOST_POTENTIAL : mg "MOST_POTENTIAL" = some (.int 1000000 t_MOST_POTENTIAL)
  a_SIZES : Addr
  g_SIZES : mg "SIZES" = some (.ref a_SIZES)
  z_range : mg "range" = none
  z_len : mg "len" = none
  z_zip : mg "zip" = none
  z_sum : mg "sum" = none
  z_all : mg "all" = none
  z_sorted : mg "sorted" = none
  z_list : mg "list" = none
  z_int : mg "int" = none
  z_max : mg "max" = none
  z_min : mg "min" = none
/-! ### rules that the layer lacks -/
section
variable {X : Cx}
theorem get_list : PGet X (rIxL X.K) := by
  intro pins s σ H x y v u Q I rx ry h
  obtain ⟨p, xs, i, z, rfl, rfl, hq, he, q⟩ := h
  cases rx
  obtain ⟨t, rfl⟩ := ry
  obtain ⟨its, r, pl, hz⟩ := I.list hq
  obtain ⟨j, h1, h2, h3, h4, h5⟩ := atI_get he
  obtain ⟨w, ew, rw'⟩ := r.get h2
  have hl := r.length
  have hn := line63
  have fin : EP X pins σ Q w s := ⟨z, H, I, rw', q⟩
  by_cases h0 : 0 ≤ i
  · have hj : i.toNat = j := by
      rw [seqIndex_of h0 h5] at h1
      exact Option.some.inj h1
    exact wpAny_getItem_list pl.isList h0 (by omega) (by rw [hj]; simpa using ew) fin
  · have hj : (i + (its.toArray.size : Int)).toNat = j := by
      rw [seqIndex_neg (by omega) h4] at h1
      rw [List.size_toArray, ← hl]
      exact Option.some.inj h1
    exact wpAny_getItem_list_neg pl.isList (by omega) (by rw [List.size_toArray] <;> omega) (by omega) (by rw [hj]; simpa using ew) fin
theorem vals_back : ∀ {xs : List V} {us : List Value} {i : Nat} {u : Value}, Vals xs us → us[i]? = some u → ∃ x, xs[i]? = some x ∧ RelV x u
  | _, _, _, _, .nil, e => by simp at e
  | _, _, 0, _, .cons r _, e => by simp at e; subst e; exact ⟨_, rfl, r⟩
  | _, _, i + 1, u, .cons _ t, e => by
    obtain ⟨x, h1, h2⟩ := vals_back (i := i) (u := u) t (by simpa using e)
    exact ⟨x, by simpa using h1, h2⟩
def rMinD (K : PySem.W.Frag) : List V → Hp → VK → Prop := fun vs H Q => ∃ (a : Addr) (xs : List V) (d : PyData) (ds : List PyData), vs = [V.ref a] ∧ SqL K H a xs ∧ DpAll K H xs (d :: ds) ∧ PySem.W.AlikeAll (d :: ds) ∧ PyData.depthAll (d :: ds) ≤ 60 ∧
  ∀ (i : Nat) (x : V), xs[i]? = some x → Q x H
theorem cr_minD (hc : X.calm = true) (hu : X.A.units + 64 < cLine) : CallR X (.builtin "min") (rMinD X.K) := by
  intro pins s σ H vs us Q I r h
  obtain ⟨a, xs, d, ds, rfl, hs, hd, ha, hdep, q⟩ := h
  obtain ⟨its, rv, hl, _⟩ := I.list hs
  rw [Vals.ref1 r]
  obtain ⟨as, ra⟩ := Dp.readsAll I _ _ _ hd rv
  refine PySem.W.min_list_data (I.ok.hd hc) hl.isList (by simpa using ra) ha (by omega) fun i v h' tk bs hi _ hk => ?_
  obtain ⟨x, hx, rx⟩ := vals_back rv (by simpa using hi)
  exact ⟨x, H, I.kept hk, rx, q i x hx⟩
end
end St
end
section
set_option maxRecDepth 100000
set_option maxHeartbeats 4000000
/-! Heaps: what is kept; lists of ints by functions; arcs and ways. -/
namespace St
open PySem PySem.Spec PyProof.Rows L2 NT
theorem same_new {H : Hp} {p : Addr} {o : HO} (h : H p = none) : Same H (upd H p o) := fun b x e => by
  rw [upd_ne (ne_of_none e h)]
  exact e
theorem _root_.L2.Same.mut {H H' : Hp} {p : Addr} {o : HO} (e : Same H H') (h : H p = none) : Same H (upd H' p o) := fun a u ha => by
  rw [upd_ne (ne_of_none ha h)]
  exact e a u ha
theorem _root_.L2.Same.tup {K : PySem.W.Frag} {H H' : Hp} {a : Addr} {xs : List V} (e : Same H H') (h : SqT K H a xs) : SqT K H' a xs := by
  rcases h with (h | ⟨o, h⟩) | h
  · exact .inl (.inl (e _ _ h))
  · exact .inl (.inr ⟨o, e _ _ h⟩)
  · exact .inr h
/-- all that was tracked but f is as it was -/
def Keep (f : Addr) (H H' : Hp) : Prop := ∀ b o, H b = some o → b ≠ f → H' b = some o
theorem Keep.refl (f : Addr) (H : Hp) : Keep f H H := fun _ _ h _ => h
theorem Keep.trans {f : Addr} {H H1 H2 : Hp} (a : Keep f H H1) (b : Keep f H1 H2) : Keep f H H2 := fun c o h n => b c o (a c o h n) n
theorem _root_.L2.Same.keep {f : Addr} {H H' : Hp} (a : Same H H') : Keep f H H' := fun c o h _ => a c o h
theorem Keep.upd {f : Addr} {H H' : Hp} {o : HO} (a : Keep f H H') : Keep f H (upd H' f o) := fun c u h n => by
  rw [upd_ne n]
  exact a c u h n
theorem Keep.mut {f : Addr} {H H' : Hp} {p : Addr} {o : HO} (e : Keep f H H') (h : H p = none) : Keep f H (L2.upd H' p o) := fun a u ha n => by
  rw [upd_ne (ne_of_none ha h)]
  exact e a u ha n
theorem Keep.seq {K : PySem.W.Frag} {f : Addr} {H H' : Hp} {a : Addr} {xs : List V} (e : Keep f H H') (n : a ≠ f) (h : SqL K H a xs) : SqL K H' a xs := by
  rcases h with (h | ⟨o, h⟩) | h
  · exact .inl (.inl (e _ _ h n))
  · exact .inl (.inr ⟨o, e _ _ h n⟩)
  · exact .inr h
/-- a tuple is no list -/
theorem Keep.tup {K : PySem.W.Frag} {f : Addr} {H H' : Hp} {a : Addr} {xs ys : List V} (e : Keep f H H') (hf : H f = some (.lst ys)) (h : SqT K H a xs) : SqT K H' a xs := by
  rcases h with (h | ⟨o, h⟩) | h
  · exact .inl (.inl (e _ _ h (ne_of h hf (by intro z; cases z))))
  · exact .inl (.inr ⟨o, e _ _ h (ne_of h hf (by intro z; cases z))⟩)
  · exact .inr h
theorem new_ne {H : Hp} {p a : Addr} {o : HO} (h : H a = some o) (n : H p = none) : a ≠ p := ne_of_none h n
theorem seq_ne {K : PySem.W.Frag} {H : Hp} {p a : Addr} {xs : List V} (h : SqL K H a xs) (n : H p = none) (hk : K.lookup a = none ∨ True) : (∃ o, H a = some o) → a ≠ p := fun ⟨o, e⟩ => ne_of_none e n
/-! ### rules whose K is said (within a comprehension) -/
section
variable {X : Cx} {K : PySem.W.Frag}
theorem ix_listK (h : X.K = K) : IxR X (rIxL K) := h ▸ ix_list
theorem ix_tupK (h : X.K = K) : IxR X (rIxT K) := h ▸ ix_tup
theorem pe_fldK {e : Expr} {ta : TE} {f : Str} {pos : Pos} (h : X.K = K) (he : PE X e ta) (hb : attributeBase e f X.env (eval e X.env) = eval e X.env) : PE X (.Attribute e f pos) (tFld K ta f) := h ▸ pe_fld he hb
theorem pg_tupK {es : List Expr} {k : Nat} {t : TGs} {n : Nat} {pos : Pos} (h : X.K = K) (hc : X.calm = true) (hg : PGs X es t)
    (hn : (assignEach es X.env).length = n := by rfl) (hst : (assignEach es X.env).findIdx? (·.1) = none := by rfl) : PG X (.Tuple es k pos) (gTup K n t) := h ▸ pg_tup hc hg hn hst
end
/-! ### lists of ints -/
def Lst (n : Nat) (x : Nat → Int) : List V := ((List.range n).map x).map V.int
theorem Lst_len (n : Nat) (x : Nat → Int) : (Lst n x).length = n := by unfold Lst; simp
theorem Lst_get {n : Nat} {x : Nat → Int} {i : Nat} (h : i < n) : (Lst n x)[i]? = some (.int (x i)) := by unfold Lst; simp [h]
theorem Lst_at {n : Nat} {x : Nat → Int} {i : Nat} (h : i < n) : atI (Lst n x) (i : Int) = some (.int (x i)) := atI_nat (Lst_get h)
theorem Lst_congr {n : Nat} {x y : Nat → Int} (h : ∀ i, i < n → x i = y i) : Lst n x = Lst n y := by
  unfold Lst
  rw [List.map_congr_left (f := x) (g := y) (fun i hi => h i (List.mem_range.mp hi))]
def fset (x : Nat → Int) (i : Nat) (v : Int) : Nat → Int := fun j => if j = i then v else x j
theorem fset_same {x : Nat → Int} {i : Nat} {v : Int} : fset x i v i = v := if_pos rfl
theorem fset_ne {x : Nat → Int} {i j : Nat} {v : Int} (h : j ≠ i) : fset x i v j = x j := if_neg h
theorem Lst_set (n : Nat) (x : Nat → Int) (i : Nat) (v : Int) : (Lst n x).set i (.int v) = Lst n (fset x i v) := by
  refine List.ext_getElem? fun j => ?_
  rw [List.getElem?_set]
  by_cases h : j < n
  · rw [Lst_get h]
    by_cases e : i = j
    · subst e
      rw [if_pos rfl, Lst_len, if_pos h, Lst_get h, fset_same]
    · rw [if_neg e, Lst_get h, fset_ne (Ne.symm e)]
  · have e1 : (Lst n (fset x i v))[j]? = none := List.getElem?_eq_none (by rw [Lst_len]; omega)
    have e2 : (Lst n x)[j]? = none := List.getElem?_eq_none (by rw [Lst_len]; omega)
    rw [e1, e2, Lst_len]
    by_cases e : i = j
    · rw [if_pos e, if_neg (by omega)]
    · rw [if_neg e]
theorem Lst_succ (n : Nat) (x : Nat → Int) : Lst (n + 1) x = Lst n x ++ [.int (x n)] := by unfold Lst; simp [List.range_succ]
theorem sum_append (a b : List Int) : (a ++ b).sum = a.sum + b.sum := by
  induction a with
  | nil => simp
  | cons x r ih => simp only [List.cons_append, List.sum_cons, ih]; omega
theorem Lst_sum (x : Nat → Int) : ∀ n, ((List.range n).map x).sum = S n x
  | 0 => rfl
  | n + 1 => by
    rw [List.range_succ, List.map_append, sum_append, Lst_sum x n]
    simp [S]
theorem rep_Lst (n : Nat) (c : Int) : List.replicate n (V.int c) = Lst n (fun _ => c) := by
  refine List.ext_getElem? fun j => ?_
  by_cases h : j < n
  · rw [Lst_get h, List.getElem?_replicate, if_pos h]
  · rw [List.getElem?_eq_none (by simp; omega), List.getElem?_eq_none (by rw [Lst_len]; omega)]
theorem flat_one {α : Type} (c : α) : ∀ n, (List.replicate n [c]).flatten = List.replicate n c
  | 0 => rfl
  | n + 1 => by rw [List.replicate_succ, List.flatten_cons, flat_one c n, List.replicate_succ]; rfl
theorem rep_flat (n : Nat) (c : Int) : (List.replicate n [V.int c]).flatten = Lst n (fun _ => c) := by rw [flat_one, rep_Lst]
/-! ### arcs and ways: lists of tuples of ints -/
def TupsAt (K : PySem.W.Frag) (H : Hp) (p : Addr) (rows : List (List V)) : Prop := ∃ vs, SqL K H p vs ∧ vs.length = rows.length ∧ ∀ (i : Nat) (r : List V), rows[i]? = some r → ∃ t, vs[i]? = some (.ref t) ∧ SqT K H t r
theorem _root_.L2.Same.tups {K : PySem.W.Frag} {H H' : Hp} {p : Addr} {rows : List (List V)} (e : Same H H') (h : TupsAt K H p rows) : TupsAt K H' p rows := by
  obtain ⟨vs, h1, h2, h3⟩ := h
  exact ⟨vs, e.seq h1, h2, fun i r hi => let ⟨t, a, b⟩ := h3 i r hi; ⟨t, a, e.tup b⟩⟩
theorem Keep.tups {K : PySem.W.Frag} {f : Addr} {H H' : Hp} {p : Addr} {ys : List V} {rows : List (List V)} (e : Keep f H H') (hf : H f = some (.lst ys)) (n : p ≠ f) (h : TupsAt K H p rows) : TupsAt K H' p rows := by
  obtain ⟨vs, h1, h2, h3⟩ := h
  exact ⟨vs, e.seq n h1, h2, fun i r hi => let ⟨t, a, b⟩ := h3 i r hi; ⟨t, a, e.tup hf b⟩⟩
def arow (A : N) (i : Nat) : List V := [.int (A.s i : Nat), .int (A.e i : Nat), .int (A.r i)]
def ArcsAt (K : PySem.W.Frag) (H : Hp) (p : Addr) (A : N) : Prop := TupsAt K H p ((List.range A.m).map (arow A))
theorem arow_get {A : N} {i : Nat} (h : i < A.m) : ((List.range A.m).map (arow A))[i]? = some (arow A i) := by simp [h]
def wrow (w : Ed) : List V := [.int (w.u : Nat), .int (w.v : Nat), .int w.c, .int (w.i : Nat), .int w.sg, .int w.cap]
def WaysAt (K : PySem.W.Frag) (H : Hp) (p : Addr) (ws : List Ed) : Prop := TupsAt K H p (ws.map wrow)
/-- .. written there -/
structure TupsW (H : Hp) (p : Addr) (vs : List V) (rows : List (List V)) : Prop where
  at_ : H p = some (.lst vs)
  len : vs.length = rows.length
  rows : ∀ (i : Nat) (r : List V), rows[i]? = some r → ∃ t, vs[i]? = some (.ref t) ∧ H t = some (.tup r)
theorem TupsW.tups {K : PySem.W.Frag} {H : Hp} {p : Addr} {vs : List V} {rows : List (List V)} (h : TupsW H p vs rows) : TupsAt K H p rows :=
  ⟨vs, SqL.of h.at_, h.len, fun i r hi => let ⟨t, a, b⟩ := h.rows i r hi; ⟨t, a, SqT.of b⟩⟩
theorem TupsW.nil {H : Hp} {p : Addr} (h : H p = some (.lst [])) : TupsW H p [] [] := ⟨h, rfl, fun i r e => by simp at e⟩
/-- other objects change -/
theorem TupsW.same {H H' : Hp} {p : Addr} {vs : List V} {rows : List (List V)} (h : TupsW H p vs rows) (e : Same H H') : TupsW H' p vs rows := ⟨e _ _ h.at_, h.len, fun i r hi => let ⟨t, a, b⟩ := h.rows i r hi; ⟨t, a, e _ _ b⟩⟩
theorem TupsW.push {H : Hp} {p t : Addr} {vs : List V} {rows : List (List V)} {r : List V} (h : TupsW H p vs rows) (n : H t = none) : TupsW (upd (upd H t (.tup r)) p (.lst (vs ++ [.ref t]))) p (vs ++ [.ref t]) (rows ++ [r]) where
  at_ := upd_same
  len := by rw [List.length_append, List.length_append, h.len]; rfl
  rows := fun i r' hi => by
    have tp : t ≠ p := (ne_of_none h.at_ n).symm
    rw [List.getElem?_append] at hi ⊢
    rw [h.len]
    by_cases q : i < rows.length
    · rw [if_pos q] at hi ⊢
      obtain ⟨u, a, b⟩ := h.rows i r' hi
      refine ⟨u, a, ?_⟩
      rw [upd_ne (ne_of b h.at_ (by intro z; cases z)), upd_ne (ne_of_none b n)]
      exact b
    · rw [if_neg q] at hi ⊢
      have e : i - rows.length = 0 := by
        rcases Nat.eq_zero_or_pos (i - rows.length) with z | z
        · exact z
        · rw [List.getElem?_eq_none (by simp; omega)] at hi
          cases hi
      rw [e] at hi ⊢
      cases hi
      exact ⟨t, rfl, by rw [upd_ne tp, upd_same]⟩
/-- small networks whose vertices are below n -/
structure Fit (A : N) (n : Nat) : Prop where
  hm : A.m ≤ 1000
  hn : n ≤ 1000
  ends : ∀ i, i < A.m → A.s i < n ∧ A.e i < n
theorem sz1000 {n : Nat} (h : n ≤ 1000) : n ≤ sizeLine := Nat.le_of_lt (small1000 h)
theorem sz_of {n : Nat} (h : n ≤ 1000000) : n ≤ sizeLine := Nat.le_trans h (by rw [sizeLine_eq]; decide)
theorem sz_lt {n : Nat} (h : n < 1000000) : n < sizeLine := Nat.lt_of_lt_of_le h (by rw [sizeLine_eq]; decide)
theorem ixN_nat {n j : Nat} (h : j < n) (hn : n ≤ 1000000) : ixN n (j : Int) = some j := by
  unfold ixN
  simp
  omega
end St
end
section
set_option maxRecDepth 100000
set_option maxHeartbeats 4000000
namespace St
open PySem PySem.Spec PyProof.Rows L2 NT
def excP (A : N) (x : Nat → Int) (k v : Nat) : Int := S k fun i => (if A.e i = v then x i else 0) - (if A.s i = v then x i else 0)
theorem excP_all (A : N) (x : Nat → Int) (v : Nat) : excP A x A.m v = exc A x v := rfl
theorem excP_next (A : N) (x : Nat → Int) (k v : Nat) : fset (fset (excP A x k) (A.s k) (excP A x k (A.s k) - x k)) (A.e k) (fset (excP A x k) (A.s k) (excP A x k (A.s k) - x k) (A.e k) + x k) v = excP A x (k + 1) v := by
  have e : excP A x (k + 1) v = excP A x k v + ((if A.e k = v then x k else 0) - (if A.s k = v then x k else 0)) := rfl
  rw [e]
  unfold fset
  by_cases h1 : v = A.e k
  · rw [if_pos h1, if_pos h1.symm]
    by_cases h2 : v = A.s k
    · rw [if_pos h2.symm, ← h1, if_pos h2, ← h2]; omega
    · rw [if_neg (Ne.symm h2), ← h1, if_neg h2]; omega
  · rw [if_neg h1, if_neg (Ne.symm h1)]
    by_cases h2 : v = A.s k
    · rw [if_pos h2, if_pos h2.symm, ← h2]; omega
    · rw [if_neg h2, if_neg (Ne.symm h2)]; omega
def sp_excesses (K : PySem.W.Frag) : Sp := fun vs H Q _ => ∃ (n : Nat) (pa pf : Addr) (A : N) (x : Nat → Int), vs = [.int (n : Nat), .ref pa, .ref pf] ∧ Fit A n ∧ ArcsAt K H pa A ∧ SqL K H pf (Lst A.m x) ∧
  ∀ H' p, Same H H' → H p = none → H' p = some (.lst (Lst n (exc A x))) → Q (.ref p) H'
section
variable {P : Program} {w : World} {K : PySem.W.Frag} {mg : Str → Option Value} {base : Heap}
theorem ok_excesses (T : Tx K mg) : FnOk P w K mg base CX0 1 T.f_excesses T.d_excesses ["many", "arcs", "flow"] (sp_excesses K) := by
  refine T.F_excesses.ok sc_excesses (fun vs H Q E h => ?_) (fun cdv A outer s H vs Q E hr h => ?_)
  · obtain ⟨n, pa, pf, A, x, rfl, _⟩ := h
    rfl
  · refine ⟨_, (pss_cons (ps_set (i := 3) sc_excesses.nd rfl (.inl rfl) (pe_op op_rep (pe_lst (pa_cons pe_int pa_nil)) (pv 0)))
      (pss_cons (ps_for PassesOwn.never rfl (pi_range1 (by rfl) T.z_range (pa_cons (pe_callB call_len_seq (by rfl) T.z_len (by decide +kernel) (pa_cons (pv 1) pa_nil)) pa_nil)) (pg_name (i := 4) sc_excesses.nd rfl (.inl rfl))
      (pss_cons (ps_augS (pv 3) (pe_ix ix_tup (pe_ix ix_list (pv 1) (pv 4) (fun _ _ => rfl)) pe_int (fun _ _ => rfl)) get_list (pe_ix ix_list (pv 2) (pv 4) (fun _ _ => rfl)) ip_sub set_list)
      (pss_one (ps_augS (pv 3) (pe_ix ix_tup (pe_ix ix_list (pv 1) (pv 4) (fun _ _ => rfl)) pe_int (fun _ _ => rfl)) get_list (pe_ix ix_list (pv 2) (pv 4) (fun _ _ => rfl)) ip_add set_list))))
      (pss_one (ps_ret (pv 3))))), ?_⟩
    -- slots: 0 many, 1 arcs, 2 flow, 3 found, 4 at
    obtain ⟨n, pa, pf, A, x, rfl, hf, hA, hx, q⟩ := h
    obtain ⟨va, a1, a2, a3⟩ := hA
    -- found = [0] * many
    refine ⟨by show 1 ≤ sizeLine; decide, fun l0 n0 => ⟨_, rfl, l0, _, _, rfl, rfl, upd_same, by have := hf.hn; omega, by have := hf.hn; omega, sz_of (by have := hf.hn; simp; omega), fun p np => ?_⟩⟩
    have s1 : Same H (upd (upd H l0 (.lst [.int 0])) p (.lst (List.replicate (n : Int).toNat [.int 0]).flatten)) := (same_new n0).trans (same_new np)
    have e1 : (upd (upd H l0 (.lst [.int 0])) p (.lst (List.replicate (n : Int).toNat [.int 0]).flatten)) p = some (.lst (Lst n (excP A x 0))) := by
      rw [upd_same, Int.toNat_natCast, rep_flat]
      rfl
    have fp := Same.free (same_new n0) np
    generalize upd (upd H l0 (.lst [.int 0])) p (.lst (List.replicate (n : Int).toNat [.int 0]).flatten) = H1 at s1 e1 ⊢
    have hl : va.length = A.m := by rw [a2]; simp
    have bm := hf.hm
    -- for at in range(len(arcs))
    refine ⟨.ref pa, rfl, pa, va, rfl, .inl (s1.seq a1), _, rfl, by omega, by omega, for_range (fun i σ H2 => ∃ y, σ = [some (.int (n : Nat)), some (.ref pa), some (.ref pf), some (.ref p), y] ∧ Same H H2 ∧ H2 p = some (.lst (Lst n (excP A x i)))) ⟨none, rfl, s1, e1⟩ ?_ ?_⟩
    · rintro i σ H2 hi ⟨y, rfl, s2, e2⟩
      rw [Int.zero_add]
      have hi : i < A.m := by omega
      obtain ⟨t, t1, t2⟩ := a3 i _ (arow_get hi)
      obtain ⟨f1, f2⟩ := hf.ends i hi
      have e3 : (upd H2 p (.lst ((Lst n (excP A x i)).set (A.s i) (.int (excP A x i (A.s i) - x i))))) p = some (.lst (Lst n (fset (excP A x i) (A.s i) (excP A x i (A.s i) - x i)))) := by rw [upd_same, Lst_set]
      have s3 : Same H (upd H2 p (.lst ((Lst n (excP A x i)).set (A.s i) (.int (excP A x i (A.s i) - x i))))) := s2.mut fp
      refine ⟨_, rfl, _, rfl, _, rfl, pa, va, _, _, rfl, rfl, s2.seq a1, atI_nat t1, t, _, 0, _, rfl, rfl, s2.tup t2, atI_nat (j := 0) rfl, p, _, _, _, rfl, rfl, SqL.of e2, Lst_at f1,
        _, rfl, _, rfl, pf, _, _, _, rfl, rfl, s2.seq hx, Lst_at hi, _, _, rfl, rfl, p, _, _, A.s i, rfl, rfl, e2, by rw [Lst_len]; exact ixN_nat f1 (by have := hf.hn; omega), ?_⟩
      generalize upd H2 p (.lst ((Lst n (excP A x i)).set (A.s i) (.int (excP A x i (A.s i) - x i)))) = H3 at s3 e3 ⊢
      refine ⟨_, rfl, _, rfl, _, rfl, pa, va, _, _, rfl, rfl, s3.seq a1, atI_nat t1, t, _, 1, _, rfl, rfl, s3.tup t2, atI_nat (j := 1) rfl, p, _, _, _, rfl, rfl, SqL.of e3, Lst_at f2,
        _, rfl, _, rfl, pf, _, _, _, rfl, rfl, s3.seq hx, Lst_at hi, _, _, rfl, rfl, p, _, _, A.e i, rfl, rfl, e3, by rw [Lst_len]; exact ixN_nat f2 (by have := hf.hn; omega), ?_⟩
      refine ⟨_, rfl, s3.mut fp, ?_⟩
      rw [upd_same, Lst_set, Lst_congr fun v _ => excP_next A x i v]
    · rintro σ H2 ⟨y, rfl, s2, e2⟩
      have : (va.length : Int).toNat = A.m := by omega
      rw [this] at e2
      exact ⟨_, rfl, q H2 p s2 fp e2⟩
end
end St
end
section
set_option maxRecDepth 100000
set_option maxHeartbeats 4000000
namespace St
open PySem PySem.Spec PyProof.Rows L2 NT
def fwd (A : N) (x : Nat → Int) (i : Nat) : List Ed := if x i < A.r i then [⟨A.s i, A.e i, -1, i, 1, A.r i - x i⟩] else []
def bwd (A : N) (x : Nat → Int) (i : Nat) : List Ed := if 0 < x i then [⟨A.e i, A.s i, 1, i, -1, x i⟩] else []
def wayAt (A : N) (x : Nat → Int) (i : Nat) : List Ed := fwd A x i ++ bwd A x i
theorem fwd_len (A : N) (x : Nat → Int) (i : Nat) : (fwd A x i).length ≤ 1 := by unfold fwd; split <;> simp
def waysL (A : N) (x : Nat → Int) : Nat → List Ed
  | 0 => []
  | k + 1 => waysL A x k ++ wayAt A x k
theorem wayAt_len (A : N) (x : Nat → Int) (i : Nat) : (wayAt A x i).length ≤ 2 := by unfold wayAt fwd bwd; split <;> split <;> simp
theorem waysL_len (A : N) (x : Nat → Int) : ∀ k, (waysL A x k).length ≤ 2 * k
  | 0 => Nat.le_refl _
  | k + 1 => by
    have := waysL_len A x k
    have := wayAt_len A x k
    simp only [waysL, List.length_append]
    omega
theorem mem_wayAt {A : N} {x : Nat → Int} {i : Nat} {w : Ed} (hi : i < A.m) (h : w ∈ wayAt A x i) : Res A (-1) x w ∧ w.i = i := by
  unfold wayAt fwd bwd at h
  rcases List.mem_append.mp h with h | h
  · split at h
    · rename_i q
      rw [List.mem_singleton.mp h]
      exact ⟨⟨hi, .inl ⟨rfl, rfl, rfl, rfl, q, rfl⟩⟩, rfl⟩
    · cases h
  · split at h
    · rename_i q
      rw [List.mem_singleton.mp h]
      exact ⟨⟨hi, .inr ⟨rfl, rfl, rfl, rfl, q, rfl⟩⟩, rfl⟩
    · cases h
theorem mem_waysL {A : N} {x : Nat → Int} {w : Ed} : ∀ {k : Nat}, k ≤ A.m → w ∈ waysL A x k → Res A (-1) x w
  | 0, _, h => nomatch h
  | k + 1, hk, h => by
    rcases List.mem_append.mp h with h | h
    · exact mem_waysL (by omega) h
    · exact (mem_wayAt (by omega) h).1
theorem waysL_mem {A : N} {x : Nat → Int} {w : Ed} (h : Res A (-1) x w) : ∀ {k : Nat}, w.i < k → w ∈ waysL A x k
  | 0, hk => absurd hk (Nat.not_lt_zero _)
  | k + 1, hk => by
    by_cases q : w.i < k
    · exact List.mem_append_left _ (waysL_mem h q)
    · have e : k = w.i := by omega
      subst e
      refine List.mem_append_right _ ?_
      obtain ⟨hi, h⟩ := h
      obtain ⟨u, v, c, i, sg, cap⟩ := w
      dsimp only at *
      unfold wayAt fwd bwd
      rcases h with ⟨a1, a2, a3, a4, a5, a6⟩ | ⟨a1, a2, a3, a4, a5, a6⟩
      · rw [if_pos a5, a1, a2, a3, a4, a6]
        exact List.mem_append_left _ (List.mem_singleton.mpr rfl)
      · have : c = 1 := by omega
        rw [if_pos a5, a1, a2, a3, this, a6]
        exact List.mem_append_right _ (List.mem_singleton.mpr rfl)
def sp_ways (K : PySem.W.Frag) : Sp := fun vs H Q _ => ∃ (pa pf : Addr) (A : N) (x : Nat → Int), vs = [.ref pa, .ref pf] ∧ A.m ≤ 1000 ∧ ArcsAt K H pa A ∧ SqL K H pf (Lst A.m x) ∧
  ∀ H' p, Same H H' → H p = none → WaysAt K H' p (waysL A x A.m) → Q (.ref p) H'
section
variable {P : Program} {w : World} {K : PySem.W.Frag} {mg : Str → Option Value} {base : Heap}
theorem ok_ways (T : Tx K mg) : FnOk P w K mg base CX0 1 T.f_ways T.d_ways ["arcs", "flow"] (sp_ways K) := by
  refine T.F_ways.ok sc_ways (fun vs H Q E h => ?_) (fun cdv A outer s H vs Q E hr h => ?_)
  · obtain ⟨pa, pf, A, x, rfl, _⟩ := h
    rfl
  · refine ⟨_, (pss_cons (ps_set (i := 2) sc_ways.nd rfl (.inl rfl) (pe_lst pa_nil))
      (pss_cons (ps_for PassesOwn.never rfl (pi_range1 (by rfl) T.z_range (pa_cons (pe_callB call_len_seq (by rfl) T.z_len (by decide +kernel) (pa_cons (pv 0) pa_nil)) pa_nil)) (pg_name (i := 3) sc_ways.nd rfl (.inl rfl))
      (pss_cons (ps_asg (pe_ix ix_list (pv 0) (pv 3) (fun _ _ => rfl)) (pg_tup (by rfl) (pgs_cons (pg_name (i := 4) sc_ways.nd rfl (.inl rfl)) (pgs_cons (pg_name (i := 5) sc_ways.nd rfl (.inl rfl)) (pgs_cons (pg_name (i := 6) sc_ways.nd rfl (.inl rfl)) pgs_nil)))))
      (Evl.pss_cut (ps_if (pt_cmpR op_lt (pe_ix ix_list (pv 1) (pv 3) (fun _ _ => rfl)) (pv 6) (nomark _))
      (pss_one (ps_expr (pe_bm PySem.F.plainAttrs_list PySem.F.slot_list_append PySem.F.type_list_append mt_append (pv 2) (pa_cons (pe_tup (pa_cons (pv 4) (pa_cons (pv 5) (pa_cons (pe_un un_neg pe_int) (pa_cons (pv 3) (pa_cons pe_int (pa_cons (pe_op op_sub (pv 6) (pe_ix ix_list (pv 1) (pv 3) (fun _ _ => rfl))) pa_nil))))))) pa_nil))))
      pss_nil)
      (pss_one (ps_if (pt_cmpR op_gt (pe_ix ix_list (pv 1) (pv 3) (fun _ _ => rfl)) pe_int (nomark _))
      (pss_one (ps_expr (pe_bm PySem.F.plainAttrs_list PySem.F.slot_list_append PySem.F.type_list_append mt_append (pv 2) (pa_cons (pe_tup (pa_cons (pv 5) (pa_cons (pv 4) (pa_cons pe_int (pa_cons (pv 3) (pa_cons (pe_un un_neg pe_int) (pa_cons (pe_ix ix_list (pv 1) (pv 3) (fun _ _ => rfl)) pa_nil))))))) pa_nil))))
      pss_nil)))))
      (pss_one (ps_ret (pv 2))))), ?_⟩
    -- slots: 0 arcs, 1 flow, 2 found, 3 at, 4 start, 5 end, 6 room
    obtain ⟨pa, pf, A, x, rfl, hm, hA, hx, q⟩ := h
    obtain ⟨va, a1, a2, a3⟩ := hA
    have hl : va.length = A.m := by rw [a2]; simp
    refine ⟨Nat.zero_le _, fun p np => ?_⟩
    refine ⟨.ref pa, rfl, pa, va, rfl, .inl ((same_new np).seq a1), _, rfl, by omega, by omega, for_range (fun i σ H2 => ∃ y3 y4 y5 y6 vs, σ = [some (.ref pa), some (.ref pf), some (.ref p), y3, y4, y5, y6] ∧ Same H H2 ∧ TupsW H2 p vs ((waysL A x i).map wrow))
      ⟨none, none, none, none, [], rfl, same_new np, TupsW.nil upd_same⟩ ?_ ?_⟩
    · rintro i σ H2 hi ⟨y3, y4, y5, y6, vs, rfl, s2, e2⟩
      rw [Int.zero_add]
      have hi : i < A.m := by omega
      obtain ⟨t, t1, t2⟩ := a3 i _ (arow_get hi)
      have lw := waysL_len A x i
      have lv := e2.len
      rw [List.length_map] at lv
      -- start, end, room = arcs[at]
      refine ⟨_, rfl, _, rfl, pa, va, _, _, rfl, rfl, s2.seq a1, atI_nat t1, t, arow A i, rfl, s2.tup t2, rfl, _, _, rfl, _, _, rfl, _, _, rfl, rfl, ?_⟩
      refine ⟨fun σ' H' => σ' = [some (.ref pa), some (.ref pf), some (.ref p), some (.int (i : Nat)), some (.int (A.s i : Nat)), some (.int (A.e i : Nat)), some (.int (A.r i))] ∧ Same H H' ∧ ∃ vs', TupsW H' p vs' ((waysL A x i ++ fwd A x i).map wrow), ?_, ?_⟩
      · refine ⟨_, rfl, _, rfl, pf, _, _, _, rfl, rfl, s2.seq hx, Lst_at hi, _, rfl, _, _, rfl, rfl, _, rfl, ite2 (fun c => ?_) (fun c => ?_)⟩
        · have c := of_decide_eq_true c
          refine ⟨_, rfl, .inl ⟨rfl, _, SqL.of e2.at_⟩, _, rfl, _, rfl, _, rfl, _, rfl, _, rfl, _, rfl, _, rfl, pf, _, _, _, rfl, rfl, s2.seq hx, Lst_at hi, _, _, rfl, rfl, (by show 6 ≤ sizeLine; rw [sizeLine_eq]; decide), fun u nu => ?_⟩
          refine ⟨p, vs, _, rfl, rfl, ?_, sz_lt (by omega), ?_⟩
          · rw [upd_ne (ne_of_none e2.at_ nu)]
            exact e2.at_
          · refine ⟨rfl, (s2.trans (same_new nu)).mut np, vs ++ [.ref u], ?_⟩
            rw [fwd, if_pos c, List.map_append]
            exact e2.push nu
        · have c := fun z => c (decide_eq_true z)
          refine ⟨rfl, s2, vs, ?_⟩
          rw [fwd, if_neg c, List.append_nil]
          exact e2
      · rintro σ' H3 ⟨rfl, s3, vs3, e3⟩
        have lv := e3.len
        rw [List.length_map, List.length_append] at lv
        have l1 := fwd_len A x i
        have fin : waysL A x (i + 1) = waysL A x i ++ fwd A x i ++ bwd A x i := by
          simp only [waysL, wayAt, List.append_assoc]
        refine ⟨_, rfl, _, rfl, pf, _, _, _, rfl, rfl, s3.seq hx, Lst_at hi, _, _, rfl, rfl, _, rfl, ite2 (fun c => ?_) (fun c => ?_)⟩
        · have c := of_decide_eq_true c
          refine ⟨_, rfl, .inl ⟨rfl, _, SqL.of e3.at_⟩, _, rfl, _, rfl, _, rfl, _, rfl, _, rfl, _, rfl, pf, _, _, _, rfl, rfl, s3.seq hx, Lst_at hi, (by show 6 ≤ sizeLine; rw [sizeLine_eq]; decide), fun u nu => ?_⟩
          refine ⟨p, vs3, _, rfl, rfl, ?_, sz_lt (by omega), ?_⟩
          · rw [upd_ne (ne_of_none e3.at_ nu)]
            exact e3.at_
          · refine ⟨_, _, _, _, vs3 ++ [.ref u], rfl, (s3.trans (same_new nu)).mut np, ?_⟩
            rw [fin, bwd, if_pos c, List.map_append (l₁ := waysL A x i ++ _)]
            exact e3.push nu
        · have c := fun z => c (decide_eq_true z)
          refine ⟨_, _, _, _, vs3, rfl, s3, ?_⟩
          rw [fin, bwd, if_neg c, List.append_nil]
          exact e3
    · rintro σ H2 ⟨y3, y4, y5, y6, vs, rfl, s2, e2⟩
      have : (va.length : Int).toNat = A.m := by omega
      rw [this] at e2
      exact ⟨_, rfl, q H2 p s2 np e2.tups⟩
end
end St
end
section
set_option maxRecDepth 100000
set_option maxHeartbeats 4000000
namespace St
open PySem PySem.Spec PyProof.Rows L2 NT
theorem take_more {α : Type} : ∀ {l : List α} {i : Nat} {x : α}, l[i]? = some x → l.take (i + 1) = l.take i ++ [x]
  | [], i, x, h => by simp at h
  | a :: l, 0, x, h => by
    have e : a = x := Option.some.inj h
    subst e
    rfl
  | a :: l, i + 1, x, h => by
    have ih := take_more (l := l) (i := i) (x := x) h
    show a :: l.take (i + 1) = a :: l.take i ++ [x]
    rw [ih]
    rfl
def pushF (x : Nat → Int) (d : Int) (ws : List Ed) : Nat → Int := ws.foldl (fun x w => push1 x d w) x
theorem push1_comm (x : Nat → Int) (d : Int) (a b : Ed) : push1 (push1 x d a) d b = push1 (push1 x d b) d a := by
  funext j
  unfold push1
  split <;> split <;> omega
theorem push_push1 (x : Nat → Int) (d : Int) (a : Ed) : ∀ P, NT.push (push1 x d a) d P = push1 (NT.push x d P) d a
  | [] => rfl
  | b :: P => by
    show push1 (NT.push (push1 x d a) d P) d b = push1 (push1 (NT.push x d P) d b) d a
    rw [push_push1 x d a P, push1_comm]
theorem pushF_eq (d : Int) : ∀ (P : List Ed) (x : Nat → Int), pushF x d P = NT.push x d P
  | [], _ => rfl
  | w :: P, x => by
    show pushF (push1 x d w) d P = push1 (NT.push x d P) d w
    rw [pushF_eq d P, push_push1]
theorem pushF_more {x : Nat → Int} {d : Int} {P : List Ed} {i : Nat} {w : Ed} (h : P[i]? = some w) : pushF x d (P.take (i + 1)) = push1 (pushF x d (P.take i)) d w := by
  rw [take_more h]
  unfold pushF
  rw [List.foldl_append]
  rfl
theorem push1_fset (x : Nat → Int) (d : Int) (w : Ed) : push1 x d w = fset x w.i (x w.i + w.sg * d) := by
  funext j
  unfold push1 fset
  by_cases e : j = w.i
  · rw [if_pos e, if_pos e, e]
  · rw [if_neg e, if_neg e]
def sp_push (K : PySem.W.Frag) : Sp := fun vs H Q _ => ∃ (pf ps : Addr) (m : Nat) (x : Nat → Int) (d : Int) (P : List Ed), vs = [.ref pf, .ref ps, .int d] ∧ m ≤ 1000 ∧ H pf = some (.lst (Lst m x)) ∧ ps ≠ pf ∧ WaysAt K H ps P ∧ (∀ w ∈ P, w.i < m ∧ (w.sg = 1 ∨ w.sg = -1)) ∧
  ∀ H', Keep pf H H' → H' pf = some (.lst (Lst m (NT.push x d P))) → Q .non H'
def sp_worth_of (K : PySem.W.Frag) : Sp := fun vs H Q _ => ∃ (pp : Addr) (n : Nat) (p : Nat → Int) (a b : Nat), vs = [.ref pp, .int (a : Nat), .int (b : Nat)] ∧ SqL K H pp (Lst n p) ∧ a < n ∧ b < n ∧ Q (.int (1 + p a - p b)) H
def sp_bound_of (K : PySem.W.Frag) : Sp := fun vs H Q _ => ∃ (pp pa : Addr) (n : Nat) (A : N) (p : Nat → Int), vs = [.ref pp, .ref pa] ∧ Fit A n ∧ SqL K H pp (Lst n p) ∧ ArcsAt K H pa A ∧ (∀ i, i < A.m → 0 ≤ A.r i ∧ A.r i ≤ 1000000000) ∧ Q (.int (bound A p)) H
section
variable {P : Program} {w : World} {K : PySem.W.Frag} {mg : Str → Option Value} {base : Heap}
theorem ok_push (T : Tx K mg) : FnOk P w K mg base CX0 1 T.f_push T.d_push ["flow", "steps", "amount"] (sp_push K) := by
  refine T.F_push.ok sc_push (fun vs H Q E h => ?_) (fun cdv A outer s H vs Q E hr h => ?_)
  · obtain ⟨pf, ps, m, x, d, P, rfl, _⟩ := h
    rfl
  · refine ⟨_, (pss_one (ps_for PassesOwn.never rfl (pi_list (pv 1)) (pg_name (i := 3) sc_push.nd rfl (.inl rfl))
      (pss_one (ps_augS (pv 0) (pe_ix ix_tup (pv 3) pe_int (fun _ _ => rfl)) get_list (pe_op op_mul (pe_ix ix_tup (pv 3) pe_int (fun _ _ => rfl)) (pv 2)) ip_add set_list)))), ?_⟩
    -- slots: 0 flow, 1 steps, 2 amount, 3 way
    obtain ⟨pf, ps, m, x, d, P, rfl, hm, hx, ne, hP, hw, q⟩ := h
    obtain ⟨vp, a1, a2, a3⟩ := hP
    rw [List.length_map] at a2
    refine ⟨_, rfl, ps, rfl, ⟨_, a1⟩, for_list (K := K) (a := ps) (xs := vp) (fun i σ H2 => ∃ y, σ = [some (.ref pf), some (.ref ps), some (.int d), y] ∧ Keep pf H H2 ∧ H2 pf = some (.lst (Lst m (pushF x d (P.take i))))) ⟨none, rfl, Keep.refl _ _, hx⟩
      (fun i σ H2 _ ⟨_, _, k, _⟩ => k.seq ne a1) ?_ ?_⟩
    · rintro i y σ H2 hi ⟨z, rfl, k, e⟩
      have hi' : i < P.length := by
        rw [← a2]
        exact (List.getElem?_eq_some_iff.mp hi).1
      have hPi : P[i]? = some P[i] := List.getElem?_eq_getElem hi'
      obtain ⟨t, t1, t2⟩ := a3 i (wrow P[i]) (by rw [List.getElem?_map, hPi]; rfl)
      rw [hi] at t1
      cases t1
      obtain ⟨w1, w2⟩ := hw _ (List.getElem_mem hi')
      have kt := k.tup hx t2
      refine ⟨_, rfl, _, rfl, t, _, _, _, rfl, rfl, kt, atI_nat (j := 3) rfl, pf, _, _, _, rfl, rfl, SqL.of e, Lst_at w1, _, rfl, t, _, _, _, rfl, rfl, kt, atI_nat (j := 4) rfl, _, rfl, _, _, rfl, rfl, .inl ?_, _, _, rfl, rfl, pf, _, _, P[i].i, rfl, rfl, e, by rw [Lst_len]; exact ixN_nat w1 (by omega), ?_⟩
      · rcases w2 with e | e <;> rw [e] <;> decide
      · refine ⟨_, rfl, k.upd, ?_⟩
        rw [upd_same, Lst_set, pushF_more hPi, push1_fset]
    · rintro σ H2 ⟨z, rfl, k, e⟩
      refine q H2 k ?_
      rw [e, a2, List.take_length, pushF_eq]
theorem ok_worth_of (T : Tx K mg) : FnOk P w K mg base CX0 1 T.f_worth_of T.d_worth_of ["potentials", "start", "end"] (sp_worth_of K) := by
  refine T.F_worth_of.ok sc_worth_of (fun vs H Q E h => ?_) (fun cdv A outer s H vs Q E hr h => ?_)
  · obtain ⟨pp, n, p, a, b, rfl, _⟩ := h
    rfl
  · refine ⟨_, (pss_one (ps_ret (pe_op op_sub (pe_op op_add pe_int (pe_ix ix_list (pv 0) (pv 1) (fun _ _ => rfl))) (pe_ix ix_list (pv 0) (pv 2) (fun _ _ => rfl))))), ?_⟩
    -- slots: 0 potentials, 1 start, 2 end
    obtain ⟨pp, n, p, a, b, rfl, hp, ha, hb, q⟩ := h
    exact ⟨_, rfl, _, rfl, pp, _, _, _, rfl, rfl, hp, Lst_at ha, _, _, rfl, rfl, _, rfl, _, rfl, pp, _, _, _, rfl, rfl, hp, Lst_at hb, _, _, rfl, rfl, q⟩
theorem ok_bound_of (T : Tx K mg) : FnOk P w K mg base CX0 2 T.f_bound_of T.d_bound_of ["potentials", "arcs"] (sp_bound_of K) := by
  refine T.F_bound_of.ok sc_bound_of (fun vs H Q E h => ?_) (fun cdv A outer s H vs Q E hr h => ?_)
  · obtain ⟨pp, pa, n, A, p, rfl, _⟩ := h
    rfl
  · refine ⟨_, (pss_cons (ps_set (i := 2) sc_bound_of.nd rfl (.inl rfl) pe_int)
      (pss_cons (ps_for PassesOwn.never rfl (pi_list (pv 1)) (pg_tup (by rfl) (pgs_cons (pg_name (i := 3) sc_bound_of.nd rfl (.inl rfl)) (pgs_cons (pg_name (i := 4) sc_bound_of.nd rfl (.inl rfl)) (pgs_cons (pg_name (i := 5) sc_bound_of.nd rfl (.inl rfl)) pgs_nil))))
      (pss_one (ps_aug (i := 2) sc_bound_of.nd rfl (.inl rfl) (pe_op op_mul (pv 5) (pe_callB (call_max2 rfl) (by rfl) T.z_max (by decide +kernel) (pa_cons pe_int (pa_cons (pe_call (ok_worth_of T) (hr.mono (by decide)) (by rfl) T.g_worth_of T.F_worth_of.kp T.b_worth_of .nil pass0 (pa_cons (pv 0) (pa_cons (pv 3) (pa_cons (pv 4) pa_nil)))) pa_nil)))) ip_add)))
      (pss_one (ps_ret (pv 2))))), ?_⟩
    -- slots: 0 potentials, 1 arcs, 2 found, 3 start, 4 end, 5 room
    obtain ⟨pp, pa, n, A, p, rfl, hf, hp, hA, hr', q⟩ := h
    obtain ⟨va, a1, a2, a3⟩ := hA
    have hl : va.length = A.m := by rw [a2]; simp
    refine ⟨_, rfl, pa, rfl, ⟨_, a1⟩, for_list (K := K) (a := pa) (xs := va) (fun i σ H2 => ∃ y3 y4 y5, σ = [some (.ref pp), some (.ref pa), some (.int (S i fun i => A.r i * pos (worth A p i))), y3, y4, y5] ∧ H2 = H) ⟨none, none, none, rfl, rfl⟩
      (fun i σ H2 _ ⟨_, _, _, _, e⟩ => by rw [e]; exact a1) ?_ ?_⟩
    · rintro i y σ H2 hi ⟨y3, y4, y5, rfl, rfl⟩
      have hi' : i < A.m := by
        rw [← hl]
        exact (List.getElem?_eq_some_iff.mp hi).1
      obtain ⟨t, t1, t2⟩ := a3 i _ (arow_get hi')
      rw [hi] at t1
      cases t1
      obtain ⟨f1, f2⟩ := hf.ends i hi'
      obtain ⟨r1, r2⟩ := hr' i hi'
      refine ⟨t, arow A i, rfl, t2, rfl, _, _, rfl, _, _, rfl, _, _, rfl, rfl, ?_⟩
      refine ⟨_, rfl, _, rfl, _, rfl, _, rfl, _, rfl, pp, n, p, A.s i, A.e i, rfl, hp, f1, f2, _, _, rfl, _, _, rfl, rfl, .inl (by omega), _, _, rfl, rfl, ?_⟩
      exact ⟨_, _, _, rfl, rfl⟩
    · rintro σ H2 ⟨y3, y4, y5, rfl, rfl⟩
      rw [hl]
      exact ⟨_, rfl, q⟩
end
end St
end
section
set_option maxRecDepth 100000
set_option maxHeartbeats 4000000
namespace St
open PySem PySem.Spec PyProof.Rows L2 NT
theorem if_ref {t : Addr} {A B : Prop} (h : A) : if (!decide (V.ref t = V.non)) = true then A else B := by
  rw [decide_eq_false (fun z => by cases z)]
  exact h
theorem if_non {A B : Prop} (h : B) : if (!decide (V.non = V.non)) = true then A else B := by
  rw [decide_eq_true rfl]
  exact h
theorem if_isref {t : Addr} {A B : Prop} (h : B) : if decide (V.ref t = V.non) = true then A else B := by
  rw [decide_eq_false (fun z => by cases z)]
  exact h
theorem if_isnon {A B : Prop} (h : A) : if decide (V.non = V.non) = true then A else B := by
  rw [decide_eq_true rfl]
  exact h
theorem tyes {σ : L2.St} {H : Hp} {A B : Hp → Prop} (h : A H) : tYes σ H (fun b H3 => if b = true then A H3 else B H3) := iteT (B := B H) h
/-- a list of tuples or None, written at p -/
structure OptsW (K : PySem.W.Frag) (H : Hp) (p : Addr) (vs : List V) (n : Nat) (f : Nat → Option (List V)) : Prop where
  at_ : H p = some (.lst vs)
  len : vs.length = n
  non : ∀ v, v < n → f v = none → vs[v]? = some .non
  tup : ∀ v, v < n → ∀ r, f v = some r → ∃ t, vs[v]? = some (.ref t) ∧ SqT K H t r
theorem upd_tup {K : PySem.W.Frag} {H : Hp} {p t : Addr} {vs : List V} {o : HO} {r : List V} (h : H p = some (.lst vs)) (s : SqT K H t r) : SqT K (upd H p o) t r := by
  rcases s with (s | ⟨o', s⟩) | s
  · exact .inl (.inl (by rw [upd_ne (ne_of s h (by intro z; cases z))]; exact s))
  · exact .inl (.inr ⟨o', by rw [upd_ne (ne_of s h (by intro z; cases z))]; exact s⟩)
  · exact .inr s
section
variable {K : PySem.W.Frag} {H H' : Hp} {p t : Addr} {vs : List V} {n i : Nat} {f g : Nat → Option (List V)} {r : List V}
theorem OptsW.same (h : OptsW K H p vs n f) (e : Same H H') : OptsW K H' p vs n f := ⟨e _ _ h.at_, h.len, h.non, fun v hv r hr => let ⟨t, a, b⟩ := h.tup v hv r hr; ⟨t, a, e.tup b⟩⟩
theorem OptsW.congr (h : OptsW K H p vs n f) (e : ∀ v, v < n → f v = g v) : OptsW K H p vs n g := ⟨h.at_, h.len, fun v hv q => h.non v hv (by rw [e v hv]; exact q), fun v hv r q => h.tup v hv r (by rw [e v hv]; exact q)⟩
/-- another list is written -/
theorem OptsW.other {q : Addr} {ws : List V} {o : HO} (h : OptsW K H p vs n f) (hq : H q = some (.lst ws)) (ne : p ≠ q) : OptsW K (upd H q o) p vs n f :=
  ⟨by rw [upd_ne ne]; exact h.at_, h.len, h.non, fun v hv r hr => let ⟨t, a, b⟩ := h.tup v hv r hr; ⟨t, a, upd_tup hq b⟩⟩
theorem OptsW.set (h : OptsW K H p vs n f) (hi : i < n) (ht : SqT K H t r) : OptsW K (upd H p (.lst (vs.set i (.ref t)))) p (vs.set i (.ref t)) n (lup f i (some r)) where
  at_ := upd_same
  len := by rw [List.length_set]; exact h.len
  non := fun v hv q => by
    by_cases e : v = i
    · rw [e, lup_same] at q
      cases q
    · rw [lup_ne e] at q
      rw [List.getElem?_set_ne (Ne.symm e)]
      exact h.non v hv q
  tup := fun v hv r' q => by
    by_cases e : v = i
    · subst e
      rw [lup_same] at q
      cases q
      exact ⟨t, by rw [List.getElem?_set_self (by rw [h.len]; exact hv)], upd_tup h.at_ ht⟩
    · rw [lup_ne e] at q
      obtain ⟨u, a, b⟩ := h.tup v hv r' q
      exact ⟨u, by rw [List.getElem?_set_ne (Ne.symm e)]; exact a, upd_tup h.at_ b⟩
theorem OptsW.nil (h : H p = some (.lst [])) : OptsW K H p [] 0 f := ⟨h, rfl, fun v hv => absurd hv (Nat.not_lt_zero v), fun v hv => absurd hv (Nat.not_lt_zero v)⟩
theorem OptsW.add_non (h : OptsW K H p vs n f) (hf : f n = none) : OptsW K (upd H p (.lst (vs ++ [.non]))) p (vs ++ [.non]) (n + 1) f where
  at_ := upd_same
  len := by rw [List.length_append, h.len]; rfl
  non := fun v hv q => by
    rw [List.getElem?_append]
    by_cases e : v < vs.length
    · rw [if_pos e]; exact h.non v (by rw [← h.len]; exact e) q
    · have : v - vs.length = 0 := by have := h.len; omega
      rw [if_neg e, this]
      rfl
  tup := fun v hv r' q => by
    by_cases e : v < vs.length
    · obtain ⟨u, a, b⟩ := h.tup v (by rw [← h.len]; exact e) r' q
      exact ⟨u, by rw [List.getElem?_append, if_pos e]; exact a, upd_tup h.at_ b⟩
    · have : v = n := by have := h.len; omega
      rw [this, hf] at q
      cases q
theorem OptsW.add_tup (h : OptsW K H p vs n f) (hf : f n = some r) (ht : SqT K H t r) : OptsW K (upd H p (.lst (vs ++ [.ref t]))) p (vs ++ [.ref t]) (n + 1) f where
  at_ := upd_same
  len := by rw [List.length_append, h.len]; rfl
  non := fun v hv q => by
    by_cases e : v < vs.length
    · rw [List.getElem?_append, if_pos e]; exact h.non v (by rw [← h.len]; exact e) q
    · have : v = n := by have := h.len; omega
      rw [this, hf] at q
      cases q
  tup := fun v hv r' q => by
    rw [List.getElem?_append]
    by_cases e : v < vs.length
    · obtain ⟨u, a, b⟩ := h.tup v (by rw [← h.len]; exact e) r' q
      exact ⟨u, by rw [if_pos e]; exact a, upd_tup h.at_ b⟩
    · have e1 : v = n := by have := h.len; omega
      have e2 : v - vs.length = 0 := by have := h.len; omega
      rw [e1, hf] at q
      cases q
      exact ⟨t, by rw [if_neg e, e2]; rfl, upd_tup h.at_ ht⟩
end
def OptsAt (K : PySem.W.Frag) (H : Hp) (p : Addr) (n : Nat) (f : Nat → Option (List V)) : Prop := ∃ vs, OptsW K H p vs n f
def lrow (a : Int × Nat) : List V := [.int a.1, .int (a.2 : Nat)]
theorem lex_lex (a b : Int × Nat) : HT.lexLt [a.1, (a.2 : Nat)] [b.1, (b.2 : Nat)] = NT.lexLt a b := by
  rw [HT.lexLt_cons, HT.lexLt_cons, HT.lexLt_nil_nil]
  unfold NT.lexLt
  by_cases h : a.1 = b.1
  · rw [if_pos h]
    by_cases h2 : ((a.2 : Nat) : Int) = (b.2 : Nat)
    · rw [if_pos h2]
      have : ¬ a.2 < b.2 := by omega
      have h3 : ¬ a.1 < b.1 := by omega
      simp [h3, this]
    · rw [if_neg h2]
      have h3 : ¬ a.1 < b.1 := by omega
      simp [h3, h]
  · rw [if_neg h]
    simp [h]
/-- told[way[1]] = more; last[way[1]] = way; is_done = False -/
theorem labels_body {K : PySem.W.Frag} {D : Ends} {H : Hp} {n : Nat} {pt pl tw u : Addr} {vt vl : List V} {f g : Nat → Option (List V)} {w : Ed} {r : List V} {y0 y1 y2 y5 y8 : Option V}
    (o : OptsW K H pt vt n f) (l : OptsW K H pl vl n g) (ne : pt ≠ pl) (hn : n ≤ 1000) (hv : w.v < n) (ht : SqT K H tw (wrow w)) (hu : SqT K H u r)
    (q : ∀ H' vt' vl', (∀ b ob, H b = some ob → b ≠ pt → b ≠ pl → H' b = some ob) → OptsW K H' pt vt' n (lup f w.v (some r)) → OptsW K H' pl vl' n (lup g w.v (some (wrow w))) →
      D.nx [y0, y1, y2, some (.ref pt), some (.ref pl), some (.bl false), some (.ref tw), some (.ref u), y8] H') :
    (tSeq (tAsg (tVar 7) (gSub (tVar 3) (tOp (rIxT K) (tVar 6) (tC (.int 1))) rSetL)) (tSeq (tAsg (tVar 6) (gSub (tVar 4) (tOp (rIxT K) (tVar 6) (tC (.int 1))) rSetL)) (tAsg (tC (.bl false)) (gName 5)))) D
      [y0, y1, y2, some (.ref pt), some (.ref pl), y5, some (.ref tw), some (.ref u), y8] H := by
  refine ⟨_, rfl, _, rfl, _, rfl, tw, _, _, _, rfl, rfl, ht, atI_nat (j := 1) rfl, pt, vt, _, w.v, rfl, rfl, o.at_, by rw [o.len]; exact ixN_nat hv (by omega), ?_⟩
  have o1 := o.set hv hu
  have l1 := l.other (o := .lst (vt.set w.v (.ref u))) o.at_ (Ne.symm ne)
  have t1 : SqT K (upd H pt (.lst (vt.set w.v (.ref u)))) tw (wrow w) := upd_tup o.at_ ht
  refine ⟨_, rfl, _, rfl, _, rfl, tw, _, _, _, rfl, rfl, t1, atI_nat (j := 1) rfl, pl, vl, _, w.v, rfl, rfl, l1.at_, by rw [l1.len]; exact ixN_nat hv (by omega), ?_⟩
  refine q _ _ _ (fun b ob e n1 n2 => by rw [upd_ne n2, upd_ne n1]; exact e) (o1.other l1.at_ ne) (l1.set hv t1)
def sp_labels (K : PySem.W.Frag) : Sp := fun vs H Q _ => ∃ (n : Nat) (pw pe : Addr) (ws : List Ed) (E p : Nat → Int), vs = [.int (n : Nat), .ref pw, .ref pe] ∧ n ≤ 1000 ∧ WaysAt K H pw ws ∧ SqL K H pe (Lst n E) ∧ Lw n ws p ∧
  ∀ H' r pt pl D la, Same H H' → H' r = some (.tup [.ref pt, .ref pl]) → OptsAt K H' pt n (fun v => (D v).map lrow) → OptsAt K H' pl n (fun v => (la v).map wrow) → LabPost n ws E D la → Q (.ref r) H'
section
variable {P : Program} {w : World} {K : PySem.W.Frag} {mg : Str → Option Value} {base : Heap}
theorem ok_labels (T : Tx K mg) : FnOk P w K mg base CX0 1 T.f_labels T.d_labels ["many", "found", "excess"] (sp_labels K) := by
  refine T.F_labels.ok sc_labels (fun vs H Q E h => ?_) (fun cdv A outer s H vs Q E hr h => ?_)
  · obtain ⟨n, pw, pe, ws, E, p, rfl, _⟩ := h
    rfl
  · refine ⟨_, (pss_cons (ps_setLc (i := 3) (own := [("at", 8)]) (by rfl) sc_labels.nd rfl rfl (sw_true rfl rfl rfl (by decide +kernel)) (pi_range1 (by rfl) T.z_range (pa_cons (pv 0) pa_nil)) (blkOk_by (own := [("at", 8)]) (N := N_labels) (sc := defScope s_labels) (by decide +kernel)) (fun _ _ _ _ _ => (pg_name (i := 8) sc_labels.nd rfl (.inl rfl))) (fun _ _ _ _ _ => pts_nil) (fun _ _ _ _ _ => (pe_ifExp (pt_cmpR op_gt (pe_ix (ix_listK (K := K) rfl) (pv 2) (pv 8) (fun _ _ => rfl)) pe_int (nomark _)) (pe_tup (pa_cons pe_int (pa_cons pe_int pa_nil))) pe_non)))
      (pss_cons (ps_set (i := 4) sc_labels.nd rfl (.inl rfl) (pe_op op_rep (pe_lst (pa_cons pe_non pa_nil)) (pv 0)))
      (pss_cons (ps_set (i := 5) sc_labels.nd rfl (.inl rfl) pe_bl)
      (pss_cons (ps_while PassesOwn.never (pt_not (pt_val (pv 5)))
      (pss_cons (ps_set (i := 5) sc_labels.nd rfl (.inl rfl) pe_bl)
      (pss_one (ps_for PassesOwn.never rfl (pi_list (pv 1)) (pg_name (i := 6) sc_labels.nd rfl (.inl rfl))
      (pss_one (ps_if (pt_cmpR op_notN (pe_ix ix_list (pv 3) (pe_ix ix_tup (pv 6) pe_int (fun _ _ => rfl)) (fun _ _ => rfl)) pe_non (nomark _))
      (pss_cons (ps_set (i := 7) sc_labels.nd rfl (.inl rfl) (pe_tup (pa_cons (pe_op op_add (pe_ix ix_tup (pe_ix ix_list (pv 3) (pe_ix ix_tup (pv 6) pe_int (fun _ _ => rfl)) (fun _ _ => rfl)) pe_int (fun _ _ => rfl)) (pe_ix ix_tup (pv 6) pe_int (fun _ _ => rfl))) (pa_cons (pe_op op_add (pe_ix ix_tup (pe_ix ix_list (pv 3) (pe_ix ix_tup (pv 6) pe_int (fun _ _ => rfl)) (fun _ _ => rfl)) pe_int (fun _ _ => rfl)) pe_int) pa_nil))))
      (pss_one (ps_if (PW.pt (pw_or (pt_cmpR op_isN (pe_ix ix_list (pv 3) (pe_ix ix_tup (pv 6) pe_int (fun _ _ => rfl)) (fun _ _ => rfl)) pe_non (nomark _)) (pw_or1 (pt_cmpR (op_ltT hr.units0) (pv 7) (pe_ix ix_list (pv 3) (pe_ix ix_tup (pv 6) pe_int (fun _ _ => rfl)) (fun _ _ => rfl)) (nomark _)))))
      (pss_cons (ps_asg (pv 7) (pg_sub (pv 3) (pe_ix ix_tup (pv 6) pe_int (fun _ _ => rfl)) set_list))
      (pss_cons (ps_asg (pv 6) (pg_sub (pv 4) (pe_ix ix_tup (pv 6) pe_int (fun _ _ => rfl)) set_list))
      (pss_one (ps_set (i := 5) sc_labels.nd rfl (.inl rfl) pe_bl))))
      pss_nil)))
      pss_nil))))))
      (pss_one (ps_ret (pe_tup (pa_cons (pv 3) (pa_cons (pv 4) pa_nil))))))))), ?_⟩
    -- slots: 0 many, 1 found, 2 excess, 3 told, 4 last, 5 is_done, 6 way, 7 more, 8 at
    obtain ⟨n, pw, pe, ws, E, p, rfl, hn, hW, hE, hL, q⟩ := h
    obtain ⟨vw, a1, a2, a3⟩ := hW
    rw [List.length_map] at a2
    obtain ⟨B, hB⟩ := bound_ex p n
    -- told = [(0, 0) if excess[at] > 0 else None for at in range(many)]
    refine ⟨_, rfl, _, rfl, by omega, by omega, fun pt npt => lc_range (lo := 0) (n := (n : Int).toNat) (fun i H2 => Same H H2 ∧ ∃ vt, OptsW K H2 pt vt i (fun v => ((lstart n E).D v).map lrow)) ⟨same_new npt, [], OptsW.nil upd_same⟩ ?_ ?_⟩
    · rintro i H2 hi ⟨s2, vt, o2⟩
      have hi : i < n := by omega
      have lt := o2.len
      rw [Int.zero_add]
      refine ⟨rfl, tyes ?_⟩
      refine ⟨_, rfl, _, rfl, pe, _, _, _, rfl, rfl, s2.seq hE, Lst_at hi, _, _, rfl, rfl, _, rfl, ite2 (fun c => ?_) (fun c => ?_)⟩
      · have c := of_decide_eq_true c
        refine ⟨(by show 2 ≤ sizeLine; rw [sizeLine_eq]; decide), fun t nt => ⟨vt, (o2.same (same_new nt)).at_, sz_lt (by omega), (s2.trans (same_new nt)).mut npt, vt ++ [.ref t], ?_⟩⟩
        refine (o2.same (same_new nt)).add_tup (r := lrow (0, 0)) ?_ (SqT.of upd_same)
        show ((if i < n ∧ 0 < E i then some ((0 : Int), (0 : Nat)) else none).map lrow) = _
        rw [if_pos ⟨hi, c⟩]
        rfl
      · have c : ¬ 0 < E i := fun z => c (decide_eq_true z)
        refine ⟨vt, o2.at_, sz_lt (by omega), s2.mut npt, vt ++ [.non], o2.add_non ?_⟩
        show ((if i < n ∧ 0 < E i then some ((0 : Int), (0 : Nat)) else none).map lrow) = _
        rw [if_neg (fun z => c z.2)]
        rfl
    · rintro H2 ⟨s2, vt, o2⟩
      rw [Int.toNat_natCast] at o2
      have ft := npt
      -- last = [None] * many
      refine ⟨(by show 1 ≤ sizeLine; rw [sizeLine_eq]; decide), fun l0 n0 => ⟨_, rfl, l0, _, _, rfl, rfl, upd_same, by omega, by omega, sz_of (by simp; omega), fun pl npl => ?_⟩⟩
      have s3 : Same H2 (upd (upd H2 l0 (.lst [.non])) pl (.lst (List.replicate (n : Int).toNat [V.non]).flatten)) := (same_new n0).trans (same_new npl)
      have o3 := o2.same s3
      have el : OptsW K (upd (upd H2 l0 (.lst [.non])) pl (.lst (List.replicate (n : Int).toNat [V.non]).flatten)) pl (List.replicate (n : Int).toNat [V.non]).flatten n (fun v => ((lstart n E).la v).map wrow) := by
        rw [flat_one, Int.toNat_natCast]
        exact ⟨upd_same, List.length_replicate, fun v hv _ => by rw [List.getElem?_replicate, if_pos hv], fun v _ r h => by cases h⟩
      have fpl : H pl = none := (s2.trans (same_new n0)).free npl
      have s3' := s2.trans s3
      generalize upd (upd H2 l0 (.lst [.non])) pl (.lst (List.replicate (n : Int).toNat [V.non]).flatten) = H3 at s3' o3 el ⊢
      generalize (List.replicate (n : Int).toNat [V.non]).flatten = vl at el
      have ne : pt ≠ pl := ne_of_none (o2.same (same_new n0)).at_ npl
      have I0 := LI.start (n := n) (ws := ws) (E := E) (p := p) (K := B) hB
      obtain ⟨m0, hm0⟩ := term_ex hL _ I0
      -- is_done = False; while not is_done
      refine ⟨fun m σ H4 => ∃ st fl y6 y7 y8 vt vl, σ = [some (.int (n : Nat)), some (.ref pw), some (.ref pe), some (.ref pt), some (.ref pl), some (.bl fl), y6, y7, y8] ∧ Same H H4 ∧ OptsW K H4 pt vt n (fun v => (st.D v).map lrow) ∧ OptsW K H4 pl vl n (fun v => (st.la v).map wrow) ∧ LI n ws E p B st ∧
        ((fl = true ∧ m = 0 ∧ Fixp ws st) ∨ (fl = false ∧ TermIn ws m st)), ⟨m0, lstart n E, false, none, none, none, vt, vl, rfl, s3', o3, el, I0, .inr ⟨rfl, hm0⟩⟩, ?_⟩
      rintro m σ H4 ⟨st, fl, y6, y7, y8, vt, vl, rfl, s4, o4, l4, I4, hd⟩
      rcases hd with ⟨rfl, rfl, fx⟩ | ⟨rfl, tm⟩
      · refine ⟨_, rfl, true, rfl, ?_⟩
        refine iteF ?_
        -- return (told, last)
        refine ⟨_, rfl, _, rfl, (by show 2 ≤ sizeLine; rw [sizeLine_eq]; decide), fun r nr => ?_⟩
        exact q _ r pt pl st.D st.la (s4.trans (same_new nr)) upd_same ⟨vt, o4.same (same_new nr)⟩ ⟨vl, l4.same (same_new nr)⟩ (I4.post fx)
      · refine ⟨_, rfl, false, rfl, ?_⟩
        refine iteT ?_
        cases m with
        | zero => exact tm.elim
        | succ m =>
        refine ⟨_, fun _ _ h => h, ?_⟩
        -- is_done = True; for way in found
        refine ⟨_, rfl, pw, rfl, ⟨_, s4.seq a1⟩, for_list (K := K) (a := pw) (xs := vw) (fun i σ H5 => ∃ st' fl y6 y7 vt vl, (ws.take i).foldl lstep (st, false) = (st', fl) ∧ σ = [some (.int (n : Nat)), some (.ref pw), some (.ref pe), some (.ref pt), some (.ref pl), some (.bl (!fl)), y6, y7, y8] ∧
            Same H H5 ∧ OptsW K H5 pt vt n (fun v => (st'.D v).map lrow) ∧ OptsW K H5 pl vl n (fun v => (st'.la v).map wrow) ∧ LI n ws E p B st')
          ⟨st, false, y6, y7, vt, vl, rfl, rfl, s4, o4, l4, I4⟩ (fun i σ H5 _ ⟨_, _, _, _, _, _, _, _, s5, _⟩ => s5.seq a1) ?_ ?_⟩
        · rintro i y σ H5 hi ⟨st', fl, y6, y7, vt, vl, e5, rfl, s5, o5, l5, I5⟩
          have hi' : i < ws.length := by
            rw [← a2]
            exact (List.getElem?_eq_some_iff.mp hi).1
          have hwi : ws[i]? = some ws[i] := List.getElem?_eq_getElem hi'
          obtain ⟨tw, t1, t2⟩ := a3 i (wrow ws[i]) (by rw [List.getElem?_map, hwi]; rfl)
          rw [hi] at t1
          cases t1
          have hw := List.getElem_mem hi'
          have e6 : (ws.take (i + 1)).foldl lstep (st, false) = lstep (st', fl) ws[i] := by
            rw [take_more hwi, List.foldl_append, e5]
            rfl
          generalize ws[i] = w at hw e6 t2
          have hu := hL.u w hw
          have hv := hL.v w hw
          have t5 := s5.tup t2
          have stay : gains st'.D w = false → (ws.take (i + 1)).foldl lstep (st, false) = (st', fl) := fun g => by
            rw [e6]
            unfold lstep
            rw [g, if_neg Bool.false_ne_true]
          have go : gains st'.D w = true → (ws.take (i + 1)).foldl lstep (st, false) = (⟨lup st'.D w.v (some (more st'.D w)), lup st'.la w.v (some w)⟩, true) := fun g => by
            rw [e6]
            unfold lstep
            rw [g, if_pos rfl]
          have fD : ∀ r, (fun v => ((lup st'.D w.v (some r)) v).map lrow) = lup (fun v => (st'.D v).map lrow) w.v (some (lrow r)) := fun r => by
            funext v
            unfold lup
            split <;> rfl
          have fl' : (fun v => ((lup st'.la w.v (some w)) v).map wrow) = lup (fun v => (st'.la v).map wrow) w.v (some (wrow w)) := by
            funext v
            unfold lup
            split <;> rfl
          cases ea : st'.D w.u with
          | none =>
            have hx := o5.non w.u hu (by rw [ea]; rfl)
            refine ⟨_, rfl, _, rfl, tw, _, _, _, rfl, rfl, t5, atI_nat (j := 0) rfl, pt, vt, _, _, rfl, rfl, SqL.of o5.at_, atI_nat hx, rfl, _, rfl, if_non ?_⟩
            exact ⟨st', fl, _, y7, vt, vl, stay (by unfold gains; rw [ea]), rfl, s5, o5, l5, I5⟩
          | some a =>
            obtain ⟨ta, hx, hta⟩ := o5.tup w.u hu (lrow a) (by rw [ea]; rfl)
            have em : more st'.D w = (a.1 + w.c, a.2 + 1) := by unfold more; rw [ea]
            refine ⟨_, rfl, _, rfl, tw, _, _, _, rfl, rfl, t5, atI_nat (j := 0) rfl, pt, vt, _, _, rfl, rfl, SqL.of o5.at_, atI_nat hx, rfl, _, rfl, if_ref ?_⟩
            refine ⟨_, rfl, _, rfl, tw, _, _, _, rfl, rfl, t5, atI_nat (j := 0) rfl, pt, vt, _, _, rfl, rfl, SqL.of o5.at_, atI_nat hx, ta, _, _, _, rfl, rfl, hta, atI_nat (j := 0) rfl, _, rfl, tw, _, _, _, rfl, rfl, t5, atI_nat (j := 2) rfl, _, _, rfl, rfl,
              _, rfl, _, rfl, tw, _, _, _, rfl, rfl, t5, atI_nat (j := 0) rfl, pt, vt, _, _, rfl, rfl, SqL.of o5.at_, atI_nat hx, ta, _, _, _, rfl, rfl, hta, atI_nat (j := 1) rfl, _, _, rfl, rfl, (by show 2 ≤ sizeLine; rw [sizeLine_eq]; decide), fun u nu => ?_⟩
            have s6 : Same H5 (upd H5 u (.tup [.int (a.1 + w.c), .int ((a.2 : Nat) + 1)])) := same_new nu
            have eu : SqT K (upd H5 u (.tup [.int (a.1 + w.c), .int ((a.2 : Nat) + 1)])) u (lrow (a.1 + w.c, a.2 + 1)) := SqT.of upd_same
            generalize upd H5 u (.tup [.int (a.1 + w.c), .int ((a.2 : Nat) + 1)]) = H6 at s6 eu ⊢
            have o6 := o5.same s6
            have l6 := l5.same s6
            have t6 := s6.tup t5
            have fin : gains st'.D w = true → ∀ (H' : Hp) vt' vl', (∀ b ob, H6 b = some ob → b ≠ pt → b ≠ pl → H' b = some ob) → OptsW K H' pt vt' n (lup (fun v => (st'.D v).map lrow) w.v (some (lrow (a.1 + w.c, a.2 + 1)))) → OptsW K H' pl vl' n (lup (fun v => (st'.la v).map wrow) w.v (some (wrow w))) →
                ∃ st'' fl y6 y7 vt vl, (ws.take (i + 1)).foldl lstep (st, false) = (st'', fl) ∧ [some (V.int (n : Nat)), some (.ref pw), some (.ref pe), some (.ref pt), some (.ref pl), some (.bl false), some (.ref tw), some (.ref u), y8] = [some (V.int (n : Nat)), some (.ref pw), some (.ref pe), some (.ref pt), some (.ref pl), some (.bl (!fl)), y6, y7, y8] ∧
                Same H H' ∧ OptsW K H' pt vt n (fun v => (st''.D v).map lrow) ∧ OptsW K H' pl vl n (fun v => (st''.la v).map wrow) ∧ LI n ws E p B st'' := fun g H' vt' vl' k o7 l7 =>
              ⟨_, true, _, _, vt', vl', go g, rfl, fun b ob e => k b ob (s6 _ _ (s5 _ _ e)) (ne_of_none e ft) (ne_of_none e fpl), by rw [em, fD]; exact o7, by rw [fl']; exact l7, I5.step hL hw g⟩
            cases eb : st'.D w.v with
            | none =>
              have hy := o6.non w.v hv (by rw [eb]; rfl)
              have g : gains st'.D w = true := by unfold gains; rw [ea, eb]
              refine ⟨_, rfl, _, rfl, tw, _, _, _, rfl, rfl, t6, atI_nat (j := 1) rfl, pt, vt, _, _, rfl, rfl, SqL.of o6.at_, atI_nat hy, rfl, _, rfl, if_isnon (iteT ?_)⟩
              exact labels_body o6 l6 ne hn hv t6 eu (fin g)
            | some b =>
              obtain ⟨tb, hy, htb⟩ := o6.tup w.v hv (lrow b) (by rw [eb]; rfl)
              have eg : gains st'.D w = NT.lexLt (a.1 + w.c, a.2 + 1) b := by unfold gains; rw [ea, eb]
              refine ⟨_, rfl, _, rfl, tw, _, _, _, rfl, rfl, t6, atI_nat (j := 1) rfl, pt, vt, _, _, rfl, rfl, SqL.of o6.at_, atI_nat hy, rfl, _, rfl, if_isref ?_⟩
              refine ⟨_, rfl, _, rfl, _, rfl, tw, _, _, _, rfl, rfl, t6, atI_nat (j := 1) rfl, pt, vt, _, _, rfl, rfl, SqL.of o6.at_, atI_nat hy, u, tb, [a.1 + w.c, ((a.2 + 1 : Nat) : Int)], [b.1, ((b.2 : Nat) : Int)], rfl, rfl, eu, htb, _, rfl, ?_⟩
              rw [lex_lex (a.1 + w.c, a.2 + 1) b, ← eg]
              refine ite2 (fun g => ?_) (fun g => ?_)
              · exact labels_body o6 l6 ne hn hv t6 eu (fin g)
              · exact ⟨st', fl, _, _, vt, vl, stay (by simpa using g), rfl, s5.trans s6, o6, l6, I5⟩
        · rintro σ H5 ⟨st', fl, y6, y7, vt, vl, e5, rfl, s5, o5, l5, I5⟩
          rw [a2, List.take_length] at e5
          obtain ⟨_, h2⟩ := lfold hL ws st false (fun _ h => h) I4
          rw [e5] at h2
          have tm : (lpass ws st).2 = false ∨ TermIn ws m (lpass ws st).1 := tm
          unfold lpass at tm
          rw [e5] at tm
          rcases h2 with ⟨h2, h3⟩ | ⟨h2, _⟩
          · cases h2
            exact ⟨0, Nat.succ_pos m, _, true, _, _, _, vt, vl, rfl, s5, o5, l5, I5, .inl ⟨rfl, rfl, h3⟩⟩
          · have h2 : fl = true := h2
            subst h2
            rcases tm with tm | tm
            · cases tm
            · exact ⟨m, Nat.lt_succ_self m, _, false, _, _, _, vt, vl, rfl, s5, o5, l5, I5, .inr ⟨rfl, tm⟩⟩
end
end St
end
section
set_option maxRecDepth 100000
set_option maxHeartbeats 4000000
namespace St
open PySem PySem.Spec PyProof.Rows L2 NT
def sp_led_back (K : PySem.W.Frag) : Sp := fun vs H Q _ => ∃ (n : Nat) (pl : Addr) (place : Nat) (la : Nat → Option Ed) (rk : Nat → Nat), vs = [.ref pl, .int (place : Nat)] ∧ n ≤ 1000 ∧ OptsAt K H pl n (fun v => (la v).map wrow) ∧ place < n ∧
  (∀ v w, la v = some w → w.v = v ∧ w.u < n ∧ rk w.u < rk v) ∧
  ∀ H' p P o, Same H H' → H p = none → WaysAt K H' p P → Led la P o place → o < n → P.length ≤ n → Q (.ref p) H'
section
variable {P : Program} {w : World} {K : PySem.W.Frag} {mg : Str → Option Value} {base : Heap}
theorem ok_led_back (T : Tx K mg) : FnOk P w K mg base CX0 1 T.f_led_back T.d_led_back ["last", "place"] (sp_led_back K) := by
  refine T.F_led_back.ok sc_led_back (fun vs H Q E h => ?_) (fun cdv A outer s H vs Q E hr h => ?_)
  · obtain ⟨n, pl, place, la, rk, rfl, _⟩ := h
    rfl
  · refine ⟨_, (pss_cons (ps_set (i := 2) sc_led_back.nd rfl (.inl rfl) (pe_lst pa_nil))
      (pss_cons (ps_set (i := 3) sc_led_back.nd rfl (.inl rfl) (pv 1))
      (pss_cons (ps_while PassesOwn.never (pt_cmpR op_notN (pe_ix ix_list (pv 0) (pv 3) (fun _ _ => rfl)) pe_non (nomark _))
      (pss_cons (ps_expr (pe_bm PySem.F.plainAttrs_list PySem.F.slot_list_append PySem.F.type_list_append mt_append (pv 2) (pa_cons (pe_ix ix_list (pv 0) (pv 3) (fun _ _ => rfl)) pa_nil)))
      (pss_one (ps_set (i := 3) sc_led_back.nd rfl (.inl rfl) (pe_ix ix_tup (pe_ix ix_list (pv 0) (pv 3) (fun _ _ => rfl)) pe_int (fun _ _ => rfl))))))
      (pss_one (ps_ret (pv 2)))))), ?_⟩
    -- slots: 0 last, 1 place, 2 found, 3 at
    obtain ⟨n, pl, place, la, rk, rfl, hn, ⟨vl, hl⟩, hp, hla, q⟩ := h
    refine ⟨Nat.zero_le _, fun p np => ?_⟩
    refine ⟨_, rfl, fun m σ H2 => ∃ a P1 vs1 L, σ = [some (.ref pl), some (.int (place : Nat)), some (.ref p), some (.int ((a : Nat) : Int))] ∧ m = rk a ∧ a < n ∧ Same H H2 ∧ H2 p = some (.lst vs1) ∧ vs1.length = P1.length ∧
        (∀ (i : Nat) w, P1[i]? = some w → ∃ t, vs1[i]? = some (.ref t) ∧ SqT K H t (wrow w)) ∧ (∀ P2 o, Led la P2 o a → Led la (P1 ++ P2) o place) ∧ L.Nodup ∧ (∀ v ∈ L, v < n ∧ rk a < rk v) ∧ L.length = P1.length,
      ⟨rk place, place, [], [], [], rfl, rfl, hp, same_new np, upd_same, rfl, (fun i w e => by simp at e), (fun P2 o h => h), List.nodup_nil, (fun v h => nomatch h), rfl⟩, ?_⟩
    rintro m σ H2 ⟨a, P1, vs1, L, rfl, rfl, ha, s2, e2, l2, r2, led, nd, hL, lL⟩
    have o2 := hl.same s2
    have hLn : P1.length ≤ n := by
      rw [← lL]
      have := SP.nodup_le (ms := List.range n) nd fun v hv => List.mem_range.mpr (hL v hv).1
      simpa using this
    cases ea : la a with
    | none =>
      have hx := o2.non a ha (by rw [ea]; rfl)
      refine ⟨_, rfl, _, rfl, pl, vl, _, _, rfl, rfl, SqL.of o2.at_, atI_nat hx, rfl, _, rfl, if_non ?_⟩
      have fin := led [] a ⟨rfl, ea⟩
      rw [List.append_nil] at fin
      refine ⟨_, rfl, q H2 p P1 a s2 np ⟨vs1, SqL.of e2, by rw [l2, List.length_map], fun i r hi => ?_⟩ fin ha hLn⟩
      rw [List.getElem?_map] at hi
      cases e : P1[i]? with
      | none => rw [e] at hi; cases hi
      | some w =>
        rw [e] at hi
        cases hi
        obtain ⟨t, t1, t2⟩ := r2 i w e
        exact ⟨t, t1, s2.tup t2⟩
    | some w =>
      obtain ⟨t, hx, ht⟩ := o2.tup a ha (wrow w) (by rw [ea]; rfl)
      obtain ⟨t', hx', ht'⟩ := hl.tup a ha (wrow w) (by rw [ea]; rfl)
      rw [hx] at hx'
      cases hx'
      obtain ⟨w1, w2, w3⟩ := hla a w ea
      refine ⟨_, rfl, _, rfl, pl, vl, _, _, rfl, rfl, SqL.of o2.at_, atI_nat hx, rfl, _, rfl, if_ref ?_⟩
      refine ⟨_, fun _ _ h => h, ?_⟩
      refine ⟨_, rfl, .inl ⟨rfl, _, SqL.of e2⟩, _, rfl, _, rfl, pl, vl, _, _, rfl, rfl, SqL.of o2.at_, atI_nat hx, p, vs1, _, rfl, rfl, e2, sz_lt (by omega), ?_⟩
      have s3 : Same H (upd H2 p (.lst (vs1 ++ [.ref t]))) := s2.mut np
      have o3 := hl.same s3
      refine ⟨_, rfl, _, rfl, pl, vl, _, _, rfl, rfl, SqL.of o3.at_, atI_nat hx, t, _, _, _, rfl, rfl, s3.tup ht', atI_nat (j := 0) rfl, ?_⟩
      refine ⟨rk w.u, w3, w.u, P1 ++ [w], vs1 ++ [.ref t], a :: L, rfl, rfl, w2, s3, upd_same, by rw [List.length_append, List.length_append, l2]; rfl, fun i x hi => ?_, fun P2 o h => ?_, List.nodup_cons.mpr ⟨fun hm => ?_, nd⟩, fun v hv => ?_, by rw [List.length_cons, List.length_append, lL]; rfl⟩
      · rw [List.getElem?_append] at hi ⊢
        by_cases e : i < P1.length
        · rw [if_pos e] at hi
          rw [l2, if_pos e]
          exact r2 i x hi
        · rw [if_neg e] at hi
          have z : i - P1.length = 0 := by
            rcases Nat.eq_zero_or_pos (i - P1.length) with z | z
            · exact z
            · rw [List.getElem?_eq_none (by simp; omega)] at hi
              cases hi
          rw [z] at hi
          cases hi
          rw [l2, if_neg e, z]
          exact ⟨t, rfl, ht'⟩
      · rw [List.append_assoc]
        exact led (w :: P2) o ⟨ea, h⟩
      · have := (hL a hm).2
        omega
      · rcases List.mem_cons.mp hv with rfl | hv
        · exact ⟨ha, w3⟩
        · have := hL v hv
          omega
end
end St
end
section
set_option maxRecDepth 100000
set_option maxHeartbeats 4000000
namespace St
open PySem PySem.Spec PyProof.Rows L2 NT
/-! ### one push, as the program makes it -/
theorem feas_lw {A : N} {n : Nat} {x p : Nat → Int} (hf : Fit A n) (hF : FeasG A (-1) p x) : Lw n (waysL A x A.m) p := by
  have key : ∀ w ∈ waysL A x A.m, w.u < n ∧ w.v < n ∧ p w.v ≤ p w.u + w.c := fun w hw => by
    obtain ⟨hi, r⟩ := mem_waysL (Nat.le_refl _) hw
    obtain ⟨e1, e2⟩ := hf.ends _ hi
    obtain ⟨f1, f2⟩ := hF _ hi
    rcases r with ⟨_, r2, r3, r4, r5, _⟩ | ⟨_, r2, r3, r4, r5, _⟩
    · have := f1 r5
      rw [r2, r3, r4]
      exact ⟨e1, e2, this⟩
    · have := f2 r5
      rw [r2, r3, r4]
      exact ⟨e2, e1, by omega⟩
  exact ⟨fun w hw => (key w hw).1, fun w hw => (key w hw).2.1, fun w hw => (key w hw).2.2⟩
theorem ev_fixed {A : N} {n : Nat} {x : Nat → Int} {D : Lab} {la : Nat → Option Ed} (L : LabPost n (waysL A x A.m) (exc A x) D la) : Fixed A (-1) x D := fun w hw => L.fix w (waysL_mem hw hw.1)
theorem exc_below {A : N} {n : Nat} {x : Nat → Int} (hf : Fit A n) {v : Nat} (h : ¬ v < n) : exc A x v = 0 := exc_out fun i hi => by have := hf.ends i hi; omega
theorem ev_none {A : N} {n : Nat} {x : Nat → Int} {D : Lab} {la : Nat → Option Ed} (hf : Fit A n) (bd : Bd A x) (L : LabPost n (waysL A x A.m) (exc A x) D la) (h : ∀ v, v < n → exc A x v < 0 → D v = none) : Circ A x := fun v => by
  have z : ∀ v, exc A (fun _ => 0) v = 0 := fun v => by
    have : exc A (fun _ => 0) v = S A.m (fun _ => 0) := S_congr fun i _ => by simp
    rw [this, S_zero]
  have fx := ev_fixed L
  have key := balanced (A := A) (y := x) (z := fun _ => 0) (b := fun _ => 0) (R := fun v => D v ≠ none) (fun i hi => ⟨Int.le_refl 0, (by have := bd i hi; show 0 ≤ A.r i; omega)⟩) (fun v => by rw [z v]; rfl) bd (fun v hv => ?_) (fun v hv => ?_) (fun i hi => ?_) v
  · omega
  · by_cases q : v < n
    · exact L.src v q (by omega)
    · have := exc_below (x := x) hf q
      omega
  · by_cases q : v < n
    · by_cases c : exc A x v < 0
      · exact absurd (h v q c) hv
      · omega
    · exact absurd (L.out v q) hv
  · constructor
    · intro hy hR
      cases e : D (A.s i) with
      | none => exact absurd e hR
      | some a =>
        obtain ⟨b, hb, _⟩ := fx ⟨A.s i, A.e i, -1, i, 1, A.r i - x i⟩ ⟨hi, .inl ⟨rfl, rfl, rfl, rfl, hy, rfl⟩⟩ a e
        show D (A.e i) ≠ none
        rw [show D (A.e i) = some b from hb]
        exact Option.some_ne_none _
    · intro hy hR
      cases e : D (A.e i) with
      | none => exact absurd e hR
      | some a =>
        obtain ⟨b, hb, _⟩ := fx ⟨A.e i, A.s i, -(-1), i, -1, x i⟩ ⟨hi, .inr ⟨rfl, rfl, rfl, rfl, hy, rfl⟩⟩ a e
        show D (A.s i) ≠ none
        rw [show D (A.s i) = some b from hb]
        exact Option.some_ne_none _
structure EvOk (A : N) (n : Nat) (x : Nat → Int) (P : List Ed) (o t : Nat) : Prop where
  ne : P ≠ []
  fst : ∀ w, P.getLast? = some w → w.u = o
  pos : 0 < exc A x o
  cap : ∀ w ∈ P, 1 ≤ w.cap
  arc : ∀ w ∈ P, w.i < A.m ∧ (w.sg = 1 ∨ w.sg = -1)
  go : ∀ d, 1 ≤ d → d ≤ exc A x o → d ≤ -(exc A x t) → (∀ w ∈ P, d ≤ w.cap) → Bd A (NT.push x d P) ∧ (∃ q, FeasG A (-1) q (NT.push x d P)) ∧ PP A (fun _ => 0) n (NT.push x d P) + d = PP A (fun _ => 0) n x
theorem ev_some {A : N} {n : Nat} {x p : Nat → Int} {D : Lab} {la : Nat → Option Ed} (hf : Fit A n) (bd : Bd A x) (hF : FeasG A (-1) p x) (L : LabPost n (waysL A x A.m) (exc A x) D la) {t o : Nat} {P : List Ed} (ht : exc A x t < 0) (hD : D t ≠ none) (ho : o < n) (led : Led la P o t) : EvOk A n x P o t := by
  have lo := led.origin
  have mem : ∀ w ∈ P, w ∈ waysL A x A.m ∧ Tight D w := fun w hw => by
    obtain ⟨v, hv⟩ := led.mem w hw
    obtain ⟨h1, _, h3⟩ := L.way v w hv
    exact ⟨h1, h3⟩
  have res : ∀ w ∈ P, Res A (-1) x w := fun w hw => mem_waysL (Nat.le_refl _) (mem w hw).1
  have path := led.path fun v w h => (L.way v w h).2.1
  have ne : P ≠ [] := fun e => by
    subst e
    have := L.org t led.2 hD
    omega
  have hDo : D o ≠ none := by
    have key : ∀ {P : List Ed} {t : Nat}, Led la P o t → P ≠ [] → (∀ w ∈ P, Tight D w) → D o ≠ none := by
      intro P
      induction P with
      | nil => intro t _ h; exact absurd rfl h
      | cons w P ih =>
        intro t l _ hT
        by_cases q : P = []
        · subst q
          obtain ⟨a, h1, _⟩ := hT w List.mem_cons_self
          have : o = w.u := l.2.1
          rw [this, h1]
          exact Option.some_ne_none _
        · exact ih l.2 q fun w hw => hT w (List.mem_cons_of_mem _ hw)
    exact key led ne fun w hw => (mem w hw).2
  refine ⟨ne, fun w e => led.first e, L.org o lo hDo, fun w hw => ?_, fun w hw => ⟨(res w hw).1, (res w hw).2.elim (fun q => .inl q.1) fun q => .inr q.1⟩, fun d d1 d2 d3 d4 => ?_⟩
  · rcases (res w hw).2 with ⟨_, _, _, _, h5, h6⟩ | ⟨_, _, _, _, h5, h6⟩ <;> omega
  · exact aug (B := n) hf.ends (fun _ _ => rfl) bd hF (ev_fixed L) res path (fun w hw => (mem w hw).2) d1 d4 (by omega) (by omega)
/-! ### data of the list whose least one is taken -/
def kd (a : Int × Nat) (k : Nat) : PyData := .tuple [.tuple [.int a.1, .int (a.2 : Nat)], .int (k : Nat)]
theorem kd_depth (a : Int × Nat) (k : Nat) : (kd a k).depth = 2 := by
  unfold kd
  simp only [PyData.depth, PyData.depthAll]
  decide
theorem kds_depth : ∀ xs : List ((Int × Nat) × Nat), PyData.depthAll (xs.map fun x => kd x.1 x.2) ≤ 2
  | [] => by
    simp only [List.map_nil, PyData.depthAll]
    decide
  | x :: xs => by
    rw [List.map_cons, PyData.depthAll, kd_depth]
    have := kds_depth xs
    omega
theorem kds_lay : ∀ xs : List ((Int × Nat) × Nat), PyData.canLayAll0 (xs.map fun x => kd x.1 x.2) = true
  | [] => by simp only [List.map_nil, PyData.canLayAll0]
  | x :: xs => by
    rw [List.map_cons, PyData.canLayAll0, kds_lay xs]
    simp only [kd, PyData.canLay0, PyData.canLayAll0, Bool.and_true]
theorem kds_shaped (xs : List ((Int × Nat) × Nat)) : SeqAt.shaped (.list (xs.map fun x => kd x.1 x.2)) = true := by
  unfold SeqAt.shaped
  rw [Bool.and_eq_true]
  refine ⟨?_, decide_eq_true ?_⟩
  · simp only [PyData.canLay0]
    exact kds_lay xs
  · simp only [PyData.depth]
    have := kds_depth xs
    omega
theorem kd_alike (a b : Int × Nat) (j k : Nat) : PySem.W.alike (kd a j) (kd b k) = true := by
  unfold kd
  simp only [PySem.W.alike, PySem.W.alikeAll, Bool.and_true]
theorem kds_alike (xs : List ((Int × Nat) × Nat)) : PySem.W.AlikeAll (xs.map fun x => kd x.1 x.2) := by
  refine ⟨fun x hx y hy => ?_, fun x hx e => ?_⟩
  · obtain ⟨u, _, rfl⟩ := List.mem_map.mp hx
    obtain ⟨v, _, rfl⟩ := List.mem_map.mp hy
    exact kd_alike _ _ _ _
  · obtain ⟨u, _, rfl⟩ := List.mem_map.mp hx
    cases e
theorem kds_eqv (xs : List ((Int × Nat) × Nat)) : PyData.eqv (.list (xs.map fun x => kd x.1 x.2)) (.list []) = xs.isEmpty := by
  cases xs with
  | nil => simp only [List.map_nil, PyData.eqv, PyData.eqvAll]; rfl
  | cons x xs => simp only [List.map_cons, PyData.eqv, PyData.eqvAll]; rfl
theorem ks_dp {K : PySem.W.Frag} {H : Hp} : ∀ {ks : List ((Int × Nat) × Nat)} {vk : List V}, vk.length = ks.length → (∀ (j : Nat) x, ks[j]? = some x → ∃ t tt, vk[j]? = some (.ref t) ∧ SqT K H t [.ref tt, .int (x.2 : Nat)] ∧ SqT K H tt (lrow x.1)) → DpAll K H vk (ks.map fun x => kd x.1 x.2)
  | [], [], _, _ => .nil
  | [], _ :: _, h, _ => by simp at h
  | _ :: _, [], h, _ => by simp at h
  | x :: ks, v :: vk, h, hj => by
    obtain ⟨t, tt, e, h1, h2⟩ := hj 0 x rfl
    cases e
    refine .cons (.tup h1 (.cons (.tup h2 (.cons (.int _) (.cons (.int _) .nil))) (.cons (.int _) .nil))) (ks_dp (by simpa using h) fun j y hy => hj (j + 1) y hy)
theorem atI_end {xs : List V} {x : V} (h : xs[xs.length - 1]? = some x) (hne : xs ≠ []) : atI xs (-1) = some x := by
  have hp : 0 < xs.length := List.length_pos_iff.mpr hne
  unfold atI ixN
  rw [if_neg (by decide), if_pos (by omega)]
  have : ((-1 : Int) + (xs.length : Nat)).toNat = xs.length - 1 := by omega
  rw [this]
  exact h
def sp_even_out (K : PySem.W.Frag) : Sp := fun vs H Q _ => ∃ (n : Nat) (pa pf : Addr) (A : N) (x p : Nat → Int), vs = [.int (n : Nat), .ref pa, .ref pf] ∧ Fit A n ∧ ArcsAt K H pa A ∧ H pf = some (.lst (Lst A.m x)) ∧ pa ≠ pf ∧ Bd A x ∧ FeasG A (-1) p x ∧
  (∀ H', Same H H' → Circ A x → Q (.bl false) H') ∧
  (∀ H' y, Keep pf H H' → H' pf = some (.lst (Lst A.m y)) → Bd A y → (∃ q, FeasG A (-1) q y) → PP A (fun _ => 0) n y < PP A (fun _ => 0) n x → Q (.bl true) H')
section
variable {P : Program} {w : World} {K : PySem.W.Frag} {mg : Str → Option Value} {base : Heap}
theorem ok_even_out (T : Tx K mg) : FnOk P w K mg base CX0 2 T.f_even_out T.d_even_out ["many", "arcs", "flow"] (sp_even_out K) := by
  refine T.F_even_out.ok sc_even_out (fun vs H Q E h => ?_) (fun cdv A outer s H vs Q E hr h => ?_)
  · obtain ⟨n, pa, pf, A, x, p, rfl, _⟩ := h
    rfl
  · refine ⟨_, (pss_cons (ps_set (i := 3) sc_even_out.nd rfl (.inr rfl) (pe_call (ok_excesses T) (hr.mono (by decide)) (by rfl) T.g_excesses T.F_excesses.kp T.b_excesses .nil pass0 (pa_cons (pv 0) (pa_cons (pv 1) (pa_cons (pv 2) pa_nil)))))
      (pss_cons (ps_asg (pe_call (ok_labels T) (hr.mono (by decide)) (by rfl) T.g_labels T.F_labels.kp T.b_labels .nil pass0 (pa_cons (pv 0) (pa_cons (pe_call (ok_ways T) (hr.mono (by decide)) (by rfl) T.g_ways T.F_ways.kp T.b_ways .nil pass0 (pa_cons (pv 1) (pa_cons (pv 2) pa_nil))) (pa_cons (pv 3) pa_nil)))) (pg_tup (by rfl) (pgs_cons (pg_name (i := 4) sc_even_out.nd rfl (.inr rfl)) (pgs_cons (pg_name (i := 5) sc_even_out.nd rfl (.inl rfl)) pgs_nil))))
      (pss_cons (ps_setLc (i := 6) (own := [("at", 10)]) (by rfl) sc_even_out.nd rfl rfl (sw_true rfl rfl rfl (by decide +kernel)) (pi_range1 (by rfl) T.z_range (pa_cons (pv 0) pa_nil)) (blkOk_by (own := [("at", 10)]) (N := N_even_out) (sc := defScope s_even_out) (by decide +kernel)) (fun _ _ _ _ _ => (pg_name (i := 10) sc_even_out.nd rfl (.inl rfl))) (fun _ _ _ _ _ => (pts_one (PW.pt (pw_and (pt_cmpR op_lt (pe_ix (ix_listK (K := K) rfl) (pv 3) (pv 10) (fun _ _ => rfl)) pe_int (nomark _)) (pw_and1 (pt_cmpR op_notN (pe_ix (ix_listK (K := K) rfl) (pv 4) (pv 10) (fun _ _ => rfl)) pe_non (nomark _))))))) (fun _ _ _ _ _ => (pe_tup (pa_cons (pe_ix (ix_listK (K := K) rfl) (pv 4) (pv 10) (fun _ _ => rfl)) (pa_cons (pv 10) pa_nil)))))
      (pss_cons (ps_if (pt_cmpR (op_eqD hr.units) (pv 6) (pe_lst pa_nil) (nomark _))
      (pss_one (ps_ret pe_bl))
      pss_nil)
      (pss_cons (ps_set (i := 7) sc_even_out.nd rfl (.inl rfl) (pe_ix ix_tup (pe_callB (cr_minD rfl hr.units) (by rfl) T.z_min (by decide +kernel) (pa_cons (pv 6) pa_nil)) pe_int (fun _ _ => rfl)))
      (pss_cons (ps_set (i := 8) sc_even_out.nd rfl (.inl rfl) (pe_call (ok_led_back T) (hr.mono (by decide)) (by rfl) T.g_led_back T.F_led_back.kp T.b_led_back .nil pass0 (pa_cons (pv 5) (pa_cons (pv 7) pa_nil))))
      (pss_cons (ps_set (i := 9) sc_even_out.nd rfl (.inl rfl) (pe_ix ix_tup (pe_ix ix_list (pv 8) (pe_un un_neg pe_int) (fun _ _ => rfl)) pe_int (fun _ _ => rfl)))
      (pss_cons (ps_expr (pe_call (ok_push T) (hr.mono (by decide)) (by rfl) T.g_push T.F_push.kp T.b_push .nil pass0 (pa_cons (pv 2) (pa_cons (pv 8) (pa_cons (pe_callB (cr_min rfl) (by rfl) T.z_min (by decide +kernel) (pa_cons (pe_op op_cat (pe_lst (pa_cons (pe_ix ix_list (pv 3) (pv 9) (fun _ _ => rfl)) (pa_cons (pe_op op_sub pe_int (pe_ix ix_list (pv 3) (pv 7) (fun _ _ => rfl))) pa_nil))) (pe_lc (own := [("way", 11)]) (by rfl) sc_even_out.nd (pi_list (pv 8)) (blkOk_by (own := [("way", 11)]) (N := N_even_out) (sc := defScope s_even_out) (by decide +kernel)) (fun _ _ _ _ _ => (pg_name (i := 11) sc_even_out.nd rfl (.inl rfl))) (fun _ _ _ _ _ => pts_nil) (fun _ _ _ _ _ => (pe_ix (ix_tupK (K := K) rfl) (pv 11) pe_int (fun _ _ => rfl))))) pa_nil)) pa_nil)))))
      (pss_one (ps_ret pe_bl)))))))))), ?_⟩
    -- slots: 0 many, 1 arcs, 2 flow, 3 excess, 4 told, 5 last, 6 lacking, 7 place, 8 steps, 9 first, 10 at, 11 way
    obtain ⟨n, pa, pf, A, x, p, rfl, hf, hA, hx, ne, bd, hF, q0, q1⟩ := h
    have hm := hf.hm
    have hn := hf.hn
    -- excess = excesses(many, arcs, flow)
    refine ⟨_, rfl, _, rfl, _, rfl, n, pa, pf, A, x, rfl, hf, hA, SqL.of hx, fun H1 pe s1 npe e1 => ?_⟩
    -- told, last = labels(many, ways(arcs, flow), excess)
    refine ⟨_, rfl, _, rfl, _, rfl, pa, pf, A, x, rfl, hm, s1.tups hA, SqL.of (s1 _ _ hx), fun H2 pw s2 npw hw => ⟨_, rfl, ?_⟩⟩
    refine ⟨n, pw, pe, waysL A x A.m, exc A x, p, rfl, hn, hw, s2.seq (SqL.of e1), feas_lw hf hF, fun H3 r pt pl D la s3 er ht hl L => ?_⟩
    refine ⟨r, [.ref pt, .ref pl], rfl, SqT.of er, rfl, _, _, rfl, _, _, rfl, rfl, ?_⟩
    obtain ⟨vt, ht⟩ := ht
    have s03 := (s1.trans s2).trans s3
    -- lacking
    refine ⟨_, rfl, _, rfl, by omega, by omega, fun pk npk => lc_range (lo := 0) (n := (n : Int).toNat) (fun i H4 => Same H3 H4 ∧ ∃ (vk : List V) (ks : List ((Int × Nat) × Nat)), H4 pk = some (.lst vk) ∧ vk.length = ks.length ∧
        (∀ (j : Nat) y, ks[j]? = some y → y.2 < n ∧ exc A x y.2 < 0 ∧ D y.2 = some y.1 ∧ ∃ t tt, vk[j]? = some (.ref t) ∧ SqT K H4 t [.ref tt, .int (y.2 : Nat)] ∧ SqT K H4 tt (lrow y.1)) ∧ ks.length ≤ i ∧ (∀ v, v < i → exc A x v < 0 → D v ≠ none → ks ≠ []))
      ⟨same_new npk, [], [], upd_same, rfl, fun j x e => by simp at e, Nat.le_refl _, fun v hv => absurd hv (Nat.not_lt_zero v)⟩ ?_ ?_⟩
    · rintro i H4 hi ⟨s4, vk, ks, ek, lk, rk, lki, full⟩
      have hi : i < n := by omega
      have s14 := (s2.trans s3).trans s4
      have o4 := ht.same s4
      rw [Int.zero_add]
      refine ⟨rfl, ?_⟩
      refine ⟨_, rfl, _, rfl, pe, _, _, _, rfl, rfl, s14.seq (SqL.of e1), Lst_at hi, _, _, rfl, rfl, _, rfl, ite2 (fun c => ?_) (fun c => ?_)⟩
      · have c := of_decide_eq_true c
        cases eD : D i with
        | none =>
          have hy := o4.non i hi (by rw [eD]; rfl)
          refine ⟨_, rfl, _, rfl, pt, vt, _, _, rfl, rfl, SqL.of o4.at_, atI_nat hy, rfl, _, rfl, if_non ?_⟩
          refine ⟨s4, vk, ks, ek, lk, rk, by omega, fun v hv c' d' => ?_⟩
          by_cases e : v = i
          · rw [e, eD] at d'
            exact absurd rfl d'
          · exact full v (by omega) c' d'
        | some a =>
          obtain ⟨ta, hy, hta⟩ := o4.tup i hi (lrow a) (by rw [eD]; rfl)
          refine ⟨_, rfl, _, rfl, pt, vt, _, _, rfl, rfl, SqL.of o4.at_, atI_nat hy, rfl, _, rfl, if_ref ?_⟩
          refine ⟨_, rfl, _, rfl, pt, vt, _, _, rfl, rfl, SqL.of o4.at_, atI_nat hy, _, rfl, (by show 2 ≤ sizeLine; rw [sizeLine_eq]; decide), fun u nu => ?_⟩
          have ek' : (upd H4 u (.tup [.ref ta, .int (i : Nat)])) pk = some (.lst vk) := by rw [upd_ne (ne_of_none ek nu)]; exact ek
          refine ⟨vk, ek', sz_lt (by omega), (s4.trans (same_new nu)).mut npk, vk ++ [.ref u], ks ++ [(a, i)], upd_same, by rw [List.length_append, List.length_append, lk]; rfl, fun j y hj => ?_, by rw [List.length_append]; show ks.length + 1 ≤ i + 1; omega, fun v hv _ _ => by simp⟩
          rw [List.getElem?_append] at hj ⊢
          by_cases e : j < ks.length
          · rw [if_pos e] at hj
            rw [lk, if_pos e]
            obtain ⟨h1, h2, h3, t, tt, h4, h5, h6⟩ := rk j y hj
            exact ⟨h1, h2, h3, t, tt, h4, upd_tup ek' ((same_new nu).tup h5), upd_tup ek' ((same_new nu).tup h6)⟩
          · rw [if_neg e] at hj
            have z : j - ks.length = 0 := by
              rcases Nat.eq_zero_or_pos (j - ks.length) with z | z
              · exact z
              · rw [List.getElem?_eq_none (by simp; omega)] at hj
                cases hj
            rw [z] at hj
            cases hj
            rw [lk, if_neg e, z]
            exact ⟨hi, c, eD, u, ta, rfl, upd_tup ek' (SqT.of upd_same), upd_tup ek' ((same_new nu).tup hta)⟩
      · have c : ¬ exc A x i < 0 := fun z => c (decide_eq_true z)
        refine iteF ?_
        refine ⟨s4, vk, ks, ek, lk, rk, by omega, fun v hv c' d' => ?_⟩
        by_cases e : v = i
        · rw [e] at c'
          exact absurd c' c
        · exact full v (by omega) c' d'
    · rintro H4 ⟨s4, vk, ks, ek, lk, rk, _, full⟩
      rw [Int.toNat_natCast] at full
      have dp := ks_dp lk fun j y hy => (rk j y hy).2.2.2
      have s04 := s03.trans s4
      -- if lacking == []
      refine ⟨_, rfl, Nat.zero_le _, fun l0 n0 => ⟨.list (ks.map fun x => kd x.1 x.2), .list [], .lst ((same_new n0).seq (SqL.of ek)) (ks_dp lk fun j y hy => ?_), .lst (SqL.of upd_same) .nil, kds_shaped ks, kds_shaped [], _, rfl, ?_⟩⟩
      · obtain ⟨_, _, _, t, tt, h4, h5, h6⟩ := rk j y hy
        exact ⟨t, tt, h4, (same_new n0).tup h5, (same_new n0).tup h6⟩
      rw [kds_eqv]
      have s45 : Same H4 (upd H4 l0 (.lst [])) := same_new n0
      generalize upd H4 l0 (.lst []) = H5 at s45 ⊢
      have s05 := s04.trans s45
      cases ks with
      | nil =>
        refine iteT ?_
        refine q0 H5 s05 (ev_none hf bd L fun v hv c => ?_)
        cases e : D v with
        | none => rfl
        | some a => exact absurd rfl (full v hv c (by rw [e]; exact Option.some_ne_none _))
      | cons k0 ks =>
      refine iteF ?_
      -- place = min(lacking)[1]
      refine ⟨_, rfl, pk, vk, kd k0.1 k0.2, ks.map (fun x => kd x.1 x.2), rfl, SqL.of (s45 _ _ ek), ks_dp lk (fun j y hy => ?_), (show PySem.W.AlikeAll (kd k0.1 k0.2 :: ks.map fun x => kd x.1 x.2) from kds_alike (k0 :: ks)), Nat.le_trans (kds_depth (k0 :: ks)) (by decide), fun j z hz => ?_⟩
      · obtain ⟨_, _, _, t, tt, h4, h5, h6⟩ := rk j y hy
        exact ⟨t, tt, h4, s45.tup h5, s45.tup h6⟩
      have hj : j < (k0 :: ks).length := by
        rw [← lk]
        exact (List.getElem?_eq_some_iff.mp hz).1
      obtain ⟨y1, y2, y3, t, tt, h4, h5, h6⟩ := rk j _ (List.getElem?_eq_getElem hj)
      rw [hz] at h4
      cases h4
      generalize (k0 :: ks)[j] = y at y1 y2 y3 h5 h6
      obtain ⟨ya, tv⟩ := y
      dsimp only at y1 y2 y3 h5 h6
      refine ⟨t, _, _, _, rfl, rfl, s45.tup h5, atI_nat (j := 1) rfl, ?_⟩
      -- steps = led_back(last, place)
      have s35 := s4.trans s45
      obtain ⟨vl, ol⟩ := hl
      refine ⟨_, rfl, _, rfl, n, pl, tv, la, NT.steps D, rfl, hn, ⟨vl, ol.same s35⟩, y1, fun v w hvw => ?_, fun H6 ps P o s6 nps hP led ho hPn => ?_⟩
      · obtain ⟨w1, w2, w3⟩ := L.way v w hvw
        refine ⟨w2, (feas_lw hf hF).u w w1, ?_⟩
        rw [← w2]
        exact w3.rank
      have ev := ev_some hf bd hF L y2 (by rw [y3]; exact Option.some_ne_none _) ho led
      obtain ⟨vp, a1, a2, a3⟩ := hP
      rw [List.length_map] at a2
      have s06 := s05.trans s6
      have s16 := ((s2.trans s3).trans s35).trans s6
      have nf : ps ≠ pf := (ne_of_none (s05 _ _ hx) nps).symm
      -- first = steps[-1][0]
      obtain ⟨wl, hwl⟩ : ∃ wl, P.getLast? = some wl := ⟨_, List.getLast?_eq_some_getLast ev.ne⟩
      have hwl' : P[P.length - 1]? = some wl := by rw [← List.getLast?_eq_getElem?]; exact hwl
      obtain ⟨tl, tl1, tl2⟩ := a3 (P.length - 1) (wrow wl) (by rw [List.getElem?_map, hwl']; rfl)
      have vne : vp ≠ [] := fun e => by
        rw [e] at a2
        exact ev.ne (List.length_eq_zero_iff.mp a2.symm)
      have efst := ev.fst wl hwl
      refine ⟨_, rfl, _, rfl, ps, vp, _, _, rfl, rfl, a1, atI_end (by rw [a2]; exact tl1) vne, tl, _, _, _, rfl, rfl, tl2, atI_nat (j := 0) rfl, ?_⟩
      rw [efst]
      -- push(flow, steps, min([excess[first], 0 - excess[place]] + [way[5] for way in steps]))
      refine ⟨_, rfl, _, rfl, _, rfl, _, rfl, pe, _, _, _, rfl, rfl, s16.seq (SqL.of e1), Lst_at ho, _, rfl, _, rfl, pe, _, _, _, rfl, rfl, s16.seq (SqL.of e1), Lst_at y1, _, _, rfl, rfl, (by show 2 ≤ sizeLine; rw [sizeLine_eq]; decide), fun b1 nb1 => ?_⟩
      refine ⟨_, rfl, ps, rfl, ⟨_, (same_new nb1).seq a1⟩, fun b2 nb2 => lc_list (K := K) (a := ps) (xs := vp) (fun i H7 => Same (upd H6 b1 (.lst [.int (exc A x o), .int (0 - exc A x tv)])) H7 ∧ H7 b2 = some (.lst ((P.take i).map fun w => V.int w.cap)))
        ⟨same_new nb2, upd_same⟩ (fun i H7 _ ⟨s7, _⟩ => s7.seq ((same_new nb1).seq a1)) ?_ ?_⟩
      · rintro i z H7 hi ⟨s7, e7⟩
        have hi' : i < P.length := by
          rw [← a2]
          exact (List.getElem?_eq_some_iff.mp hi).1
        have hPi : P[i]? = some P[i] := List.getElem?_eq_getElem hi'
        obtain ⟨t, t1, t2⟩ := a3 i (wrow P[i]) (by rw [List.getElem?_map, hPi]; rfl)
        rw [hi] at t1
        cases t1
        refine ⟨rfl, tyes ?_⟩
        refine ⟨_, rfl, t, _, _, _, rfl, rfl, s7.tup ((same_new nb1).tup t2), atI_nat (j := 5) rfl, _, e7, sz_lt (by rw [List.length_map, List.length_take]; omega), s7.mut nb2, ?_⟩
        rw [upd_same, take_more hPi, List.map_append]
        rfl
      · rintro H7 ⟨s7, e7⟩
        rw [a2, List.take_length] at e7
        have eb1 := s7 _ _ (upd_same (H := H6) (a := b1) (o := .lst [.int (exc A x o), .int (0 - exc A x tv)]))
        refine ⟨b1, b2, _, _, rfl, rfl, eb1, e7, sz_of (by rw [List.length_map]; show 2 + P.length ≤ _; omega), fun b3 nb3 => ?_⟩
        refine ⟨b3, (exc A x o) :: (0 - exc A x tv) :: P.map (fun w => w.cap), rfl, SqL.of (by rw [upd_same, List.map_cons, List.map_cons, List.map_map]; rfl), by simp, fun d hd hle => ?_⟩
        have s8 : Same H (upd H7 b3 (.lst ([V.int (exc A x o), .int (0 - exc A x tv)] ++ P.map fun w => V.int w.cap))) := ((s06.trans (same_new nb1)).trans s7).trans (same_new nb3)
        have s68 := ((same_new nb1).trans s7).trans (same_new (o := .lst ([V.int (exc A x o), .int (0 - exc A x tv)] ++ P.map fun w => V.int w.cap)) nb3)
        refine ⟨pf, ps, A.m, x, d, P, rfl, hm, s8 _ _ hx, nf, s68.tups ⟨vp, a1, by rw [a2, List.length_map], a3⟩, ev.arc, fun H9 k9 e9 => ?_⟩
        have d1 := hle _ List.mem_cons_self
        have d2 := hle _ (List.mem_cons_of_mem _ List.mem_cons_self)
        have d3 : ∀ w ∈ P, d ≤ w.cap := fun w hw => hle _ (List.mem_cons_of_mem _ (List.mem_cons_of_mem _ (List.mem_map.mpr ⟨w, hw, rfl⟩)))
        have dpos : 1 ≤ d := by
          rcases List.mem_cons.mp hd with e | hd
          · have := ev.pos
            omega
          · rcases List.mem_cons.mp hd with e | hd
            · omega
            · obtain ⟨w, hw, e⟩ := List.mem_map.mp hd
              have := ev.cap w hw
              omega
        obtain ⟨g1, g2, g3⟩ := ev.go d dpos d1 (by omega) d3
        exact q1 H9 _ (s8.keep.trans k9) e9 g1 g2 (by omega)
end
end St
end
section
set_option maxRecDepth 100000
set_option maxHeartbeats 4000000
namespace St
open PySem PySem.Spec PyProof.Rows L2 NT
theorem Keep.same {f : Addr} {H H1 H2 : Hp} (a : Same H H1) (b : Keep f H1 H2) (n : H f = none) : Same H H2 := fun c o e => b c o (a c o e) (ne_of_none e n)
def sp_greatest_flow (K : PySem.W.Frag) : Sp := fun vs H Q _ => ∃ (n : Nat) (pa : Addr) (A : N), vs = [.int (n : Nat), .ref pa] ∧ Fit A n ∧ ArcsAt K H pa A ∧ (∃ o, H pa = some o) ∧ (∀ i, i < A.m → 0 ≤ A.r i) ∧
  ∀ H' p x, Same H H' → H p = none → H' p = some (.lst (Lst A.m x)) → Opt A x → Q (.ref p) H'
theorem feas_neg {A : N} {p x : Nat → Int} (h : FeasG A (-1) p x) : Feas A (fun v => - p v) x := fun i hi => by
  obtain ⟨f1, f2⟩ := h i hi
  show (x i < A.r i → 1 + -p (A.s i) - -p (A.e i) ≤ 0) ∧ (0 < x i → 0 ≤ 1 + -p (A.s i) - -p (A.e i))
  constructor
  · intro hy
    have := f1 hy
    omega
  · intro hy
    have := f2 hy
    omega
/-! ### least potentials -/
def Closed (ws : List Ed) (f : Nat → Int) : Prop := ∀ w ∈ ws, f w.u - w.c ≤ f w.v
theorem feas_closed {A : N} {x p : Nat → Int} (h : Feas A p x) : Closed (waysL A x A.m) p := fun w hw => by
  obtain ⟨hi, r⟩ := mem_waysL (Nat.le_refl _) hw
  obtain ⟨f1, f2⟩ := h _ hi
  unfold worth at f1 f2
  rcases r with ⟨_, r2, r3, r4, r5, _⟩ | ⟨_, r2, r3, r4, r5, _⟩
  · have := f1 r5
    rw [r2, r3, r4]
    omega
  · have := f2 r5
    rw [r2, r3, r4]
    omega
theorem closed_feas {A : N} {x p : Nat → Int} (h : Closed (waysL A x A.m) p) : Feas A p x := fun i hi => by
  unfold worth
  constructor
  · intro hy
    have := h _ (waysL_mem (w := ⟨A.s i, A.e i, -1, i, 1, A.r i - x i⟩) ⟨hi, .inl ⟨rfl, rfl, rfl, rfl, hy, rfl⟩⟩ hi)
    dsimp only at this
    omega
  · intro hy
    have := h _ (waysL_mem (w := ⟨A.e i, A.s i, -(-1), i, -1, x i⟩) ⟨hi, .inr ⟨rfl, rfl, rfl, rfl, hy, rfl⟩⟩ hi)
    dsimp only at this
    omega
theorem S_fset {x : Nat → Int} {v n : Nat} (h : v < n) (y : Int) : S n (fset x v y) = S n x - x v + y := by
  rw [S_lup x (fset x v y) h fun j hj => fset_ne hj, fset_same]
def sp_least_potentials (K : PySem.W.Frag) : Sp := fun vs H Q _ => ∃ (n : Nat) (pa pf : Addr) (A : N) (x p : Nat → Int), vs = [.int (n : Nat), .ref pa, .ref pf] ∧ Fit A n ∧ ArcsAt K H pa A ∧ SqL K H pf (Lst A.m x) ∧ LeastPot A n x p ∧
  ∀ H' r, Same H H' → H r = none → H' r = some (.lst (Lst n p)) → Q (.ref r) H'
section
variable {P : Program} {w : World} {K : PySem.W.Frag} {mg : Str → Option Value} {base : Heap}
theorem ok_greatest_flow (T : Tx K mg) : FnOk P w K mg base CX0 3 T.f_greatest_flow T.d_greatest_flow ["many", "arcs"] (sp_greatest_flow K) := by
  refine T.F_greatest_flow.ok sc_greatest_flow (fun vs H Q E h => ?_) (fun cdv A outer s H vs Q E hr h => ?_)
  · obtain ⟨n, pa, A, rfl, _⟩ := h
    rfl
  · refine ⟨_, (pss_cons (ps_setLc (i := 2) (own := [("start", 3), ("end", 4), ("room", 5)]) (by rfl) sc_greatest_flow.nd rfl rfl (sw_true rfl rfl rfl (by decide +kernel)) (pi_list (pv 1)) (blkOk_by (own := [("start", 3), ("end", 4), ("room", 5)]) (N := N_greatest_flow) (sc := defScope s_greatest_flow) (by decide +kernel)) (fun _ _ _ _ _ => (pg_tupK (K := K) (n := 3) rfl (by rfl) (pgs_cons (pg_name (i := 3) sc_greatest_flow.nd rfl (.inl rfl)) (pgs_cons (pg_name (i := 4) sc_greatest_flow.nd rfl (.inl rfl)) (pgs_cons (pg_name (i := 5) sc_greatest_flow.nd rfl (.inl rfl)) pgs_nil))))) (fun _ _ _ _ _ => pts_nil) (fun _ _ _ _ _ => (pv 5)))
      (pss_cons (ps_while PassesOwn.never (pt_val (pe_call (ok_even_out T) (hr.mono (by decide)) (by rfl) T.g_even_out T.F_even_out.kp T.b_even_out .nil pass0 (pa_cons (pv 0) (pa_cons (pv 1) (pa_cons (pv 2) pa_nil)))))
      (pss_one ps_pass))
      (pss_one (ps_ret (pv 2))))), ?_⟩
    -- slots: 0 many, 1 arcs, 2 flow, 3 start, 4 end, 5 room
    obtain ⟨n, pa, A, rfl, hf, hA, ⟨oa, hoa⟩, hr0, q⟩ := h
    obtain ⟨va, a1, a2, a3⟩ := id hA
    have hl : va.length = A.m := by rw [a2]; simp
    have hm := hf.hm
    -- flow = [room for start, end, room in arcs]
    refine ⟨_, rfl, pa, rfl, ⟨_, a1⟩, fun pf npf => lc_list (K := K) (a := pa) (xs := va) (fun i H2 => Same H H2 ∧ H2 pf = some (.lst (Lst i A.r))) ⟨same_new npf, upd_same⟩ (fun i H2 _ ⟨s2, _⟩ => s2.seq a1) ?_ ?_⟩
    · rintro i z H2 hi ⟨s2, e2⟩
      have hi' : i < A.m := by
        rw [← hl]
        exact (List.getElem?_eq_some_iff.mp hi).1
      obtain ⟨t, t1, t2⟩ := a3 i _ (arow_get hi')
      rw [hi] at t1
      cases t1
      refine ⟨t, arow A i, rfl, s2.tup t2, rfl, _, _, rfl, _, _, rfl, _, _, rfl, rfl, ?_⟩
      refine ⟨rfl, tyes ?_⟩
      refine ⟨_, rfl, _, e2, sz_lt (by rw [Lst_len]; omega), s2.mut npf, ?_⟩
      rw [upd_same, Lst_succ]
    · rintro H2 ⟨s2, e2⟩
      rw [hl] at e2
      have b0 : Bd A A.r := fun i hi => ⟨hr0 i hi, Int.le_refl _⟩
      have f0 : FeasG A (-1) (fun _ => 0) A.r := fun i hi => ⟨fun h => absurd h (Int.lt_irrefl _), fun _ => by show (0 : Int) ≤ 0 - -1; decide⟩
      -- while even_out(many, arcs, flow): pass
      refine ⟨fun m σ H3 => ∃ x p, σ = [some (.int (n : Nat)), some (.ref pa), some (.ref pf), none, none, none] ∧ Same H H3 ∧ H3 pf = some (.lst (Lst A.m x)) ∧ Bd A x ∧ FeasG A (-1) p x ∧ m = (PP A (fun _ => 0) n x).toNat, ⟨_, A.r, fun _ => 0, rfl, s2, e2, b0, f0, rfl⟩, ?_⟩
      rintro m σ H3 ⟨x, p, rfl, s3, e3, bd, hF, rfl⟩
      have nn := PP_nn A (fun _ => 0) n x
      refine ⟨_, rfl, _, rfl, _, rfl, n, pa, pf, A, x, p, rfl, hf, s3.tups hA, e3, (ne_of_none hoa npf), bd, hF, fun H4 s4 c => ⟨_, rfl, iteF ?_⟩, fun H4 y k4 e4 b4 f4 l4 => ⟨_, rfl, iteT ⟨_, fun _ _ h => h, ?_⟩⟩⟩
      · exact ⟨_, rfl, q H4 pf x (s3.trans s4) npf (s4 _ _ e3) ⟨bd, c, _, feas_neg hF⟩⟩
      · obtain ⟨p', hp'⟩ := f4
        have nn' := PP_nn A (fun _ => 0) n y
        exact ⟨_, by omega, y, p', rfl, Keep.same s3 k4 npf, e4, b4, hp', rfl⟩
theorem ok_least_potentials (T : Tx K mg) : FnOk P w K mg base CX0 2 T.f_least_potentials T.d_least_potentials ["many", "arcs", "flow"] (sp_least_potentials K) := by
  refine T.F_least_potentials.ok sc_least_potentials (fun vs H Q E h => ?_) (fun cdv A outer s H vs Q E hr h => ?_)
  · obtain ⟨n, pa, pf, A, x, p, rfl, _⟩ := h
    rfl
  · refine ⟨_, (pss_cons (ps_set (i := 3) sc_least_potentials.nd rfl (.inl rfl) (pe_op op_rep (pe_lst (pa_cons pe_int pa_nil)) (pv 0)))
      (pss_cons (ps_set (i := 4) sc_least_potentials.nd rfl (.inl rfl) pe_bl)
      (pss_cons (ps_while PassesOwn.never (pt_not (pt_val (pv 4)))
      (pss_cons (ps_set (i := 4) sc_least_potentials.nd rfl (.inl rfl) pe_bl)
      (pss_one (ps_for PassesOwn.never rfl (pi_list (pe_call (ok_ways T) (hr.mono (by decide)) (by rfl) T.g_ways T.F_ways.kp T.b_ways .nil pass0 (pa_cons (pv 1) (pa_cons (pv 2) pa_nil)))) (pg_tup (by rfl) (pgs_cons (pg_name (i := 5) sc_least_potentials.nd rfl (.inl rfl)) (pgs_cons (pg_name (i := 6) sc_least_potentials.nd rfl (.inl rfl)) (pgs_cons (pg_name (i := 7) sc_least_potentials.nd rfl (.inl rfl)) (pgs_cons (pg_name (i := 8) sc_least_potentials.nd rfl (.inl rfl)) (pgs_cons (pg_name (i := 9) sc_least_potentials.nd rfl (.inl rfl)) (pgs_cons (pg_name (i := 10) sc_least_potentials.nd rfl (.inl rfl)) pgs_nil)))))))
      (pss_one (ps_if (pt_cmpR op_lt (pe_ix ix_list (pv 3) (pv 6) (fun _ _ => rfl)) (pe_op op_sub (pe_ix ix_list (pv 3) (pv 5) (fun _ _ => rfl)) (pv 7)) (nomark _))
      (pss_cons (ps_asg (pe_op op_sub (pe_ix ix_list (pv 3) (pv 5) (fun _ _ => rfl)) (pv 7)) (pg_sub (pv 3) (pv 6) set_list))
      (pss_one (ps_set (i := 4) sc_least_potentials.nd rfl (.inl rfl) pe_bl)))
      pss_nil))))))
      (pss_one (ps_ret (pv 3)))))), ?_⟩
    -- slots: 0 many, 1 arcs, 2 flow, 3 found, 4 is_done, 5 start, 6 end, 7 loss, 8 at, 9 sign, 10 most
    obtain ⟨n, pa, pf, A, x, p, rfl, hf, hA, hx, hp, q⟩ := h
    have hm := hf.hm
    have hn := hf.hn
    -- found = [0] * many
    refine ⟨by show 1 ≤ sizeLine; rw [sizeLine_eq]; decide, fun l0 n0 => ⟨_, rfl, l0, _, _, rfl, rfl, upd_same, by omega, by omega, sz_of (by simp; omega), fun pr npr => ?_⟩⟩
    have s1 : Same H (upd (upd H l0 (.lst [.int 0])) pr (.lst (List.replicate (n : Int).toNat [.int 0]).flatten)) := (same_new n0).trans (same_new npr)
    have e1 : (upd (upd H l0 (.lst [.int 0])) pr (.lst (List.replicate (n : Int).toNat [.int 0]).flatten)) pr = some (.lst (Lst n (fun _ => 0))) := by
      rw [upd_same, Int.toNat_natCast, rep_flat]
    have fr := Same.free (same_new n0) npr
    generalize upd (upd H l0 (.lst [.int 0])) pr (.lst (List.replicate (n : Int).toNat [.int 0]).flatten) = H1 at s1 e1 ⊢
    -- is_done = False; while not is_done
    refine ⟨fun m σ H2 => ∃ f fl y5 y6 y7 y8 y9 y10, σ = [some (.int (n : Nat)), some (.ref pa), some (.ref pf), some (.ref pr), some (.bl fl), y5, y6, y7, y8, y9, y10] ∧ Same H H2 ∧ H2 pr = some (.lst (Lst n f)) ∧ (∀ v, v < n → 0 ≤ f v ∧ f v ≤ p v) ∧
        ((fl = true ∧ m = 0 ∧ Closed (waysL A x A.m) f) ∨ (fl = false ∧ m = 1 + (S n p - S n f).toNat)),
      ⟨_, fun _ => 0, false, none, none, none, none, none, none, rfl, s1, e1, fun v hv => ⟨Int.le_refl 0, hp.nn v hv⟩, .inr ⟨rfl, rfl⟩⟩, ?_⟩
    rintro m σ H2 ⟨f, fl, y5, y6, y7, y8, y9, y10, rfl, s2, e2, b2, hd⟩
    rcases hd with ⟨rfl, rfl, cl⟩ | ⟨rfl, rfl⟩
    · refine ⟨_, rfl, true, rfl, iteF ?_⟩
      refine ⟨_, rfl, q H2 pr s2 fr ?_⟩
      rw [e2, Lst_congr fun v hv => ?_]
      have := hp.least f (closed_feas cl) (fun v hv => (b2 v hv).1) v hv
      have := b2 v hv
      omega
    · refine ⟨_, rfl, false, rfl, iteT ⟨_, fun _ _ h => h, ?_⟩⟩
      -- is_done = True; for .. in ways(arcs, flow)
      refine ⟨_, rfl, _, rfl, pa, pf, A, x, rfl, hm, s2.tups hA, s2.seq hx, fun H3 pw s3 npw hw => ?_⟩
      obtain ⟨vw, w1, w2, w3⟩ := hw
      rw [List.length_map] at w2
      have nw : pw ≠ pr := (ne_of_none e2 npw).symm
      refine ⟨pw, rfl, ⟨_, w1⟩, for_list (K := K) (a := pw) (xs := vw) (fun i σ H4 => ∃ g fl y5 y6 y7 y8 y9 y10, σ = [some (.int (n : Nat)), some (.ref pa), some (.ref pf), some (.ref pr), some (.bl (!fl)), y5, y6, y7, y8, y9, y10] ∧ Keep pr H3 H4 ∧ H4 pr = some (.lst (Lst n g)) ∧ (∀ v, v < n → 0 ≤ g v ∧ g v ≤ p v) ∧
          ((fl = false ∧ g = f ∧ ∀ w ∈ (waysL A x A.m).take i, f w.u - w.c ≤ f w.v) ∨ (fl = true ∧ S n f < S n g)))
        ⟨f, false, y5, y6, y7, y8, y9, y10, rfl, Keep.refl _ _, s3 _ _ e2, b2, .inl ⟨rfl, rfl, fun w h => by simp at h⟩⟩ (fun i σ H4 _ ⟨_, _, _, _, _, _, _, _, _, k4, _⟩ => k4.seq nw w1) ?_ ?_⟩
      · rintro i z σ H4 hi ⟨g, fl, y5, y6, y7, y8, y9, y10, rfl, k4, e4, b4, hd⟩
        have hi' : i < (waysL A x A.m).length := by
          rw [← w2]
          exact (List.getElem?_eq_some_iff.mp hi).1
        have hwi := List.getElem?_eq_getElem hi'
        obtain ⟨t, t1, t2⟩ := w3 i (wrow (waysL A x A.m)[i]) (by rw [List.getElem?_map, hwi]; rfl)
        rw [hi] at t1
        cases t1
        have hmem := List.getElem_mem hi'
        have htk := take_more hwi
        generalize (waysL A x A.m)[i] = w at hmem t2 htk
        have res := mem_waysL (Nat.le_refl _) hmem
        have ends : w.u < n ∧ w.v < n := by
          obtain ⟨f1, f2⟩ := hf.ends _ res.1
          rcases res.2 with ⟨_, r2, r3, _⟩ | ⟨_, r2, r3, _⟩ <;> rw [r2, r3] <;> first | exact ⟨f1, f2⟩ | exact ⟨f2, f1⟩
        obtain ⟨hu, hv⟩ := ends
        have pc := feas_closed hp.feas w hmem
        have bu := b4 _ hu
        have bv := b4 _ hv
        refine ⟨t, wrow w, rfl, k4.tup (s3 _ _ e2) t2, rfl, _, _, rfl, _, _, rfl, _, _, rfl, _, _, rfl, _, _, rfl, _, _, rfl, rfl, ?_⟩
        refine ⟨_, rfl, _, rfl, pr, _, _, _, rfl, rfl, SqL.of e4, Lst_at hv, _, rfl, _, rfl, pr, _, _, _, rfl, rfl, SqL.of e4, Lst_at hu, _, rfl, _, _, rfl, rfl, _, _, rfl, rfl, _, rfl, ite2 (fun c => ?_) (fun c => ?_)⟩
        · have c := of_decide_eq_true c
          refine ⟨_, rfl, _, rfl, pr, _, _, _, rfl, rfl, SqL.of e4, Lst_at hu, _, rfl, _, _, rfl, rfl, _, rfl, _, rfl, pr, _, _, w.v, rfl, rfl, e4, by rw [Lst_len]; exact ixN_nat hv (by omega), ?_⟩
          refine ⟨fset g w.v (g w.u - w.c), true, _, _, _, _, _, _, rfl, k4.upd, by rw [upd_same, Lst_set], fun v hv' => ?_, .inr ⟨rfl, ?_⟩⟩
          · by_cases e : v = w.v
            · rw [e, fset_same]
              have := b4 _ hu
              omega
            · rw [fset_ne e]
              exact b4 v hv'
          · rw [S_fset hv]
            rcases hd with ⟨_, rfl, _⟩ | ⟨_, h⟩ <;> omega
        · have c : ¬ g w.v < g w.u - w.c := fun z => c (decide_eq_true z)
          refine ⟨g, fl, _, _, _, _, _, _, rfl, k4, e4, b4, ?_⟩
          rcases hd with ⟨h1, h2, h3⟩ | hd
          · refine .inl ⟨h1, h2, fun y hy => ?_⟩
            rw [htk] at hy
            rcases List.mem_append.mp hy with hy | hy
            · exact h3 y hy
            · rw [List.mem_singleton.mp hy]
              rw [h2] at c
              omega
          · exact .inr hd
      · rintro σ H4 ⟨g, fl, y5, y6, y7, y8, y9, y10, rfl, k4, e4, b4, hd⟩
        have s4 : Same H H4 := Keep.same (s2.trans s3) k4 fr
        rcases hd with ⟨rfl, rfl, h3⟩ | ⟨rfl, h⟩
        · rw [w2, List.take_length] at h3
          exact ⟨0, by omega, g, true, _, _, _, _, _, _, rfl, s4, e4, b4, .inl ⟨rfl, rfl, h3⟩⟩
        · have := S_le fun v hv => (b4 v hv).2
          exact ⟨_, by omega, g, false, _, _, _, _, _, _, rfl, s4, e4, b4, .inr ⟨rfl, rfl⟩⟩
end
end St
end
section
set_option maxRecDepth 100000
set_option maxHeartbeats 4000000
namespace St
open PySem PySem.Spec PyProof.Rows L2 NT
theorem cut1 (xs : List V) : cutV xs (some 1) none = xs.drop 1 := by
  unfold cutV
  rw [show HT.sIx xs.length 0 (some 1) = min 1 xs.length from HT.sIx_nat xs.length 0 1, HT.sIx_none]
  cases xs with
  | nil => rfl
  | cons x r =>
    rw [show min 1 (x :: r).length = 1 by rw [List.length_cons]; omega]
    show (List.take ((x :: r).length - 1) r) = r
    rw [List.length_cons, Nat.add_sub_cancel]
    exact List.take_length
def idata (ns : List Int) : PyData := .list (ns.map PyData.int)
theorem ints_dp {K : PySem.W.Frag} {H : Hp} : ∀ ns : List Int, DpAll K H (ns.map V.int) (ns.map PyData.int)
  | [] => .nil
  | n :: ns => .cons (.int n) (ints_dp ns)
theorem ints_lay : ∀ ns : List Int, PyData.canLayAll0 (ns.map PyData.int) = true
  | [] => by simp only [List.map_nil, PyData.canLayAll0]
  | n :: ns => by
    rw [List.map_cons, PyData.canLayAll0, ints_lay ns]
    simp only [PyData.canLay0, Bool.and_true]
theorem ints_depth : ∀ ns : List Int, PyData.depthAll (ns.map PyData.int) = 0
  | [] => by simp only [List.map_nil, PyData.depthAll]
  | n :: ns => by
    rw [List.map_cons, PyData.depthAll, ints_depth ns]
    simp only [PyData.depth]
    rfl
theorem ints_shaped (ns : List Int) : SeqAt.shaped (idata ns) = true := by
  unfold SeqAt.shaped idata
  rw [Bool.and_eq_true]
  refine ⟨?_, decide_eq_true ?_⟩
  · simp only [PyData.canLay0]
    exact ints_lay ns
  · simp only [PyData.depth, ints_depth]
    decide
theorem ints_eqv (ns : List Int) : PyData.eqv (idata ns) (.list []) = ns.isEmpty := by
  unfold idata
  cases ns with
  | nil => simp only [List.map_nil, PyData.eqv, PyData.eqvAll]; rfl
  | cons x xs => simp only [List.map_cons, PyData.eqv, PyData.eqvAll]; rfl
def NL (L : List Nat) : List Int := L.map fun v => ((v : Nat) : Int)
def Cell (K : PySem.W.Frag) (H : Hp) (o : Option Ed) (x : V) : Prop := (o = none ∧ x = .non) ∨ ∃ w t, o = some w ∧ x = .ref t ∧ SqT K H t (wrow w)
def nk (v : Nat) : Key := Sum.inl ((v : Nat) : Int)
theorem nk_inj {a b : Nat} (h : nk a = nk b) : a = b := by
  have := Sum.inl.inj h
  omega
structure DW (K : PySem.W.Frag) (H : Hp) (d : Addr) (kvs : List (Key × V)) (L : List Nat) (la : Nat → Option Ed) : Prop where
  at_ : H d = some (.dK kvs)
  len : kvs.length = L.length
  yes : ∀ v, v ∈ L → ∃ x, valV kvs (nk v) = some x ∧ Cell K H (la v) x
  no : ∀ v, ¬ v ∈ L → valV kvs (nk v) = none
theorem Cell.mono {K : PySem.W.Frag} {H H' : Hp} {o : Option Ed} {x : V} (h : Cell K H o x) (e : ∀ t r, SqT K H t r → SqT K H' t r) : Cell K H' o x := by
  rcases h with h | ⟨w, t, h1, h2, h3⟩
  · exact .inl h
  · exact .inr ⟨w, t, h1, h2, e _ _ h3⟩
theorem DW.mono {K : PySem.W.Frag} {H H' : Hp} {d : Addr} {kvs : List (Key × V)} {L : List Nat} {la : Nat → Option Ed} (h : DW K H d kvs L la) (hd : H' d = H d) (e : ∀ t r, SqT K H t r → SqT K H' t r) : DW K H' d kvs L la :=
  ⟨hd.trans h.at_, h.len, fun v hv => let ⟨x, a, c⟩ := h.yes v hv; ⟨x, a, c.mono e⟩, h.no⟩
theorem DW.same {K : PySem.W.Frag} {H H' : Hp} {d : Addr} {kvs : List (Key × V)} {L : List Nat} {la : Nat → Option Ed} (h : DW K H d kvs L la) (e : Same H H') : DW K H' d kvs L la := h.mono ((e _ _ h.at_).trans h.at_.symm) fun t r s => e.tup s
theorem upd_tupD {K : PySem.W.Frag} {H : Hp} {p t : Addr} {kvs : List (Key × V)} {o : HO} {r : List V} (h : H p = some (.dK kvs)) (s : SqT K H t r) : SqT K (upd H p o) t r := by
  rcases s with (s | ⟨o', s⟩) | s
  · exact .inl (.inl (by rw [upd_ne (ne_of s h (by intro z; cases z))]; exact s))
  · exact .inl (.inr ⟨o', by rw [upd_ne (ne_of s h (by intro z; cases z))]; exact s⟩)
  · exact .inr s
theorem DW.add {K : PySem.W.Frag} {H : Hp} {d t : Addr} {kvs : List (Key × V)} {L : List Nat} {la : Nat → Option Ed} (h : DW K H d kvs L la) {w : Ed} (hv : ¬ w.v ∈ L) (ht : SqT K H t (wrow w)) :
    DW K (upd H d (.dK (putK kvs (nk w.v) (.ref t)))) d (putK kvs (nk w.v) (.ref t)) (L ++ [w.v]) (lup la w.v (some w)) where
  at_ := upd_same
  len := by rw [putK_new _ (h.no _ hv), List.length_append, List.length_append, h.len]; rfl
  yes := fun v hm => by
    rw [valV_put]
    by_cases e : v = w.v
    · subst e
      rw [if_pos rfl, lup_same]
      exact ⟨_, rfl, .inr ⟨w, t, rfl, rfl, upd_tupD h.at_ ht⟩⟩
    · rw [if_neg (fun z => e (nk_inj z)), lup_ne e]
      rcases List.mem_append.mp hm with hm | hm
      · obtain ⟨x, a, c⟩ := h.yes v hm
        exact ⟨x, a, c.mono fun t r s => upd_tupD h.at_ s⟩
      · exact absurd (List.mem_singleton.mp hm) e
  no := fun v hm => by
    rw [valV_put]
    have e : v ≠ w.v := fun z => hm (z ▸ List.mem_append_right _ (List.mem_singleton.mpr rfl))
    rw [if_neg (fun z => e (nk_inj z))]
    exact h.no v fun z => hm (List.mem_append_left _ z)
def sp_way_round (K : PySem.W.Frag) : Sp := fun vs H Q _ => ∃ (pw : Addr) (b t : Nat) (ws : List Ed), vs = [.ref pw, .int (b : Nat), .int (t : Nat)] ∧ ws.length ≤ 5000 ∧ WaysAt K H pw ws ∧
  (∀ H' (R : Nat → Prop), Same H H' → R b → ¬ R t → (∀ w ∈ ws, R w.u → R w.v) → Q .non H') ∧
  (∀ H' p P (rk : Nat → Nat), Same H H' → H p = none → WaysAt K H' p P → Path P b t → (∀ w ∈ P, w ∈ ws ∧ rk w.u < rk w.v) → P.length ≤ 6000 → Q (.ref p) H')
theorem led_path {la : Nat → Option Ed} {L : List Nat} (h : ∀ v w, v ∈ L → la v = some w → w.v = v ∧ w.u ∈ L) : ∀ {P : List Ed} {o t : Nat}, t ∈ L → Led la P o t → Path P o t ∧ (∀ w ∈ P, w.v ∈ L ∧ la w.v = some w) ∧ o ∈ L
  | [], o, t, ht, l => ⟨l.1, fun _ h => (nomatch h), l.1 ▸ ht⟩
  | w :: P, o, t, ht, l => by
    obtain ⟨h1, h2⟩ := h t w ht l.1
    obtain ⟨a, b, c⟩ := led_path h h2 l.2
    refine ⟨⟨h1, a⟩, fun x hx => ?_, c⟩
    rcases List.mem_cons.mp hx with rfl | hx
    · rw [h1]
      exact ⟨ht, l.1⟩
    · exact b x hx
end St
end
section
set_option maxRecDepth 100000
set_option maxHeartbeats 4000000
namespace St
open PySem PySem.Spec PyProof.Rows L2 NT
theorem NL_drop (L : List Nat) (k : Nat) : ((NL L).drop k) = NL (L.drop k) := by unfold NL; rw [List.map_drop]
theorem NL_app (L : List Nat) (v : Nat) : NL (L ++ [v]) = NL L ++ [((v : Nat) : Int)] := by unfold NL; rw [List.map_append]; rfl
section
variable {P : Program} {w : World} {K : PySem.W.Frag} {mg : Str → Option Value} {base : Heap}
theorem ok_way_round (T : Tx K mg) : FnOk P w K mg base CX0 1 T.f_way_round T.d_way_round ["found", "begin", "target"] (sp_way_round K) := by
  refine T.F_way_round.ok sc_way_round (fun vs H Q E h => ?_) (fun cdv A outer s H vs Q E hr h => ?_)
  · obtain ⟨pw, b, t, ws, rfl, _⟩ := h
    rfl
  · refine ⟨_, (pss_cons (ps_set (i := 3) sc_way_round.nd rfl (.inl rfl) (pe_disp (pps_cons (pv 1) pe_non pps_nil) (by rfl) (by rfl) (fun z => by cases z) (by decide)))
      (pss_cons (ps_set (i := 4) sc_way_round.nd rfl (.inl rfl) (pe_lst (pa_cons (pv 1) pa_nil)))
      (pss_cons (ps_while PassesOwn.never (pt_cmpR (op_neD hr.units) (pv 4) (pe_lst pa_nil) (nomark _))
      (pss_cons (ps_set (i := 5) sc_way_round.nd rfl (.inl rfl) (pe_ix ix_list (pv 4) pe_int (fun _ _ => rfl)))
      (pss_cons (ps_set (i := 4) sc_way_round.nd rfl (.inl rfl) (pe_slice sl_list (pv 4) (po_some pe_int) po_none))
      (pss_one (ps_for PassesOwn.never rfl (pi_list (pv 0)) (pg_name (i := 6) sc_way_round.nd rfl (.inl rfl))
      (pss_one (ps_if (PW.pt (pw_and (pt_cmpR op_eq (pe_ix ix_tup (pv 6) pe_int (fun _ _ => rfl)) (pv 5) (nomark _)) (pw_and1 (pt_cmp (pc_dnotin (hu_of hr) (pe_ix ix_tup (pv 6) pe_int (fun _ _ => rfl)) (pv 3))))))
      (pss_cons (ps_dput (hu_of hr) (pv 3) (pe_ix ix_tup (pv 6) pe_int (fun _ _ => rfl)) (pv 6) rfl)
      (pss_one (ps_expr (pe_bm PySem.F.plainAttrs_list PySem.F.slot_list_append PySem.F.type_list_append mt_append (pv 4) (pa_cons (pe_ix ix_tup (pv 6) pe_int (fun _ _ => rfl)) pa_nil)))))
      pss_nil)))))))
      (pss_cons (ps_if (pt_cmp (pc_dnotin (hu_of hr) (pv 2) (pv 3)))
      (pss_one (ps_ret pe_non))
      pss_nil)
      (pss_cons (ps_set (i := 7) sc_way_round.nd rfl (.inl rfl) (pe_lst pa_nil))
      (pss_cons (ps_set (i := 8) sc_way_round.nd rfl (.inl rfl) (pv 2))
      (pss_cons (ps_while PassesOwn.never (pt_cmpR op_notN (pe_dget (hu_of hr) (pv 3) (pv 8) (fun _ _ => rfl)) pe_non (nomark _))
      (pss_cons (ps_expr (pe_bm PySem.F.plainAttrs_list PySem.F.slot_list_append PySem.F.type_list_append mt_append (pv 7) (pa_cons (pe_dget (hu_of hr) (pv 3) (pv 8) (fun _ _ => rfl)) pa_nil)))
      (pss_one (ps_set (i := 8) sc_way_round.nd rfl (.inl rfl) (pe_ix ix_tup (pe_dget (hu_of hr) (pv 3) (pv 8) (fun _ _ => rfl)) pe_int (fun _ _ => rfl))))))
      (pss_one (ps_ret (pv 7)))))))))), ?_⟩
    -- slots: 0 found, 1 begin, 2 target, 3 last, 4 rest, 5 here, 6 way, 7 steps, 8 at
    obtain ⟨pw, b, t, ws, rfl, hn, hW, q0, q1⟩ := h
    obtain ⟨vw, a1, a2, a3⟩ := id hW
    rw [List.length_map] at a2
    -- last = {begin: None}
    intro pd npd
    refine ⟨_, rfl, upd_same, [(nk b, .non)], rfl, (by show 1 ≤ 15; decide), ?_⟩
    have s1 : Same H (upd (upd H pd (.dK [])) pd (.dK (mergeK [] [(nk b, .non)]))) := by rw [upd_upd]; exact same_new npd
    have d1 : DW K (upd (upd H pd (.dK [])) pd (.dK (mergeK [] [(nk b, .non)]))) pd [(nk b, .non)] [b] (fun _ => none) := by
      refine ⟨upd_same, rfl, fun v hv => ⟨.non, ?_, .inl ⟨rfl, rfl⟩⟩, fun v hv => ?_⟩
      · rw [List.mem_singleton.mp hv]
        exact valV_pos rfl
      · rw [valV_neg (fun e => hv (List.mem_singleton.mpr (nk_inj e).symm))]
        rfl
    generalize upd (upd H pd (.dK [])) pd (.dK (mergeK [] [(nk b, .non)])) = H1 at s1 d1 ⊢
    -- rest = [begin]
    refine ⟨_, rfl, (by show 1 ≤ sizeLine; rw [sizeLine_eq]; decide), fun pr npr => ?_⟩
    -- while rest != []
    refine ⟨fun m σ H2 => ∃ pr kvs L la k y5 y6, σ = [some (.ref pw), some (.int (b : Nat)), some (.int (t : Nat)), some (.ref pd), some (.ref pr), y5, y6, none, none] ∧ Same H H2 ∧ DW K H2 pd kvs L la ∧ BF ws b L la k ∧ k ≤ L.length ∧ H pr = none ∧ H2 pr = some (.lst ((NL (L.drop k)).map V.int)) ∧ m = ws.length + 1 - k,
      ⟨_, pr, _, [b], _, 0, none, none, rfl, s1.trans (same_new npr), d1.same (same_new npr), BF.start, Nat.zero_le _, s1.free npr, upd_same, rfl⟩, ?_⟩
    rintro m σ H2 ⟨pr, kvs, L, la, k, y5, y6, rfl, s2, d2, bf, hk, fr, e2, rfl⟩
    have hL := bf.len
    refine ⟨_, rfl, Nat.zero_le _, fun l0 n0 => ⟨idata (NL (L.drop k)), .list [], .lst (SqL.of ((same_new n0) _ _ e2)) (ints_dp _), .lst (SqL.of upd_same) .nil, ints_shaped _, ints_shaped [], _, rfl, ?_⟩⟩
    rw [ints_eqv]
    have s23 : Same H2 (upd H2 l0 (.lst [])) := same_new n0
    generalize upd H2 l0 (.lst []) = H3 at s23 ⊢
    have s3 := s2.trans s23
    have d3 := d2.same s23
    have e3 := s23 _ _ e2
    by_cases hkL : k < L.length
    · -- one more
      have hne : (NL (L.drop k)).isEmpty = false := by
        unfold NL
        rw [List.isEmpty_eq_false_iff]
        intro z
        have := congrArg List.length z
        simp at this
        omega
      rw [hne]
      refine iteT ⟨_, fun _ _ h => h, ?_⟩
      have hg : L[k]? = some L[k] := List.getElem?_eq_getElem hkL
      have hh : ((NL (L.drop k)).map V.int)[0]? = some (.int ((L[k] : Nat) : Int)) := by
        unfold NL
        simp [hkL]
      refine ⟨_, rfl, pr, _, _, _, rfl, rfl, SqL.of e3, atI_nat (j := 0) hh, ?_⟩
      refine ⟨_, rfl, 1, rfl, pr, _, rfl, SqL.of e3, fun p2 np2 => ?_⟩
      have s34 : Same H3 (upd H3 p2 (.lst (cutV ((NL (L.drop k)).map V.int) (some 1) none))) := same_new np2
      have e4 : (upd H3 p2 (.lst (cutV ((NL (L.drop k)).map V.int) (some 1) none))) p2 = some (.lst ((NL (L.drop (k + 1))).map V.int)) := by
        rw [upd_same, cut1, ← List.map_drop, NL_drop, List.drop_drop]
      have f2 := s3.free np2
      generalize upd H3 p2 (.lst (cutV ((NL (L.drop k)).map V.int) (some 1) none)) = H4 at s34 e4 ⊢
      generalize hu : L[k] = u at hg hh ⊢
      have d4 := d3.same s34
      have s4 := s3.trans s34
      refine ⟨_, rfl, pw, rfl, ⟨_, s4.seq a1⟩, for_list (K := K) (a := pw) (xs := vw) (fun i σ H5 => ∃ kvs L' la' y6, σ = [some (.ref pw), some (.int (b : Nat)), some (.int (t : Nat)), some (.ref pd), some (.ref p2), some (.int (u : Nat)), y6, none, none] ∧ Same H H5 ∧ DW K H5 pd kvs L' la' ∧ BF ws b L' la' k ∧ L'[k]? = some u ∧
          H5 p2 = some (.lst ((NL (L'.drop (k + 1))).map V.int)) ∧ ∀ w ∈ ws.take i, w.u = u → w.v ∈ L')
        ⟨kvs, L, la, y6, rfl, s4, d4, bf, hg, e4, fun w h => by simp at h⟩ (fun i σ H5 _ ⟨_, _, _, _, _, s5, _⟩ => s5.seq a1) ?_ ?_⟩
      · rintro i z σ H5 hi ⟨kvs, L', la', y6, rfl, s5, d5, b5, hg5, e5, hd5⟩
        have hi' : i < ws.length := by
          rw [← a2]
          exact (List.getElem?_eq_some_iff.mp hi).1
        have hwi := List.getElem?_eq_getElem hi'
        obtain ⟨tw, t1, t2⟩ := a3 i (wrow ws[i]) (by rw [List.getElem?_map, hwi]; rfl)
        rw [hi] at t1
        cases t1
        have hmem := List.getElem_mem hi'
        have htk := take_more hwi
        generalize ws[i] = w at hmem t2 htk
        have t5 := s5.tup t2
        have hL5 := b5.len
        have hk5 := (List.getElem?_eq_some_iff.mp hg5).1
        refine ⟨_, rfl, tw, _, _, _, rfl, rfl, t5, atI_nat (j := 0) rfl, _, rfl, rfl, _, rfl, ite2 (fun c => ?_) (fun c => ?_)⟩
        · have c : w.u = u := by
            have := V.int.inj (of_decide_eq_true c)
            omega
          refine ⟨_, rfl, tw, _, _, _, rfl, rfl, t5, atI_nat (j := 1) rfl, _, rfl, pd, _, rfl, DGet.k (k := nk w.v) d5.at_, _, rfl, ?_⟩
          by_cases hv : w.v ∈ L'
          · obtain ⟨x, hx, _⟩ := d5.yes w.v hv
            rw [hx]
            refine iteF ⟨kvs, L', la', _, rfl, s5, d5, b5, hg5, e5, fun y hy e => ?_⟩
            rw [htk] at hy
            rcases List.mem_append.mp hy with hy | hy
            · exact hd5 y hy e
            · rw [List.mem_singleton.mp hy]
              exact hv
          · rw [d5.no w.v hv]
            refine iteT ?_
            have d6 := d5.add hv t5
            have npp : p2 ≠ pd := ne_of e5 d5.at_ (by intro z; cases z)
            have s6 : Same H (upd H5 pd (.dK (putK kvs (nk w.v) (.ref tw)))) := s5.mut npd
            have e6 : (upd H5 pd (.dK (putK kvs (nk w.v) (.ref tw)))) p2 = some (.lst ((NL (L'.drop (k + 1))).map V.int)) := by rw [upd_ne npp]; exact e5
            have t6 := upd_tupD (o := .dK (putK kvs (nk w.v) (.ref tw))) d5.at_ t5
            refine ⟨_, rfl, _, rfl, _, rfl, tw, _, _, _, rfl, rfl, t5, atI_nat (j := 1) rfl, pd, _, rfl, DPut.k (k := nk w.v) d5.at_ (sz_lt (by rw [d5.len]; omega)), ?_⟩
            refine ⟨_, rfl, .inl ⟨rfl, _, SqL.of e6⟩, _, rfl, tw, _, _, _, rfl, rfl, t6, atI_nat (j := 1) rfl, p2, _, _, rfl, rfl, e6, sz_lt (by unfold NL; rw [List.length_map, List.length_map, List.length_drop]; omega), ?_⟩
            have bf6 := b5.add (by omega) hmem hv (by rw [c]; exact hg5)
            refine ⟨_, L' ++ [w.v], _, _, rfl, s6.mut f2, d6.mono (upd_ne npp.symm) (fun t r s => upd_tup e6 s), bf6, app_get hg5, ?_, fun y hy e => ?_⟩
            · rw [upd_same, List.drop_append_of_le_length (by omega), NL_app, List.map_append]
              rfl
            · rw [htk] at hy
              rcases List.mem_append.mp hy with hy | hy
              · exact List.mem_append_left _ (hd5 y hy e)
              · rw [List.mem_singleton.mp hy]
                exact List.mem_append_right _ (List.mem_singleton.mpr rfl)
        · have c : ¬ w.u = u := fun z => c (decide_eq_true (by rw [z]))
          refine iteF ⟨kvs, L', la', _, rfl, s5, d5, b5, hg5, e5, fun y hy e => ?_⟩
          rw [htk] at hy
          rcases List.mem_append.mp hy with hy | hy
          · exact hd5 y hy e
          · rw [List.mem_singleton.mp hy] at e
            exact absurd e c
      · rintro σ H5 ⟨kvs, L', la', y6, rfl, s5, d5, b5, hg5, e5, hd5⟩
        rw [a2, List.take_length] at hd5
        have hk5 := (List.getElem?_eq_some_iff.mp hg5).1
        have hL5 := b5.len
        exact ⟨ws.length + 1 - (k + 1), by omega, p2, kvs, L', la', k + 1, _, _, rfl, s5, d5, b5.next hg5 hd5, hk5, f2, e5, rfl⟩
    · -- the end
      have hk' : k = L.length := by omega
      have he : (NL (L.drop k)).isEmpty = true := by
        rw [hk', List.drop_length]
        rfl
      rw [he]
      refine iteF ?_
      have closed : ∀ w ∈ ws, w.u ∈ L → w.v ∈ L := fun w hw hu => by
        obtain ⟨i, hi⟩ := List.mem_iff_getElem?.mp hu
        exact bf.done i w.u (by rw [hk']; exact (List.getElem?_eq_some_iff.mp hi).1) hi w hw rfl
      refine ⟨_, rfl, _, rfl, pd, _, rfl, DGet.k (k := nk t) d3.at_, _, rfl, ?_⟩
      by_cases ht : t ∈ L
      · obtain ⟨x, hx, _⟩ := d3.yes t ht
        rw [hx]
        refine iteF ?_
        refine ⟨Nat.zero_le _, fun ps nps => ⟨_, rfl, ?_⟩⟩
        have fs := s3.free nps
        have la2 : ∀ v w, v ∈ L → la v = some w → w.v = v ∧ w.u ∈ L := fun v w hv hw => ⟨(bf.rank hv hw).2.1, (bf.rank hv hw).2.2.1⟩
        refine ⟨fun m σ H5 => ∃ a P1 vs1 V1, σ = [some (.ref pw), some (.int (b : Nat)), some (.int (t : Nat)), some (.ref pd), some (.ref pr), y5, y6, some (.ref ps), some (.int ((a : Nat) : Int))] ∧ m = L.idxOf a ∧ a ∈ L ∧ Same H3 H5 ∧ H5 ps = some (.lst vs1) ∧ vs1.length = P1.length ∧
            (∀ (i : Nat) w, P1[i]? = some w → ∃ t, vs1[i]? = some (.ref t) ∧ SqT K H3 t (wrow w)) ∧ (∀ P2 o, Led la P2 o a → Led la (P1 ++ P2) o t) ∧ V1.Nodup ∧ (∀ v ∈ V1, v ∈ L ∧ L.idxOf a < L.idxOf v) ∧ V1.length = P1.length,
          ⟨_, t, [], [], [], rfl, rfl, ht, same_new nps, upd_same, rfl, (fun i w e => by simp at e), (fun P2 o h => h), List.nodup_nil, (fun v h => nomatch h), rfl⟩, ?_⟩
        rintro m σ H5 ⟨a, P1, vs1, V1, rfl, rfl, ha, s5, e5, l5, r5, led, nd, hV, lV⟩
        have d5 := d3.same s5
        have hP : P1.length ≤ L.length := by
          rw [← lV]
          exact SP.nodup_le nd fun v hv => (hV v hv).1
        obtain ⟨x5, hx5, c5⟩ := d5.yes a ha
        rcases c5 with ⟨ea, rfl⟩ | ⟨w, tw, ea, rfl, _⟩
        · refine ⟨_, rfl, _, rfl, pd, _, rfl, hx5 ▸ DGet.k (k := nk a) d5.at_, rfl, _, rfl, if_non ?_⟩
          have fin := led [] a ⟨rfl, ea⟩
          rw [List.append_nil] at fin
          obtain ⟨p1, p2, p3⟩ := led_path la2 ht fin
          have eb := bf.first p3 fin.origin
          rw [eb] at p1
          refine ⟨_, rfl, q1 H5 ps P1 (fun v => L.idxOf v) (s3.trans s5) fs ⟨vs1, SqL.of e5, by rw [l5, List.length_map], fun i r hi => ?_⟩ p1 (fun x hx => ?_) (by omega)⟩
          · rw [List.getElem?_map] at hi
            cases e : P1[i]? with
            | none => rw [e] at hi; cases hi
            | some w =>
              rw [e] at hi
              cases hi
              obtain ⟨t, t1, t2⟩ := r5 i w e
              exact ⟨t, t1, s5.tup t2⟩
          · obtain ⟨g1, g2⟩ := p2 x hx
            obtain ⟨k1, _, _, k4⟩ := bf.rank g1 g2
            exact ⟨k1, k4⟩
        · obtain ⟨x3, hx3, c3⟩ := d3.yes a ha
          rw [hx5] at hx3
          cases hx3
          obtain ⟨w1, w2, w3, w4⟩ := bf.rank ha ea
          have ht3 : SqT K H3 tw (wrow w) := by
            rcases c3 with ⟨_, z⟩ | ⟨w', t', z1, z2, z3⟩
            · cases z
            · rw [ea] at z1
              cases z1
              cases z2
              exact z3
          refine ⟨_, rfl, _, rfl, pd, _, rfl, hx5 ▸ DGet.k (k := nk a) d5.at_, rfl, _, rfl, if_ref ⟨_, fun _ _ h => h, ?_⟩⟩
          refine ⟨_, rfl, .inl ⟨rfl, _, SqL.of e5⟩, _, rfl, _, rfl, pd, _, rfl, hx5 ▸ DGet.k (k := nk a) d5.at_, ps, vs1, _, rfl, rfl, e5, sz_lt (by omega), ?_⟩
          have s6 : Same H3 (upd H5 ps (.lst (vs1 ++ [.ref tw]))) := s5.mut nps
          have d6 := d3.same s6
          refine ⟨_, rfl, _, rfl, pd, _, rfl, hx5 ▸ DGet.k (k := nk a) d6.at_, tw, _, _, _, rfl, rfl, s6.tup ht3, atI_nat (j := 0) rfl, ?_⟩
          refine ⟨L.idxOf w.u, w4, w.u, P1 ++ [w], vs1 ++ [.ref tw], a :: V1, rfl, rfl, w3, s6, upd_same, by rw [List.length_append, List.length_append, l5]; rfl, fun i x hi => ?_, fun P2 o h => ?_, List.nodup_cons.mpr ⟨fun hm => ?_, nd⟩, fun v hv => ?_, by rw [List.length_cons, List.length_append, lV]; rfl⟩
          · rcases get_app hi with ⟨_, hi⟩ | ⟨hi, e⟩
            · obtain ⟨t, t1, t2⟩ := r5 i x hi
              exact ⟨t, app_get t1, t2⟩
            · subst e
              refine ⟨tw, ?_, ht3⟩
              have hz : i = P1.length := by assumption
              rw [hz, ← l5, List.getElem?_append, if_neg (by omega), Nat.sub_self]
              rfl
          · rw [List.append_assoc]
            exact led (w :: P2) o ⟨ea, h⟩
          · have := (hV a hm).2
            omega
          · rcases List.mem_cons.mp hv with rfl | hv
            · exact ⟨ha, w4⟩
            · have := hV v hv
              exact ⟨this.1, by omega⟩
      · rw [d3.no t ht]
        exact iteT (q0 H3 (fun v => v ∈ L) s3 bf.bmem ht closed)
end
end St
end
section
set_option maxRecDepth 100000
set_option maxHeartbeats 4000000
namespace St
open PySem PySem.Spec PyProof.Rows L2 NT
theorem valV_drop {κ : Type} [DecidableEq κ] (k j : κ) : ∀ kvs : List (κ × V), valV (dropK kvs k) j = if j = k then none else valV kvs j
  | [] => by
    rw [show dropK ([] : List (κ × V)) k = [] from rfl, valV_nil]
    split <;> rfl
  | p :: r => by
    have ih := valV_drop k j r
    by_cases e : p.1 = k
    · rw [dropK_pos e, ih]
      by_cases q : j = k
      · rw [if_pos q, if_pos q]
      · rw [if_neg q, if_neg q, valV_neg (fun z => q (z.symm.trans e))]
    · rw [dropK_neg e]
      by_cases q : p.1 = j
      · rw [valV_pos q, if_neg (fun z => e (q.trans z)), valV_pos q]
      · rw [valV_neg q, ih, valV_neg q]
def fr (kvs : List (Key × V)) (i : Nat) : Bool := (valV kvs (nk i)).isSome
def sp_raise_arc (K : PySem.W.Frag) : Sp := fun vs H Q _ => ∃ (pa pf pd : Addr) (n j : Nat) (A : N) (x p : Nat → Int) (kvs : List (Key × V)), vs = [.ref pa, .ref pf, .int (j : Nat), .ref pd] ∧ Fit A n ∧ ArcsAt K H pa A ∧ H pf = some (.lst (Lst A.m x)) ∧ pa ≠ pf ∧ H pd = some (.dK kvs) ∧
  j < A.m ∧ worth A p j = 0 ∧ Bd A x ∧ Circ A x ∧ Feas A p x ∧ (∀ i, i < A.m → (fr kvs i = true ↔ (j < i ∧ worth A p i = 0))) ∧
  ∀ H' y, Keep pf H H' → H' pf = some (.lst (Lst A.m y)) → Bd A y → Circ A y → Feas A p y → (∀ i, i < j → y i = x i) → Top A y j → Q .non H'
def sp_first_flow (K : PySem.W.Frag) : Sp := fun vs H Q _ => ∃ (n : Nat) (pa : Addr) (A : N), vs = [.int (n : Nat), .ref pa] ∧ Fit A n ∧ ArcsAt K H pa A ∧ (∃ o, H pa = some o) ∧ (∀ i, i < A.m → 0 ≤ A.r i) ∧
  ∀ H' p x, Same H H' → H p = none → H' p = some (.lst (Lst A.m x)) → LexMax A x → Q (.ref p) H'
section
variable {P : Program} {w : World} {K : PySem.W.Frag} {mg : Str → Option Value} {base : Heap}
theorem ok_raise_arc (T : Tx K mg) : FnOk P w K mg base CX0 2 T.f_raise_arc T.d_raise_arc ["arcs", "flow", "at", "free"] (sp_raise_arc K) := by
  refine T.F_raise_arc.ok sc_raise_arc (fun vs H Q E h => ?_) (fun cdv A outer s H vs Q E hr h => ?_)
  · obtain ⟨pa, pf, pd, n, j, A, x, p, kvs, rfl, _⟩ := h
    rfl
  · refine ⟨_, (pss_cons (ps_asg (pe_ix ix_list (pv 0) (pv 2) (fun _ _ => rfl)) (pg_tup (by rfl) (pgs_cons (pg_name (i := 4) sc_raise_arc.nd rfl (.inl rfl)) (pgs_cons (pg_name (i := 5) sc_raise_arc.nd rfl (.inl rfl)) (pgs_cons (pg_name (i := 6) sc_raise_arc.nd rfl (.inl rfl)) pgs_nil)))))
      (pss_one (ps_while PassesOwn.never (pt_cmpR op_lt (pe_ix ix_list (pv 1) (pv 2) (fun _ _ => rfl)) (pv 6) (nomark _))
      (pss_cons (ps_set (i := 7) sc_raise_arc.nd rfl (.inl rfl) (pe_call (ok_way_round T) (hr.mono (by decide)) (by rfl) T.g_way_round T.F_way_round.kp T.b_way_round .nil pass0 (pa_cons (pe_lc (own := [("way", 9)]) (by rfl) sc_raise_arc.nd (pi_list (pe_call (ok_ways T) (hr.mono (by decide)) (by rfl) T.g_ways T.F_ways.kp T.b_ways .nil pass0 (pa_cons (pv 0) (pa_cons (pv 1) pa_nil)))) (blkOk_by (own := [("way", 9)]) (N := N_raise_arc) (sc := defScope s_raise_arc) (by decide +kernel)) (fun _ _ _ _ _ => (pg_name (i := 9) sc_raise_arc.nd rfl (.inl rfl))) (fun _ _ _ _ _ => (pts_one (pt_cmp (pc_din (hu_of hr) (pe_ix (ix_tupK (K := K) rfl) (pv 9) pe_int (fun _ _ => rfl)) (pv 3))))) (fun _ _ _ _ _ => (pv 9))) (pa_cons (pv 5) (pa_cons (pv 4) pa_nil)))))
      (pss_cons (ps_if (pt_cmpR op_isN (pv 7) pe_non (nomark _))
      (pss_one ps_retN)
      pss_nil)
      (pss_cons (ps_set (i := 8) sc_raise_arc.nd rfl (.inl rfl) (pe_callB (cr_min rfl) (by rfl) T.z_min (by decide +kernel) (pa_cons (pe_op op_cat (pe_lst (pa_cons (pe_op op_sub (pv 6) (pe_ix ix_list (pv 1) (pv 2) (fun _ _ => rfl))) pa_nil)) (pe_lc (own := [("way", 9)]) (by rfl) sc_raise_arc.nd (pi_list (pv 7)) (blkOk_by (own := [("way", 9)]) (N := N_raise_arc) (sc := defScope s_raise_arc) (by decide +kernel)) (fun _ _ _ _ _ => (pg_name (i := 9) sc_raise_arc.nd rfl (.inl rfl))) (fun _ _ _ _ _ => pts_nil) (fun _ _ _ _ _ => (pe_ix (ix_tupK (K := K) rfl) (pv 9) pe_int (fun _ _ => rfl))))) pa_nil)))
      (pss_cons (ps_expr (pe_call (ok_push T) (hr.mono (by decide)) (by rfl) T.g_push T.F_push.kp T.b_push .nil pass0 (pa_cons (pv 1) (pa_cons (pv 7) (pa_cons (pv 8) pa_nil)))))
      (pss_one (ps_augS (pv 1) (pv 2) get_list (pv 8) ip_add set_list))))))))), ?_⟩
    -- slots: 0 arcs, 1 flow, 2 at, 3 free, 4 start, 5 end, 6 room, 7 steps, 8 amount, 9 way
    obtain ⟨pa, pf, pd, n, j, A, x, p, kvs, rfl, hf, hA, hx, nef, hd, hj, wj, bd, cx, fx, hfr, q⟩ := h
    obtain ⟨va, a1, a2, a3⟩ := id hA
    have hm := hf.hm
    have hn := hf.hn
    obtain ⟨ta, ta1, ta2⟩ := a3 j _ (arow_get hj)
    have npd : pd ≠ pf := ne_of hd hx (by intro z; cases z)
    -- start, end, room = arcs[at]
    refine ⟨_, rfl, _, rfl, pa, va, _, _, rfl, rfl, a1, atI_nat ta1, ta, arow A j, rfl, ta2, rfl, _, _, rfl, _, _, rfl, _, _, rfl, rfl, ?_⟩
    -- while flow[at] < room
    refine ⟨fun m σ H2 => ∃ y y7 y8, σ = [some (.ref pa), some (.ref pf), some (.int (j : Nat)), some (.ref pd), some (.int (A.s j : Nat)), some (.int (A.e j : Nat)), some (.int (A.r j)), y7, y8, none] ∧ Keep pf H H2 ∧ H2 pf = some (.lst (Lst A.m y)) ∧ Bd A y ∧ Circ A y ∧ Feas A p y ∧ (∀ i, i < j → y i = x i) ∧ m = (A.r j - y j).toNat,
      ⟨_, x, none, none, rfl, Keep.refl _ _, hx, bd, cx, fx, fun _ _ => rfl, rfl⟩, ?_⟩
    rintro m σ H2 ⟨y, y7, y8, rfl, k2, e2, by_, cy, fy, same, rfl⟩
    have A2 := k2.tups hx nef hA
    have d2 := k2 _ _ hd npd
    refine ⟨_, rfl, _, rfl, pf, _, _, _, rfl, rfl, SqL.of e2, Lst_at hj, _, rfl, _, _, rfl, rfl, _, rfl, ite2 (fun c => ?_) (fun c => ?_)⟩
    · have c := of_decide_eq_true c
      refine ⟨_, fun _ _ h => h, ?_⟩
      -- steps = way_round([way for way in ways(arcs, flow) if way[3] in free], end, start)
      refine ⟨_, rfl, _, rfl, pa, pf, A, y, rfl, hm, A2, SqL.of e2, fun H3 pw s3 npw hw => ?_⟩
      obtain ⟨vw, w1, w2, w3⟩ := hw
      rw [List.length_map] at w2
      have wl := waysL_len A y A.m
      have d3 := s3 _ _ d2
      refine ⟨pw, rfl, ⟨_, w1⟩, fun pk npk => lc_list (K := K) (a := pw) (xs := vw) (fun i H4 => Same H3 H4 ∧ ∃ vk, H4 pk = some (.lst vk) ∧ vk.length = (((waysL A y A.m).take i).filter fun w => fr kvs w.i).length ∧ ∀ (l : Nat) w, (((waysL A y A.m).take i).filter fun w => fr kvs w.i)[l]? = some w → ∃ t, vk[l]? = some (.ref t) ∧ SqT K H3 t (wrow w))
        ⟨same_new npk, [], upd_same, rfl, fun l w e => by simp at e⟩ (fun i H4 _ ⟨s4, _⟩ => s4.seq w1) ?_ ?_⟩
      · rintro i z H4 hi ⟨s4, vk, e4, l4, r4⟩
        have hi' : i < (waysL A y A.m).length := by
          rw [← w2]
          exact (List.getElem?_eq_some_iff.mp hi).1
        have hwi := List.getElem?_eq_getElem hi'
        obtain ⟨t, t1, t2⟩ := w3 i (wrow (waysL A y A.m)[i]) (by rw [List.getElem?_map, hwi]; rfl)
        rw [hi] at t1
        cases t1
        have htk := take_more hwi
        generalize (waysL A y A.m)[i] = w at t2 htk
        have hfl : (((waysL A y A.m).take (i + 1)).filter fun w => fr kvs w.i) = (((waysL A y A.m).take i).filter fun w => fr kvs w.i) ++ (if fr kvs w.i = true then [w] else []) := by
          rw [htk, List.filter_append]
          cases h : fr kvs w.i <;> simp [List.filter_cons, h]
        have hlen : (((waysL A y A.m).take i).filter fun w => fr kvs w.i).length ≤ 2000 := by
          have h1 := List.length_filter_le (fun w => fr kvs w.i) ((waysL A y A.m).take i)
          rw [List.length_take] at h1
          omega
        refine ⟨rfl, ?_⟩
        refine ⟨_, rfl, t, _, _, _, rfl, rfl, s4.tup t2, atI_nat (j := 3) rfl, _, rfl, pd, _, rfl, DGet.k (k := nk w.i) (s4 _ _ d3), _, rfl, ?_⟩
        show (if fr kvs w.i = true then _ else _)
        refine ite2 (fun g => ?_) (fun g => ?_)
        · refine ⟨_, rfl, vk, e4, sz_lt (by omega), s4.mut npk, vk ++ [.ref t], upd_same, ?_, fun l w' hl => ?_⟩
          · rw [hfl, if_pos g, List.length_append, List.length_append, l4]
            rfl
          · rw [hfl, if_pos g] at hl
            rcases get_app hl with ⟨_, hl⟩ | ⟨hl', e⟩
            · obtain ⟨t', t1, t2'⟩ := r4 l w' hl
              exact ⟨t', app_get t1, t2'⟩
            · subst e
              refine ⟨t, ?_, t2⟩
              rw [hl', ← l4, List.getElem?_append, if_neg (by omega), Nat.sub_self]
              rfl
        · refine ⟨s4, vk, e4, ?_, fun l w' hl => ?_⟩
          · rw [hfl, if_neg g, List.append_nil]
            exact l4
          · rw [hfl, if_neg g, List.append_nil] at hl
            exact r4 l w' hl
      · rintro H4 ⟨s4, vk, e4, l4, r4⟩
        rw [w2, List.take_length] at l4 r4
        have s34 := s3.trans s4
        refine ⟨_, rfl, _, rfl, pk, A.e j, A.s j, (waysL A y A.m).filter fun w => fr kvs w.i, rfl, ?_, ⟨vk, SqL.of e4, by rw [List.length_map]; exact l4, fun i r hi => ?_⟩, fun H5 R s5 Rb Rt cl => ?_, fun H5 ps P rk s5 nps hP path hPm hPn => ?_⟩
        · have h1 := List.length_filter_le (fun w => fr kvs w.i) (waysL A y A.m)
          omega
        · rw [List.getElem?_map] at hi
          cases e : ((waysL A y A.m).filter fun w => fr kvs w.i)[i]? with
          | none => rw [e] at hi; cases hi
          | some w =>
            rw [e] at hi
            cases hi
            obtain ⟨t, t1, t2⟩ := r4 i w e
            exact ⟨t, t1, s4.tup t2⟩
        · -- no way
          refine ⟨_, rfl, rfl, _, rfl, if_isnon ?_⟩
          have k5 := k2.trans (s34.trans s5).keep
          have e5 := (s34.trans s5) _ _ e2
          refine q H5 y k5 e5 by_ cy fy same (Top.cut (R := R) (opt_of by_ cy fy) fy hj Rb Rt fun i hi ij wi => ?_)
          have hfi := (hfr i hi).mpr ⟨ij, wi⟩
          constructor
          · intro hy hR
            exact cl ⟨A.s i, A.e i, -1, i, 1, A.r i - y i⟩ (List.mem_filter.mpr ⟨waysL_mem ⟨hi, .inl ⟨rfl, rfl, rfl, rfl, hy, rfl⟩⟩ hi, hfi⟩) hR
          · intro hy hR
            exact cl ⟨A.e i, A.s i, -(-1), i, -1, y i⟩ (List.mem_filter.mpr ⟨waysL_mem ⟨hi, .inr ⟨rfl, rfl, rfl, rfl, hy, rfl⟩⟩ hi, hfi⟩) hR
        · -- a way
          refine ⟨_, rfl, rfl, _, rfl, if_isref ?_⟩
          have s25 := s34.trans s5
          have e5 := s25 _ _ e2
          have hres : ∀ w ∈ P, Res A (-1) y w ∧ j < w.i ∧ worth A p w.i = 0 := fun w hw => by
            obtain ⟨h1, h2⟩ := List.mem_filter.mp (hPm w hw).1
            have r := mem_waysL (Nat.le_refl _) h1
            exact ⟨r, (hfr w.i r.1).mp h2⟩
          obtain ⟨vp, p1, p2, p3⟩ := hP
          rw [List.length_map] at p2
          have nps' : ps ≠ pf := (ne_of_none (s34 _ _ e2) nps).symm
          -- amount = min([room - flow[at]] + [way[5] for way in steps])
          refine ⟨_, rfl, _, rfl, _, rfl, pf, _, _, _, rfl, rfl, SqL.of e5, Lst_at hj, _, _, rfl, rfl, (by show 1 ≤ sizeLine; rw [sizeLine_eq]; decide), fun b1 nb1 => ?_⟩
          refine ⟨_, rfl, ps, rfl, ⟨_, (same_new nb1).seq p1⟩, fun b2 nb2 => lc_list (K := K) (a := ps) (xs := vp) (fun i H7 => Same (upd H5 b1 (.lst [.int (A.r j - y j)])) H7 ∧ H7 b2 = some (.lst ((P.take i).map fun w => V.int w.cap)))
            ⟨same_new nb2, upd_same⟩ (fun i H7 _ ⟨s7, _⟩ => s7.seq ((same_new nb1).seq p1)) ?_ ?_⟩
          · rintro i z H7 hi ⟨s7, e7⟩
            have hi' : i < P.length := by
              rw [← p2]
              exact (List.getElem?_eq_some_iff.mp hi).1
            have hPi : P[i]? = some P[i] := List.getElem?_eq_getElem hi'
            obtain ⟨t, t1, t2⟩ := p3 i (wrow P[i]) (by rw [List.getElem?_map, hPi]; rfl)
            rw [hi] at t1
            cases t1
            refine ⟨rfl, tyes ?_⟩
            refine ⟨_, rfl, t, _, _, _, rfl, rfl, s7.tup ((same_new nb1).tup t2), atI_nat (j := 5) rfl, _, e7, sz_lt (by rw [List.length_map, List.length_take]; omega), s7.mut nb2, ?_⟩
            rw [upd_same, take_more hPi, List.map_append]
            rfl
          · rintro H7 ⟨s7, e7⟩
            rw [p2, List.take_length] at e7
            have eb1 := s7 _ _ (upd_same (H := H5) (a := b1) (o := .lst [.int (A.r j - y j)]))
            refine ⟨b1, b2, _, _, rfl, rfl, eb1, e7, sz_of (by rw [List.length_map]; show 1 + P.length ≤ _; omega), fun b3 nb3 => ?_⟩
            refine ⟨b3, (A.r j - y j) :: P.map (fun w => w.cap), rfl, SqL.of (by rw [upd_same, List.map_cons, List.map_map]; rfl), by simp, fun d hd' hle => ?_⟩
            have s57 := ((same_new nb1).trans s7).trans (same_new (o := .lst ([V.int (A.r j - y j)] ++ P.map fun w => V.int w.cap)) nb3)
            generalize upd H7 b3 (.lst ([V.int (A.r j - y j)] ++ P.map fun w => V.int w.cap)) = H8 at s57 ⊢
            have s28 := s25.trans s57
            have d1 := hle _ List.mem_cons_self
            have d3' : ∀ w ∈ P, d ≤ w.cap := fun w hw => hle _ (List.mem_cons_of_mem _ (List.mem_map.mpr ⟨w, hw, rfl⟩))
            have dpos : 1 ≤ d := by
              rcases List.mem_cons.mp hd' with e | hd'
              · omega
              · obtain ⟨w, hw, e⟩ := List.mem_map.mp hd'
                rcases (hres w hw).1.2 with ⟨_, _, _, _, h5, h6⟩ | ⟨_, _, _, _, h5, h6⟩ <;> omega
            -- push(flow, steps, amount); flow[at] += amount
            refine ⟨_, rfl, _, rfl, _, rfl, pf, ps, A.m, y, d, P, rfl, hm, s57 _ _ e5, nps', s57.tups ⟨vp, p1, by rw [p2, List.length_map], p3⟩, fun w hw => ⟨(hres w hw).1.1, (hres w hw).1.2.elim (fun q => .inl q.1) fun q => .inr q.1⟩, fun H9 k9 e9 => ?_⟩
            refine ⟨_, rfl, _, rfl, pf, _, _, _, rfl, rfl, SqL.of e9, Lst_at hj, _, rfl, _, _, rfl, rfl, pf, _, _, j, rfl, rfl, e9, by rw [Lst_len]; exact ixN_nat hj (by omega), ?_⟩
            have pj : NT.push y d P j = y j := push_out fun w hw => by have := (hres w hw).2.1; omega
            obtain ⟨t1, t2, t3⟩ := turn_ok (d := d) (rk := rk) by_ cy fy hj wj (fun w hw => (hres w hw).1) (fun w hw => ⟨by have := (hres w hw).2.1; omega, (hres w hw).2.2⟩) path (fun w hw => (hPm w hw).2) (by omega) d3' (by omega)
            have same' : ∀ i, i < A.m → (fun i => if i = j then y j + d else NT.push y d P i) i = fset (NT.push y d P) j (NT.push y d P j + d) i := fun i _ => by
              unfold fset
              dsimp only
              rw [pj]
            refine ⟨(A.r j - (y j + d)).toNat, by omega, fset (NT.push y d P) j (NT.push y d P j + d), _, _, rfl, (k2.trans s28.keep).trans k9.upd, by rw [upd_same, Lst_set], t1.congr same', t2.congr same', t3.congr same', fun i hi => ?_, ?_⟩
            · rw [fset_ne (by omega), push_out fun w hw => by have := (hres w hw).2.1; omega]
              exact same i hi
            · rw [fset_same, pj]
    · have c : ¬ y j < A.r j := fun z => c (decide_eq_true z)
      exact q H2 y k2 e2 by_ cy fy same (Top.full hj (by omega))
end
end St
end
section
set_option maxRecDepth 100000
set_option maxHeartbeats 4000000
namespace St
open PySem PySem.Spec PyProof.Rows L2 NT
/-- the free arcs from k to m -/
def FrD (A : N) (p : Nat → Int) (kvs : List (Key × V)) (lo hi : Nat) : Prop := ∀ i : Nat, valV kvs (nk i) = if lo ≤ i ∧ i < hi ∧ worth A p i = 0 then some (.bl true) else none
section
variable {P : Program} {w : World} {K : PySem.W.Frag} {mg : Str → Option Value} {base : Heap}
theorem ok_first_flow (T : Tx K mg) : FnOk P w K mg base CX0 4 T.f_first_flow T.d_first_flow ["many", "arcs"] (sp_first_flow K) := by
  refine T.F_first_flow.ok sc_first_flow (fun vs H Q E h => ?_) (fun cdv A outer s H vs Q E hr h => ?_)
  · obtain ⟨n, pa, A, rfl, _⟩ := h
    rfl
  · refine ⟨_, (pss_cons (ps_set (i := 2) sc_first_flow.nd rfl (.inl rfl) (pe_call (ok_greatest_flow T) (hr.mono (by decide)) (by rfl) T.g_greatest_flow T.F_greatest_flow.kp T.b_greatest_flow .nil pass0 (pa_cons (pv 0) (pa_cons (pv 1) pa_nil))))
      (pss_cons (ps_set (i := 3) sc_first_flow.nd rfl (.inl rfl) (pe_call (ok_least_potentials T) (hr.mono (by decide)) (by rfl) T.g_least_potentials T.F_least_potentials.kp T.b_least_potentials .nil pass0 (pa_cons (pv 0) (pa_cons (pv 1) (pa_cons (pv 2) pa_nil)))))
      (pss_cons (ps_set (i := 4) sc_first_flow.nd rfl (.inl rfl) pe_dnewK)
      (pss_cons (ps_for PassesOwn.never rfl (pi_range1 (by rfl) T.z_range (pa_cons (pe_callB call_len_seq (by rfl) T.z_len (by decide +kernel) (pa_cons (pv 1) pa_nil)) pa_nil)) (pg_name (i := 5) sc_first_flow.nd rfl (.inl rfl))
      (pss_one (ps_if (pt_cmpR op_eq (pe_call (ok_worth_of T) (hr.mono (by decide)) (by rfl) T.g_worth_of T.F_worth_of.kp T.b_worth_of .nil pass0 (pa_cons (pv 3) (pa_cons (pe_ix ix_tup (pe_ix ix_list (pv 1) (pv 5) (fun _ _ => rfl)) pe_int (fun _ _ => rfl)) (pa_cons (pe_ix ix_tup (pe_ix ix_list (pv 1) (pv 5) (fun _ _ => rfl)) pe_int (fun _ _ => rfl)) pa_nil)))) pe_int (nomark _))
      (pss_one (ps_dput (hu_of hr) (pv 4) (pv 5) pe_bl rfl))
      pss_nil)))
      (pss_cons (ps_for PassesOwn.never rfl (pi_range1 (by rfl) T.z_range (pa_cons (pe_callB call_len_seq (by rfl) T.z_len (by decide +kernel) (pa_cons (pv 1) pa_nil)) pa_nil)) (pg_name (i := 5) sc_first_flow.nd rfl (.inl rfl))
      (pss_one (ps_if (pt_cmp (pc_din (hu_of hr) (pv 5) (pv 4)))
      (pss_cons (ps_expr (pe_dpop1 (pv 4) (pv 5) ⟨rfl, rfl, rfl, rfl⟩))
      (pss_one (ps_expr (pe_call (ok_raise_arc T) (hr.mono (by decide)) (by rfl) T.g_raise_arc T.F_raise_arc.kp T.b_raise_arc .nil pass0 (pa_cons (pv 1) (pa_cons (pv 2) (pa_cons (pv 5) (pa_cons (pv 4) pa_nil))))))))
      pss_nil)))
      (pss_one (ps_ret (pv 2)))))))), ?_⟩
    -- slots: 0 many, 1 arcs, 2 flow, 3 potentials, 4 free, 5 at
    obtain ⟨n, pa, A, rfl, hf, hA, ⟨oa, hoa⟩, hr0, q⟩ := h
    obtain ⟨va, a1, a2, a3⟩ := id hA
    have hl : va.length = A.m := by rw [a2]; simp
    have hm := hf.hm
    have hn := hf.hn
    -- flow = greatest_flow(many, arcs)
    refine ⟨_, rfl, _, rfl, n, pa, A, rfl, hf, hA, ⟨oa, hoa⟩, hr0, fun H1 pf x s1 npf e1 ox => ?_⟩
    obtain ⟨p, lp⟩ := leastPot_ex hf.ends ox.feas
    -- potentials = least_potentials(many, arcs, flow)
    refine ⟨_, rfl, _, rfl, _, rfl, n, pa, pf, A, x, p, rfl, hf, s1.tups hA, SqL.of e1, lp, fun H2 pp s2 npp e2 => ?_⟩
    have s02 := s1.trans s2
    have nap : pa ≠ pf := ne_of_none hoa npf
    have npp' : pp ≠ pf := (ne_of_none e1 npp).symm
    -- free = {}
    intro pd npd
    have e3 := (same_new (o := .dK []) npd) _ _ e2
    have s3 := s02.trans (same_new (o := .dK []) npd)
    have ef3 := (same_new (o := .dK []) npd) _ _ (s2 _ _ e1)
    have fd := s02.free npd
    refine ⟨_, rfl, pa, va, rfl, .inl (s3.seq a1), _, rfl, by omega, by omega, for_range (fun i σ H4 => ∃ y kvs, σ = [some (.int (n : Nat)), some (.ref pa), some (.ref pf), some (.ref pp), some (.ref pd), y] ∧ Same (upd H2 pd (.dK [])) (upd H4 pd (.dK [])) ∧ H4 pd = some (.dK kvs) ∧ kvs.length ≤ i ∧ FrD A p kvs 0 i)
      ⟨none, [], rfl, by rw [upd_upd]; exact fun _ _ h => h, upd_same, Nat.le_refl _, fun i => by rw [if_neg (by omega)]; rfl⟩ ?_ ?_⟩
    · rintro i σ H4 hi ⟨y, kvs, rfl, s4, d4, l4, f4⟩
      rw [Int.zero_add]
      have hi : i < A.m := by omega
      obtain ⟨t, t1, t2⟩ := a3 i _ (arow_get hi)
      obtain ⟨v1, v2⟩ := hf.ends i hi
      -- all but pd
      have k4 : ∀ b o, H b = some o → H4 b = some o := fun b o h => by
        have h1 := s4 _ _ (s3 _ _ h)
        rwa [upd_ne (ne_of_none h fd)] at h1
      have s4' : Same H H4 := k4
      have e4 : H4 pp = some (.lst (Lst n p)) := by
        have h1 := s4 _ _ e3
        rwa [upd_ne (ne_of_none e2 npd)] at h1
      have put : ∀ v, Same (upd H2 pd (.dK [])) (upd (upd H4 pd (.dK (putK kvs (nk i) v))) pd (.dK [])) := fun v => by rw [upd_upd]; exact s4
      refine ⟨_, rfl, _, rfl, _, rfl, pa, va, _, _, rfl, rfl, s4'.seq a1, atI_nat t1, t, _, _, _, rfl, rfl, s4'.tup t2, atI_nat (j := 0) rfl, _, rfl, _, rfl, pa, va, _, _, rfl, rfl, s4'.seq a1, atI_nat t1, t, _, _, _, rfl, rfl, s4'.tup t2, atI_nat (j := 1) rfl,
        pp, n, p, A.s i, A.e i, rfl, SqL.of e4, v1, v2, rfl, _, rfl, ite2 (fun c => ?_) (fun c => ?_)⟩
      · have c : worth A p i = 0 := V.int.inj (of_decide_eq_true c)
        refine ⟨_, rfl, _, rfl, pd, _, rfl, DPut.k (k := nk i) d4 (sz_lt (by omega)), ?_⟩
        refine ⟨_, putK kvs (nk i) (.bl true), rfl, put _, upd_same, Nat.le_trans (length_putK _ _ _) (by omega), fun v => ?_⟩
        rw [valV_put, f4 v]
        by_cases e : v = i
        · subst e
          rw [if_pos rfl, if_pos ⟨Nat.zero_le _, Nat.lt_succ_self _, c⟩]
        · rw [if_neg (fun z => e (nk_inj z))]
          by_cases g : 0 ≤ v ∧ v < i ∧ worth A p v = 0
          · rw [if_pos g, if_pos ⟨g.1, by omega, g.2.2⟩]
          · rw [if_neg g, if_neg (fun z => g ⟨z.1, by omega, z.2.2⟩)]
      · have c : ¬ worth A p i = 0 := fun z => c (decide_eq_true (by show V.int (worth A p i) = _; rw [z]))
        refine ⟨_, kvs, rfl, s4, d4, by omega, fun v => ?_⟩
        rw [f4 v]
        by_cases g : 0 ≤ v ∧ v < i ∧ worth A p v = 0
        · rw [if_pos g, if_pos ⟨g.1, by omega, g.2.2⟩]
        · have g' : ¬ (0 ≤ v ∧ v < i + 1 ∧ worth A p v = 0) := fun z => by
            by_cases e : v = i
            · exact c (e ▸ z.2.2)
            · exact g ⟨z.1, by omega, z.2.2⟩
          rw [if_neg g, if_neg g']
    · rintro σ H4 ⟨y, kvs, rfl, s4, d4, l4, f4⟩
      have hz : (va.length : Int).toNat = A.m := by omega
      rw [hz] at f4 l4
      have s4' : Same H H4 := fun b o h => by
        have h1 := s4 _ _ (s3 _ _ h)
        rwa [upd_ne (ne_of_none h fd)] at h1
      have e4 : H4 pp = some (.lst (Lst n p)) := by
        have h1 := s4 _ _ e3
        rwa [upd_ne (ne_of_none e2 npd)] at h1
      have ef4 : H4 pf = some (.lst (Lst A.m x)) := by
        have h1 := s4 _ _ ef3
        rwa [upd_ne (ne_of_none (s2 _ _ e1) npd)] at h1
      have nfd : pf ≠ pd := ne_of_none (s2 _ _ e1) npd
      -- for at in range(len(arcs)): the arcs from the first on
      refine ⟨_, rfl, pa, va, rfl, .inl (s4'.seq a1), _, rfl, by omega, by omega, for_range (fun i σ H5 => ∃ y kvs z, σ = [some (.int (n : Nat)), some (.ref pa), some (.ref pf), some (.ref pp), some (.ref pd), z] ∧ Same H H5 ∧ H5 pf = some (.lst (Lst A.m y)) ∧ H5 pd = some (.dK kvs) ∧ FrD A p kvs i A.m ∧
          Bd A y ∧ Circ A y ∧ Feas A p y ∧ Upto A y i)
        ⟨x, kvs, _, rfl, s4', ef4, d4, f4, ox.bd, ox.circ, lp.feas, Upto.zero _ _⟩ ?_ ?_⟩
      · rintro i σ H5 hi ⟨y, kvs, z, rfl, s5, e5, d5, f5, by_, cy, fy, up⟩
        rw [Int.zero_add]
        have hi : i < A.m := by omega
        have oy : Opt A y := opt_of by_ cy fy
        refine ⟨_, rfl, _, rfl, pd, _, rfl, DGet.k (k := nk i) d5, _, rfl, ?_⟩
        by_cases c : worth A p i = 0
        · have hv : valV kvs (nk i) = some (.bl true) := by rw [f5 i, if_pos ⟨Nat.le_refl _, hi, c⟩]
          rw [hv]
          refine iteT ?_
          refine ⟨_, rfl, pd, rfl, .inl ⟨kvs, .inl d5⟩, _, rfl, kvs, nk i, _, d5, rfl, hv, ?_⟩
          have s6 : Same H (upd H5 pd (.dK (dropK kvs (nk i)))) := s5.mut fd
          have e6 : (upd H5 pd (.dK (dropK kvs (nk i)))) pf = some (.lst (Lst A.m y)) := by rw [upd_ne nfd]; exact e5
          have f6 : FrD A p (dropK kvs (nk i)) (i + 1) A.m := fun v => by
            rw [valV_drop, f5 v]
            by_cases e : v = i
            · subst e
              rw [if_pos rfl, if_neg (by omega)]
            · rw [if_neg (fun z => e (nk_inj z))]
              by_cases g : i ≤ v ∧ v < A.m ∧ worth A p v = 0
              · rw [if_pos g, if_pos ⟨by omega, g.2⟩]
              · rw [if_neg g, if_neg (fun z => g ⟨by omega, z.2⟩)]
          refine ⟨_, rfl, _, rfl, _, rfl, _, rfl, pa, pf, pd, n, i, A, y, p, dropK kvs (nk i), rfl, hf, s6.tups hA, e6, nap, upd_same, hi, c, by_, cy, fy, fun v hv => ?_, fun H7 y' k7 e7 b7 c7 f7 same t7 => ?_⟩
          · unfold fr
            rw [f6 v]
            by_cases g : i + 1 ≤ v ∧ v < A.m ∧ worth A p v = 0
            · rw [if_pos g]
              exact ⟨fun _ => ⟨by omega, g.2.2⟩, fun _ => rfl⟩
            · rw [if_neg g]
              exact ⟨fun z => (by cases z), fun z => absurd ⟨by omega, hv, z.2⟩ g⟩
          · refine ⟨y', _, _, rfl, Keep.same s6 k7 npf, e7, k7 _ _ upd_same nfd.symm, f6, b7, c7, f7, up.next same t7⟩
        · have hv : valV kvs (nk i) = none := by rw [f5 i, if_neg (fun z => c z.2.2)]
          rw [hv]
          refine iteF ⟨y, kvs, _, rfl, s5, e5, d5, fun v => ?_, by_, cy, fy, up.next (fun _ _ => rfl) (Top.forced oy fy hi c)⟩
          rw [f5 v]
          by_cases g : i ≤ v ∧ v < A.m ∧ worth A p v = 0
          · have : v ≠ i := fun e => c (e ▸ g.2.2)
            rw [if_pos g, if_pos ⟨by omega, g.2⟩]
          · rw [if_neg g, if_neg (fun z => g ⟨by omega, z.2⟩)]
      · rintro σ H5 ⟨y, kvs, z, rfl, s5, e5, d5, f5, by_, cy, fy, up⟩
        rw [hz] at up
        exact ⟨_, rfl, q H5 pf y s5 npf e5 (lexMax_of (opt_of by_ cy fy) up)⟩
end
end St
end
section
set_option maxRecDepth 100000
set_option maxHeartbeats 4000000
/-! The book on the heap. -/
namespace St
open PySem PySem.Spec PyProof.Rows L2 NT
abbrev Tr := Vbchad.Trade
def trF (t : Tr) : List (Str × V) := [("giver", .int (t.from_ : Nat)), ("taker", .int (t.to : Nat)), ("amount", .int (t.amount : Nat)), ("least", .int (t.least : Nat))]
theorem lk_here {k : Str} {v : V} {r : List (Str × V)} : List.lookup k ((k, v) :: r) = some v := by
  have e : (k == k) = true := beq_self_eq_true k
  simp only [List.lookup, e]
theorem lk_past {k g : Str} {v : V} {r : List (Str × V)} (h : (k == g) = false) : List.lookup k ((g, v) :: r) = List.lookup k r := by
  simp only [List.lookup, h]
theorem put_here {f : Str} {v x : V} {r : List (Str × V)} : putF f v ((f, x) :: r) = (f, v) :: r := if_pos rfl
theorem put_past {f g : Str} {v x : V} {r : List (Str × V)} (h : ¬ g = f) : putF f v ((g, x) :: r) = (g, x) :: putF f v r := if_neg h
theorem trF_giver (t : Tr) : (trF t).lookup ("giver" : Str) = some (.int (t.from_ : Nat)) := lk_here
theorem trF_taker (t : Tr) : (trF t).lookup ("taker" : Str) = some (.int (t.to : Nat)) := (lk_past (by decide +kernel)).trans lk_here
theorem trF_amount (t : Tr) : (trF t).lookup ("amount" : Str) = some (.int (t.amount : Nat)) := (lk_past (by decide +kernel)).trans ((lk_past (by decide +kernel)).trans lk_here)
theorem trF_least (t : Tr) : (trF t).lookup ("least" : Str) = some (.int (t.least : Nat)) := (lk_past (by decide +kernel)).trans ((lk_past (by decide +kernel)).trans ((lk_past (by decide +kernel)).trans lk_here))
theorem trF_room (t : Tr) : (trF t).lookup ("room" : Str) = none := (lk_past (by decide +kernel)).trans ((lk_past (by decide +kernel)).trans ((lk_past (by decide +kernel)).trans ((lk_past (by decide +kernel)).trans rfl)))
theorem trF_setAmount (t : Tr) (a : Nat) : putF "amount" (.int (a : Nat)) (trF t) = trF { t with amount := a } :=
  (put_past (by decide +kernel)).trans (congrArg _ ((put_past (by decide +kernel)).trans (congrArg _ put_here)))
theorem trF_setLeast (t : Tr) (a : Nat) : putF "least" (.int (a : Nat)) (trF t) = trF { t with least := a } :=
  (put_past (by decide +kernel)).trans (congrArg _ ((put_past (by decide +kernel)).trans (congrArg _ ((put_past (by decide +kernel)).trans (congrArg _ put_here)))))
theorem trF_new (k g t a l : Nat) : putF "least" (.int (l : Nat)) (putF "amount" (.int (a : Nat)) (putF "taker" (.int (t : Nat)) (putF "giver" (.int (g : Nat)) []))) = trF ⟨k, g, t, a, l⟩ := by
  rw [show putF "giver" (.int (g : Nat)) [] = [(("giver" : Str), V.int (g : Nat))] from rfl, put_past (by decide +kernel), show putF "taker" (.int (t : Nat)) [] = [(("taker" : Str), V.int (t : Nat))] from rfl]
  rw [put_past (by decide +kernel), put_past (by decide +kernel), put_past (by decide +kernel), show putF "amount" (.int (a : Nat)) [] = [(("amount" : Str), V.int (a : Nat))] from rfl]
  rw [put_past (by decide +kernel), put_past (by decide +kernel)]
  rfl
abbrev En := Addr × Tr
def ent (e : En) : Key × V := (nk e.2.key, .ref e.1)
def TrAt (C : Addr) (H : Hp) (a : Addr) (t : Tr) : Prop := ∃ dx, H a = some (.ins C dx (trF t))
def bF (d : Addr) : List (Str × V) := [("held", .ref d)]
theorem bF_held (d : Addr) : (bF d).lookup ("held" : Str) = some (.ref d) := lk_here
theorem bF_no {m : Str} (d : Addr) (h : (m == ("held" : Str)) = false) : (bF d).lookup m = none := (lk_past h).trans rfl
structure BookRd (CB CT : Addr) (H : Hp) (b d : Addr) (es : List En) : Prop where
  bk : ∃ dx, H b = some (.ins CB dx (bF d))
  dict : Rd H d (.dK (es.map ent))
  trs : ∀ e ∈ es, TrAt CT H e.1 e.2
structure BookAt (CB CT : Addr) (H : Hp) (b d : Addr) (es : List En) : Prop where
  bk : ∃ dx, H b = some (.ins CB dx (bF d))
  dict : H d = some (.dK (es.map ent))
  trs : ∀ e ∈ es, TrAt CT H e.1 e.2
section
variable {CB CT : Addr} {H H' : Hp} {b d : Addr} {es : List En}
theorem BookAt.rd (h : BookAt CB CT H b d es) : BookRd CB CT H b d es := ⟨h.bk, .inl h.dict, h.trs⟩
theorem BookRd.same (h : BookRd CB CT H b d es) (e : Same H H') : BookRd CB CT H' b d es :=
  ⟨let ⟨dx, q⟩ := h.bk; ⟨dx, e _ _ q⟩, h.dict.elim (fun q => .inl (e _ _ q)) fun ⟨o, q⟩ => .inr ⟨o, e _ _ q⟩, fun x hx => let ⟨dx, q⟩ := h.trs x hx; ⟨dx, e _ _ q⟩⟩
theorem BookAt.same (h : BookAt CB CT H b d es) (e : Same H H') : BookAt CB CT H' b d es :=
  ⟨let ⟨dx, q⟩ := h.bk; ⟨dx, e _ _ q⟩, e _ _ h.dict, fun x hx => let ⟨dx, q⟩ := h.trs x hx; ⟨dx, e _ _ q⟩⟩
/-- the dict locked -/
theorem BookAt.lock (h : BookAt CB CT H b d es) (od : Obj) : BookRd CB CT (upd H d (.frz od (.dK (es.map ent)))) b d es := by
  obtain ⟨dx, q⟩ := h.bk
  refine ⟨⟨dx, ?_⟩, .inr ⟨od, upd_same⟩, fun x hx => ?_⟩
  · rw [upd_ne (ne_of q h.dict (by intro z; cases z))]
    exact q
  · obtain ⟨dy, r⟩ := h.trs x hx
    refine ⟨dy, ?_⟩
    rw [upd_ne (ne_of r h.dict (by intro z; cases z))]
    exact r
theorem valV_ent {es : List En} (hn : (es.map fun e => e.2.key).Nodup) {e : En} (h : e ∈ es) : valV (es.map ent) (nk e.2.key) = some (.ref e.1) := by
  induction es with
  | nil => cases h
  | cons x es ih =>
    rw [List.map_cons] at hn ⊢
    obtain ⟨h1, h2⟩ := List.nodup_cons.mp hn
    rcases List.mem_cons.mp h with rfl | h
    · exact valV_pos rfl
    · rw [valV_neg (fun z => h1 (by rw [show x.2.key = e.2.key from nk_inj z]; exact List.mem_map.mpr ⟨e, h, rfl⟩))]
      exact ih h2 h
theorem valV_ent_no {es : List En} {k : Nat} (h : ∀ e ∈ es, e.2.key ≠ k) : valV (es.map ent) (nk k) = none := by
  induction es with
  | nil => rfl
  | cons x es ih =>
    rw [List.map_cons, valV_neg (fun z => h x List.mem_cons_self (nk_inj z))]
    exact ih fun e he => h e (List.mem_cons_of_mem _ he)
theorem BookRd.get (h : BookRd CB CT H b d es) (hn : (es.map fun e => e.2.key).Nodup) {e : En} (he : e ∈ es) : DGet H d (.int (e.2.key : Nat)) (some (.ref e.1)) := .inl ⟨_, nk e.2.key, h.dict, rfl, (valV_ent hn he).symm⟩
end
/-- what trades are like -/
structure WfT (t : Tr) : Prop where
  k1 : 1 ≤ t.key
  k2 : t.key ≤ 1000000000
  f1 : 1 ≤ t.from_
  f2 : t.from_ ≤ 1000000000
  t1 : 1 ≤ t.to
  t2 : t.to ≤ 1000000000
  ne : t.from_ ≠ t.to
  a1 : 1 ≤ t.amount
  a2 : t.amount ≤ 1000000000
  l1 : t.least ≤ t.amount
/-- the entries and the specification's trades -/
structure BookOk (es : List En) (l : List Tr) : Prop where
  srt : l.Pairwise fun a b => a.key < b.key
  perm : l.Perm (es.map fun e => e.2)
  adr : (es.map fun e => e.1).Nodup
  wf : ∀ t ∈ l, WfT t
  n40 : l.length ≤ 40
  m12 : (Vbchad.membersOf l).length ≤ 12
section
variable {es : List En} {l : List Tr}
theorem BookOk.len (h : BookOk es l) : es.length = l.length := by
  have := h.perm.length_eq
  rw [List.length_map] at this
  exact this.symm
theorem BookOk.mem (h : BookOk es l) {t : Tr} : t ∈ l ↔ ∃ a, (a, t) ∈ es := by
  rw [h.perm.mem_iff, List.mem_map]
  constructor
  · rintro ⟨⟨a, t'⟩, h1, rfl⟩
    exact ⟨a, h1⟩
  · rintro ⟨a, h1⟩
    exact ⟨(a, t), h1, rfl⟩
theorem BookOk.lkeys (h : BookOk es l) : (l.map fun t => t.key).Nodup := by
  have := h.srt
  rw [List.nodup_iff_pairwise_ne, List.pairwise_map]
  exact this.imp fun h => Nat.ne_of_lt h
theorem BookOk.keys (h : BookOk es l) : (es.map fun e => e.2.key).Nodup := by
  have e : (es.map fun e => e.2.key) = (es.map fun e => e.2).map fun t => t.key := by rw [List.map_map]; rfl
  rw [e]
  exact (h.perm.map _).nodup_iff.mp h.lkeys
theorem BookOk.uniq (h : BookOk es l) {t t' : Tr} (h1 : t ∈ l) (h2 : t' ∈ l) (e : t.key = t'.key) : t = t' := by
  obtain ⟨i, hi⟩ := List.mem_iff_getElem?.mp h1
  obtain ⟨j, hj⟩ := List.mem_iff_getElem?.mp h2
  have : i = j := nd_ix h.lkeys (x := t.key) (by rw [List.getElem?_map, hi]; rfl) (by rw [List.getElem?_map, hj, e]; rfl)
  subst this
  rw [hi] at hj
  exact Option.some.inj hj
end
/-- over the keys of a locked dict -/
theorem for_keys {d : Addr} {o : Obj} {kvs : List (Key × V)} {g : TG} {tb : TS} {D : Ends} {σ : L2.St} {H : Hp} (Pv : Nat → L2.St → Hp → Prop) (h0 : Pv 0 σ H) (hl : ∀ i σ H, i ≤ kvs.length → Pv i σ H → H d = some (.frz o (.dK kvs)))
    (hs : ∀ (i : Nat) k v σ H, kvs[i]? = some (k, v) → Pv i σ H → g (kV k) σ H fun σ2 H2 => tb { D with nx := Pv (i + 1), ct := Pv (i + 1), bk := D.nx } σ2 H2) (hd : ∀ σ H, Pv kvs.length σ H → D.nx σ H) :
    ∃ W : Nat → Nat → L2.St → Hp → Prop, (∃ m, W 0 m σ H) ∧ ∀ i m σ H, W i m σ H →
      ((Itk d o kvs).stop i H ∧ D.nx σ H) ∨ ((Itk d o kvs).go i H ∧ ∃ N : L2.St → Hp → Prop, (∀ σ' H', N σ' H' → ∃ m', m' < m ∧ W (i + 1) m' σ' H') ∧ ∀ x H', (Itk d o kvs).yld i H x H' → g x σ H' fun σ2 H2 => tb { D with nx := N, ct := N, bk := D.nx } σ2 H2) := by
  refine ⟨fun i m σ H => m = kvs.length - i ∧ i ≤ kvs.length ∧ Pv i σ H, ⟨kvs.length, by simp, Nat.zero_le _, h0⟩, ?_⟩
  rintro i m σ H ⟨rfl, hi, p⟩
  have q := hl i σ H hi p
  by_cases hlt : i < kvs.length
  · refine .inr ⟨⟨q, hlt⟩, Pv (i + 1), fun σ' H' p' => ⟨kvs.length - (i + 1), by omega, rfl, hlt, p'⟩, fun x H' y => ?_⟩
    obtain ⟨e, k, v, hk, hx⟩ := y
    subst e hx
    exact hs i k v σ _ hk p
  · have e : i = kvs.length := by omega
    subst e
    exact .inl ⟨⟨q, Nat.le_refl _⟩, hd σ H p⟩
/-- a comprehension over the keys of a locked dict -/
theorem lc_keys {d : Addr} {o : Obj} {kvs : List (Key × V)} {g : TG} {tt : TT} {te : TE} {vs : List Nat} {σ : L2.St} {H1 : Hp} {D : Addr} {Qd : Hp → Prop} (Pv : Nat → Hp → Prop) (h0 : Pv 0 (upd H1 D (.lst []))) (hl : ∀ i H, i ≤ kvs.length → Pv i H → H d = some (.frz o (.dK kvs)))
    (hs : ∀ (i : Nat) k v H, kvs[i]? = some (k, v) → Pv i H → g (kV k) (wipe σ vs) H fun σ2 H2 => wipe σ2 vs = wipe σ vs ∧ tt σ2 H2 fun b H3 =>
      if b = true then te σ2 H3 fun y H4 => ∃ acc, H4 D = some (.lst acc) ∧ acc.length < sizeLine ∧ Pv (i + 1) (upd H4 D (.lst (acc ++ [y]))) else Pv (i + 1) H3) (hd : ∀ H, Pv kvs.length H → Qd H) :
    ∃ W : Nat → Nat → Hp → Prop, (∃ m, W 0 m (upd H1 D (.lst []))) ∧ ∀ i m H, W i m H →
      ((Itk d o kvs).stop i H ∧ Qd H) ∨ ((Itk d o kvs).go i H ∧ ∃ Nx : Hp → Prop, (∀ H', Nx H' → ∃ m', m' < m ∧ W (i + 1) m' H') ∧ ∀ x H', (Itk d o kvs).yld i H x H' → g x (wipe σ vs) H' fun σ2 H2 => wipe σ2 vs = wipe σ vs ∧ tt σ2 H2 fun b H3 =>
        if b = true then te σ2 H3 fun y H4 => ∃ acc, H4 D = some (.lst acc) ∧ acc.length < sizeLine ∧ Nx (upd H4 D (.lst (acc ++ [y]))) else Nx H3) := by
  refine ⟨fun i m H => m = kvs.length - i ∧ i ≤ kvs.length ∧ Pv i H, ⟨kvs.length, by simp, Nat.zero_le _, h0⟩, ?_⟩
  rintro i m H ⟨rfl, hi, p⟩
  have q := hl i H hi p
  by_cases hlt : i < kvs.length
  · refine .inr ⟨⟨q, hlt⟩, Pv (i + 1), fun H' p' => ⟨kvs.length - (i + 1), by omega, rfl, hlt, p'⟩, fun x H' y => ?_⟩
    obtain ⟨e, k, v, hk, hx⟩ := y
    subst e hx
    exact hs i k v _ hk p
  · have e : i = kvs.length := by omega
    subst e
    exact .inl ⟨⟨q, Nat.le_refl _⟩, hd H p⟩
end St
end
section
set_option maxRecDepth 100000
set_option maxHeartbeats 4000000
namespace St
open PySem PySem.Spec PyProof.Rows L2 NT
def NV (L : List Nat) : List V := L.map fun n => V.int (n : Nat)
theorem NV_ints (L : List Nat) : NV L = (L.map fun n => ((n : Nat) : Int)).map V.int := by unfold NV; rw [List.map_map]; rfl
theorem NV_len (L : List Nat) : (NV L).length = L.length := List.length_map _
theorem NV_get {L : List Nat} {i v : Nat} (h : L[i]? = some v) : (NV L)[i]? = some (.int (v : Nat)) := by unfold NV; rw [List.getElem?_map, h]; rfl
theorem same_unlock {H Hi : Hp} {d : Addr} {u : HO} {o : Obj} (hu : H d = some u) (e : Same (upd H d (.frz o u)) Hi) : Same H (upd Hi d u) := fun b x hb => by
  by_cases q : b = d
  · subst q
    rw [hu] at hb
    obtain rfl := Option.some.inj hb
    exact upd_same
  · rw [upd_ne q]
    refine e _ _ ?_
    rw [upd_ne q]
    exact hb
/-- a sorted list of these numbers is the one that rises -/
theorem sorted_is {ns' : List Int} {ns L : List Nat} (p : ns'.Perm (ns.map fun n => ((n : Nat) : Int))) (s : ns'.Pairwise (· ≤ ·)) (hn : ns.Nodup) (hL : L.Pairwise (· < ·)) (hm : ∀ x, x ∈ ns ↔ x ∈ L) : ns' = L.map fun n => ((n : Nat) : Int) := by
  have hp : ns.Perm L := (List.perm_ext_iff_of_nodup hn (by rw [List.nodup_iff_pairwise_ne]; exact hL.imp fun h => Nat.ne_of_lt h)).mpr hm
  refine List.Perm.eq_of_pairwise (fun _ _ _ _ a b => Int.le_antisymm a b) s ?_ (p.trans (hp.map _))
  rw [List.pairwise_map]
  exact hL.imp fun {a b} h => by omega
section
variable {P : Program} {w : World} {K : PySem.W.Frag} {mg : Str → Option Value} {base : Heap}
def sp_Trade_init (T : Tx K mg) : Sp := fun vs H Q _ => ∃ (p dx : Addr) (g t a l : Nat), vs = [.ref p, .int (g : Nat), .int (t : Nat), .int (a : Nat), .int (l : Nat)] ∧ H p = some (.ins T.C_Trade dx []) ∧
  Q .non (upd H p (.ins T.C_Trade dx (trF ⟨0, g, t, a, l⟩)))
theorem ok_Trade_init (T : Tx K mg) : FnOk P w K mg base CX0 1 T.f_Trade_init T.d_Trade_init ["self", "giver", "taker", "amount", "least"] (sp_Trade_init T) := by
  refine T.F_Trade_init.ok sc_Trade_init (fun vs H Q E h => ?_) (fun cdv A outer s H vs Q E hr h => ?_)
  · obtain ⟨p, dx, g, t, a, l, rfl, _⟩ := h
    rfl
  · refine ⟨_, (pss_cons (ps_fld (pv 0) (pv 1) rfl)
      (pss_cons (ps_fld (pv 0) (pv 2) rfl)
      (pss_cons (ps_fld (pv 0) (pv 3) rfl)
      (pss_one (ps_fld (pv 0) (pv 4) rfl))))), ?_⟩
    -- slots: 0 self, 1 giver, 2 taker, 3 amount, 4 least
    obtain ⟨p, dx, g, t, a, l, rfl, e, q⟩ := h
    refine ⟨_, rfl, _, rfl, p, _, dx, _, rfl, e, T.cl_Trade, T.n_Trade_giver, by decide, ?_⟩
    refine ⟨_, rfl, _, rfl, p, _, dx, _, rfl, upd_same, T.cl_Trade, T.n_Trade_taker, by show 1 < 1000; omega, ?_⟩
    refine ⟨_, rfl, _, rfl, p, _, dx, _, rfl, upd_same, T.cl_Trade, T.n_Trade_amount, by simp only [putF]; split <;> simp, ?_⟩
    refine ⟨_, rfl, _, rfl, p, _, dx, _, rfl, upd_same, T.cl_Trade, T.n_Trade_least, ?_, ?_⟩
    · rw [show putF "giver" (.int (g : Nat)) [] = [(("giver" : Str), V.int (g : Nat))] from rfl, put_past (by decide +kernel), show putF "taker" (.int (t : Nat)) [] = [(("taker" : Str), V.int (t : Nat))] from rfl]
      rw [put_past (by decide +kernel), put_past (by decide +kernel), show putF "amount" (.int (a : Nat)) [] = [(("amount" : Str), V.int (a : Nat))] from rfl]
      show 3 < 1000
      omega
    rw [upd_upd, upd_upd, upd_upd, trF_new 0 g t a l]
    exact q
def sp_Trade_room (T : Tx K mg) : Sp := fun vs H Q _ => ∃ (p : Addr) (t : Tr), vs = [.ref p] ∧ TrAt T.C_Trade H p t ∧ t.least ≤ t.amount ∧ Q (.int (Vbchad.room t : Nat)) H
theorem ok_Trade_room (T : Tx K mg) : FnOk P w K mg base CX0 1 T.f_Trade_room T.d_Trade_room ["self"] (sp_Trade_room T) := by
  refine T.F_Trade_room.ok sc_Trade_room (fun vs H Q E h => ?_) (fun cdv A outer s H vs Q E hr h => ?_)
  · obtain ⟨p, t, rfl, _⟩ := h
    rfl
  · refine ⟨_, (pss_one (ps_ret (pe_op op_sub (pe_fld (pv 0) rfl) (pe_fld (pv 0) rfl)))), ?_⟩
    -- slots: 0 self
    obtain ⟨p, t, rfl, ⟨dx, e⟩, hl, q⟩ := h
    refine ⟨_, rfl, p, _, dx, _, _, rfl, e, T.cl_Trade, T.n_Trade_amount, trF_amount t, _, rfl, p, _, dx, _, _, rfl, e, T.cl_Trade, T.n_Trade_least, trF_least t, _, _, rfl, rfl, ?_⟩
    have e2 : (t.amount : Int) - (t.least : Int) = ((Vbchad.room t : Nat) : Int) := by unfold Vbchad.room; omega
    show Q (.int ((t.amount : Int) - (t.least : Int))) H
    rw [e2]
    exact q
def sp_Book_init (T : Tx K mg) : Sp := fun vs H Q _ => ∃ (p dx : Addr), vs = [.ref p] ∧ H p = some (.ins T.C_Book dx []) ∧
  ∀ d, H d = none → Q .non (upd (upd H d (.dK [])) p (.ins T.C_Book dx (bF d)))
theorem ok_Book_init (T : Tx K mg) : FnOk P w K mg base CX0 1 T.f_Book_init T.d_Book_init ["self"] (sp_Book_init T) := by
  refine T.F_Book_init.ok sc_Book_init (fun vs H Q E h => ?_) (fun cdv A outer s H vs Q E hr h => ?_)
  · obtain ⟨p, dx, rfl, _⟩ := h
    rfl
  · refine ⟨_, (pss_one (ps_fld (pv 0) pe_dnewK rfl)), ?_⟩
    -- slots: 0 self
    obtain ⟨p, dx, rfl, e, q⟩ := h
    intro d nd
    exact ⟨_, rfl, p, _, dx, _, rfl, (same_new nd) _ _ e, T.cl_Book, T.n_Book_held, by decide, q d nd⟩
def sp_key_rows (T : Tx K mg) : Sp := fun vs H Q _ => ∃ (b d : Addr) (es : List En) (l : List Tr), vs = [.ref b] ∧ BookAt T.C_Book T.C_Trade H b d es ∧ BookOk es l ∧
  ∀ H' p, Same H H' → H p = none → H' p = some (.lst (NV (l.map fun t => t.key))) → Q (.ref p) H'
theorem ents_keys (es : List En) : (es.map ent).map (fun kv => kV kv.1) = NV (es.map fun e => e.2.key) := by
  unfold NV
  rw [List.map_map, List.map_map]
  rfl
theorem ok_Book_key_rows (T : Tx K mg) : FnOk P w K mg base CX0 1 T.f_Book_key_rows T.d_Book_key_rows ["self"] (sp_key_rows T) := by
  refine T.F_Book_key_rows.ok sc_Book_key_rows (fun vs H Q E h => ?_) (fun cdv A outer s H vs Q E hr h => ?_)
  · obtain ⟨b, d, es, l, rfl, _⟩ := h
    rfl
  · refine ⟨_, (pss_one (ps_ret (pe_callB cr_sortedI (by rfl) T.z_sorted (by decide +kernel) (pa_cons (pe_callTy (call_list_dK rfl) (by rfl) T.z_list (by decide +kernel) (pa_cons (pe_fld (pv 0) rfl) pa_nil)) pa_nil)))), ?_⟩
    -- slots: 0 self
    obtain ⟨b, d, es, l, rfl, hb, ho, q⟩ := h
    obtain ⟨dx, hbk⟩ := hb.bk
    refine ⟨_, rfl, b, _, dx, _, _, rfl, hbk, T.cl_Book, T.n_Book_held, bF_held d, d, _, rfl, hb.dict, fun p np => ?_⟩
    rw [ents_keys, NV_ints]
    refine ⟨p, _, rfl, SqL.of upd_same, fun ns p2 hp hs np2 => ?_⟩
    rw [sorted_is hp hs ho.keys (L := l.map fun t => t.key) (by rw [List.pairwise_map]; exact ho.srt) (fun x => by
      rw [List.mem_map, List.mem_map]
      constructor
      · rintro ⟨e, h1, rfl⟩
        exact ⟨e.2, ho.mem.mpr ⟨e.1, h1⟩, rfl⟩
      · rintro ⟨t, h1, rfl⟩
        obtain ⟨a, h2⟩ := ho.mem.mp h1
        exact ⟨_, h2, rfl⟩)]
    exact q _ p2 ((same_new np).trans (same_new np2)) ((same_new np).free np2) (by rw [upd_same, NV_ints])
end
end St
end
section
set_option maxRecDepth 100000
set_option maxHeartbeats 4000000
namespace St
open PySem PySem.Spec PyProof.Rows L2 NT
def tE (m : Nat) : Key × V := (nk m, .bl true)
theorem put_ms (m : Nat) (ms : List Nat) (hn : ms.Nodup) : ∃ ms' : List Nat, putK (ms.map tE) (nk m) (.bl true) = ms'.map tE ∧ ms'.Nodup ∧ ∀ x, x ∈ ms' ↔ x = m ∨ x ∈ ms := by
  by_cases e : m ∈ ms
  · refine ⟨ms, ?_, hn, fun x => ⟨.inr, fun z => z.elim (fun z => z ▸ e) id⟩⟩
    unfold putK
    rw [if_pos (by rw [List.any_eq_true]; exact ⟨tE m, List.mem_map.mpr ⟨m, e, rfl⟩, decide_eq_true rfl⟩)]
    rw [List.map_map]
    refine List.map_congr_left fun x _ => ?_
    show (if (tE x).1 = nk m then ((tE x).1, V.bl true) else tE x) = tE x
    by_cases q : (tE x).1 = nk m
    · rw [if_pos q]; rfl
    · rw [if_neg q]
  · refine ⟨ms ++ [m], ?_, List.nodup_append.mpr ⟨hn, List.nodup_cons.mpr ⟨(fun h => nomatch h), List.nodup_nil⟩, fun a h b h' => by rw [List.mem_singleton.mp h']; exact fun z => e (z ▸ h)⟩, fun x => ?_⟩
    · unfold putK
      rw [if_neg, List.map_append]
      · rfl
      · rw [List.any_eq_true]
        rintro ⟨x, h1, h2⟩
        obtain ⟨y, h3, rfl⟩ := List.mem_map.mp h1
        have h4 : nk y = nk m := of_decide_eq_true h2
        exact e (nk_inj h4 ▸ h3)
    · rw [List.mem_append, List.mem_singleton]
      exact ⟨fun z => z.elim .inr .inl, fun z => z.elim .inr .inl⟩
theorem ent_at {es : List En} {i : Nat} {k : Key} {v : V} (h : (es.map ent)[i]? = some (k, v)) : ∃ e, es[i]? = some e ∧ e ∈ es ∧ k = nk e.2.key ∧ v = .ref e.1 := by
  rw [List.getElem?_map] at h
  cases q : es[i]? with
  | none => rw [q] at h; cases h
  | some e =>
    rw [q] at h
    have h := Option.some.inj h
    exact ⟨e, rfl, List.mem_of_getElem? q, (congrArg Prod.fst h).symm, (congrArg Prod.snd h).symm⟩
theorem same_lockF {H : Hp} {F d : Addr} {o u : HO} {v : HO} (h : H d = some u) (n : H F = none) : Same (upd H d v) (upd (upd H F o) d v) := fun b x hb => by
  by_cases q : b = d
  · subst q
    rw [upd_same] at hb ⊢
    exact hb
  · rw [upd_ne q] at hb ⊢
    exact (same_new n) _ _ hb
section
variable {P : Program} {w : World} {K : PySem.W.Frag} {mg : Str → Option Value} {base : Heap}
def sp_members (T : Tx K mg) : Sp := fun vs H Q _ => ∃ (b d : Addr) (es : List En) (l : List Tr), vs = [.ref b] ∧ BookAt T.C_Book T.C_Trade H b d es ∧ BookOk es l ∧
  ∀ H' p, Same H H' → H p = none → H' p = some (.lst (NV (Vbchad.membersOf l))) → Q (.ref p) H'
theorem ok_Book_members (T : Tx K mg) : FnOk P w K mg base CX0 1 T.f_Book_members T.d_Book_members ["self"] (sp_members T) := by
  refine T.F_Book_members.ok sc_Book_members (fun vs H Q E h => ?_) (fun cdv A outer s H vs Q E hr h => ?_)
  · obtain ⟨b, d, es, l, rfl, _⟩ := h
    rfl
  · refine ⟨_, (pss_cons (ps_set (i := 1) sc_Book_members.nd rfl (.inl rfl) pe_dnewK)
      (pss_cons (ps_lock (ps_for PassesOwn.never rfl (pi_keys (pe_fld (pv 0) rfl)) (pg_name (i := 2) sc_Book_members.nd rfl (.inl rfl))
      (pss_cons (ps_dput (hu_of hr) (pv 1) (pe_fld (pe_dget (hu_of hr) (pe_fld (pv 0) rfl) (pv 2) (fun _ _ => rfl)) rfl) pe_bl rfl)
      (pss_one (ps_dput (hu_of hr) (pv 1) (pe_fld (pe_dget (hu_of hr) (pe_fld (pv 0) rfl) (pv 2) (fun _ _ => rfl)) rfl) pe_bl rfl)))))
      (pss_one (ps_ret (pe_callB cr_sortedI (by rfl) T.z_sorted (by decide +kernel) (pa_cons (pe_callTy (call_list_dK rfl) (by rfl) T.z_list (by decide +kernel) (pa_cons (pv 1) pa_nil)) pa_nil)))))), ?_⟩
    -- slots: 0 self, 1 found, 2 key
    obtain ⟨b, d, es, l, rfl, hb, ho, q⟩ := h
    intro F nF
    have dF : d ≠ F := ne_of_none hb.dict nF
    have hd1 := (same_new (o := .dK []) nF) _ _ hb.dict
    refine ⟨d, _, hd1, trivial, fun od => ?_⟩
    have hbL := hb.lock od
    have s0 := same_lockF (o := .dK []) (v := .frz od (.dK (es.map ent))) hb.dict nF
    have nFL : (upd H d (.frz od (.dK (es.map ent)))) F = none := by rw [upd_ne dF.symm]; exact nF
    have hb1 := hbL.same s0
    have eF1 : (upd (upd H F (.dK [])) d (.frz od (.dK (es.map ent)))) F = some (.dK []) := by rw [upd_ne dF.symm]; exact upd_same
    obtain ⟨dx, hbk⟩ := hb1.bk
    refine ⟨_, rfl, b, _, dx, _, _, rfl, hbk, T.cl_Book, T.n_Book_held, bF_held d, d, od, rfl, .inl ⟨es.map ent, upd_same, for_keys (fun i σ H2 => ∃ y ms, σ = [some (.ref b), some (.ref F), y] ∧ Same (upd H d (.frz od (.dK (es.map ent)))) H2 ∧ H2 F = some (.dK (ms.map tE)) ∧ ms.Nodup ∧ ∀ x, x ∈ ms ↔ ∃ e ∈ es.take i, e.2.from_ = x ∨ e.2.to = x)
      ⟨none, [], rfl, s0, eF1, List.nodup_nil, fun x => by simp⟩ ?_ ?_ ?_⟩⟩
    · rintro i σ H2 _ ⟨y, ms, _, s2, _⟩
      exact s2 _ _ upd_same
    · rintro i k v σ H2 hk ⟨y, ms, rfl, s2, e2, n2, m2⟩
      obtain ⟨e, he, hm, rfl, rfl⟩ := ent_at hk
      have hb2 := hbL.same s2
      obtain ⟨dx2, hbk2⟩ := hb2.bk
      obtain ⟨dt2, ht2⟩ := hb2.trs e hm
      have hlen : ∀ ms : List Nat, ms.Nodup → (∀ x ∈ ms, x ∈ Vbchad.membersOf l) → (ms.map tE).length < sizeLine := fun ms hn hs => by
        have := SP.nodup_le hn hs
        have := ho.m12
        rw [List.length_map]
        exact sz_lt (by omega)
      have hin : ∀ x, (∃ e ∈ es.take i, e.2.from_ = x ∨ e.2.to = x) → x ∈ Vbchad.membersOf l := fun x ⟨e, h1, h2⟩ => SP.mem_members.mpr ⟨e.2, ho.mem.mpr ⟨e.1, List.mem_of_mem_take h1⟩, h2⟩
      have hin2 : e.2.from_ ∈ Vbchad.membersOf l := SP.mem_members.mpr ⟨e.2, ho.mem.mpr ⟨e.1, hm⟩, .inl rfl⟩
      refine ⟨_, rfl, _, rfl, b, _, dx2, _, _, rfl, hbk2, T.cl_Book, T.n_Book_held, bF_held d, _, rfl, d, _, rfl, hb2.get ho.keys hm, e.1, _, dt2, _, _, rfl, ht2, T.cl_Trade, T.n_Trade_giver, trF_giver _, F, _, rfl,
        DPut.k (k := nk e.2.from_) e2 (hlen ms n2 fun x hx => hin x ((m2 x).mp hx)), ?_⟩
      obtain ⟨ms3, e3, n3, m3⟩ := put_ms e.2.from_ ms n2
      rw [e3]
      have s3 : Same (upd H d (.frz od (.dK (es.map ent)))) (upd H2 F (.dK (ms3.map tE))) := s2.mut nFL
      have hb3 := hbL.same s3
      obtain ⟨dx3, hbk3⟩ := hb3.bk
      obtain ⟨dt3, ht3⟩ := hb3.trs e hm
      refine ⟨_, rfl, _, rfl, b, _, dx3, _, _, rfl, hbk3, T.cl_Book, T.n_Book_held, bF_held d, _, rfl, d, _, rfl, hb3.get ho.keys hm, e.1, _, dt3, _, _, rfl, ht3, T.cl_Trade, T.n_Trade_taker, trF_taker _, F, _, rfl,
        DPut.k (k := nk e.2.to) upd_same (hlen ms3 n3 fun x hx => ((m3 x).mp hx).elim (fun z => z ▸ hin2) fun z => hin x ((m2 x).mp z)), ?_⟩
      obtain ⟨ms4, e4, n4, m4⟩ := put_ms e.2.to ms3 n3
      rw [e4]
      refine ⟨_, ms4, rfl, s3.mut nFL, upd_same, n4, fun x => ?_⟩
      rw [m4, m3, m2, take_more he]
      constructor
      · rintro (z | z | ⟨e', h1, h2⟩)
        · exact ⟨e, List.mem_append_right _ (List.mem_singleton.mpr rfl), .inr z.symm⟩
        · exact ⟨e, List.mem_append_right _ (List.mem_singleton.mpr rfl), .inl z.symm⟩
        · exact ⟨e', List.mem_append_left _ h1, h2⟩
      · rintro ⟨e', h1, h2⟩
        rcases List.mem_append.mp h1 with h1 | h1
        · exact .inr (.inr ⟨e', h1, h2⟩)
        · obtain rfl := List.mem_singleton.mp h1
          rcases h2 with h2 | h2
          · exact .inr (.inl h2.symm)
          · exact .inl h2.symm
    · rintro σ H2 ⟨y, ms, rfl, s2, e2, n2, m2⟩
      refine ⟨s2 _ _ upd_same, ?_⟩
      have s3 := same_unlock hb.dict s2
      refine ⟨_, rfl, F, ms.map tE, rfl, by rw [upd_ne dF.symm]; exact e2, fun p np => ?_⟩
      rw [show (ms.map tE).map (fun kv => kV kv.1) = NV ms by unfold NV; rw [List.map_map]; rfl, NV_ints]
      refine ⟨p, _, rfl, SqL.of upd_same, fun ns p2 hp hs np2 => ?_⟩
      rw [sorted_is hp hs n2 (SP.members_sorted l) (fun x => by
        rw [m2, SP.mem_members, List.length_map, List.take_length]
        constructor
        · rintro ⟨e, h1, h2⟩
          exact ⟨e.2, ho.mem.mpr ⟨e.1, h1⟩, h2⟩
        · rintro ⟨t, h1, h2⟩
          obtain ⟨a, h3⟩ := ho.mem.mp h1
          exact ⟨_, h3, h2⟩)]
      have fp := (same_new np).free np2
      exact q _ p2 (s3.trans ((same_new np).trans (same_new np2))) (s3.free fp) (by rw [upd_same, NV_ints])
end
end St
end
section
set_option maxRecDepth 100000
set_option maxHeartbeats 4000000
namespace St
open PySem PySem.Spec PyProof.Rows L2 NT
def oV : Option Nat → V
  | none => .non
  | some k => .int (k : Nat)
theorem oV_scal (k : Nat) (o : Option Nat) : scal (.int (k : Nat)) (oV o) = true := by cases o <;> rfl
theorem oV_eq (k : Nat) (o : Option Nat) : decide (V.int (k : Nat) = oV o) = decide (o = some k) := by
  cases o with
  | none =>
    rw [decide_eq_false (fun z : V.int (k : Nat) = oV none => by cases z), decide_eq_false (by simp)]
  | some j =>
    show decide (V.int (k : Nat) = V.int (j : Nat)) = _
    rw [Bool.eq_iff_iff, decide_eq_true_iff, decide_eq_true_iff]
    constructor
    · intro z
      have z := V.int.inj z
      rw [show j = k by omega]
    · intro z
      rw [Option.some.inj z]
theorem is_ne {k : Nat} {o : Option Nat} (h : (!decide (V.int (k : Nat) = oV o)) = true) : ¬ o = some k := by
  rw [oV_eq] at h
  simpa using h
theorem not_ne {k : Nat} {o : Option Nat} (h : ¬ (!decide (V.int (k : Nat) = oV o)) = true) : o = some k := by
  rw [oV_eq] at h
  simpa using h
def bareT (ba : Option Nat) (t : Tr) : Tr := if ba = some t.key then { t with least := 0 } else t
def arcsL (l : List Tr) (wo ba : Option Nat) : List Tr := (l.map (bareT ba)).filter fun t => !decide (wo = some t.key)
theorem bareT_key (ba : Option Nat) (t : Tr) : (bareT ba t).key = t.key := by unfold bareT; split <;> rfl
theorem bareT_from (ba : Option Nat) (t : Tr) : (bareT ba t).from_ = t.from_ := by unfold bareT; split <;> rfl
theorem bareT_to (ba : Option Nat) (t : Tr) : (bareT ba t).to = t.to := by unfold bareT; split <;> rfl
theorem bareT_room (ba : Option Nat) (t : Tr) : Vbchad.room (bareT ba t) = if ba = some t.key then t.amount else Vbchad.room t := by
  unfold bareT
  split
  · show t.amount - 0 = _
    omega
  · rfl
theorem arcsL_all (l : List Tr) : arcsL l none none = l := by
  unfold arcsL
  rw [show bareT none = fun t : Tr => t from funext fun t => if_neg (by simp)]
  simp
theorem arcsL_wo (l : List Tr) (k : Nat) : arcsL l (some k) none = l.filter fun x => x.key != k := by
  unfold arcsL
  rw [show bareT none = fun t : Tr => t from funext fun t => if_neg (by simp), List.map_id']
  refine List.filter_congr fun x _ => ?_
  rw [Bool.eq_iff_iff]
  simp
  exact ⟨fun h => Ne.symm h, fun h => Ne.symm h⟩
theorem arcsL_ba (l : List Tr) (k : Nat) : arcsL l none (some k) = l.map fun x => if x.key = k then { x with least := 0 } else x := by
  unfold arcsL
  rw [List.filter_eq_self.mpr (fun x _ => by simp)]
  refine List.map_congr_left fun x _ => ?_
  unfold bareT
  by_cases h : x.key = k
  · rw [if_pos h, if_pos (by rw [h])]
  · rw [if_neg h, if_neg (fun z => h (Option.some.inj z).symm)]
theorem arcsL_mem {l : List Tr} {wo ba : Option Nat} {t : Tr} (h : t ∈ arcsL l wo ba) : ∃ t' ∈ l, t = bareT ba t' := by
  unfold arcsL at h
  obtain ⟨t', h1, h2⟩ := List.mem_map.mp (List.mem_filter.mp h).1
  exact ⟨t', h1, h2.symm⟩
theorem arcsL_members {l : List Tr} {wo ba : Option Nat} : ∀ m ∈ Vbchad.membersOf (arcsL l wo ba), m ∈ Vbchad.membersOf l := fun m hm => by
  obtain ⟨t, h1, h2⟩ := SP.mem_members.mp hm
  obtain ⟨t', h3, rfl⟩ := arcsL_mem h1
  rw [bareT_from, bareT_to] at h2
  exact SP.mem_members.mpr ⟨t', h3, h2⟩
theorem arcsL_len (l : List Tr) (wo ba : Option Nat) : (arcsL l wo ba).length ≤ l.length := by
  unfold arcsL
  exact Nat.le_trans (List.length_filter_le _ _) (by rw [List.length_map]; exact Nat.le_refl _)
theorem arcsL_more {l : List Tr} {wo ba : Option Nat} {i : Nat} {t : Tr} (h : l[i]? = some t) : arcsL (l.take (i + 1)) wo ba = arcsL (l.take i) wo ba ++ if wo = some t.key then [] else [bareT ba t] := by
  unfold arcsL
  rw [take_more h, List.map_append, List.filter_append]
  congr 1
  show List.filter _ [bareT ba t] = _
  by_cases e : wo = some t.key
  · rw [if_pos e, List.filter_cons_of_neg (by rw [bareT_key]; simp [e])]
    rfl
  · rw [if_neg e, List.filter_cons_of_pos (by rw [bareT_key]; simp [e])]
    rfl
def arowT (ms : List Nat) (t : Tr) : List V := [.int (ms.idxOf t.from_ : Nat), .int (ms.idxOf t.to : Nat), .int (Vbchad.room t : Nat)]
theorem arows_eq (ms : List Nat) (l : List Tr) : (List.range (SP.netI ms l).m).map (arow (SP.netI ms l)) = l.map (arowT ms) := by
  refine List.ext_getElem? fun i => ?_
  rw [List.getElem?_map, List.getElem?_map]
  by_cases hi : i < l.length
  · rw [List.getElem?_range (show i < (SP.netI ms l).m from hi), List.getElem?_eq_getElem hi]
    have e : SP.tr l i = l[i] := by unfold SP.tr; rw [List.getD_eq_getElem?_getD, List.getElem?_eq_getElem hi]; rfl
    show some [V.int (ms.idxOf (SP.tr l i).from_ : Nat), V.int (ms.idxOf (SP.tr l i).to : Nat), V.int (Vbchad.room (SP.tr l i) : Nat)] = _
    rw [e]
    rfl
  · rw [List.getElem?_eq_none (by rw [List.length_range]; exact Nat.le_of_not_lt hi), List.getElem?_eq_none (Nat.le_of_not_lt hi)]
    rfl
theorem nv_flat (ms : List Nat) : (NV ms).all flatV = true := by
  unfold NV
  rw [List.all_map]
  exact List.all_eq_true.mpr fun _ _ => rfl
theorem nv_idx {ms : List Nat} {m : Nat} (h : m ∈ ms) : (NV ms)[ms.idxOf m]? = some (.int (m : Nat)) := by
  have hi := List.idxOf_lt_length_iff.mpr h
  refine NV_get ?_
  rw [List.getElem?_eq_getElem hi, List.getElem_idxOf hi]
theorem nv_eq (m : Nat) : eqV (.int (m : Nat)) (.int (m : Nat)) = true := by
  show ((m : Int) == (m : Int)) = true
  exact beq_self_eq_true _
theorem nv_first {ms : List Nat} {m : Nat} (h : m ∈ ms) : ∀ (j : Nat) (z : V), j < ms.idxOf m → (NV ms)[j]? = some z → eqV z (.int (m : Nat)) = false := fun j z hj hz => by
  have hi := List.idxOf_lt_length_iff.mpr h
  have hj2 : j < ms.length := Nat.lt_trans hj hi
  rw [NV_get (List.getElem?_eq_getElem hj2)] at hz
  obtain rfl := Option.some.inj hz
  show (((ms[j] : Nat) : Int) == (m : Int)) = false
  rw [beq_eq_false_iff_ne]
  intro z
  have z2 : ms[j] = m := by omega
  have := List.not_of_lt_findIdx (p := fun x => x == m) hj
  rw [beq_eq_false_iff_ne] at this
  exact this z2
section
variable {P : Program} {w : World} {K : PySem.W.Frag} {mg : Str → Option Value} {base : Heap}
def sp_arcs (T : Tx K mg) : Sp := fun vs H Q _ => ∃ (b d : Addr) (es : List En) (l : List Tr) (wo ba : Option Nat), vs = [.ref b, oV wo, oV ba] ∧ BookAt T.C_Book T.C_Trade H b d es ∧ BookOk es l ∧
  ∀ H' p, Same H H' → H p = none → ArcsAt K H' p (SP.netI (Vbchad.membersOf l) (arcsL l wo ba)) → (∃ o, H' p = some o) → Q (.ref p) H'
theorem ok_Book_arcs (T : Tx K mg) : FnOk P w K mg base CX0 2 T.f_Book_arcs T.d_Book_arcs ["self", "without", "bare"] (sp_arcs T) := by
  refine T.F_Book_arcs.ok sc_Book_arcs (fun vs H Q E h => ?_) (fun cdv A outer s H vs Q E hr h => ?_)
  · obtain ⟨b, d, es, l, wo, ba, rfl, _⟩ := h
    rfl
  · refine ⟨_, (pss_cons (ps_par (i := 3) (j := 4) (by rfl) sc_Book_arcs.nd rfl rfl (by decide) rfl rfl (pa_cons (pe_meth0 (pv 0) T.cl_Book T.m_Book_members (ok_Book_members T) (hr.mono (by decide)) T.b_Book_members .nil pass0) (pa_cons (pe_lst pa_nil) pa_nil)) (by rfl))
      (pss_cons (ps_for PassesOwn.never rfl (pi_list (pe_meth0 (pv 0) T.cl_Book T.m_Book_key_rows (ok_Book_key_rows T) (hr.mono (by decide)) T.b_Book_key_rows .nil pass0)) (pg_name (i := 5) sc_Book_arcs.nd rfl (.inl rfl))
      (pss_cons (ps_set (i := 6) sc_Book_arcs.nd rfl (.inl rfl) (pe_dget (hu_of hr) (pe_fld (pv 0) rfl) (pv 5) (fun _ _ => rfl)))
      (pss_cons (ps_set (i := 7) sc_Book_arcs.nd rfl (.inl rfl) (pe_ifExp (pt_cmpR op_eq (pv 5) (pv 2) (nomark _)) (pe_fld (pv 6) rfl) (pe_meth0 (pv 6) T.cl_Trade T.m_Trade_room (ok_Trade_room T) (hr.mono (by decide)) T.b_Trade_room .nil pass0)))
      (pss_one (ps_if (pt_cmpR op_ne (pv 5) (pv 1) (nomark _))
      (pss_one (ps_expr (pe_bm PySem.F.plainAttrs_list PySem.F.slot_list_append PySem.F.type_list_append mt_append (pv 4) (pa_cons (pe_tup (pa_cons (pe_bm PySem.F.plainAttrs_list PySem.F.slot_list_index PySem.F.type_list_index mt_index (pv 3) (pa_cons (pe_fld (pv 6) rfl) pa_nil)) (pa_cons (pe_bm PySem.F.plainAttrs_list PySem.F.slot_list_index PySem.F.type_list_index mt_index (pv 3) (pa_cons (pe_fld (pv 6) rfl) pa_nil)) (pa_cons (pv 7) pa_nil)))) pa_nil))))
      pss_nil)))))
      (pss_one (ps_ret (pv 4))))), ?_⟩
    -- slots: 0 self, 1 without, 2 bare, 3 members, 4 found, 5 key, 6 trade, 7 room
    obtain ⟨b, d, es, l, wo, ba, rfl, hb, ho, q⟩ := h
    obtain ⟨dx, hbk⟩ := hb.bk
    refine ⟨_, rfl, b, dx, _, rfl, hbk, bF_no d (by decide +kernel), b, d, es, l, rfl, hb, ho, fun H1 pm s1 nm e1 => ?_⟩
    refine ⟨Nat.zero_le _, fun pf nf => ⟨_, _, rfl, ?_⟩⟩
    have s2 : Same H1 (upd H1 pf (.lst [])) := same_new nf
    have s02 := s1.trans s2
    have hb2 := hb.same s02
    refine ⟨_, rfl, b, dx, _, rfl, s02 _ _ hbk, bF_no d (by decide +kernel), b, d, es, l, rfl, hb2, ho, fun H3 pk s3 nk3 e3 => ?_⟩
    have nfH : H pf = none := s1.free nf
    have npf : pk ≠ pf := fun z => by rw [z, upd_same] at nk3; cases nk3
    refine ⟨pk, rfl, ⟨_, SqL.of e3⟩, for_list (K := K) (a := pk) (xs := NV (l.map fun t => t.key)) (fun i σ H4 => ∃ y5 y6 y7 vs, σ = [some (.ref b), some (oV wo), some (oV ba), some (.ref pm), some (.ref pf), y5, y6, y7] ∧ Same H1 H4 ∧ H4 pk = some (.lst (NV (l.map fun t => t.key))) ∧
        TupsW H4 pf vs ((arcsL (l.take i) wo ba).map (arowT (Vbchad.membersOf l)))) ⟨none, none, none, [], rfl, s2.trans s3, e3, TupsW.nil (s3 _ _ upd_same)⟩ ?_ ?_ ?_⟩
    · rintro i σ H4 _ ⟨y5, y6, y7, vs, _, _, k4, _⟩
      exact SqL.of k4
    · rintro i x σ H4 hx ⟨y5, y6, y7, vs, rfl, s4, k4, t4⟩
      obtain ⟨t, ht, rfl⟩ : ∃ t, l[i]? = some t ∧ x = .int (t.key : Nat) := by
        unfold NV at hx
        rw [List.getElem?_map, List.getElem?_map] at hx
        cases e : l[i]? with
        | none => rw [e] at hx; cases hx
        | some t => rw [e] at hx; exact ⟨t, rfl, (Option.some.inj hx).symm⟩
      have htl := List.mem_of_getElem? ht
      obtain ⟨a, ha⟩ := ho.mem.mp htl
      have hw := ho.wf t htl
      have hb4 := (hb.same (s1.trans s4)).rd
      obtain ⟨dx4, hbk4⟩ := hb4.bk
      obtain ⟨dt4, ht4⟩ := hb4.trs _ ha
      have hm1 : t.from_ ∈ Vbchad.membersOf l := SP.mem_members.mpr ⟨t, htl, .inl rfl⟩
      have hm2 : t.to ∈ Vbchad.membersOf l := SP.mem_members.mpr ⟨t, htl, .inr rfl⟩
      have hlen : vs.length < sizeLine := by
        rw [t4.len, List.length_map]
        have h1 := arcsL_len (l.take i) wo ba
        have h2 := ho.n40
        rw [List.length_take] at h1
        exact sz_lt (by omega)
      refine ⟨_, rfl, b, _, dx4, _, _, rfl, hbk4, T.cl_Book, T.n_Book_held, bF_held d, _, rfl, d, .ref a, rfl, hb4.get ho.keys ha, ?_⟩
      refine ⟨_, rfl, _, rfl, oV_scal _ _, _, rfl, ite2 (fun c => ?_) (fun c => ?_)⟩
      · have hB : ba = some t.key := of_decide_eq_true ((oV_eq _ _).symm.trans c)
        refine ⟨_, rfl, a, _, dt4, _, _, rfl, ht4, T.cl_Trade, T.n_Trade_amount, trF_amount t, ?_⟩
        have er : t.amount = Vbchad.room (bareT ba t) := by rw [bareT_room, if_pos hB]
        rw [er]
        refine ⟨_, rfl, _, rfl, oV_scal _ _, _, rfl, ite2 (fun c2 => ?_) (fun c2 => ?_)⟩
        rotate_left
        · have hW : wo = some t.key := not_ne c2
          refine ⟨_, _, _, vs, rfl, s4, k4, ?_⟩
          rw [arcsL_more ht, if_pos hW, List.append_nil]
          exact t4
        · have hW : ¬ wo = some t.key := is_ne c2
          refine ⟨_, rfl, .inl ⟨rfl, _, SqL.of t4.at_⟩, _, rfl, .inl ⟨rfl, _, s4.seq (SqL.of e1)⟩, _, rfl, a, _, dt4, _, _, rfl, ht4, T.cl_Trade, T.n_Trade_giver, trF_giver t, pm, _, _, _, _, rfl, rfl, s4.seq (SqL.of e1), rfl, nv_flat _, nv_idx hm1, nv_eq _, nv_first hm1, ?_⟩
          refine ⟨_, rfl, .inl ⟨rfl, _, s4.seq (SqL.of e1)⟩, _, rfl, a, _, dt4, _, _, rfl, ht4, T.cl_Trade, T.n_Trade_taker, trF_taker t, pm, _, _, _, _, rfl, rfl, s4.seq (SqL.of e1), rfl, nv_flat _, nv_idx hm2, nv_eq _, nv_first hm2, ?_⟩
          refine ⟨_, rfl, by show 3 ≤ sizeLine; decide, fun tp nt => ⟨pf, vs, _, rfl, rfl, (same_new nt) _ _ t4.at_, hlen, ?_⟩⟩
          refine ⟨_, _, _, vs ++ [.ref tp], rfl, (s4.trans (same_new nt)).mut nf, ?_, ?_⟩
          · rw [upd_ne npf]
            exact (same_new nt) _ _ k4
          · rw [arcsL_more ht, if_neg hW, List.map_append]
            have := t4.push (r := arowT (Vbchad.membersOf l) (bareT ba t)) nt
            unfold arowT at this
            rw [bareT_from, bareT_to] at this
            show TupsW _ _ _ (_ ++ [arowT (Vbchad.membersOf l) (bareT ba t)])
            unfold arowT
            rw [bareT_from, bareT_to]
            exact this
      · have hB : ¬ ba = some t.key := fun z => c ((oV_eq _ _).trans (decide_eq_true z))
        refine ⟨_, rfl, a, dt4, _, rfl, ht4, trF_room t, a, t, rfl, ⟨dt4, ht4⟩, hw.l1, ?_⟩
        have er : Vbchad.room t = Vbchad.room (bareT ba t) := by rw [bareT_room, if_neg hB]
        rw [er]
        refine ⟨_, rfl, _, rfl, oV_scal _ _, _, rfl, ite2 (fun c2 => ?_) (fun c2 => ?_)⟩
        rotate_left
        · have hW : wo = some t.key := not_ne c2
          refine ⟨_, _, _, vs, rfl, s4, k4, ?_⟩
          rw [arcsL_more ht, if_pos hW, List.append_nil]
          exact t4
        · have hW : ¬ wo = some t.key := is_ne c2
          refine ⟨_, rfl, .inl ⟨rfl, _, SqL.of t4.at_⟩, _, rfl, .inl ⟨rfl, _, s4.seq (SqL.of e1)⟩, _, rfl, a, _, dt4, _, _, rfl, ht4, T.cl_Trade, T.n_Trade_giver, trF_giver t, pm, _, _, _, _, rfl, rfl, s4.seq (SqL.of e1), rfl, nv_flat _, nv_idx hm1, nv_eq _, nv_first hm1, ?_⟩
          refine ⟨_, rfl, .inl ⟨rfl, _, s4.seq (SqL.of e1)⟩, _, rfl, a, _, dt4, _, _, rfl, ht4, T.cl_Trade, T.n_Trade_taker, trF_taker t, pm, _, _, _, _, rfl, rfl, s4.seq (SqL.of e1), rfl, nv_flat _, nv_idx hm2, nv_eq _, nv_first hm2, ?_⟩
          refine ⟨_, rfl, by show 3 ≤ sizeLine; decide, fun tp nt => ⟨pf, vs, _, rfl, rfl, (same_new nt) _ _ t4.at_, hlen, ?_⟩⟩
          refine ⟨_, _, _, vs ++ [.ref tp], rfl, (s4.trans (same_new nt)).mut nf, ?_, ?_⟩
          · rw [upd_ne npf]
            exact (same_new nt) _ _ k4
          · rw [arcsL_more ht, if_neg hW, List.map_append]
            have := t4.push (r := arowT (Vbchad.membersOf l) (bareT ba t)) nt
            unfold arowT at this
            rw [bareT_from, bareT_to] at this
            show TupsW _ _ _ (_ ++ [arowT (Vbchad.membersOf l) (bareT ba t)])
            unfold arowT
            rw [bareT_from, bareT_to]
            exact this
    · rintro σ H4 ⟨y5, y6, y7, vs, rfl, s4, k4, t4⟩
      rw [NV_len, List.length_map, List.take_length] at t4
      refine ⟨_, rfl, q _ pf (s1.trans s4) nfH ?_ ⟨_, t4.at_⟩⟩
      unfold ArcsAt
      rw [arows_eq]
      exact t4.tups
end
end St
end
section
set_option maxRecDepth 100000
set_option maxHeartbeats 4000000
namespace St
open PySem PySem.Spec PyProof.Rows L2 NT
theorem fitB {es : List En} {l : List Tr} (ho : BookOk es l) (wo ba : Option Nat) : Fit (SP.netI (Vbchad.membersOf l) (arcsL l wo ba)) (NV (Vbchad.membersOf l)).length where
  hm := Nat.le_trans (arcsL_len l wo ba) (by have := ho.n40; omega)
  hn := by rw [NV_len]; have := ho.m12; omega
  ends := by rw [NV_len]; exact SP.netI_ends arcsL_members
theorem rB {es : List En} {l : List Tr} (ho : BookOk es l) (wo ba : Option Nat) : ∀ i, i < (SP.netI (Vbchad.membersOf l) (arcsL l wo ba)).m → 0 ≤ (SP.netI (Vbchad.membersOf l) (arcsL l wo ba)).r i ∧ (SP.netI (Vbchad.membersOf l) (arcsL l wo ba)).r i ≤ 1000000000 := fun i hi => by
  obtain ⟨t, h1, h2⟩ := arcsL_mem (SP.tr_mem (l := arcsL l wo ba) hi)
  show 0 ≤ ((Vbchad.room (SP.tr (arcsL l wo ba) i) : Nat) : Int) ∧ ((Vbchad.room (SP.tr (arcsL l wo ba) i) : Nat) : Int) ≤ 1000000000
  rw [h2, bareT_room]
  have hw := ho.wf t h1
  have := hw.a2
  refine ⟨Int.natCast_nonneg _, ?_⟩
  split
  · omega
  · unfold Vbchad.room; omega
theorem NV_of {f : List Nat} {n : Nat} {x : Nat → Int} (hl : f.length = n) (h : ∀ i, i < n → x i = SP.fl f i) : Lst n x = NV f := by
  refine List.ext_getElem? fun i => ?_
  by_cases hi : i < n
  · rw [Lst_get hi, NV_get (List.getElem?_eq_getElem (hl ▸ hi)), h i hi]
    unfold SP.fl
    rw [List.getD_eq_getElem?_getD, List.getElem?_eq_getElem (hl ▸ hi)]
    rfl
  · rw [List.getElem?_eq_none (by rw [Lst_len]; omega), List.getElem?_eq_none (by rw [NV_len]; omega)]
theorem Lst_pf {p : List Int} {n : Nat} (hl : p.length = n) : Lst n (SP.pf p) = p.map V.int := by
  refine List.ext_getElem? fun i => ?_
  by_cases hi : i < n
  · rw [Lst_get hi, List.getElem?_map, List.getElem?_eq_getElem (hl ▸ hi)]
    unfold SP.pf
    rw [List.getD_eq_getElem?_getD, List.getElem?_eq_getElem (hl ▸ hi)]
    rfl
  · rw [List.getElem?_eq_none (by rw [Lst_len]; omega), List.getElem?_eq_none (by rw [List.length_map]; omega)]
theorem worthT {l : List Tr} {p : List Int} (hp : p.length = (Vbchad.membersOf l).length) (t : Tr) : 1 + SP.pf p ((Vbchad.membersOf l).idxOf t.from_) - SP.pf p ((Vbchad.membersOf l).idxOf t.to) = Vbchad.worthOf (Vbchad.membersOf l) p t := by
  unfold Vbchad.worthOf
  rw [SP.find_zip hp, SP.find_zip hp]
  unfold SP.pf
  omega
section
variable {P : Program} {w : World} {K : PySem.W.Frag} {mg : Str → Option Value} {base : Heap}
def sp_all_arcs (T : Tx K mg) : Sp := fun vs H Q _ => ∃ (b d : Addr) (es : List En) (l : List Tr), vs = [.ref b] ∧ BookAt T.C_Book T.C_Trade H b d es ∧ BookOk es l ∧
  ∀ H' p, Same H H' → H p = none → ArcsAt K H' p (SP.netI (Vbchad.membersOf l) (arcsL l none none)) → (∃ o, H' p = some o) → Q (.ref p) H'
theorem ok_Book_all_arcs (T : Tx K mg) : FnOk P w K mg base CX0 3 T.f_Book_all_arcs T.d_Book_all_arcs ["self"] (sp_all_arcs T) := by
  refine T.F_Book_all_arcs.ok sc_Book_all_arcs (fun vs H Q E h => ?_) (fun cdv A outer s H vs Q E hr h => ?_)
  · obtain ⟨b, d, es, l, rfl, _⟩ := h
    rfl
  · refine ⟨_, (pss_one (ps_ret (pe_meth (pv 0) T.cl_Book T.m_Book_arcs (ok_Book_arcs T) (hr.mono (by decide)) T.b_Book_arcs .nil pass0 (pa_cons pe_non (pa_cons pe_non pa_nil))))), ?_⟩
    -- slots: 0 self
    obtain ⟨b, d, es, l, rfl, hb, ho, q⟩ := h
    obtain ⟨dx, hbk⟩ := hb.bk
    exact ⟨_, rfl, b, dx, _, rfl, hbk, bF_no d (by decide +kernel), b, d, es, l, none, none, rfl, hb, ho, q⟩
def sp_total (T : Tx K mg) : Sp := fun vs H Q _ => ∃ (b d : Addr) (es : List En) (l : List Tr) (wo ba : Option Nat), vs = [.ref b, oV wo, oV ba] ∧ BookAt T.C_Book T.C_Trade H b d es ∧ BookOk es l ∧
  ∀ H', Same H H' → Q (.int (Vbchad.greatestOf (arcsL l wo ba) : Nat)) H'
theorem ok_Book_total (T : Tx K mg) : FnOk P w K mg base CX0 4 T.f_Book_total T.d_Book_total ["self", "without", "bare"] (sp_total T) := by
  refine T.F_Book_total.ok sc_Book_total (fun vs H Q E h => ?_) (fun cdv A outer s H vs Q E hr h => ?_)
  · obtain ⟨b, d, es, l, wo, ba, rfl, _⟩ := h
    rfl
  · refine ⟨_, (pss_one (ps_ret (pe_callB (cr_sum rfl) (by rfl) T.z_sum (by decide +kernel) (pa_cons (pe_call (ok_greatest_flow T) (hr.mono (by decide)) (by rfl) T.g_greatest_flow T.F_greatest_flow.kp T.b_greatest_flow .nil pass0 (pa_cons (pe_callB call_len_seq (by rfl) T.z_len (by decide +kernel) (pa_cons (pe_meth0 (pv 0) T.cl_Book T.m_Book_members (ok_Book_members T) (hr.mono (by decide)) T.b_Book_members .nil pass0) pa_nil)) (pa_cons (pe_meth (pv 0) T.cl_Book T.m_Book_arcs (ok_Book_arcs T) (hr.mono (by decide)) T.b_Book_arcs .nil pass0 (pa_cons (pv 1) (pa_cons (pv 2) pa_nil))) pa_nil))) pa_nil)))), ?_⟩
    -- slots: 0 self, 1 without, 2 bare
    obtain ⟨b, d, es, l, wo, ba, rfl, hb, ho, q⟩ := h
    obtain ⟨dx, hbk⟩ := hb.bk
    refine ⟨_, rfl, b, dx, _, rfl, hbk, bF_no d (by decide +kernel), b, d, es, l, rfl, hb, ho, fun H1 pm s1 n1 e1 => ?_⟩
    refine ⟨pm, _, rfl, .inl (SqL.of e1), ?_⟩
    refine ⟨_, rfl, b, dx, _, rfl, s1 _ _ hbk, bF_no d (by decide +kernel), _, rfl, _, rfl, b, d, es, l, wo, ba, rfl, hb.same s1, ho, fun H2 pa s2 n2 hA hoA => ?_⟩
    refine ⟨_, pa, _, rfl, fitB ho wo ba, hA, hoA, fun i hi => (rB ho wo ba i hi).1, fun H3 px x s3 n3 e3 ox => ?_⟩
    refine ⟨px, _, rfl, SqL.of e3, ?_⟩
    rw [Lst_sum]
    have e := SP.greatestOf_opt ((SP.iso_IK arcsL_members).opt ox)
    rw [← (SP.iso_IK arcsL_members).total x] at e
    have e2 : ((Vbchad.greatestOf (arcsL l wo ba) : Nat) : Int) = S (SP.netI (Vbchad.membersOf l) (arcsL l wo ba)).m x := e
    rw [← e2]
    exact q H3 (s1.trans (s2.trans s3))
def sp_greatest (T : Tx K mg) : Sp := fun vs H Q _ => ∃ (b d : Addr) (es : List En) (l : List Tr), vs = [.ref b] ∧ BookAt T.C_Book T.C_Trade H b d es ∧ BookOk es l ∧
  ∀ H', Same H H' → Q (.int (Vbchad.greatestOf l : Nat)) H'
theorem ok_Book_greatest (T : Tx K mg) : FnOk P w K mg base CX0 5 T.f_Book_greatest T.d_Book_greatest ["self"] (sp_greatest T) := by
  refine T.F_Book_greatest.ok sc_Book_greatest (fun vs H Q E h => ?_) (fun cdv A outer s H vs Q E hr h => ?_)
  · obtain ⟨b, d, es, l, rfl, _⟩ := h
    rfl
  · refine ⟨_, (pss_one (ps_ret (pe_meth (pv 0) T.cl_Book T.m_Book_total (ok_Book_total T) (hr.mono (by decide)) T.b_Book_total .nil pass0 (pa_cons pe_non (pa_cons pe_non pa_nil))))), ?_⟩
    -- slots: 0 self
    obtain ⟨b, d, es, l, rfl, hb, ho, q⟩ := h
    obtain ⟨dx, hbk⟩ := hb.bk
    exact ⟨_, rfl, b, dx, _, rfl, hbk, bF_no d (by decide +kernel), b, d, es, l, none, none, rfl, hb, ho, fun H' s => by rw [arcsL_all]; exact q H' s⟩
def sp_told (T : Tx K mg) : Sp := fun vs H Q _ => ∃ (b d : Addr) (es : List En) (l : List Tr), vs = [.ref b] ∧ BookAt T.C_Book T.C_Trade H b d es ∧ BookOk es l ∧
  ∀ H' p, Same H H' → H p = none → H' p = some (.lst (NV (Vbchad.told l))) → Q (.ref p) H'
theorem ok_Book_told (T : Tx K mg) : FnOk P w K mg base CX0 5 T.f_Book_told T.d_Book_told ["self"] (sp_told T) := by
  refine T.F_Book_told.ok sc_Book_told (fun vs H Q E h => ?_) (fun cdv A outer s H vs Q E hr h => ?_)
  · obtain ⟨b, d, es, l, rfl, _⟩ := h
    rfl
  · refine ⟨_, (pss_one (ps_ret (pe_call (ok_first_flow T) (hr.mono (by decide)) (by rfl) T.g_first_flow T.F_first_flow.kp T.b_first_flow .nil pass0 (pa_cons (pe_callB call_len_seq (by rfl) T.z_len (by decide +kernel) (pa_cons (pe_meth0 (pv 0) T.cl_Book T.m_Book_members (ok_Book_members T) (hr.mono (by decide)) T.b_Book_members .nil pass0) pa_nil)) (pa_cons (pe_meth0 (pv 0) T.cl_Book T.m_Book_all_arcs (ok_Book_all_arcs T) (hr.mono (by decide)) T.b_Book_all_arcs .nil pass0) pa_nil))))), ?_⟩
    -- slots: 0 self
    obtain ⟨b, d, es, l, rfl, hb, ho, q⟩ := h
    obtain ⟨dx, hbk⟩ := hb.bk
    refine ⟨_, rfl, b, dx, _, rfl, hbk, bF_no d (by decide +kernel), b, d, es, l, rfl, hb, ho, fun H1 pm s1 n1 e1 => ?_⟩
    refine ⟨pm, _, rfl, .inl (SqL.of e1), ?_⟩
    refine ⟨_, rfl, b, dx, _, rfl, s1 _ _ hbk, bF_no d (by decide +kernel), b, d, es, l, rfl, hb.same s1, ho, fun H2 pa s2 n2 hA hoA => ?_⟩
    refine ⟨_, pa, _, rfl, fitB ho none none, hA, hoA, fun i hi => (rB ho none none i hi).1, fun H3 px x s3 n3 e3 ox => ?_⟩
    have s12 := s1.trans s2
    refine q H3 px (s12.trans s3) (s12.free n3) ?_
    rw [e3]
    have ox2 := (SP.iso_IK arcsL_members).lexMax ox
    rw [arcsL_all] at ox2 ⊢
    exact congrArg (fun z => some (HO.lst z)) (NV_of (SP.told_lexMax l).2 (SP.told_eq ox2))
def sp_potentials (T : Tx K mg) : Sp := fun vs H Q _ => ∃ (b d : Addr) (es : List En) (l : List Tr), vs = [.ref b] ∧ BookAt T.C_Book T.C_Trade H b d es ∧ BookOk es l ∧
  ∀ H' p, Same H H' → H p = none → H' p = some (.lst ((Vbchad.potentials l).map V.int)) → Q (.ref p) H'
theorem ok_Book_potentials (T : Tx K mg) : FnOk P w K mg base CX0 4 T.f_Book_potentials T.d_Book_potentials ["self"] (sp_potentials T) := by
  refine T.F_Book_potentials.ok sc_Book_potentials (fun vs H Q E h => ?_) (fun cdv A outer s H vs Q E hr h => ?_)
  · obtain ⟨b, d, es, l, rfl, _⟩ := h
    rfl
  · refine ⟨_, (pss_cons (ps_par (i := 1) (j := 2) (by rfl) sc_Book_potentials.nd rfl rfl (by decide) rfl rfl (pa_cons (pe_callB call_len_seq (by rfl) T.z_len (by decide +kernel) (pa_cons (pe_meth0 (pv 0) T.cl_Book T.m_Book_members (ok_Book_members T) (hr.mono (by decide)) T.b_Book_members .nil pass0) pa_nil)) (pa_cons (pe_meth0 (pv 0) T.cl_Book T.m_Book_all_arcs (ok_Book_all_arcs T) (hr.mono (by decide)) T.b_Book_all_arcs .nil pass0) pa_nil)) (by rfl))
      (pss_one (ps_ret (pe_call (ok_least_potentials T) (hr.mono (by decide)) (by rfl) T.g_least_potentials T.F_least_potentials.kp T.b_least_potentials .nil pass0 (pa_cons (pv 1) (pa_cons (pv 2) (pa_cons (pe_call (ok_greatest_flow T) (hr.mono (by decide)) (by rfl) T.g_greatest_flow T.F_greatest_flow.kp T.b_greatest_flow .nil pass0 (pa_cons (pv 1) (pa_cons (pv 2) pa_nil))) pa_nil))))))), ?_⟩
    -- slots: 0 self, 1 many, 2 arcs
    obtain ⟨b, d, es, l, rfl, hb, ho, q⟩ := h
    obtain ⟨dx, hbk⟩ := hb.bk
    refine ⟨_, rfl, b, dx, _, rfl, hbk, bF_no d (by decide +kernel), b, d, es, l, rfl, hb, ho, fun H1 pm s1 n1 e1 => ?_⟩
    refine ⟨pm, _, rfl, .inl (SqL.of e1), ?_⟩
    refine ⟨_, rfl, b, dx, _, rfl, s1 _ _ hbk, bF_no d (by decide +kernel), b, d, es, l, rfl, hb.same s1, ho, fun H2 pa s2 n2 hA hoA => ⟨_, _, rfl, ?_⟩⟩
    refine ⟨_, rfl, _, rfl, _, rfl, _, rfl, _, pa, _, rfl, fitB ho none none, hA, hoA, fun i hi => (rB ho none none i hi).1, fun H3 px x s3 n3 e3 ox => ?_⟩
    have hl2 := leastPot_ex (fitB ho none none).ends ox.feas
    obtain ⟨p, lp⟩ := hl2
    refine ⟨_, pa, px, _, x, p, rfl, fitB ho none none, s3.tups hA, SqL.of e3, lp, fun H4 pr s4 n4 e4 => ?_⟩
    have s13 := s1.trans (s2.trans s3)
    refine q H4 pr (s13.trans s4) (s13.free n4) ?_
    rw [e4]
    rw [arcsL_all, NV_len] at lp
    rw [arcsL_all] at ox
    rw [SP.potentials_eq ox lp, NV_len]
    rfl
def sp_worth (T : Tx K mg) : Sp := fun vs H Q _ => ∃ (b d : Addr) (es : List En) (l : List Tr) (t : Tr), vs = [.ref b, .int (t.key : Nat)] ∧ t ∈ l ∧ BookAt T.C_Book T.C_Trade H b d es ∧ BookOk es l ∧
  ∀ H', Same H H' → Q (.int (Vbchad.worthOf (Vbchad.membersOf l) (Vbchad.potentials l) t)) H'
theorem ok_Book_worth (T : Tx K mg) : FnOk P w K mg base CX0 5 T.f_Book_worth T.d_Book_worth ["self", "key"] (sp_worth T) := by
  refine T.F_Book_worth.ok sc_Book_worth (fun vs H Q E h => ?_) (fun cdv A outer s H vs Q E hr h => ?_)
  · obtain ⟨b, d, es, l, t, rfl, _⟩ := h
    rfl
  · refine ⟨_, (pss_cons (ps_par (i := 2) (j := 3) (by rfl) sc_Book_worth.nd rfl rfl (by decide) rfl rfl (pa_cons (pe_meth0 (pv 0) T.cl_Book T.m_Book_members (ok_Book_members T) (hr.mono (by decide)) T.b_Book_members .nil pass0) (pa_cons (pe_dget (hu_of hr) (pe_fld (pv 0) rfl) (pv 1) (fun _ _ => rfl)) pa_nil)) (by rfl))
      (pss_one (ps_ret (pe_call (ok_worth_of T) (hr.mono (by decide)) (by rfl) T.g_worth_of T.F_worth_of.kp T.b_worth_of .nil pass0 (pa_cons (pe_meth0 (pv 0) T.cl_Book T.m_Book_potentials (ok_Book_potentials T) (hr.mono (by decide)) T.b_Book_potentials .nil pass0) (pa_cons (pe_bm PySem.F.plainAttrs_list PySem.F.slot_list_index PySem.F.type_list_index mt_index (pv 2) (pa_cons (pe_fld (pv 3) rfl) pa_nil)) (pa_cons (pe_bm PySem.F.plainAttrs_list PySem.F.slot_list_index PySem.F.type_list_index mt_index (pv 2) (pa_cons (pe_fld (pv 3) rfl) pa_nil)) pa_nil))))))), ?_⟩
    -- slots: 0 self, 1 key, 2 members, 3 trade
    obtain ⟨b, d, es, l, t, rfl, htl, hb, ho, q⟩ := h
    obtain ⟨dx, hbk⟩ := hb.bk
    obtain ⟨a, ha⟩ := ho.mem.mp htl
    refine ⟨_, rfl, b, dx, _, rfl, hbk, bF_no d (by decide +kernel), b, d, es, l, rfl, hb, ho, fun H1 pm s1 n1 e1 => ?_⟩
    have hb1 := hb.same s1
    refine ⟨_, rfl, b, _, dx, _, _, rfl, s1 _ _ hbk, T.cl_Book, T.n_Book_held, bF_held d, _, rfl, d, .ref a, rfl, hb1.rd.get ho.keys ha, ⟨_, _, rfl, ?_⟩⟩
    refine ⟨_, rfl, b, dx, _, rfl, s1 _ _ hbk, bF_no d (by decide +kernel), b, d, es, l, rfl, hb1, ho, fun H2 pp s2 n2 e2 => ?_⟩
    have hb2 := hb1.same s2
    obtain ⟨dt2, ht2⟩ := hb2.trs _ ha
    have hm1 : t.from_ ∈ Vbchad.membersOf l := SP.mem_members.mpr ⟨t, htl, .inl rfl⟩
    have hm2 : t.to ∈ Vbchad.membersOf l := SP.mem_members.mpr ⟨t, htl, .inr rfl⟩
    have e1' := s2 _ _ e1
    refine ⟨_, rfl, .inl ⟨rfl, _, SqL.of e1'⟩, _, rfl, a, _, dt2, _, _, rfl, ht2, T.cl_Trade, T.n_Trade_giver, trF_giver t, pm, _, _, _, _, rfl, rfl, SqL.of e1', rfl, nv_flat _, nv_idx hm1, nv_eq _, nv_first hm1, ?_⟩
    refine ⟨_, rfl, .inl ⟨rfl, _, SqL.of e1'⟩, _, rfl, a, _, dt2, _, _, rfl, ht2, T.cl_Trade, T.n_Trade_taker, trF_taker t, pm, _, _, _, _, rfl, rfl, SqL.of e1', rfl, nv_flat _, nv_idx hm2, nv_eq _, nv_first hm2, ?_⟩
    refine ⟨pp, (Vbchad.membersOf l).length, SP.pf (Vbchad.potentials l), _, _, rfl, ?_, List.idxOf_lt_length_iff.mpr hm1, List.idxOf_lt_length_iff.mpr hm2, ?_⟩
    · rw [Lst_pf (SP.potentials_length l)]
      exact SqL.of e2
    · rw [worthT (SP.potentials_length l)]
      exact q H2 (s1.trans s2)
def sp_bound (T : Tx K mg) : Sp := fun vs H Q _ => ∃ (b d pp : Addr) (es : List En) (l : List Tr) (p : List Int), vs = [.ref b, .ref pp] ∧ BookAt T.C_Book T.C_Trade H b d es ∧ BookOk es l ∧ SqL K H pp (p.map V.int) ∧ p.length = (Vbchad.membersOf l).length ∧
  ∀ H', Same H H' → Q (.int (Vbchad.boundOf l p)) H'
theorem ok_Book_bound (T : Tx K mg) : FnOk P w K mg base CX0 4 T.f_Book_bound T.d_Book_bound ["self", "potentials"] (sp_bound T) := by
  refine T.F_Book_bound.ok sc_Book_bound (fun vs H Q E h => ?_) (fun cdv A outer s H vs Q E hr h => ?_)
  · obtain ⟨b, d, pp, es, l, p, rfl, _⟩ := h
    rfl
  · refine ⟨_, (pss_one (ps_ret (pe_call (ok_bound_of T) (hr.mono (by decide)) (by rfl) T.g_bound_of T.F_bound_of.kp T.b_bound_of .nil pass0 (pa_cons (pv 1) (pa_cons (pe_meth0 (pv 0) T.cl_Book T.m_Book_all_arcs (ok_Book_all_arcs T) (hr.mono (by decide)) T.b_Book_all_arcs .nil pass0) pa_nil))))), ?_⟩
    -- slots: 0 self, 1 potentials
    obtain ⟨b, d, pp, es, l, p, rfl, hb, ho, hp, hl, q⟩ := h
    obtain ⟨dx, hbk⟩ := hb.bk
    refine ⟨_, rfl, _, rfl, b, dx, _, rfl, hbk, bF_no d (by decide +kernel), b, d, es, l, rfl, hb, ho, fun H1 pa s1 n1 hA hoA => ?_⟩
    refine ⟨pp, pa, _, _, SP.pf p, rfl, fitB ho none none, ?_, hA, rB ho none none, ?_⟩
    · rw [NV_len, Lst_pf hl]
      exact s1.seq hp
    · rw [arcsL_all, ← SP.boundOf_eq hl]
      exact q H1 s1
end
end St
end
section
set_option maxRecDepth 100000
set_option maxHeartbeats 4000000
namespace St
open PySem PySem.Spec PyProof.Rows L2 NT
section
variable {K : PySem.W.Frag} {tt : TT} {te : TE} {vs : List Nat} {σ : L2.St} {B : Hp} {D : Addr} {Qd : Hp → Prop} {g : TG} {out : List V}
theorem lc_step {i : Nat} {y : V} {H : Hp} (nD : B D = none) (hsz : out.length ≤ sizeLine) (hy : out[i]? = some y) (s : Same B H) (e : H D = some (.lst (out.take i))) : ∃ acc, H D = some (.lst acc) ∧ acc.length < sizeLine ∧ Same B (upd H D (.lst (acc ++ [y]))) ∧ (upd H D (.lst (acc ++ [y]))) D = some (.lst (out.take (i + 1))) := by
  have hi : i < out.length := (List.getElem?_eq_some_iff.mp hy).1
  refine ⟨_, e, ?_, s.mut nD, ?_⟩
  · rw [List.length_take]
    exact Nat.lt_of_lt_of_le (by omega) hsz
  · rw [upd_same, take_more hy]
/-- [.. for x in xs], nothing but new objects -/
theorem lc_map {a : Addr} {xs : List V} (nD : B D = none) (hl : SqL K B a xs) (hsz : out.length ≤ sizeLine) (hlen : out.length = xs.length)
    (hs : ∀ (i : Nat) (x y : V) (H : Hp) (Q : VK) (R : Hp → Prop), xs[i]? = some x → out[i]? = some y → Same B H → (∀ H', Same H H' → Q y H') → g x (wipe σ vs) H fun σ2 H2 => wipe σ2 vs = wipe σ vs ∧ tt σ2 H2 fun b H3 => if b = true then te σ2 H3 Q else R H3)
    (hd : ∀ H, Same B H → H D = some (.lst out) → Qd H) :
    ∃ W : Nat → Nat → Hp → Prop, (∃ m, W 0 m (upd B D (.lst []))) ∧ ∀ i m H, W i m H →
      ((Itl K a).stop i H ∧ Qd H) ∨ ((Itl K a).go i H ∧ ∃ Nx : Hp → Prop, (∀ H', Nx H' → ∃ m', m' < m ∧ W (i + 1) m' H') ∧ ∀ x H', (Itl K a).yld i H x H' → g x (wipe σ vs) H' fun σ2 H2 => wipe σ2 vs = wipe σ vs ∧ tt σ2 H2 fun b H3 =>
        if b = true then te σ2 H3 fun y H4 => ∃ acc, H4 D = some (.lst acc) ∧ acc.length < sizeLine ∧ Nx (upd H4 D (.lst (acc ++ [y]))) else Nx H3) := by
  refine lc_list (K := K) (a := a) (xs := xs) (fun i H => Same B H ∧ H D = some (.lst (out.take i))) ⟨same_new nD, upd_same⟩ (fun i H _ p => p.1.seq hl) (fun i x H hx p => ?_) (fun H p => ?_)
  · have hi : i < out.length := by rw [hlen]; exact (List.getElem?_eq_some_iff.mp hx).1
    have hy := List.getElem?_eq_getElem hi
    exact hs i x _ H _ _ hx hy p.1 fun H' s' => lc_step nD hsz hy (p.1.trans s') (s' _ _ p.2)
  · refine hd H p.1 ?_
    rw [p.2, ← hlen, List.take_length]
theorem lc_mapZ {a b : Addr} {xs ys : List V} (nD : B D = none) (ha : SqL K B a xs) (hb : SqL K B b ys) (hsz : out.length ≤ sizeLine) (hlen : out.length = xs.length) (hlen2 : xs.length = ys.length)
    (hs : ∀ (i : Nat) (x1 x2 y : V) (T : Addr) (H : Hp) (Q : VK) (R : Hp → Prop), xs[i]? = some x1 → ys[i]? = some x2 → out[i]? = some y → Same B H → H T = some (.tup [x1, x2]) → (∀ H', Same H H' → Q y H') → g (.ref T) (wipe σ vs) H fun σ2 H2 => wipe σ2 vs = wipe σ vs ∧ tt σ2 H2 fun b H3 => if b = true then te σ2 H3 Q else R H3)
    (hd : ∀ H, Same B H → H D = some (.lst out) → Qd H) :
    ∃ W : Nat → Nat → Hp → Prop, (∃ m, W 0 m (upd B D (.lst []))) ∧ ∀ i m H, W i m H →
      ((Itz K a b).stop i H ∧ Qd H) ∨ ((Itz K a b).go i H ∧ ∃ Nx : Hp → Prop, (∀ H', Nx H' → ∃ m', m' < m ∧ W (i + 1) m' H') ∧ ∀ x H', (Itz K a b).yld i H x H' → g x (wipe σ vs) H' fun σ2 H2 => wipe σ2 vs = wipe σ vs ∧ tt σ2 H2 fun b H3 =>
        if b = true then te σ2 H3 fun y H4 => ∃ acc, H4 D = some (.lst acc) ∧ acc.length < sizeLine ∧ Nx (upd H4 D (.lst (acc ++ [y]))) else Nx H3) := by
  refine ⟨fun i m H => m = xs.length - i ∧ i ≤ xs.length ∧ Same B H ∧ H D = some (.lst (out.take i)), ⟨xs.length, by simp, Nat.zero_le _, same_new nD, upd_same⟩, ?_⟩
  rintro i m H ⟨rfl, hi, s, e⟩
  by_cases hlt : i < xs.length
  · refine .inr ⟨⟨xs, ys, xs[i], ys[i]'(hlen2 ▸ hlt), s.seq ha, s.seq hb, List.getElem?_eq_getElem hlt, List.getElem?_eq_getElem (hlen2 ▸ hlt)⟩, fun H => Same B H ∧ H D = some (.lst (out.take (i + 1))), fun H' p' => ⟨xs.length - (i + 1), by omega, rfl, hlt, p'⟩, fun v H' y => ?_⟩
    obtain ⟨T, x', y', rfl, hT, rfl, f1, f2⟩ := y
    have hy := List.getElem?_eq_getElem (show i < out.length by omega)
    have sT := same_new (o := .tup [x', y']) hT
    exact hs i x' y' _ T _ _ _ (f1 xs (s.seq ha)) (f2 ys (s.seq hb)) hy (s.trans sT) upd_same fun H' s' => lc_step nD hsz hy (s.trans (sT.trans s')) (s' _ _ (sT _ _ e))
  · have q : i = xs.length := by omega
    subst q
    refine .inl ⟨⟨xs, ys, s.seq ha, s.seq hb, Or.inl (Nat.le_refl _)⟩, hd H s ?_⟩
    rw [e, ← hlen, List.take_length]
theorem lc_mapK {d : Addr} {o : Obj} {kvs : List (Key × V)} (nD : B D = none) (hl : B d = some (.frz o (.dK kvs))) (hsz : out.length ≤ sizeLine) (hlen : out.length = kvs.length)
    (hs : ∀ (i : Nat) (k : Key) (v y : V) (H : Hp) (Q : VK) (R : Hp → Prop), kvs[i]? = some (k, v) → out[i]? = some y → Same B H → (∀ H', Same H H' → Q y H') → g (kV k) (wipe σ vs) H fun σ2 H2 => wipe σ2 vs = wipe σ vs ∧ tt σ2 H2 fun b H3 => if b = true then te σ2 H3 Q else R H3)
    (hd : ∀ H, Same B H → H D = some (.lst out) → Qd H) :
    ∃ W : Nat → Nat → Hp → Prop, (∃ m, W 0 m (upd B D (.lst []))) ∧ ∀ i m H, W i m H →
      ((Itk d o kvs).stop i H ∧ Qd H) ∨ ((Itk d o kvs).go i H ∧ ∃ Nx : Hp → Prop, (∀ H', Nx H' → ∃ m', m' < m ∧ W (i + 1) m' H') ∧ ∀ x H', (Itk d o kvs).yld i H x H' → g x (wipe σ vs) H' fun σ2 H2 => wipe σ2 vs = wipe σ vs ∧ tt σ2 H2 fun b H3 =>
        if b = true then te σ2 H3 fun y H4 => ∃ acc, H4 D = some (.lst acc) ∧ acc.length < sizeLine ∧ Nx (upd H4 D (.lst (acc ++ [y]))) else Nx H3) := by
  refine lc_keys (d := d) (o := o) (kvs := kvs) (fun i H => Same B H ∧ H D = some (.lst (out.take i))) ⟨same_new nD, upd_same⟩ (fun i H _ p => p.1 _ _ hl) (fun i k v H hx p => ?_) (fun H p => ?_)
  · have hi : i < out.length := by rw [hlen]; exact (List.getElem?_eq_some_iff.mp hx).1
    have hy := List.getElem?_eq_getElem hi
    exact hs i k v _ H _ _ hx hy p.1 fun H' s' => lc_step nD hsz hy (p.1.trans s') (s' _ _ p.2)
  · refine hd H p.1 ?_
    rw [p.2, ← hlen, List.take_length]
/-- [x for x in xs if ..] -/
theorem lc_sift {a : Addr} {xs : List V} {keep : Nat → Bool} (nD : B D = none) (hl : SqL K B a xs) (hsz : xs.length ≤ sizeLine)
    (hs : ∀ (i : Nat) (x : V) (H : Hp) (Q : VK) (R : Hp → Prop), xs[i]? = some x → Same B H → (keep i = true → ∀ H', Same H H' → Q x H') → (keep i = false → ∀ H', Same H H' → R H') → g x (wipe σ vs) H fun σ2 H2 => wipe σ2 vs = wipe σ vs ∧ tt σ2 H2 fun b H3 => if b = true then te σ2 H3 Q else R H3)
    (hd : ∀ H ys, Same B H → H D = some (.lst ys) → ys = ((xs.zipIdx).filter fun x => keep x.2).map (fun x => x.1) → Qd H) :
    ∃ W : Nat → Nat → Hp → Prop, (∃ m, W 0 m (upd B D (.lst []))) ∧ ∀ i m H, W i m H →
      ((Itl K a).stop i H ∧ Qd H) ∨ ((Itl K a).go i H ∧ ∃ Nx : Hp → Prop, (∀ H', Nx H' → ∃ m', m' < m ∧ W (i + 1) m' H') ∧ ∀ x H', (Itl K a).yld i H x H' → g x (wipe σ vs) H' fun σ2 H2 => wipe σ2 vs = wipe σ vs ∧ tt σ2 H2 fun b H3 =>
        if b = true then te σ2 H3 fun y H4 => ∃ acc, H4 D = some (.lst acc) ∧ acc.length < sizeLine ∧ Nx (upd H4 D (.lst (acc ++ [y]))) else Nx H3) := by
  refine lc_list (K := K) (a := a) (xs := xs) (fun i H => Same B H ∧ H D = some (.lst ((((xs.zipIdx).take i).filter fun x => keep x.2).map (fun x => x.1)))) ⟨same_new nD, upd_same⟩ (fun i H _ p => p.1.seq hl) (fun i x H hx p => ?_) (fun H p => ?_)
  · have hz : (xs.zipIdx)[i]? = some (x, i) := by rw [List.getElem?_zipIdx, hx]; simp
    have hi : i < xs.length := (List.getElem?_eq_some_iff.mp hx).1
    refine hs i x H _ _ hx p.1 (fun hk H' s' => ⟨_, s' _ _ p.2, ?_, (p.1.trans s').mut nD, ?_⟩) fun hk H' s' => ⟨p.1.trans s', ?_⟩
    · rw [List.length_map]
      refine Nat.lt_of_le_of_lt (List.length_filter_le _ _) ?_
      rw [List.length_take, List.length_zipIdx]
      exact Nat.lt_of_lt_of_le (by omega) hsz
    · rw [upd_same, take_more hz, List.filter_append, List.map_append, List.filter_cons_of_pos (by exact hk)]
      rfl
    · rw [s' _ _ p.2, take_more hz, List.filter_append, List.filter_cons_of_neg (by simp [hk])]
      simp
  · refine hd H _ p.1 p.2 ?_
    rw [List.take_of_length_le (by rw [List.length_zipIdx]; exact Nat.le_refl _)]
end
end St
end
section
set_option maxRecDepth 100000
set_option maxHeartbeats 4000000
namespace St
open PySem PySem.Spec PyProof.Rows L2 NT
theorem NV_Lst {f : List Nat} {n : Nat} (hl : f.length = n) : Lst n (SP.fl f) = NV f := NV_of hl fun _ _ => rfl
theorem NV_getF {f : List Nat} {i : Nat} (hi : i < f.length) : (NV f)[i]? = some (.int (SP.fl f i)) := by
  rw [← NV_Lst (f := f) rfl]
  exact Lst_get hi
section
variable {P : Program} {w : World} {K : PySem.W.Frag} {mg : Str → Option Value} {base : Heap}
def sp_is_reduction (T : Tx K mg) : Sp := fun vs H Q _ => ∃ (b d pn : Addr) (es : List En) (l : List Tr) (f : List Nat), vs = [.ref b, .ref pn] ∧ BookAt T.C_Book T.C_Trade H b d es ∧ BookOk es l ∧ SqL K H pn (NV f) ∧ f.length = l.length ∧
  ∀ H', Same H H' → Q (.bl (Vbchad.isReduction l f)) H'
theorem ok_Book_is_reduction (T : Tx K mg) : FnOk P w K mg base CX0 4 T.f_Book_is_reduction T.d_Book_is_reduction ["self", "numbers"] (sp_is_reduction T) := by
  refine T.F_Book_is_reduction.ok sc_Book_is_reduction (fun vs H Q E h => ?_) (fun cdv A outer s H vs Q E hr h => ?_)
  · obtain ⟨b, d, pn, es, l, f, rfl, _⟩ := h
    rfl
  · refine ⟨_, (pss_cons (ps_set (i := 2) sc_Book_is_reduction.nd rfl (.inl rfl) (pe_meth0 (pv 0) T.cl_Book T.m_Book_all_arcs (ok_Book_all_arcs T) (hr.mono (by decide)) T.b_Book_all_arcs .nil pass0))
      (pss_cons (ps_if (pt_not (pt_val (pe_callB (cr_all rfl) (by rfl) T.z_all (by decide +kernel) (pa_cons (pe_lc (own := [("number", 3), ("arc", 4)]) (by rfl) sc_Book_is_reduction.nd (pi_zip (by rfl) T.z_zip (pa_cons (pv 1) (pa_cons (pv 2) pa_nil))) (blkOk_by (own := [("number", 3), ("arc", 4)]) (N := N_Book_is_reduction) (sc := defScope s_Book_is_reduction) (by decide +kernel)) (fun _ _ _ _ _ => (pg_tupK (K := K) (n := 2) rfl (by rfl) (pgs_cons (pg_name (i := 3) sc_Book_is_reduction.nd rfl (.inl rfl)) (pgs_cons (pg_name (i := 4) sc_Book_is_reduction.nd rfl (.inl rfl)) pgs_nil)))) (fun _ _ _ _ _ => pts_nil) (fun _ _ _ _ _ => (pe_chain op_le op_le pe_int (pv 3) (pe_ix (ix_tupK (K := K) rfl) (pv 4) pe_int (fun _ _ => rfl))))) pa_nil))))
      (pss_one (ps_ret pe_bl))
      pss_nil)
      (pss_one (ps_ret (pe_callB (cr_all rfl) (by rfl) T.z_all (by decide +kernel) (pa_cons (pe_lc (own := [("excess", 5)]) (by rfl) sc_Book_is_reduction.nd (pi_list (pe_call (ok_excesses T) (hr.mono (by decide)) (by rfl) T.g_excesses T.F_excesses.kp T.b_excesses .nil pass0 (pa_cons (pe_callB call_len_seq (by rfl) T.z_len (by decide +kernel) (pa_cons (pe_meth0 (pv 0) T.cl_Book T.m_Book_members (ok_Book_members T) (hr.mono (by decide)) T.b_Book_members .nil pass0) pa_nil)) (pa_cons (pv 2) (pa_cons (pv 1) pa_nil))))) (blkOk_by (own := [("excess", 5)]) (N := N_Book_is_reduction) (sc := defScope s_Book_is_reduction) (by decide +kernel)) (fun _ _ _ _ _ => (pg_name (i := 5) sc_Book_is_reduction.nd rfl (.inl rfl))) (fun _ _ _ _ _ => pts_nil) (fun _ _ _ _ _ => (pe_cmpR op_eq (pv 5) pe_int (nomark _)))) pa_nil)))))), ?_⟩
    -- slots: 0 self, 1 numbers, 2 arcs, 3 number, 4 arc, 5 excess
    obtain ⟨b, d, pn, es, l, f, rfl, hb, ho, hn, hl, q⟩ := h
    obtain ⟨dx, hbk⟩ := hb.bk
    refine ⟨_, rfl, b, dx, _, rfl, hbk, bF_no d (by decide +kernel), b, d, es, l, rfl, hb, ho, fun H1 pa s1 n1 hA hoA => ?_⟩
    have hm : (SP.netI (Vbchad.membersOf l) (arcsL l none none)).m = l.length := by rw [arcsL_all]; rfl
    have hfit := fitB ho none none
    have hiso := (SP.iso_IK (l := arcsL l none none) (ms := Vbchad.membersOf l) arcsL_members)
    rw [arcsL_all] at hiso
    have hred := SP.isReduction_iff hl
    rw [show arcsL l none none = l from arcsL_all l] at hA hfit
    obtain ⟨va, a1, a2, a3⟩ := id hA
    have hva : va.length = l.length := by rw [a2]; simp; rfl
    have hl40 := ho.n40
    refine ⟨_, rfl, _, rfl, pn, pa, NV f, va, rfl, s1.seq hn, a1, fun D nD => lc_mapZ (K := K) (a := pn) (b := pa) (xs := NV f) (ys := va) (out := (((List.range l.length).map fun i => decide (0 ≤ SP.fl f i ∧ SP.fl f i ≤ (SP.netI (Vbchad.membersOf l) l).r i)).map V.bl)) nD (s1.seq hn) a1
      (sz_of (by simp; omega)) (by rw [NV_len]; simp [hl]) (by rw [NV_len, hva, hl]) ?_ ?_⟩
    · rintro i x1 x2 y Tt H2 Q2 R2 hx1 hx2 hy s2 ht2 qq
      have hi : i < l.length := by rw [← hva]; exact (List.getElem?_eq_some_iff.mp hx2).1
      rw [NV_getF (hl ▸ hi)] at hx1
      obtain rfl := Option.some.inj hx1
      obtain ⟨t, t1, t2⟩ := a3 i _ (arow_get (A := SP.netI (Vbchad.membersOf l) l) hi)
      rw [hx2] at t1
      cases t1
      rw [List.getElem?_map, List.getElem?_map, List.getElem?_range hi] at hy
      obtain rfl := Option.some.inj hy
      refine ⟨Tt, _, rfl, SqT.of ht2, rfl, _, _, rfl, _, _, rfl, rfl, rfl, tyes ?_⟩
      refine ⟨_, rfl, _, _, rfl, rfl, _, rfl, ite2 (fun c => ?_) (fun c => ?_)⟩
      · have c : 0 ≤ SP.fl f i := of_decide_eq_true c
        refine ⟨_, rfl, t, _, _, _, rfl, rfl, s2.tup t2, atI_nat (j := 2) rfl, _, _, rfl, rfl, ?_⟩
        have e : decide (SP.fl f i ≤ (SP.netI (Vbchad.membersOf l) l).r i) = decide (0 ≤ SP.fl f i ∧ SP.fl f i ≤ (SP.netI (Vbchad.membersOf l) l).r i) := by
          rw [Bool.eq_iff_iff]
          simp [c]
        show Q2 (.bl (decide (SP.fl f i ≤ (SP.netI (Vbchad.membersOf l) l).r i))) H2
        rw [e]
        exact qq H2 (Same.refl _)
      · have c : ¬ 0 ≤ SP.fl f i := fun z => c (decide_eq_true z)
        have e : false = decide (0 ≤ SP.fl f i ∧ SP.fl f i ≤ (SP.netI (Vbchad.membersOf l) l).r i) := (decide_eq_false fun z => c z.1).symm
        show Q2 (.bl false) H2
        rw [e]
        exact qq H2 (Same.refl _)
    · intro H2 s2 e2
      refine ⟨D, _, rfl, SqL.of e2, _, rfl, ?_⟩
      have s12 := s1.trans s2
      refine ite2 (fun c => ?_) (fun c => ?_)
      · have nB : ¬ Bd (SP.netK l) (SP.fl f) := fun z => by
          have : (((List.range l.length).map fun i => decide (0 ≤ SP.fl f i ∧ SP.fl f i ≤ (SP.netI (Vbchad.membersOf l) l).r i)).all id) = true := by
            rw [List.all_map, List.all_eq_true]
            intro i hi
            exact decide_eq_true (z i (List.mem_range.mp hi))
          rw [this] at c
          cases c
        have e : Vbchad.isReduction l f = false := by
          rw [← Bool.not_eq_true, hred]
          exact fun z => nB z.1
        rw [← e]
        exact q H2 s12
      · have hB : Bd (SP.netI (Vbchad.membersOf l) l) (SP.fl f) := fun i hi => by
          have c2 : (((List.range l.length).map fun i => decide (0 ≤ SP.fl f i ∧ SP.fl f i ≤ (SP.netI (Vbchad.membersOf l) l).r i)).all id) = true := by simpa using c
          rw [List.all_map, List.all_eq_true] at c2
          exact of_decide_eq_true (c2 i (List.mem_range.mpr hi))
        -- return all([excess == 0 for excess in ..])
        refine ⟨_, rfl, b, dx, _, rfl, s12 _ _ hbk, bF_no d (by decide +kernel), b, d, es, l, rfl, hb.same s12, ho, fun H3 pm s3 n3 e3 => ?_⟩
        have s23 := s2.trans s3
        have s13 := s1.trans s23
        refine ⟨pm, _, rfl, .inl (SqL.of e3), _, rfl, _, rfl, _, pa, pn, SP.netI (Vbchad.membersOf l) l, SP.fl f, rfl, hfit, s23.tups hA, ?_, fun H4 pe s4 n4 e4 => ⟨pe, rfl, ⟨_, SqL.of e4⟩, fun D2 nD2 => ?_⟩⟩
        · rw [show (SP.netI (Vbchad.membersOf l) l).m = l.length from rfl, NV_Lst hl]
          exact s13.seq hn
        refine lc_map (K := K) (a := pe) (xs := Lst (NV (Vbchad.membersOf l)).length (exc (SP.netI (Vbchad.membersOf l) l) (SP.fl f))) (out := (((List.range (NV (Vbchad.membersOf l)).length).map fun v => decide (exc (SP.netI (Vbchad.membersOf l) l) (SP.fl f) v = 0)).map V.bl)) nD2 (SqL.of e4)
          (sz_of (by have := hfit.hn; simp; omega)) (by rw [Lst_len]; simp) ?_ ?_
        · rintro i x y H5 Q5 R5 hx hy s5 qq
          have hi : i < (NV (Vbchad.membersOf l)).length := by
            have := (List.getElem?_eq_some_iff.mp hx).1
            rwa [Lst_len] at this
          rw [Lst_get hi] at hx
          obtain rfl := Option.some.inj hx
          rw [List.getElem?_map, List.getElem?_map, List.getElem?_range hi] at hy
          obtain rfl := Option.some.inj hy
          refine ⟨rfl, tyes ⟨_, rfl, rfl, ?_⟩⟩
          have e : decide (V.int (exc (SP.netI (Vbchad.membersOf l) l) (SP.fl f) i) = V.int 0) = decide (exc (SP.netI (Vbchad.membersOf l) l) (SP.fl f) i = 0) := by rw [dec_int, Bool.eq_iff_iff]; simp
          show Q5 (.bl (decide (V.int (exc (SP.netI (Vbchad.membersOf l) l) (SP.fl f) i) = V.int 0))) H5
          rw [e]
          exact qq H5 (Same.refl _)
        · intro H5 s5 e5
          refine ⟨D2, _, rfl, SqL.of e5, ?_⟩
          have e : (((List.range (NV (Vbchad.membersOf l)).length).map fun v => decide (exc (SP.netI (Vbchad.membersOf l) l) (SP.fl f) v = 0)).all id) = Vbchad.isReduction l f := by
            rw [Bool.eq_iff_iff, hred, List.all_map, List.all_eq_true]
            constructor
            · intro z
              refine ⟨hiso.bd hB, hiso.circ fun v => ?_⟩
              by_cases hv : v < (NV (Vbchad.membersOf l)).length
              · exact of_decide_eq_true (z v (List.mem_range.mpr hv))
              · refine (S_congr (g := fun _ => 0) fun i hi => ?_).trans (S_zero _)
                obtain ⟨h1, h2⟩ := hfit.ends i hi
                rw [if_neg (by omega), if_neg (by omega)]
                rfl
            · rintro ⟨_, z⟩ v hv
              exact decide_eq_true ((hiso.symm.circ z) v)
          rw [e]
          exact q H5 (s13.trans (s4.trans s5))
end
end St
end
section
set_option maxRecDepth 100000
set_option maxHeartbeats 4000000
namespace St
open PySem PySem.Spec PyProof.Rows L2 NT
def netP (m : Nat) (t : Tr) : Int := (if t.from_ = m then (t.amount : Int) else 0) - (if t.to = m then (t.amount : Int) else 0)
theorem perm_sumI {a b : List Int} (h : a.Perm b) : a.sum = b.sum := by
  induction h with
  | nil => rfl
  | cons x _ ih => rw [List.sum_cons, List.sum_cons, ih]
  | swap x y l => simp only [List.sum_cons]; omega
  | trans _ _ ih1 ih2 => exact ih1.trans ih2
theorem sum_snoc (a : List Int) (x : Int) : (a ++ [x]).sum = a.sum + x := by rw [sum_append]; simp
theorem net_spec (m : Nat) (l : List Tr) : ((l.map (netP m)).sum : Int) = (Vbchad.outOf l (l.map fun t => t.amount) m : Int) - (Vbchad.into l (l.map fun t => t.amount) m : Int) := by
  induction l with
  | nil => rfl
  | cons t l ih =>
    rw [List.map_cons, List.sum_cons, ih]
    unfold Vbchad.outOf Vbchad.into netP
    rw [List.map_cons, List.zip_cons_cons, List.map_cons, List.map_cons, SP.sum_cons, SP.sum_cons]
    simp only
    split <;> split <;> omega
theorem sumN (l : List Nat) : ((l.map fun n => ((n : Nat) : Int)).sum : Int) = (Vbchad.sum l : Int) := by
  induction l with
  | nil => rfl
  | cons a l ih => rw [List.map_cons, List.sum_cons, ih, SP.sum_cons]; omega
theorem sum_perm {a b : List Nat} (h : a.Perm b) : Vbchad.sum a = Vbchad.sum b := by
  have := perm_sumI (h.map fun n => ((n : Nat) : Int))
  rw [sumN, sumN] at this
  omega
theorem vsum_append (a b : List Nat) : Vbchad.sum (a ++ b) = Vbchad.sum a + Vbchad.sum b := by
  induction a with
  | nil => simp [Vbchad.sum]
  | cons x a ih => rw [List.cons_append, SP.sum_cons, SP.sum_cons, ih]; omega
theorem cut_drop (xs : List V) (k : Nat) : cutV xs (some ((k : Nat) : Int)) none = xs.drop k := by
  unfold cutV
  rw [show HT.sIx xs.length 0 (some ((k : Nat) : Int)) = min k xs.length from HT.sIx_nat xs.length 0 k, HT.sIx_none]
  rcases Nat.le_total k xs.length with h | h
  · rw [Nat.min_eq_left h, List.take_of_length_le]
    rw [List.length_drop]
    exact Nat.le_refl _
  · rw [Nat.min_eq_right h, Nat.sub_self, List.take_zero, List.drop_eq_nil_of_le h]
theorem intEq (a b : Nat) : decide (V.int (a : Nat) = V.int (b : Nat)) = decide (a = b) := by
  rw [dec_int, Bool.eq_iff_iff]
  simp
  omega
section
variable {P : Program} {w : World} {K : PySem.W.Frag} {mg : Str → Option Value} {base : Heap}
def sp_net (T : Tx K mg) : Sp := fun vs H Q _ => ∃ (b d : Addr) (es : List En) (l : List Tr) (m : Nat), vs = [.ref b, .int (m : Nat)] ∧ BookAt T.C_Book T.C_Trade H b d es ∧ BookOk es l ∧
  ∀ H', Same H H' → Q (.int ((Vbchad.outOf l (l.map fun t => t.amount) m : Int) - (Vbchad.into l (l.map fun t => t.amount) m : Int))) H'
theorem ok_Book_net (T : Tx K mg) : FnOk P w K mg base CX0 1 T.f_Book_net T.d_Book_net ["self", "member"] (sp_net T) := by
  refine T.F_Book_net.ok sc_Book_net (fun vs H Q E h => ?_) (fun cdv A outer s H vs Q E hr h => ?_)
  · obtain ⟨b, d, es, l, m, rfl, _⟩ := h
    rfl
  · refine ⟨_, (pss_cons (ps_set (i := 2) sc_Book_net.nd rfl (.inl rfl) pe_int)
      (pss_cons (ps_lock (ps_for PassesOwn.never rfl (pi_keys (pe_fld (pv 0) rfl)) (pg_name (i := 3) sc_Book_net.nd rfl (.inl rfl))
      (pss_cons (ps_set (i := 4) sc_Book_net.nd rfl (.inl rfl) (pe_dget (hu_of hr) (pe_fld (pv 0) rfl) (pv 3) (fun _ _ => rfl)))
      (pss_cons (ps_if (pt_cmpR op_eq (pe_fld (pv 4) rfl) (pv 1) (nomark _))
      (pss_one (ps_aug (i := 2) sc_Book_net.nd rfl (.inl rfl) (pe_fld (pv 4) rfl) ip_add))
      pss_nil)
      (pss_one (ps_if (pt_cmpR op_eq (pe_fld (pv 4) rfl) (pv 1) (nomark _))
      (pss_one (ps_aug (i := 2) sc_Book_net.nd rfl (.inl rfl) (pe_fld (pv 4) rfl) ip_sub))
      pss_nil))))))
      (pss_one (ps_ret (pv 2))))), ?_⟩
    -- slots: 0 self, 1 member, 2 found, 3 key, 4 trade
    obtain ⟨b, d, es, l, m, rfl, hb, ho, q⟩ := h
    refine ⟨d, _, hb.dict, trivial, fun od => ?_⟩
    have hbL := hb.lock od
    obtain ⟨dx, hbk⟩ := hbL.bk
    refine ⟨_, rfl, b, _, dx, _, _, rfl, hbk, T.cl_Book, T.n_Book_held, bF_held d, d, od, rfl, .inl ⟨es.map ent, upd_same, for_keys (fun i σ H2 => ∃ y3 y4, σ = [some (.ref b), some (.int (m : Nat)), some (.int (((es.take i).map fun e => netP m e.2).sum)), y3, y4] ∧ H2 = upd H d (.frz od (.dK (es.map ent))))
      ⟨none, none, rfl, rfl⟩ ?_ ?_ ?_⟩⟩
    · rintro i σ H2 _ ⟨_, _, _, rfl⟩
      exact upd_same
    · rintro i k v σ H2 hk ⟨y3, y4, rfl, rfl⟩
      obtain ⟨e, he, hm, rfl, rfl⟩ := ent_at hk
      obtain ⟨dt, ht⟩ := hbL.trs e hm
      have fin : ((es.take (i + 1)).map fun e => netP m e.2).sum = ((es.take i).map fun e => netP m e.2).sum + netP m e.2 := by rw [take_more he, List.map_append, List.map_cons, List.map_nil, sum_snoc]
      refine ⟨_, rfl, b, _, dx, _, _, rfl, hbk, T.cl_Book, T.n_Book_held, bF_held d, _, rfl, d, .ref e.1, rfl, hbL.get ho.keys hm, ?_⟩
      refine ⟨_, rfl, e.1, _, dt, _, _, rfl, ht, T.cl_Trade, T.n_Trade_giver, trF_giver _, _, rfl, rfl, _, rfl, ite2 (fun c => ?_) (fun c => ?_)⟩
      · have c : e.2.from_ = m := of_decide_eq_true ((intEq _ _).symm.trans c)
        refine ⟨_, rfl, _, rfl, e.1, _, dt, _, _, rfl, ht, T.cl_Trade, T.n_Trade_amount, trF_amount _, _, _, rfl, rfl, ?_⟩
        refine ⟨_, rfl, e.1, _, dt, _, _, rfl, ht, T.cl_Trade, T.n_Trade_taker, trF_taker _, _, rfl, rfl, _, rfl, ite2 (fun c2 => ?_) (fun c2 => ?_)⟩
        · have c2 : e.2.to = m := of_decide_eq_true ((intEq _ _).symm.trans c2)
          refine ⟨_, rfl, _, rfl, e.1, _, dt, _, _, rfl, ht, T.cl_Trade, T.n_Trade_amount, trF_amount _, _, _, rfl, rfl, ?_⟩
          refine ⟨some (kV (nk e.2.key)), some (.ref e.1), ?_, rfl⟩
          rw [fin]
          unfold netP
          rw [if_pos c, if_pos c2, ← Int.add_sub_assoc]
          rfl
        · have c2 : ¬ e.2.to = m := fun z => c2 ((intEq _ _).trans (decide_eq_true z))
          refine ⟨some (kV (nk e.2.key)), some (.ref e.1), ?_, rfl⟩
          rw [fin]
          unfold netP
          rw [if_pos c, if_neg c2, Int.sub_zero]
          rfl
      · have c : ¬ e.2.from_ = m := fun z => c ((intEq _ _).trans (decide_eq_true z))
        refine ⟨_, rfl, e.1, _, dt, _, _, rfl, ht, T.cl_Trade, T.n_Trade_taker, trF_taker _, _, rfl, rfl, _, rfl, ite2 (fun c2 => ?_) (fun c2 => ?_)⟩
        · have c2 : e.2.to = m := of_decide_eq_true ((intEq _ _).symm.trans c2)
          refine ⟨_, rfl, _, rfl, e.1, _, dt, _, _, rfl, ht, T.cl_Trade, T.n_Trade_amount, trF_amount _, _, _, rfl, rfl, ?_⟩
          refine ⟨some (kV (nk e.2.key)), some (.ref e.1), ?_, rfl⟩
          rw [fin]
          unfold netP
          rw [if_neg c, if_pos c2, Int.zero_sub, ← Int.sub_eq_add_neg]
          rfl
        · have c2 : ¬ e.2.to = m := fun z => c2 ((intEq _ _).trans (decide_eq_true z))
          refine ⟨some (kV (nk e.2.key)), some (.ref e.1), ?_, rfl⟩
          rw [fin]
          unfold netP
          rw [if_neg c, if_neg c2, Int.sub_zero, Int.add_zero]
          rfl
    · rintro σ H2 ⟨y3, y4, rfl, rfl⟩
      refine ⟨upd_same, _, rfl, ?_⟩
      have e : ((es.take (es.map ent).length).map fun e => netP m e.2).sum = (Vbchad.outOf l (l.map fun t => t.amount) m : Int) - (Vbchad.into l (l.map fun t => t.amount) m : Int) := by
        rw [List.length_map, List.take_length, ← net_spec]
        have := perm_sumI (ho.perm.map (netP m))
        rw [List.map_map] at this
        exact this.symm
      rw [e]
      exact q _ (same_unlock hb.dict (Same.refl _))
def ppB (g t : Nat) (x : Tr) : Bool := x.from_ == g && x.to == t
def sp_sums (T : Tx K mg) : Sp := fun vs H Q _ => ∃ (b d : Addr) (es : List En) (l : List Tr) (g t : Nat), vs = [.ref b, .int (g : Nat), .int (t : Nat)] ∧ BookAt T.C_Book T.C_Trade H b d es ∧ BookOk es l ∧
  ∀ H' p, Same H H' → H' p = some (.tup [.int (Vbchad.sum ((l.filter (ppB g t)).map fun x => x.amount) : Nat), .int (Vbchad.sum ((l.filter (ppB g t)).map Vbchad.room) : Nat)]) → Q (.ref p) H'
theorem sift_map (xs : List En) (f : En → V) (pr : En → Bool) : (((xs.map f).zipIdx).filter fun x => (xs[x.2]?.map pr).getD false).map (fun x => x.1) = (xs.filter pr).map f := by
  suffices h : ∀ (ys : List En) (k : Nat), (∀ i, ys[i]? = xs[k + i]?) → (((ys.map f).zipIdx k).filter fun x => (xs[x.2]?.map pr).getD false).map (fun x => x.1) = (ys.filter pr).map f from h xs 0 fun i => by rw [Nat.zero_add]
  intro ys
  induction ys with
  | nil => intro k _; rfl
  | cons y ys ih =>
    intro k hk
    have h0 : xs[k]? = some y := (hk 0).symm
    rw [List.map_cons, List.zipIdx_cons, List.filter_cons]
    simp only [h0, Option.map_some, Option.getD_some]
    have h1 := ih (k + 1) fun i => by
      have := hk (i + 1)
      rw [List.getElem?_cons_succ] at this
      rw [this, Nat.add_assoc, Nat.add_comm 1 i]
    cases hp : pr y with
    | true =>
      rw [if_pos rfl, List.filter_cons_of_pos hp, List.map_cons, List.map_cons, h1]
    | false =>
      rw [if_neg (by decide), List.filter_cons_of_neg (by simp [hp]), h1]
theorem perm_filter_sum {es : List En} {l : List Tr} (h : l.Perm (es.map fun e => e.2)) (p : Tr → Bool) (f : Tr → Nat) : ((((es.filter fun e => p e.2).map fun e => ((f e.2 : Nat) : Int))).sum : Int) = (Vbchad.sum ((l.filter p).map f) : Int) := by
  have h1 := (h.filter p).map fun t => ((f t : Nat) : Int)
  have h2 := perm_sumI h1
  rw [← sumN, List.map_map]
  rw [List.filter_map, List.map_map] at h2
  exact h2.symm
theorem ok_Book_sums (T : Tx K mg) : FnOk P w K mg base CX0 2 T.f_Book_sums T.d_Book_sums ["self", "giver", "taker"] (sp_sums T) := by
  refine T.F_Book_sums.ok sc_Book_sums (fun vs H Q E h => ?_) (fun cdv A outer s H vs Q E hr h => ?_)
  · obtain ⟨b, d, es, l, g, t, rfl, _⟩ := h
    rfl
  · refine ⟨_, (pss_cons (ps_lock (ps_setLc (i := 3) (own := [("key", 4)]) (by rfl) sc_Book_sums.nd rfl rfl (sw_true rfl rfl rfl (by decide +kernel)) (pi_keys (pe_fld (pv 0) rfl)) (blkOk_by (own := [("key", 4)]) (N := N_Book_sums) (sc := defScope s_Book_sums) (by decide +kernel)) (fun _ _ _ _ _ => (pg_name (i := 4) sc_Book_sums.nd rfl (.inl rfl))) (fun _ _ _ _ _ => pts_nil) (fun _ _ _ _ _ => (pe_dget (hu_of hr) (pe_fldK (K := K) rfl (pv 0) rfl) (pv 4) (fun _ _ => rfl)))))
      (pss_cons (ps_setLc (i := 3) (own := [("trade", 5)]) (by rfl) sc_Book_sums.nd rfl rfl (sw_true rfl rfl rfl (by decide +kernel)) (pi_list (pv 3)) (blkOk_by (own := [("trade", 5)]) (N := N_Book_sums) (sc := defScope s_Book_sums) (by decide +kernel)) (fun _ _ _ _ _ => (pg_name (i := 5) sc_Book_sums.nd rfl (.inl rfl))) (fun _ _ _ _ _ => (pts_one (PW.pt (pw_and (pt_cmpR op_eq (pe_fldK (K := K) rfl (pv 5) rfl) (pv 1) (nomark _)) (pw_and1 (pt_cmpR op_eq (pe_fldK (K := K) rfl (pv 5) rfl) (pv 2) (nomark _))))))) (fun _ _ _ _ _ => (pv 5)))
      (pss_one (ps_ret (pe_tup (pa_cons (pe_callB (cr_sum rfl) (by rfl) T.z_sum (by decide +kernel) (pa_cons (pe_lc (own := [("trade", 5)]) (by rfl) sc_Book_sums.nd (pi_list (pv 3)) (blkOk_by (own := [("trade", 5)]) (N := N_Book_sums) (sc := defScope s_Book_sums) (by decide +kernel)) (fun _ _ _ _ _ => (pg_name (i := 5) sc_Book_sums.nd rfl (.inl rfl))) (fun _ _ _ _ _ => pts_nil) (fun _ _ _ _ _ => (pe_fldK (K := K) rfl (pv 5) rfl))) pa_nil)) (pa_cons (pe_callB (cr_sum rfl) (by rfl) T.z_sum (by decide +kernel) (pa_cons (pe_lc (own := [("trade", 5)]) (by rfl) sc_Book_sums.nd (pi_list (pv 3)) (blkOk_by (own := [("trade", 5)]) (N := N_Book_sums) (sc := defScope s_Book_sums) (by decide +kernel)) (fun _ _ _ _ _ => (pg_name (i := 5) sc_Book_sums.nd rfl (.inl rfl))) (fun _ _ _ _ _ => pts_nil) (fun _ _ _ _ _ => (pe_meth0 (pv 5) T.cl_Trade T.m_Trade_room (ok_Trade_room T) (hr.mono (by decide)) T.b_Trade_room .nil pass0))) pa_nil)) pa_nil))))))), ?_⟩
    -- slots: 0 self, 1 giver, 2 taker, 3 some, 4 key, 5 trade
    obtain ⟨b, d, es, l, g, t, rfl, hb, ho, q⟩ := h
    have hlen : es.length ≤ 40 := by rw [ho.len]; exact ho.n40
    refine ⟨d, _, hb.dict, trivial, fun od => ?_⟩
    have hbL := hb.lock od
    obtain ⟨dx, hbk⟩ := hbL.bk
    refine ⟨_, rfl, b, _, dx, _, _, rfl, hbk, T.cl_Book, T.n_Book_held, bF_held d, d, od, rfl, .inl ⟨es.map ent, upd_same, fun D nD => lc_mapK (d := d) (o := od) (kvs := es.map ent) (out := es.map fun e => V.ref e.1) nD upd_same (sz_of (by simp; omega)) (by simp) ?_ ?_⟩⟩
    · rintro i k v y H2 Q2 R2 hk hy s2 qq
      obtain ⟨e, he, hm, rfl, rfl⟩ := ent_at hk
      rw [List.getElem?_map, he] at hy
      obtain rfl := Option.some.inj hy
      have hb2 := hbL.same s2
      obtain ⟨dx2, hbk2⟩ := hb2.bk
      exact ⟨rfl, tyes ⟨_, rfl, b, _, dx2, _, _, rfl, hbk2, T.cl_Book, T.n_Book_held, bF_held d, _, rfl, d, .ref e.1, rfl, hb2.get ho.keys hm, qq _ (Same.refl _)⟩⟩
    · intro H2 s2 e2
      refine ⟨s2 _ _ upd_same, ?_⟩
      have s3 := same_unlock hb.dict s2
      have dD : D ≠ d := fun z => by rw [z, upd_same] at nD; cases nD
      have e3 : (upd H2 d (.dK (es.map ent))) D = some (.lst (es.map fun e => V.ref e.1)) := by rw [upd_ne dD]; exact e2
      generalize upd H2 d (.dK (es.map ent)) = H3 at s3 e3 ⊢
      have hb3 := hb.same s3
      refine ⟨_, rfl, D, rfl, ⟨_, SqL.of e3⟩, fun D2 nD2 => lc_sift (K := K) (a := D) (xs := es.map fun e => V.ref e.1) (keep := fun i => (es[i]?.map fun e => ppB g t e.2).getD false) nD2 (SqL.of e3) (sz_of (by simp; omega)) ?_ ?_⟩
      · rintro i x H4 Q4 R4 hx s4 q1 q2
        rw [List.getElem?_map] at hx
        cases he : es[i]? with
        | none => rw [he] at hx; cases hx
        | some e =>
          rw [he] at hx
          obtain rfl := Option.some.inj hx
          obtain ⟨dt, ht⟩ := (hb3.same s4).trs e (List.mem_of_getElem? he)
          rw [he] at q1 q2
          refine ⟨rfl, _, rfl, e.1, _, dt, _, _, rfl, ht, T.cl_Trade, T.n_Trade_giver, trF_giver _, _, rfl, rfl, _, rfl, ite2 (fun c => ?_) (fun c => ?_)⟩
          · have c : e.2.from_ = g := of_decide_eq_true ((intEq _ _).symm.trans c)
            refine ⟨_, rfl, e.1, _, dt, _, _, rfl, ht, T.cl_Trade, T.n_Trade_taker, trF_taker _, _, rfl, rfl, _, rfl, ite2 (fun c2 => ?_) (fun c2 => ?_)⟩
            · have c2 : e.2.to = t := of_decide_eq_true ((intEq _ _).symm.trans c2)
              refine ⟨_, rfl, q1 ?_ H4 (Same.refl _)⟩
              show ppB g t e.2 = true
              unfold ppB
              rw [c, c2]
              simp
            · have c2 : ¬ e.2.to = t := fun z => c2 ((intEq _ _).trans (decide_eq_true z))
              refine q2 ?_ H4 (Same.refl _)
              show ppB g t e.2 = false
              unfold ppB
              simp [c2]
          · have c : ¬ e.2.from_ = g := fun z => c ((intEq _ _).trans (decide_eq_true z))
            refine iteF (q2 ?_ H4 (Same.refl _))
            show ppB g t e.2 = false
            unfold ppB
            simp [c]
      · rintro H4 ys s4 e4 hys
        rw [sift_map es (fun e => V.ref e.1) fun e => ppB g t e.2] at hys
        subst hys
        have s34 := s3.trans s4
        have hb4 := hb.same s34
        have hfl : (es.filter fun e => ppB g t e.2).length ≤ 40 := Nat.le_trans (List.length_filter_le _ _) hlen
        have hfm : ∀ e ∈ es.filter (fun e => ppB g t e.2), e ∈ es := fun e he => (List.mem_filter.mp he).1
        -- sum([trade.amount for trade in some])
        refine ⟨_, rfl, D2, rfl, ⟨_, SqL.of e4⟩, fun D5 nD5 => lc_map (K := K) (a := D2) (xs := (es.filter fun e => ppB g t e.2).map fun e => V.ref e.1) (out := ((es.filter fun e => ppB g t e.2).map fun e => ((e.2.amount : Nat) : Int)).map V.int) nD5 (SqL.of e4) (sz_of (by simp; omega)) (by simp) ?_ ?_⟩
        · rintro i x y H5 Q5 R5 hx hy s5 qq
          rw [List.getElem?_map] at hx
          cases he : (es.filter fun e => ppB g t e.2)[i]? with
          | none => rw [he] at hx; cases hx
          | some e =>
            rw [he] at hx
            obtain rfl := Option.some.inj hx
            rw [List.getElem?_map, List.getElem?_map, he] at hy
            obtain rfl := Option.some.inj hy
            obtain ⟨dt, ht⟩ := (hb4.same s5).trs e (hfm e (List.mem_of_getElem? he))
            exact ⟨rfl, tyes ⟨_, rfl, e.1, _, dt, _, _, rfl, ht, T.cl_Trade, T.n_Trade_amount, trF_amount _, qq _ (Same.refl _)⟩⟩
        · intro H5 s5 e5
          refine ⟨D5, _, rfl, SqL.of e5, ?_⟩
          rw [perm_filter_sum ho.perm (ppB g t) fun x => x.amount]
          have hb5 := hb4.same s5
          have e45 := s5 _ _ e4
          refine ⟨_, rfl, D2, rfl, ⟨_, SqL.of e45⟩, fun D6 nD6 => lc_map (K := K) (a := D2) (xs := (es.filter fun e => ppB g t e.2).map fun e => V.ref e.1) (out := ((es.filter fun e => ppB g t e.2).map fun e => ((Vbchad.room e.2 : Nat) : Int)).map V.int) nD6 (SqL.of e45) (sz_of (by simp; omega)) (by simp) ?_ ?_⟩
          · rintro i x y H6 Q6 R6 hx hy s6 qq
            rw [List.getElem?_map] at hx
            cases he : (es.filter fun e => ppB g t e.2)[i]? with
            | none => rw [he] at hx; cases hx
            | some e =>
              rw [he] at hx
              obtain rfl := Option.some.inj hx
              rw [List.getElem?_map, List.getElem?_map, he] at hy
              obtain rfl := Option.some.inj hy
              have hem := hfm e (List.mem_of_getElem? he)
              obtain ⟨dt, ht⟩ := (hb5.same s6).trs e hem
              have hw := ho.wf e.2 (ho.mem.mpr ⟨e.1, hem⟩)
              exact ⟨rfl, tyes ⟨_, rfl, e.1, dt, _, rfl, ht, trF_room _, e.1, e.2, rfl, ⟨dt, ht⟩, hw.l1, qq _ (Same.refl _)⟩⟩
          · intro H6 s6 e6
            refine ⟨D6, _, rfl, SqL.of e6, ?_⟩
            rw [perm_filter_sum ho.perm (ppB g t) Vbchad.room]
            refine ⟨by show 2 ≤ sizeLine; decide, fun tp nt => ?_⟩
            exact q _ tp (s34.trans (s5.trans (s6.trans (same_new nt)))) upd_same
end
end St
end
section
set_option maxRecDepth 100000
set_option maxHeartbeats 4000000
namespace St
open PySem PySem.Spec PyProof.Rows L2 NT
theorem sorted_drop {ms : List Nat} (h : ms.Pairwise (· < ·)) {i : Nat} {a : Nat} (ha : ms[i]? = some a) : ms.filter (fun b => decide (a < b)) = ms.drop (i + 1) := by
  obtain ⟨hi, e⟩ := List.getElem?_eq_some_iff.mp ha
  have hp := List.pairwise_iff_getElem.mp h
  conv => lhs; rw [← List.take_append_drop (i + 1) ms]
  rw [List.filter_append, List.filter_eq_nil_iff.mpr, List.nil_append, List.filter_eq_self.mpr]
  · intro x hx
    obtain ⟨j, hj⟩ := List.mem_iff_getElem?.mp hx
    rw [List.getElem?_drop] at hj
    obtain ⟨hj2, e2⟩ := List.getElem?_eq_some_iff.mp hj
    have := hp i (i + 1 + j) hi hj2 (by omega)
    rw [e, e2] at this
    exact decide_eq_true this
  · intro x hx
    obtain ⟨j, hj⟩ := List.mem_iff_getElem?.mp hx
    have hjl : j < (ms.take (i + 1)).length := (List.getElem?_eq_some_iff.mp hj).1
    rw [List.length_take] at hjl
    rw [List.getElem?_take_of_lt (by omega)] at hj
    obtain ⟨hj2, e2⟩ := List.getElem?_eq_some_iff.mp hj
    rw [decide_eq_true_iff]
    rcases Nat.lt_or_ge j i with q | q
    · have := hp j i hj2 hi q
      rw [e, e2] at this
      omega
    · have : j = i := by omega
      subst this
      rw [← e, ← e2]
      exact Nat.lt_irrefl _
section
variable {P : Program} {w : World} {K : PySem.W.Frag} {mg : Str → Option Value} {base : Heap}
def sp_pair (T : Tx K mg) : Sp := fun vs H Q _ => ∃ (b d : Addr) (es : List En) (l : List Tr) (g t : Nat), vs = [.ref b, .int (g : Nat), .int (t : Nat)] ∧ BookAt T.C_Book T.C_Trade H b d es ∧ BookOk es l ∧
  ∀ H', Same H H' → Q (.int (Vbchad.pairRoom l g t : Nat)) H'
theorem ok_Book_pair (T : Tx K mg) : FnOk P w K mg base CX0 3 T.f_Book_pair T.d_Book_pair ["self", "one", "other"] (sp_pair T) := by
  refine T.F_Book_pair.ok sc_Book_pair (fun vs H Q E h => ?_) (fun cdv A outer s H vs Q E hr h => ?_)
  · obtain ⟨b, d, es, l, g, t, rfl, _⟩ := h
    rfl
  · refine ⟨_, (pss_one (ps_ret (pe_op op_mul pe_int (pe_callB (call_min2 rfl) (by rfl) T.z_min (by decide +kernel) (pa_cons (pe_ix ix_tup (pe_meth (pv 0) T.cl_Book T.m_Book_sums (ok_Book_sums T) (hr.mono (by decide)) T.b_Book_sums .nil pass0 (pa_cons (pv 1) (pa_cons (pv 2) pa_nil))) pe_int (fun _ _ => rfl)) (pa_cons (pe_ix ix_tup (pe_meth (pv 0) T.cl_Book T.m_Book_sums (ok_Book_sums T) (hr.mono (by decide)) T.b_Book_sums .nil pass0 (pa_cons (pv 2) (pa_cons (pv 1) pa_nil))) pe_int (fun _ _ => rfl)) pa_nil)))))), ?_⟩
    -- slots: 0 self, 1 one, 2 other
    obtain ⟨b, d, es, l, g, t, rfl, hb, ho, q⟩ := h
    obtain ⟨dx, hbk⟩ := hb.bk
    refine ⟨_, rfl, b, dx, _, rfl, hbk, bF_no d (by decide +kernel), _, rfl, _, rfl, b, d, es, l, g, t, rfl, hb, ho, fun H1 p1 s1 e1 => ?_⟩
    refine ⟨p1, _, _, _, rfl, rfl, SqT.of e1, atI_nat (j := 1) rfl, _, rfl, b, dx, _, rfl, s1 _ _ hbk, bF_no d (by decide +kernel), _, rfl, _, rfl, b, d, es, l, t, g, rfl, hb.same s1, ho, fun H2 p2 s2 e2 => ?_⟩
    refine ⟨p2, _, _, _, rfl, rfl, SqT.of e2, atI_nat (j := 1) rfl, _, _, rfl, _, _, rfl, rfl, ?_⟩
    have e : ((Vbchad.pairRoom l g t : Nat) : Int) = 2 * (if ((Vbchad.sum ((l.filter (ppB t g)).map Vbchad.room) : Nat) : Int) < ((Vbchad.sum ((l.filter (ppB g t)).map Vbchad.room) : Nat) : Int) then ((Vbchad.sum ((l.filter (ppB t g)).map Vbchad.room) : Nat) : Int) else ((Vbchad.sum ((l.filter (ppB g t)).map Vbchad.room) : Nat) : Int)) := by
      show ((2 * min (Vbchad.sum ((l.filter (ppB g t)).map Vbchad.room)) (Vbchad.sum ((l.filter (ppB t g)).map Vbchad.room)) : Nat) : Int) = _
      split <;> omega
    have q2 := q H2 (s1.trans s2)
    rw [e] at q2
    exact ⟨.inl (by omega), q2⟩
def fP (l : List Tr) (a : Nat) : List Nat := ((Vbchad.membersOf l).filter fun b => decide (a < b)).map fun b => Vbchad.pairRoom l a b
def sp_pairs (T : Tx K mg) : Sp := fun vs H Q _ => ∃ (b d : Addr) (es : List En) (l : List Tr), vs = [.ref b] ∧ BookAt T.C_Book T.C_Trade H b d es ∧ BookOk es l ∧
  ∀ H', Same H H' → Q (.int (Vbchad.pairTotal l : Nat)) H'
theorem ok_Book_pairs (T : Tx K mg) : FnOk P w K mg base CX0 4 T.f_Book_pairs T.d_Book_pairs ["self"] (sp_pairs T) := by
  refine T.F_Book_pairs.ok sc_Book_pairs (fun vs H Q E h => ?_) (fun cdv A outer s H vs Q E hr h => ?_)
  · obtain ⟨b, d, es, l, rfl, _⟩ := h
    rfl
  · refine ⟨_, (pss_cons (ps_par (i := 1) (j := 2) (by rfl) sc_Book_pairs.nd rfl rfl (by decide) rfl rfl (pa_cons (pe_meth0 (pv 0) T.cl_Book T.m_Book_members (ok_Book_members T) (hr.mono (by decide)) T.b_Book_members .nil pass0) (pa_cons pe_int pa_nil)) (by rfl))
      (pss_cons (ps_for PassesOwn.never rfl (pi_range1 (by rfl) T.z_range (pa_cons (pe_callB call_len_seq (by rfl) T.z_len (by decide +kernel) (pa_cons (pv 1) pa_nil)) pa_nil)) (pg_name (i := 3) sc_Book_pairs.nd rfl (.inl rfl))
      (pss_one (ps_for PassesOwn.never rfl (pi_list (pe_slice sl_list (pv 1) (po_some (pe_op op_add (pv 3) pe_int)) po_none)) (pg_name (i := 4) sc_Book_pairs.nd rfl (.inl rfl))
      (pss_one (ps_aug (i := 2) sc_Book_pairs.nd rfl (.inl rfl) (pe_meth (pv 0) T.cl_Book T.m_Book_pair (ok_Book_pair T) (hr.mono (by decide)) T.b_Book_pair .nil pass0 (pa_cons (pe_ix ix_list (pv 1) (pv 3) (fun _ _ => rfl)) (pa_cons (pv 4) pa_nil))) ip_add)))))
      (pss_one (ps_ret (pv 2))))), ?_⟩
    -- slots: 0 self, 1 members, 2 found, 3 at, 4 other
    obtain ⟨b, d, es, l, rfl, hb, ho, q⟩ := h
    obtain ⟨dx, hbk⟩ := hb.bk
    refine ⟨_, rfl, b, dx, _, rfl, hbk, bF_no d (by decide +kernel), b, d, es, l, rfl, hb, ho, fun H1 pm s1 n1 e1 => ⟨_, _, rfl, ?_⟩⟩
    have hnl := NV_len (Vbchad.membersOf l)
    have hm12 := ho.m12
    refine ⟨_, rfl, pm, _, rfl, .inl (SqL.of e1), _, rfl, by omega, by omega, for_range (fun i σ H2 => ∃ y3 y4, σ = [some (.ref b), some (.ref pm), some (.int (Vbchad.sum (((Vbchad.membersOf l).take i).flatMap (fP l)) : Nat)), y3, y4] ∧ Same H1 H2) ⟨none, none, rfl, Same.refl _⟩ ?_ ?_⟩
    · rintro i σ H2 hi ⟨y3, y4, rfl, s2⟩
      rw [Int.zero_add]
      have hi : i < (Vbchad.membersOf l).length := by omega
      have ha := List.getElem?_eq_getElem hi
      have s12 := s1.trans s2
      refine ⟨_, rfl, _, rfl, _, _, rfl, rfl, ((i + 1 : Nat) : Int), rfl, pm, _, rfl, SqL.of (s2 _ _ e1), fun p2 np2 => ?_⟩
      rw [cut_drop, show (NV (Vbchad.membersOf l)).drop (i + 1) = NV ((Vbchad.membersOf l).drop (i + 1)) by unfold NV; rw [List.map_drop]]
      refine ⟨p2, rfl, ⟨_, SqL.of upd_same⟩, for_list (K := K) (a := p2) (xs := NV ((Vbchad.membersOf l).drop (i + 1))) (fun j σ H3 => ∃ y4, σ = [some (.ref b), some (.ref pm), some (.int (Vbchad.sum (((Vbchad.membersOf l).take i).flatMap (fP l)) + Vbchad.sum ((((Vbchad.membersOf l).drop (i + 1)).take j).map fun o => Vbchad.pairRoom l ((Vbchad.membersOf l)[i]) o) : Nat)), some (.int (i : Nat)), y4] ∧ Same (upd H2 p2 (.lst (NV ((Vbchad.membersOf l).drop (i + 1))))) H3)
        ⟨y4, rfl, Same.refl _⟩ (fun j σ H3 _ ⟨_, _, s3⟩ => SqL.of (s3 _ _ upd_same)) ?_ ?_⟩
      · rintro j x σ H3 hx ⟨y4, rfl, s3⟩
        have sn := same_new (o := .lst (NV ((Vbchad.membersOf l).drop (i + 1)))) np2
        have s13 := s12.trans (sn.trans s3)
        obtain ⟨o, ho2, rfl⟩ : ∃ o, ((Vbchad.membersOf l).drop (i + 1))[j]? = some o ∧ x = .int (o : Nat) := by
          unfold NV at hx
          rw [List.getElem?_map] at hx
          cases e : ((Vbchad.membersOf l).drop (i + 1))[j]? with
          | none => rw [e] at hx; cases hx
          | some t => rw [e] at hx; exact ⟨t, rfl, (Option.some.inj hx).symm⟩
        refine ⟨_, rfl, _, rfl, b, dx, _, rfl, s13 _ _ hbk, bF_no d (by decide +kernel), _, rfl, _, rfl, pm, _, _, _, rfl, rfl, SqL.of (s3 _ _ (sn _ _ (s2 _ _ e1))), atI_nat (NV_get ha), _, rfl, b, d, es, l, _, o, rfl, hb.same s13, ho, fun H4 s4 => ?_⟩
        refine ⟨_, _, rfl, rfl, some (.int (o : Nat)), ?_, s3.trans s4⟩
        rw [take_more ho2, List.map_append, vsum_append]
        have e : Vbchad.sum [Vbchad.pairRoom l ((Vbchad.membersOf l)[i]) o] = Vbchad.pairRoom l ((Vbchad.membersOf l)[i]) o := by rw [SP.sum_cons]; rfl
        rw [show List.map (fun o => Vbchad.pairRoom l ((Vbchad.membersOf l)[i]) o) [o] = [Vbchad.pairRoom l ((Vbchad.membersOf l)[i]) o] from rfl, e, ← Nat.add_assoc, Int.natCast_add (_ + _)]
        rfl
      · rintro σ H3 ⟨y4, rfl, s3⟩
        have sn := same_new (o := .lst (NV ((Vbchad.membersOf l).drop (i + 1)))) np2
        refine ⟨some (.int (i : Nat)), y4, ?_, s2.trans (sn.trans s3)⟩
        rw [NV_len, List.take_length, take_more ha, List.flatMap_append, vsum_append]
        rw [show List.flatMap (fP l) [(Vbchad.membersOf l)[i]] = fP l ((Vbchad.membersOf l)[i]) by simp]
        unfold fP
        rw [sorted_drop (SP.members_sorted l) ha]
    · rintro σ H2 ⟨y3, y4, rfl, s2⟩
      refine ⟨_, rfl, ?_⟩
      rw [show (Vbchad.membersOf l).take ((((NV (Vbchad.membersOf l)).length : Int)).toNat) = Vbchad.membersOf l from List.take_of_length_le (by omega)]
      exact q H2 (s1.trans s2)
end
end St
end
section
set_option maxRecDepth 100000
set_option maxHeartbeats 4000000
namespace St
open PySem PySem.Spec PyProof.Rows L2 NT
def KeepB (d : Addr) (es : List En) (H H' : Hp) : Prop := ∀ x o, H x = some o → x ≠ d → (∀ e ∈ es, x ≠ e.1) → H' x = some o
theorem KeepB.of {d : Addr} {es : List En} {H H' : Hp} (s : Same H H') : KeepB d es H H' := fun x o h _ _ => s _ _ h
theorem KeepB.trans {d : Addr} {es : List En} {H H1 H2 : Hp} (a : KeepB d es H H1) (b : KeepB d es H1 H2) : KeepB d es H H2 := fun x o h n m => b x o (a x o h n m) n m
theorem KeepB.upd_d {d : Addr} {es : List En} {H H' : Hp} {u : HO} (a : KeepB d es H H') : KeepB d es H (upd H' d u) := fun x o h n m => by
  rw [upd_ne n]
  exact a x o h n m
theorem KeepB.upd_e {d : Addr} {es : List En} {H H' : Hp} {u : HO} {e : En} (a : KeepB d es H H') (he : e ∈ es) : KeepB d es H (upd H' e.1 u) := fun x o h n m => by
  rw [upd_ne (m e he)]
  exact a x o h n m
/-- nothing goes -/
def KeepA (H H' : Hp) : Prop := ∀ a o, H a = some o → ∃ u, H' a = some u
theorem KeepA.of {H H' : Hp} (s : Same H H') : KeepA H H' := fun a o h => ⟨o, s _ _ h⟩
theorem KeepA.trans {H H1 H2 : Hp} (a : KeepA H H1) (b : KeepA H1 H2) : KeepA H H2 := fun x o h => let ⟨u, hu⟩ := a x o h; b x u hu
theorem KeepA.upd {H H' : Hp} {x : Addr} {u : HO} (a : KeepA H H') : KeepA H (upd H' x u) := fun y o h => by
  by_cases z : y = x
  · subst z; exact ⟨_, upd_same⟩
  · rw [upd_ne z]; exact a y o h
theorem KeepA.free {H H' : Hp} (k : KeepA H H') {p : Addr} (h : H' p = none) : H p = none := by
  cases e : H p with
  | none => rfl
  | some o =>
    obtain ⟨u, hu⟩ := k _ _ e
    rw [hu] at h
    cases h
section
variable {CB CT : Addr} {H H' : Hp} {b d : Addr} {es : List En}
theorem BookAt.apart (hb : BookAt CB CT H b d es) {x : Addr} {o : HO} (h : H x = some o) (h1 : o ≠ .dK (es.map ent)) (h2 : ∀ dx t, o ≠ .ins CT dx (trF t)) : x ≠ d ∧ ∀ e ∈ es, x ≠ e.1 := by
  refine ⟨fun z => ?_, fun e he z => ?_⟩
  · subst z
    rw [hb.dict] at h
    exact h1 (Option.some.inj h).symm
  · subst z
    obtain ⟨dx, q⟩ := hb.trs e he
    rw [q] at h
    exact h2 _ _ (Option.some.inj h).symm
theorem KeepB.seq {K : PySem.W.Frag} {p : Addr} {xs : List V} (hb : BookAt CB CT H b d es) (k : KeepB d es H H') (s : SqL K H p xs) : SqL K H' p xs := by
  rcases s with (s | ⟨o, s⟩) | s
  · obtain ⟨n, m⟩ := hb.apart s (by intro z; cases z) (by intro _ _ z; cases z)
    exact .inl (.inl (k _ _ s n m))
  · obtain ⟨n, m⟩ := hb.apart s (by intro z; cases z) (by intro _ _ z; cases z)
    exact .inl (.inr ⟨o, k _ _ s n m⟩)
  · exact .inr s
theorem KeepB.lst {p : Addr} {xs : List V} (hb : BookAt CB CT H b d es) (k : KeepB d es H H') (s : H p = some (.lst xs)) : H' p = some (.lst xs) := by
  obtain ⟨n, m⟩ := hb.apart s (by intro z; cases z) (by intro _ _ z; cases z)
  exact k _ _ s n m
theorem bF_trF (d : Addr) (t : Tr) : bF d ≠ trF t := fun z => by
  have := congrArg List.length z
  cases this
end
section
variable {es : List En} {A R : List Tr} {t : Tr} {a : Addr} {n : Nat}
theorem ent_same {E1 E2 : List En} {t' : Tr} (hk : t'.key = t.key) : (E1 ++ (a, t') :: E2).map ent = (E1 ++ (a, t) :: E2).map ent := by
  rw [List.map_append, List.map_append, List.map_cons, List.map_cons]
  unfold ent
  rw [hk]
theorem BookOk.split {l : List Tr} (h : BookOk es l) (he : (a, t) ∈ es) : ∃ E1 E2, es = E1 ++ (a, t) :: E2 := by
  obtain ⟨E1, E2, e⟩ := List.append_of_mem he
  exact ⟨E1, E2, e⟩
theorem ok_perm {E1 E2 : List En} (h : BookOk (E1 ++ (a, t) :: E2) (A ++ t :: R)) : (A ++ R).Perm ((E1 ++ E2).map fun e => e.2) := by
  have p := h.perm
  rw [List.map_append, List.map_cons] at p
  have p2 := (List.perm_middle.symm.trans p).trans List.perm_middle
  rw [List.map_append]
  exact p2.cons_inv
theorem mem_sub {L L' : List Tr} (h : ∀ t ∈ L', ∃ t' ∈ L, t'.from_ = t.from_ ∧ t'.to = t.to) : (Vbchad.membersOf L').length ≤ (Vbchad.membersOf L).length :=
  SP.nodup_le (SP.members_nodup L') fun x hx => by
    obtain ⟨t, h1, h2⟩ := SP.mem_members.mp hx
    obtain ⟨t', h3, h4, h5⟩ := h t h1
    exact SP.mem_members.mpr ⟨t', h3, by rw [h4, h5]; exact h2⟩
theorem BookOk.put {E1 E2 : List En} {t' : Tr} (h : BookOk (E1 ++ (a, t) :: E2) (A ++ t :: R)) (hk : t'.key = t.key) (hf : t'.from_ = t.from_) (ht : t'.to = t.to) (hw : WfT t') : BookOk (E1 ++ (a, t') :: E2) (A ++ t' :: R) where
  srt := by
    have := h.srt
    rw [List.pairwise_append, List.pairwise_cons] at this ⊢
    obtain ⟨h1, ⟨h2, h3⟩, h4⟩ := this
    refine ⟨h1, ⟨fun x hx => by rw [hk]; exact h2 x hx, h3⟩, fun x hx y hy => ?_⟩
    rcases List.mem_cons.mp hy with rfl | hy
    · rw [hk]; exact h4 x hx t List.mem_cons_self
    · exact h4 x hx y (List.mem_cons_of_mem _ hy)
  perm := by
    have p := ok_perm h
    rw [List.map_append, List.map_cons]
    refine List.perm_middle.trans (List.Perm.trans ?_ List.perm_middle.symm)
    rw [List.map_append] at p
    exact p.cons _
  adr := by
    have := h.adr
    rw [List.map_append, List.map_cons] at this ⊢
    exact this
  wf := fun x hx => by
    rcases List.mem_append.mp hx with hx | hx
    · exact h.wf x (List.mem_append_left _ hx)
    · rcases List.mem_cons.mp hx with rfl | hx
      · exact hw
      · exact h.wf x (List.mem_append_right _ (List.mem_cons_of_mem _ hx))
  n40 := by
    have := h.n40
    rw [List.length_append, List.length_cons] at this ⊢
    exact this
  m12 := Nat.le_trans (mem_sub fun x hx => by
    rcases List.mem_append.mp hx with hx | hx
    · exact ⟨x, List.mem_append_left _ hx, rfl, rfl⟩
    · rcases List.mem_cons.mp hx with rfl | hx
      · exact ⟨t, List.mem_append_right _ List.mem_cons_self, hf.symm, ht.symm⟩
      · exact ⟨x, List.mem_append_right _ (List.mem_cons_of_mem _ hx), rfl, rfl⟩) h.m12
theorem BookOk.drop {E1 E2 : List En} (h : BookOk (E1 ++ (a, t) :: E2) (A ++ t :: R)) : BookOk (E1 ++ E2) (A ++ R) where
  srt := h.srt.sublist (List.Sublist.append_left (List.sublist_cons_self _ _) _)
  perm := ok_perm h
  adr := h.adr.sublist (List.Sublist.map _ (List.Sublist.append_left (List.sublist_cons_self _ _) _))
  wf := fun x hx => h.wf x ((List.Sublist.append_left (List.sublist_cons_self _ _) _).subset hx)
  n40 := by
    have := h.n40
    rw [List.length_append] at this ⊢
    rw [List.length_cons] at this
    omega
  m12 := Nat.le_trans (mem_sub fun x hx => ⟨x, (List.Sublist.append_left (List.sublist_cons_self _ _) _).subset hx, rfl, rfl⟩) h.m12
theorem drop_ent {E1 E2 : List En} (hn : ((E1 ++ (a, t) :: E2).map fun e => e.2.key).Nodup) : dropK ((E1 ++ (a, t) :: E2).map ent) (nk t.key) = (E1 ++ E2).map ent := by
  rw [List.map_append, List.map_cons] at hn
  unfold dropK
  rw [List.map_append, List.map_cons, List.filter_append, List.map_append]
  obtain ⟨h1, h2, h3⟩ := List.nodup_append.mp hn
  obtain ⟨h4, h5⟩ := List.nodup_cons.mp h2
  congr 1
  · refine List.filter_eq_self.mpr fun x hx => ?_
    obtain ⟨e, he, rfl⟩ := List.mem_map.mp hx
    refine decide_eq_true fun z => ?_
    exact h3 _ (List.mem_map.mpr ⟨e, he, rfl⟩) _ List.mem_cons_self (nk_inj z)
  · rw [List.filter_cons_of_neg (by simp [ent])]
    refine List.filter_eq_self.mpr fun x hx => ?_
    obtain ⟨e, he, rfl⟩ := List.mem_map.mp hx
    refine decide_eq_true fun z => ?_
    exact h4 (List.mem_map.mpr ⟨e, he, nk_inj z⟩)
end
section
variable {CB CT : Addr} {H : Hp} {b d a : Addr} {E1 E2 : List En} {t t' : Tr}
/-- a trade's numbers written -/
theorem BookAt.write (hb : BookAt CB CT H b d (E1 ++ (a, t) :: E2)) (hn : ((E1 ++ (a, t) :: E2).map fun e => e.1).Nodup) (hk : t'.key = t.key) {dt : Addr} : BookAt CB CT (upd H a (.ins CT dt (trF t'))) b d (E1 ++ (a, t') :: E2) := by
  have ha : (a, t) ∈ E1 ++ (a, t) :: E2 := List.mem_append_right _ List.mem_cons_self
  obtain ⟨da, hta⟩ := hb.trs _ ha
  rw [List.map_append, List.map_cons] at hn
  obtain ⟨h1, h2, h3⟩ := List.nodup_append.mp hn
  obtain ⟨h4, h5⟩ := List.nodup_cons.mp h2
  refine ⟨?_, ?_, fun e he => ?_⟩
  · obtain ⟨dx, q⟩ := hb.bk
    refine ⟨dx, ?_⟩
    rw [upd_ne (ne_of q hta (by intro z; exact bF_trF _ _ (HO.ins.inj z).2.2))]
    exact q
  · rw [upd_ne (ne_of hb.dict hta (by intro z; cases z)), ent_same hk]
    exact hb.dict
  · rcases List.mem_append.mp he with he | he
    · obtain ⟨dy, q⟩ := hb.trs e (List.mem_append_left _ he)
      have n : e.1 ≠ a := fun z => h3 _ (List.mem_map.mpr ⟨e, he, rfl⟩) _ List.mem_cons_self z
      exact ⟨dy, by rw [upd_ne n]; exact q⟩
    · rcases List.mem_cons.mp he with rfl | he
      · exact ⟨dt, upd_same⟩
      · obtain ⟨dy, q⟩ := hb.trs e (List.mem_append_right _ (List.mem_cons_of_mem _ he))
        have n : e.1 ≠ a := fun z => h4 (List.mem_map.mpr ⟨e, he, z⟩)
        exact ⟨dy, by rw [upd_ne n]; exact q⟩
/-- .. and taken out -/
theorem BookAt.out (hb : BookAt CB CT H b d (E1 ++ (a, t) :: E2)) (hn : ((E1 ++ (a, t) :: E2).map fun e => e.2.key).Nodup) : BookAt CB CT (upd H d (.dK (dropK ((E1 ++ (a, t) :: E2).map ent) (nk t.key)))) b d (E1 ++ E2) := by
  refine ⟨?_, ?_, fun e he => ?_⟩
  · obtain ⟨dx, q⟩ := hb.bk
    refine ⟨dx, ?_⟩
    rw [upd_ne (ne_of q hb.dict (by intro z; cases z))]
    exact q
  · rw [upd_same, drop_ent hn]
  · obtain ⟨dy, q⟩ := hb.trs e ((List.Sublist.append_left (List.sublist_cons_self _ _) _).subset he)
    refine ⟨dy, ?_⟩
    rw [upd_ne (ne_of q hb.dict (by intro z; cases z))]
    exact q
end
theorem less_more {l : List Tr} {f : List Nat} {i : Nat} {t : Tr} {n : Nat} (hl : l[i]? = some t) (hf : f[i]? = some n) : Vbchad.less (l.take (i + 1)) (f.take (i + 1)) = Vbchad.less (l.take i) (f.take i) ++ if t.amount - n = 0 then [] else [{ t with amount := t.amount - n }] := by
  unfold Vbchad.less
  have hi : i < l.length := (List.getElem?_eq_some_iff.mp hl).1
  have hj : i < f.length := (List.getElem?_eq_some_iff.mp hf).1
  rw [take_more hl, take_more hf, List.zip_append (by rw [List.length_take, List.length_take]; omega), List.map_append, List.filter_append]
  congr 1
  show List.filter _ [({ t with amount := t.amount - n } : Tr)] = _
  by_cases e : t.amount - n = 0
  · rw [if_pos e, List.filter_cons_of_neg (by simp [e])]
    rfl
  · rw [if_neg e, List.filter_cons_of_pos (by simp [e])]
    rfl
section
variable {P : Program} {w : World} {K : PySem.W.Frag} {mg : Str → Option Value} {base : Heap}
def sp_lessen (T : Tx K mg) : Sp := fun vs H Q _ => ∃ (b d pn : Addr) (es : List En) (l : List Tr) (f : List Nat), vs = [.ref b, .ref pn] ∧ BookAt T.C_Book T.C_Trade H b d es ∧ BookOk es l ∧ SqL K H pn (NV f) ∧ f.length = l.length ∧
  (∀ (i : Nat) (t : Tr) (n : Nat), l[i]? = some t → f[i]? = some n → n ≤ Vbchad.room t) ∧
  ∀ H' es', KeepB d es H H' → KeepA H H' → BookAt T.C_Book T.C_Trade H' b d es' → BookOk es' (Vbchad.less l f) → Q .non H'
theorem ok_Book_lessen (T : Tx K mg) : FnOk P w K mg base CX0 2 T.f_Book_lessen T.d_Book_lessen ["self", "numbers"] (sp_lessen T) := by
  refine T.F_Book_lessen.ok sc_Book_lessen (fun vs H Q E h => ?_) (fun cdv A outer s H vs Q E hr h => ?_)
  · obtain ⟨b, d, pn, es, l, f, rfl, _⟩ := h
    rfl
  · refine ⟨_, (pss_one (ps_for PassesOwn.never rfl (pi_zip (by rfl) T.z_zip (pa_cons (pe_meth0 (pv 0) T.cl_Book T.m_Book_key_rows (ok_Book_key_rows T) (hr.mono (by decide)) T.b_Book_key_rows .nil pass0) (pa_cons (pv 1) pa_nil))) (pg_tup (by rfl) (pgs_cons (pg_name (i := 2) sc_Book_lessen.nd rfl (.inl rfl)) (pgs_cons (pg_name (i := 3) sc_Book_lessen.nd rfl (.inl rfl)) pgs_nil)))
      (pss_cons (ps_fldaug (pe_dget (hu_of hr) (pe_fld (pv 0) rfl) (pv 2) (fun _ _ => rfl)) (pv 3) in_sub)
      (pss_one (ps_if (pt_cmpR op_eq (pe_fld (pe_dget (hu_of hr) (pe_fld (pv 0) rfl) (pv 2) (fun _ _ => rfl)) rfl) pe_int (nomark _))
      (pss_one (ps_expr (pe_dpop1 (pe_fld (pv 0) rfl) (pv 2) ⟨rfl, rfl, rfl, rfl⟩)))
      pss_nil))))), ?_⟩
    -- slots: 0 self, 1 numbers, 2 key, 3 number
    obtain ⟨b, d, pn, es, l, f, rfl, hb, ho, hn, hl, hr', q⟩ := h
    obtain ⟨dx, hbk⟩ := hb.bk
    refine ⟨_, rfl, b, dx, _, rfl, hbk, bF_no d (by decide +kernel), b, d, es, l, rfl, hb, ho, fun H1 pk s1 n1 e1 => ?_⟩
    have hb1 := hb.same s1
    have hn1 := s1.seq hn
    refine ⟨_, rfl, pk, pn, NV (l.map fun t => t.key), NV f, rfl, SqL.of e1, hn1, RZ.for_zipL (K := K) (a := pk) (b := pn) (xs := NV (l.map fun t => t.key)) (ys := NV f) (by rw [NV_len, NV_len, List.length_map, hl]) (fun i σ H2 => ∃ y2 y3 es2, σ = [some (.ref b), some (.ref pn), y2, y3] ∧ BookAt T.C_Book T.C_Trade H2 b d es2 ∧
      BookOk es2 (Vbchad.less (l.take i) (f.take i) ++ l.drop i) ∧ (∀ e ∈ es2, ∃ e0 ∈ es, e0.1 = e.1) ∧ KeepB d es H1 H2 ∧ KeepA H1 H2)
      ⟨none, none, es, rfl, hb1, by rw [List.drop_zero, show Vbchad.less (l.take 0) (f.take 0) = [] from rfl, List.nil_append]; exact ho, fun e he => ⟨e, he, rfl⟩, KeepB.of (Same.refl _), KeepA.of (Same.refl _)⟩
      (fun i σ H2 ⟨_, _, _, _, _, _, _, k, _⟩ => ⟨SqL.of (k.lst hb1 e1), k.seq hb1 hn1⟩) ?_ ?_⟩
    · rintro i x y Tt σ H2 hx hy ⟨y2, y3, es2, rfl, hb2, ho2, hsub, k2, al2⟩ nT
      obtain ⟨t, ht, rfl⟩ : ∃ t, l[i]? = some t ∧ x = .int (t.key : Nat) := by
        unfold NV at hx
        rw [List.getElem?_map, List.getElem?_map] at hx
        cases e : l[i]? with
        | none => rw [e] at hx; cases hx
        | some t => rw [e] at hx; exact ⟨t, rfl, (Option.some.inj hx).symm⟩
      obtain ⟨n, hf, rfl⟩ : ∃ n, f[i]? = some n ∧ y = .int (n : Nat) := by
        unfold NV at hy
        rw [List.getElem?_map] at hy
        cases e : f[i]? with
        | none => rw [e] at hy; cases hy
        | some n => rw [e] at hy; exact ⟨n, rfl, (Option.some.inj hy).symm⟩
      have hroom := hr' i t n ht hf
      have hdr : l.drop i = t :: l.drop (i + 1) := by
        obtain ⟨hi, e⟩ := List.getElem?_eq_some_iff.mp ht
        rw [List.drop_eq_getElem_cons hi, e]
      rw [hdr] at ho2
      have htm : t ∈ Vbchad.less (l.take i) (f.take i) ++ t :: l.drop (i + 1) := List.mem_append_right _ List.mem_cons_self
      obtain ⟨a, ha⟩ := ho2.mem.mp htm
      have hw := ho2.wf t htm
      obtain ⟨E1, E2, rfl⟩ := ho2.split ha
      have sT := same_new (o := .tup [.int (t.key : Nat), .int (n : Nat)]) nT
      have hb3 := hb2.same sT
      obtain ⟨dx3, hbk3⟩ := hb3.bk
      obtain ⟨dt3, ht3⟩ := hb3.trs _ ha
      have k3 : KeepB d es H1 (upd H2 Tt (.tup [.int (t.key : Nat), .int (n : Nat)])) := k2.trans (KeepB.of sT)
      have al3 := al2.trans (KeepA.of sT)
      refine ⟨Tt, _, rfl, SqT.of upd_same, rfl, _, _, rfl, _, _, rfl, rfl, ?_⟩
      generalize upd H2 Tt (.tup [.int (t.key : Nat), .int (n : Nat)]) = H3 at hb3 hbk3 ht3 k3 al3 ⊢
      have hamt : n ≤ t.amount := Nat.le_trans hroom (by unfold Vbchad.room; omega)
      refine ⟨_, rfl, b, _, dx3, _, _, rfl, hbk3, T.cl_Book, T.n_Book_held, bF_held d, _, rfl, d, .ref a, rfl, hb3.rd.get ho2.keys ha, ?_⟩
      refine ⟨a, _, dt3, _, _, rfl, ht3, T.cl_Trade, T.n_Trade_amount, trF_amount t, _, rfl, _, _, rfl, rfl, dt3, trF t, ht3, by show 4 < 1000; omega, ?_⟩
      have ew : putF "amount" (.int ((t.amount : Int) - (n : Int))) (trF t) = trF { t with amount := t.amount - n } := by
        rw [show (t.amount : Int) - (n : Int) = ((t.amount - n : Nat) : Int) by omega]
        exact trF_setAmount t (t.amount - n)
      have hb4 := hb3.write (t' := { t with amount := t.amount - n }) ho2.adr rfl (dt := dt3)
      obtain ⟨e0, he0, ea0⟩ := hsub _ ha
      have ea0 : e0.1 = a := ea0
      have k4 : KeepB d es H1 (upd H3 a (.ins T.C_Trade dt3 (trF { t with amount := t.amount - n }))) := by
        have := k3.upd_e (u := .ins T.C_Trade dt3 (trF { t with amount := t.amount - n })) he0
        rwa [ea0] at this
      rw [← ew] at hb4 k4
      have hk4 : ((E1 ++ (a, { t with amount := t.amount - n }) :: E2).map fun e => e.2.key).Nodup := by
        have := ho2.keys
        rw [List.map_append, List.map_cons] at this ⊢
        exact this
      have ha4 : (a, { t with amount := t.amount - n }) ∈ E1 ++ (a, { t with amount := t.amount - n }) :: E2 := List.mem_append_right _ List.mem_cons_self
      obtain ⟨dx4, hbk4⟩ := hb4.bk
      obtain ⟨dt4, ht4⟩ := hb4.trs _ ha4
      refine ⟨_, rfl, b, _, dx4, _, _, rfl, hbk4, T.cl_Book, T.n_Book_held, bF_held d, _, rfl, d, .ref a, rfl, hb4.rd.get hk4 ha4, a, _, dt4, _, _, rfl, ht4, T.cl_Trade, T.n_Trade_amount, trF_amount _, rfl, _, rfl, ite2 (fun c => ?_) (fun c => ?_)⟩
      · have c : t.amount - n = 0 := of_decide_eq_true ((intEq _ 0).symm.trans c)
        refine ⟨_, rfl, b, _, dx4, _, _, rfl, hbk4, T.cl_Book, T.n_Book_held, bF_held d, d, rfl, .inl ⟨_, .inl hb4.dict⟩, _, rfl, _, nk t.key, _, hb4.dict, rfl, valV_ent hk4 ha4, ?_⟩
        refine ⟨some (.int (t.key : Nat)), some (.int (n : Nat)), E1 ++ E2, rfl, hb4.out hk4, ?_, fun e he => ?_, k4.upd_d, al3.upd.upd⟩
        · rw [less_more ht hf, if_pos c, List.append_nil]
          exact ho2.drop
        · rcases List.mem_append.mp he with he | he
          · exact hsub e (List.mem_append_left _ he)
          · exact hsub e (List.mem_append_right _ (List.mem_cons_of_mem _ he))
      · have c : ¬ t.amount - n = 0 := fun z => c ((intEq _ 0).trans (decide_eq_true z))
        refine ⟨some (.int (t.key : Nat)), some (.int (n : Nat)), E1 ++ (a, { t with amount := t.amount - n }) :: E2, rfl, hb4, ?_, fun e he => ?_, k4, al3.upd⟩
        · rw [less_more ht hf, if_neg c, List.append_assoc]
          refine ho2.put rfl rfl rfl { hw with a1 := ?_, a2 := ?_, l1 := ?_ }
          · show 1 ≤ t.amount - n
            omega
          · show t.amount - n ≤ 1000000000
            have := hw.a2
            omega
          · show t.least ≤ t.amount - n
            have := hw.l1
            unfold Vbchad.room at hroom
            omega
        · rcases List.mem_append.mp he with he | he
          · exact hsub e (List.mem_append_left _ he)
          · rcases List.mem_cons.mp he with rfl | he
            · exact ⟨e0, he0, ea0⟩
            · exact hsub e (List.mem_append_right _ (List.mem_cons_of_mem _ he))
    · rintro σ H2 ⟨y2, y3, es2, rfl, hb2, ho2, _, k2, al2⟩
      rw [NV_len, List.length_map, List.take_length, List.drop_length, List.append_nil, ← hl, List.take_length] at ho2
      exact q H2 es2 ((KeepB.of s1).trans k2) ((KeepA.of s1).trans al2) hb2 ho2
end
end St
end
section
set_option maxRecDepth 100000
set_option maxHeartbeats 4000000
namespace St
open PySem PySem.Spec PyProof.Rows L2 NT
def hF (b : Addr) : List (Str × V) := [("book", .ref b)]
theorem hF_book (b : Addr) : (hF b).lookup ("book" : Str) = some (.ref b) := lk_here
theorem hF_no {m : Str} (b : Addr) (h : (m == ("book" : Str)) = false) : (hF b).lookup m = none := (lk_past h).trans rfl
/-- the house at h -/
structure HB {K : PySem.W.Frag} {mg : Str → Option Value} (T : Tx K mg) (H : Hp) (h b d : Addr) (es : List En) (l : List Tr) : Prop where
  hs : ∃ dx, H h = some (.ins T.C_House dx (hF b))
  bk : BookAt T.C_Book T.C_Trade H b d es
  ok : BookOk es l
def HAt {K : PySem.W.Frag} {mg : Str → Option Value} (T : Tx K mg) (H : Hp) (h : Addr) (l : List Tr) : Prop := ∃ b d es, HB T H h b d es l
def SeqO : HO → Prop
  | .lst _ => True
  | .tup _ => True
  | .frz _ _ => True
  | _ => False
def KeepL (H H' : Hp) : Prop := ∀ a o, H a = some o → SeqO o → H' a = some o
theorem KeepL.of {H H' : Hp} (s : Same H H') : KeepL H H' := fun a o h _ => s _ _ h
theorem KeepL.trans {H H1 H2 : Hp} (a : KeepL H H1) (b : KeepL H1 H2) : KeepL H H2 := fun c o h s => b c o (a c o h s) s
theorem KeepL.seq {K : PySem.W.Frag} {H H' : Hp} {p : Addr} {xs : List V} (k : KeepL H H') (s : SqL K H p xs) : SqL K H' p xs := by
  rcases s with (s | ⟨o, s⟩) | s
  · exact .inl (.inl (k _ _ s trivial))
  · exact .inl (.inr ⟨o, k _ _ s trivial⟩)
  · exact .inr s
section
variable {K : PySem.W.Frag} {mg : Str → Option Value} {T : Tx K mg} {H H' : Hp} {h b d : Addr} {es : List En} {l : List Tr} {Q : VK} {c : Vbchad.Call}
theorem HB.same (hh : HB T H h b d es l) (s : Same H H') : HB T H' h b d es l := ⟨let ⟨dx, q⟩ := hh.hs; ⟨dx, s _ _ q⟩, hh.bk.same s, hh.ok⟩
theorem HAt.same (hh : HAt T H h l) (s : Same H H') : HAt T H' h l := let ⟨b, d, es, q⟩ := hh; ⟨b, d, es, q.same s⟩
theorem HB.keepL (hh : HB T H h b d es l) (k : KeepB d es H H') : KeepL H H' := fun a o ha so => by
  obtain ⟨n, m⟩ := hh.bk.apart ha (fun z => by rw [z] at so; exact so) (fun _ _ z => by rw [z] at so; exact so)
  exact k _ _ ha n m
theorem hF_trF (b : Addr) (t : Tr) : hF b ≠ trF t := fun z => by
  have := congrArg List.length z
  cases this
theorem HB.house (hh : HB T H h b d es l) (k : KeepB d es H H') : ∃ dx, H' h = some (.ins T.C_House dx (hF b)) := by
  obtain ⟨dx, q⟩ := hh.hs
  obtain ⟨n, m⟩ := hh.bk.apart q (by intro z; cases z) (by intro _ _ z; exact hF_trF _ _ (HO.ins.inj z).2.2)
  exact ⟨dx, k _ _ q n m⟩
theorem HB.of (hh : HB T H h b d es l) (k : KeepB d es H H') {es' : List En} {l' : List Tr} (hb : BookAt T.C_Book T.C_Trade H' b d es') (ho : BookOk es' l') : HB T H' h b d es' l' := ⟨hh.house k, hb, ho⟩
/-- how a call is answered -/
def Ans {K : PySem.W.Frag} {mg : Str → Option Value} (T : Tx K mg) (H : Hp) (h : Addr) (l : List Tr) (c : Vbchad.Call) (Q : VK) : Prop :=
  ∀ H' p, KeepL H H' → H p = none → H' p = some (.lst ((Vbchad.step ⟨l⟩ c).2.map V.int)) → HAt T H' h (Vbchad.step ⟨l⟩ c).1.trades → Q (.ref p) H'
/-- a list that was written, and nothing changed -/
theorem Ans.ro (q : Ans T H h l c Q) (hh : HB T H h b d es l) (s : Same H H') {p : Addr} {ns : List Int} (n : H p = none) (hs : Vbchad.step ⟨l⟩ c = (⟨l⟩, ns)) (e : H' p = some (.lst (ns.map V.int))) : Q (.ref p) H' := by
  refine q H' p (.of s) n ?_ ?_
  · rw [hs]; exact e
  · rw [hs]; exact ⟨b, d, es, hh.same s⟩
theorem Ans.new (q : Ans T H h l c Q) (hh : HB T H h b d es l) (s : Same H H') {p : Addr} {ns : List Int} (n : H' p = none) (hs : Vbchad.step ⟨l⟩ c = (⟨l⟩, ns)) : Q (.ref p) (upd H' p (.lst (ns.map V.int))) :=
  q.ro hh (s.trans (same_new n)) (s.free n) hs upd_same
end
theorem keyed_iff {k : Int} : Vbchad.keyed k = true ↔ 1 ≤ k ∧ k ≤ 1000000000 := by
  unfold Vbchad.keyed Vbchad.within Vbchad.KEY
  rw [Bool.and_eq_true, decide_eq_true_iff, decide_eq_true_iff]
  exact Iff.rfl
theorem tradeAt_some {l : List Tr} {k : Nat} {t : Tr} (h : Vbchad.tradeAt ⟨l⟩ k = some t) : t ∈ l ∧ t.key = k :=
  ⟨List.mem_of_find?_eq_some h, of_decide_eq_true (List.find?_some (p := fun t : Tr => t.key == k) h)⟩
theorem tradeAt_none {l : List Tr} {k : Nat} (h : Vbchad.tradeAt ⟨l⟩ k = none) : ∀ t ∈ l, t.key ≠ k := fun t ht e => by
  have := List.find?_eq_none.mp h t ht
  simp [e] at this
section
variable {CB CT : Addr} {H : Hp} {b d : Addr} {es : List En} {l : List Tr}
theorem BookAt.find (hb : BookAt CB CT H b d es) (ho : BookOk es l) (k : Nat) : ∃ o, DGet H d (.int (k : Nat)) o ∧ o.isSome = (Vbchad.tradeAt ⟨l⟩ k).isSome := by
  cases e : Vbchad.tradeAt ⟨l⟩ k with
  | none =>
    refine ⟨none, ?_, rfl⟩
    have := valV_ent_no (es := es) (k := k) fun e' he z => tradeAt_none e e'.2 (ho.mem.mpr ⟨e'.1, he⟩) z
    rw [← this]
    exact DGet.k (k := nk k) hb.dict
  | some t =>
    obtain ⟨h1, h2⟩ := tradeAt_some e
    obtain ⟨a, ha⟩ := ho.mem.mp h1
    exact ⟨_, h2 ▸ hb.rd.get ho.keys ha, rfl⟩
end
section
variable {P : Program} {w : World} {K : PySem.W.Frag} {mg : Str → Option Value} {base : Heap}
def sp_is_key (K : PySem.W.Frag) : Sp := fun vs H Q _ => ∃ k : Int, vs = [.int k] ∧ Q (.bl (Vbchad.keyed k)) H
theorem ok_is_key (T : Tx K mg) : FnOk P w K mg base CX0 1 T.f_is_key T.d_is_key ["number"] (sp_is_key K) := by
  refine T.F_is_key.ok sc_is_key (fun vs H Q E h => ?_) (fun cdv A outer s H vs Q E hr h => ?_)
  · obtain ⟨k, rfl, _⟩ := h
    rfl
  · refine ⟨_, (pss_one (ps_ret (pe_chain op_le op_le pe_int (pv 0) (pe_glob (v := .int 1000000000) rfl T.g_MOST_KEY ⟨_, rfl⟩)))), ?_⟩
    -- slots: 0 number
    obtain ⟨k, rfl, q⟩ := h
    refine ⟨_, rfl, _, _, rfl, rfl, _, rfl, ite2 (fun c => ?_) (fun c => ?_)⟩
    · have c : 1 ≤ k := of_decide_eq_true c
      refine ⟨_, _, rfl, rfl, ?_⟩
      have e : Vbchad.keyed k = decide (k ≤ 1000000000) := by
        rw [Bool.eq_iff_iff, keyed_iff, decide_eq_true_iff]
        omega
      rw [e] at q
      exact q
    · have c : ¬ 1 ≤ k := fun z => c (decide_eq_true z)
      have e : Vbchad.keyed k = false := by
        rw [← Bool.not_eq_true, keyed_iff]
        omega
      rw [e] at q
      exact q
def sp_House_init (T : Tx K mg) : Sp := fun vs H Q _ => ∃ (p dx : Addr), vs = [.ref p] ∧ H p = some (.ins T.C_House dx []) ∧
  ∀ H', (∀ a o, H a = some o → a ≠ p → H' a = some o) → HAt T H' p [] → Q .non H'
theorem ok_House_init (T : Tx K mg) : FnOk P w K mg base CX0 3 T.f_House_init T.d_House_init ["self"] (sp_House_init T) := by
  refine T.F_House_init.ok sc_House_init (fun vs H Q E h => ?_) (fun cdv A outer s H vs Q E hr h => ?_)
  · obtain ⟨p, dx, rfl, _⟩ := h
    rfl
  · refine ⟨_, (pss_one (ps_fld (pv 0) (pe_make0 T.k_Book (ok_Book_init T) (hr.mono (by decide)) (by rfl) T.g_Book T.b_Book_init .nil pass0) rfl)), ?_⟩
    -- slots: 0 self
    obtain ⟨p, dx, rfl, hp, q⟩ := h
    intro x dy nx ndy hne
    refine ⟨x, dy, rfl, upd_same, fun d nd => ⟨rfl, ?_⟩⟩
    have hp1 : (upd (upd (upd (upd H dy (.own x)) x (.ins T.C_Book dy [])) d (.dK [])) x (.ins T.C_Book dy (bF d))) p = some (.ins T.C_House dx []) := by
      have n1 : p ≠ x := ne_of_none hp nx
      have n2 : p ≠ dy := ne_of_none hp ndy
      have h1 : (upd (upd H dy (.own x)) x (.ins T.C_Book dy [])) p = some (.ins T.C_House dx []) := by rw [upd_ne n1, upd_ne n2]; exact hp
      have n3 : p ≠ d := ne_of_none h1 nd
      rw [upd_ne n1, upd_ne n3]
      exact h1
    refine ⟨_, rfl, p, _, dx, _, rfl, hp1, T.cl_House, T.n_House_book, by show 0 < 1000; omega, ?_⟩
    have n1 : p ≠ x := ne_of_none hp nx
    have nxd : x ≠ d := fun z => by rw [← z, upd_same] at nd; cases nd
    have npd : p ≠ d := by
      have h1 : (upd (upd H dy (.own x)) x (.ins T.C_Book dy [])) p = some (.ins T.C_House dx []) := by rw [upd_ne n1, upd_ne (ne_of_none hp ndy)]; exact hp
      exact ne_of_none h1 nd
    refine q _ (fun a o ha hap => ?_) ⟨x, d, [], ⟨dx, upd_same⟩, ⟨⟨dy, ?_⟩, ?_, fun e he => by cases he⟩, ⟨List.Pairwise.nil, List.Perm.refl _, List.nodup_nil, (fun t ht => by cases ht), Nat.zero_le _, Nat.zero_le _⟩⟩
    · have a1 : a ≠ x := ne_of_none ha nx
      have a2 : a ≠ dy := ne_of_none ha ndy
      have h1 : (upd (upd H dy (.own x)) x (.ins T.C_Book dy [])) a = some o := by rw [upd_ne a1, upd_ne a2]; exact ha
      have a3 : a ≠ d := ne_of_none h1 nd
      rw [upd_ne hap, upd_ne a1, upd_ne a3]
      exact h1
    · rw [upd_ne n1.symm]
      exact upd_same
    · rw [upd_ne npd.symm, upd_ne nxd.symm]
      exact upd_same
def faultOf (l : List Tr) (k : Int) : Int := if Vbchad.keyed k = false then -1 else if (Vbchad.tradeAt ⟨l⟩ k.toNat).isSome = true then 0 else -4
def sp_key_fault (T : Tx K mg) : Sp := fun vs H Q _ => ∃ (h b d : Addr) (es : List En) (l : List Tr) (k : Int), vs = [.ref h, .int k] ∧ HB T H h b d es l ∧ Q (.int (faultOf l k)) H
theorem ok_House_key_fault (T : Tx K mg) : FnOk P w K mg base CX0 2 T.f_House_key_fault T.d_House_key_fault ["self", "key"] (sp_key_fault T) := by
  refine T.F_House_key_fault.ok sc_House_key_fault (fun vs H Q E h => ?_) (fun cdv A outer s H vs Q E hr h => ?_)
  · obtain ⟨hp, b, d, es, l, k, rfl, _⟩ := h
    rfl
  · refine ⟨_, (pss_cons (ps_if (pt_not (pt_val (pe_call (ok_is_key T) (hr.mono (by decide)) (by rfl) T.g_is_key T.F_is_key.kp T.b_is_key .nil pass0 (pa_cons (pv 1) pa_nil))))
      (pss_one (ps_ret (pe_un un_neg pe_int)))
      pss_nil)
      (pss_one (ps_ret (pe_ifExp (pt_cmp (pc_din (hu_of hr) (pv 1) (pe_fld (pe_fld (pv 0) rfl) rfl))) pe_int (pe_un un_neg pe_int))))), ?_⟩
    -- slots: 0 self, 1 key
    obtain ⟨hp, b, d, es, l, k, rfl, hh, q⟩ := h
    obtain ⟨dh, hH⟩ := hh.hs
    obtain ⟨dx, hbk⟩ := hh.bk.bk
    unfold faultOf at q
    refine ⟨_, rfl, k, rfl, _, rfl, ite2 (fun c => ?_) (fun c => ?_)⟩
    · have c : Vbchad.keyed k = false := by simpa using c
      rw [if_pos c] at q
      exact ⟨_, rfl, q⟩
    · have c : Vbchad.keyed k = true := by simpa using c
      rw [if_neg (by rw [c]; decide)] at q
      obtain ⟨n, rfl⟩ : ∃ n : Nat, k = (n : Nat) := ⟨k.toNat, by have := (keyed_iff.mp c).1; omega⟩
      rw [Int.toNat_natCast] at q
      obtain ⟨o, g1, g2⟩ := hh.bk.find hh.ok n
      refine ⟨_, rfl, _, rfl, hp, _, dh, _, _, rfl, hH, T.cl_House, T.n_House_book, hF_book b, b, _, dx, _, _, rfl, hbk, T.cl_Book, T.n_Book_held, bF_held d, d, _, rfl, g1, _, rfl, ite2 (fun c2 => ?_) (fun c2 => ?_)⟩
      · rw [g2] at c2
        rw [if_pos c2] at q
        exact q
      · rw [g2] at c2
        rw [if_neg c2] at q
        exact ⟨_, rfl, q⟩
end
end St
end
section
set_option maxRecDepth 100000
set_option maxHeartbeats 4000000
namespace St
open PySem PySem.Spec PyProof.Rows L2 NT
theorem put_perm (t : Tr) : ∀ l : List Tr, (Vbchad.put t l).Perm (t :: l)
  | [] => List.Perm.refl _
  | x :: l => by
    unfold Vbchad.put
    split
    · exact List.Perm.refl _
    · exact ((put_perm t l).cons x).trans (List.Perm.swap t x l)
theorem put_srt (t : Tr) : ∀ l : List Tr, (l.Pairwise fun a b => a.key < b.key) → (∀ x ∈ l, x.key ≠ t.key) → (Vbchad.put t l).Pairwise fun a b => a.key < b.key
  | [], _, _ => List.pairwise_singleton _ _
  | x :: l, h, n => by
    obtain ⟨h1, h2⟩ := List.pairwise_cons.mp h
    unfold Vbchad.put
    split
    · rename_i c
      refine List.pairwise_cons.mpr ⟨fun y hy => ?_, h⟩
      rcases List.mem_cons.mp hy with rfl | hy
      · exact c
      · exact Nat.lt_trans c (h1 y hy)
    · rename_i c
      have := n x List.mem_cons_self
      refine List.pairwise_cons.mpr ⟨fun y hy => ?_, put_srt t l h2 fun y hy => n y (List.mem_cons_of_mem _ hy)⟩
      rcases List.mem_cons.mp ((put_perm t l).mem_iff.mp hy) with rfl | hy
      · omega
      · exact h1 y hy
theorem put_mem {t : Tr} {l : List Tr} {x : Nat} : x ∈ Vbchad.membersOf (Vbchad.put t l) ↔ x ∈ Vbchad.membersOf l ∨ x = t.from_ ∨ x = t.to := by
  rw [SP.mem_members, SP.mem_members]
  constructor
  · rintro ⟨y, h1, h2⟩
    rcases List.mem_cons.mp ((put_perm t l).mem_iff.mp h1) with rfl | h1
    · exact .inr (h2.elim (fun z => .inl z.symm) fun z => .inr z.symm)
    · exact .inl ⟨y, h1, h2⟩
  · rintro (⟨y, h1, h2⟩ | h)
    · exact ⟨y, (put_perm t l).mem_iff.mpr (List.mem_cons_of_mem _ h1), h2⟩
    · exact ⟨t, (put_perm t l).mem_iff.mpr List.mem_cons_self, h.elim (fun z => .inl z.symm) fun z => .inr z.symm⟩
theorem BookOk.add {es : List En} {l : List Tr} {t : Tr} {x : Addr} (ho : BookOk es l) (hk : ∀ y ∈ l, y.key ≠ t.key) (hw : WfT t) (h40 : l.length < 40) (h12 : (Vbchad.membersOf (Vbchad.put t l)).length ≤ 12) (hx : ∀ e ∈ es, e.1 ≠ x) : BookOk (es ++ [(x, t)]) (Vbchad.put t l) where
  srt := put_srt t l ho.srt hk
  perm := by
    rw [List.map_append]
    refine (put_perm t l).trans ((ho.perm.cons t).trans ?_)
    exact (List.perm_append_singleton t _).symm
  adr := by
    rw [List.map_append]
    refine List.nodup_append.mpr ⟨ho.adr, List.nodup_cons.mpr ⟨(fun h => nomatch h), List.nodup_nil⟩, fun a ha b hb => ?_⟩
    obtain ⟨e, he, rfl⟩ := List.mem_map.mp ha
    rw [List.mem_singleton.mp hb]
    exact hx e he
  wf := fun y hy => by
    rcases List.mem_cons.mp ((put_perm t l).mem_iff.mp hy) with rfl | hy
    · exact hw
    · exact ho.wf y hy
  n40 := by
    rw [(put_perm t l).length_eq, List.length_cons]
    exact h40
  m12 := h12
theorem BookAt.add {CB CT : Addr} {H H1 : Hp} {b d x : Addr} {es : List En} {t : Tr} (hb : BookAt CB CT H b d es) (s : Same H H1) (hx : TrAt CT H1 x t) : BookAt CB CT (upd H1 d (.dK ((es ++ [(x, t)]).map ent))) b d (es ++ [(x, t)]) := by
  have hb1 := hb.same s
  refine ⟨?_, upd_same, fun e he => ?_⟩
  · obtain ⟨dx, q⟩ := hb1.bk
    refine ⟨dx, ?_⟩
    rw [upd_ne (ne_of q hb1.dict (by intro z; cases z))]
    exact q
  · have : TrAt CT H1 e.1 e.2 := by
      rcases List.mem_append.mp he with he | he
      · exact hb1.trs e he
      · rw [List.mem_singleton.mp he]
        exact hx
    obtain ⟨dy, q⟩ := this
    refine ⟨dy, ?_⟩
    rw [upd_ne (ne_of q hb1.dict (by intro z; cases z))]
    exact q
section
variable {P : Program} {w : World} {K : PySem.W.Frag} {mg : Str → Option Value} {base : Heap}
def sp_is_full (T : Tx K mg) : Sp := fun vs H Q _ => ∃ (h b d : Addr) (es : List En) (l : List Tr) (t : Tr), vs = [.ref h, .int (t.from_ : Nat), .int (t.to : Nat)] ∧ HB T H h b d es l ∧
  ∀ H', Same H H' → Q (.bl (decide (40 ≤ l.length) || decide (12 < (Vbchad.membersOf (Vbchad.put t l)).length))) H'
theorem ok_House_is_full (T : Tx K mg) : FnOk P w K mg base CX0 2 T.f_House_is_full T.d_House_is_full ["self", "giver", "taker"] (sp_is_full T) := by
  refine T.F_House_is_full.ok sc_House_is_full (fun vs H Q E h => ?_) (fun cdv A outer s H vs Q E hr h => ?_)
  · obtain ⟨hp, b, d, es, l, t, rfl, _⟩ := h
    rfl
  · refine ⟨_, (pss_cons (ps_set (i := 3) sc_House_is_full.nd rfl (.inl rfl) pe_dnewK)
      (pss_cons (ps_for PassesOwn.never rfl (pi_list (pe_op op_cat (pe_meth0 (pe_fld (pv 0) rfl) T.cl_Book T.m_Book_members (ok_Book_members T) (hr.mono (by decide)) T.b_Book_members .nil pass0) (pe_lst (pa_cons (pv 1) (pa_cons (pv 2) pa_nil))))) (pg_name (i := 4) sc_House_is_full.nd rfl (.inl rfl))
      (pss_one (ps_dput (hu_of hr) (pv 3) (pv 4) pe_bl rfl)))
      (pss_one (ps_ret (pe_or (pe_cmpR op_ge (pe_callB call_lenD (by rfl) T.z_len (by decide +kernel) (pa_cons (pe_fld (pe_fld (pv 0) rfl) rfl) pa_nil)) (pe_glob (v := .int 40) rfl T.g_MOST_TRADES ⟨_, rfl⟩) (nomark _)) (pe_one (pe_cmpR op_gt (pe_callB call_lenD (by rfl) T.z_len (by decide +kernel) (pa_cons (pv 3) pa_nil)) (pe_glob (v := .int 12) rfl T.g_MOST_MEMBERS ⟨_, rfl⟩) (nomark _)))))))), ?_⟩
    -- slots: 0 self, 1 giver, 2 taker, 3 members, 4 member
    obtain ⟨hp, b, d, es, l, t, rfl, hh, q⟩ := h
    have hb := hh.bk
    have ho := hh.ok
    obtain ⟨dh, hH⟩ := hh.hs
    obtain ⟨dx, hbk⟩ := hb.bk
    intro M nM
    have s1 : Same H (upd H M (.dK [])) := same_new nM
    have eM1 : (upd H M (.dK [])) M = some (.dK []) := upd_same
    generalize upd H M (.dK []) = H1 at s1 eM1 ⊢
    refine ⟨_, rfl, hp, _, dh, _, _, rfl, s1 _ _ hH, T.cl_House, T.n_House_book, hF_book b, b, dx, _, rfl, s1 _ _ hbk, bF_no d (by decide +kernel), b, d, es, l, rfl, hb.same s1, ho, fun H2 pm s2 n2 e2 => ?_⟩
    refine ⟨_, rfl, _, rfl, by show 2 ≤ sizeLine; decide, fun p3 n3 => ?_⟩
    have hm12 := ho.m12
    refine ⟨pm, p3, _, _, rfl, rfl, (same_new n3) _ _ e2, upd_same, sz_of (by rw [NV_len]; show _ + 2 ≤ _; omega), fun p4 n4 => ?_⟩
    have s4 := s2.trans ((same_new (o := .lst [.int (t.from_ : Nat), .int (t.to : Nat)]) n3).trans (same_new (o := .lst (NV (Vbchad.membersOf l) ++ [.int (t.from_ : Nat), .int (t.to : Nat)])) n4))
    have e4 : (upd (upd H2 p3 (.lst [.int (t.from_ : Nat), .int (t.to : Nat)])) p4 (.lst (NV (Vbchad.membersOf l) ++ [.int (t.from_ : Nat), .int (t.to : Nat)]))) p4 = some (.lst (NV (Vbchad.membersOf l ++ [t.from_, t.to]))) := by
      rw [upd_same]
      unfold NV
      rw [List.map_append]
      rfl
    have n4M : p4 ≠ M := fun z => by
      have := s2.trans (same_new (o := .lst [.int (t.from_ : Nat), .int (t.to : Nat)]) n3) _ _ eM1
      rw [z, this] at n4
      cases n4
    generalize upd (upd H2 p3 (.lst [.int (t.from_ : Nat), .int (t.to : Nat)])) p4 (.lst (NV (Vbchad.membersOf l) ++ [.int (t.from_ : Nat), .int (t.to : Nat)])) = H4 at s4 e4 ⊢
    refine ⟨p4, rfl, ⟨_, SqL.of e4⟩, for_list (K := K) (a := p4) (xs := NV (Vbchad.membersOf l ++ [t.from_, t.to])) (fun i σ H5 => ∃ y ks, σ = [some (.ref hp), some (.int (t.from_ : Nat)), some (.int (t.to : Nat)), some (.ref M), y] ∧ Same H H5 ∧ H5 p4 = some (.lst (NV (Vbchad.membersOf l ++ [t.from_, t.to]))) ∧
      H5 M = some (.dK (ks.map tE)) ∧ ks.Nodup ∧ ∀ x, x ∈ ks ↔ x ∈ (Vbchad.membersOf l ++ [t.from_, t.to]).take i) ⟨none, [], rfl, s1.trans s4, e4, s4 _ _ eM1, List.nodup_nil, fun x => by simp⟩ (fun i σ H5 _ ⟨_, _, _, _, e5, _⟩ => SqL.of e5) ?_ ?_⟩
    · rintro i x σ H5 hx ⟨y, ks, rfl, s5, e5, m5, nd5, k5⟩
      obtain ⟨m, hm, rfl⟩ : ∃ m, (Vbchad.membersOf l ++ [t.from_, t.to])[i]? = some m ∧ x = .int (m : Nat) := by
        unfold NV at hx
        rw [List.getElem?_map] at hx
        cases e : (Vbchad.membersOf l ++ [t.from_, t.to])[i]? with
        | none => rw [e] at hx; cases hx
        | some t => rw [e] at hx; exact ⟨t, rfl, (Option.some.inj hx).symm⟩
      have hlen : (ks.map tE).length < sizeLine := by
        have := SP.nodup_le nd5 fun x hx => List.mem_of_mem_take ((k5 x).mp hx)
        rw [List.length_append] at this
        rw [List.length_map]
        refine sz_lt ?_
        have h2 : [t.from_, t.to].length = 2 := rfl
        omega
      refine ⟨_, rfl, _, rfl, M, _, rfl, DPut.k (k := nk m) m5 hlen, ?_⟩
      obtain ⟨ks', h1, h2, h3⟩ := put_ms m ks nd5
      rw [h1]
      refine ⟨some (.int (m : Nat)), ks', rfl, s5.mut nM, ?_, upd_same, h2, fun x => ?_⟩
      · rw [upd_ne n4M]
        exact e5
      · rw [h3, k5, take_more hm, List.mem_append, List.mem_singleton]
        exact ⟨fun z => z.elim .inr .inl, fun z => z.elim .inr .inl⟩
    · rintro σ H5 ⟨y, ks, rfl, s5, e5, m5, nd5, k5⟩
      have hks : ks.length = (Vbchad.membersOf (Vbchad.put t l)).length := by
        refine ((List.perm_ext_iff_of_nodup nd5 (SP.members_nodup _)).mpr fun x => ?_).length_eq
        rw [k5, put_mem, NV_len, List.take_length, List.mem_append]
        simp
      have hb5 := hb.same s5
      obtain ⟨dh5, hH5⟩ := (hh.same s5).hs
      obtain ⟨dx5, hbk5⟩ := hb5.bk
      have hl : (es.map ent).length = l.length := by rw [List.length_map]; exact ho.len
      refine ⟨_, rfl, hp, _, dh5, _, _, rfl, hH5, T.cl_House, T.n_House_book, hF_book b, b, _, dx5, _, _, rfl, hbk5, T.cl_Book, T.n_Book_held, bF_held d, d, _, rfl, hb5.dict, _, _, rfl, rfl, _, rfl, ite2 (fun c => ?_) (fun c => ?_)⟩
      · have c : (40 : Int) ≤ ((es.map ent).length : Int) := of_decide_eq_true c
        have := q H5 s5
        rw [decide_eq_true (show 40 ≤ l.length by omega), Bool.true_or] at this
        exact this
      · have c : ¬ (40 : Int) ≤ ((es.map ent).length : Int) := fun z => c (decide_eq_true z)
        refine ⟨_, rfl, M, _, rfl, m5, _, _, rfl, rfl, ?_⟩
        have := q H5 s5
        rw [decide_eq_false (show ¬ 40 ≤ l.length by omega), Bool.false_or, ← hks] at this
        have e : decide ((12 : Int) < ((ks.map tE).length : Int)) = decide (12 < ks.length) := by
          rw [Bool.eq_iff_iff, decide_eq_true_iff, decide_eq_true_iff, List.length_map]
          omega
        rw [← e] at this
        exact this
theorem int_inj {a b : Int} (h : decide (V.int a = V.int b) = true) : a = b := V.int.inj (of_decide_eq_true h)
theorem int_ne {a b : Int} (h : ¬ decide (V.int a = V.int b) = true) : ¬ a = b := fun z => h (decide_eq_true (by rw [z]))
def sp_House_trade (T : Tx K mg) : Sp := fun vs H Q _ => ∃ (h : Addr) (l : List Tr) (k a b x y : Int), vs = [.ref h, .int k, .int a, .int b, .int x, .int y] ∧ HAt T H h l ∧ Ans T H h l (.trade k a b x y) Q
theorem ok_House_trade (T : Tx K mg) : FnOk P w K mg base CX0 3 T.f_House_trade T.d_House_trade ["self", "key", "giver", "taker", "amount", "least"] (sp_House_trade T) := by
  refine T.F_House_trade.ok sc_House_trade (fun vs H Q E h => ?_) (fun cdv A outer s H vs Q E hr h => ?_)
  · obtain ⟨hp, l, k, a, b, x, y, rfl, _⟩ := h
    rfl
  · refine ⟨_, (pss_cons (ps_if (PW.pt (pw_or (pt_not (pt_val (pe_callB (cr_all rfl) (by rfl) T.z_all (by decide +kernel) (pa_cons (pe_lc (own := [("number", 6)]) (by rfl) sc_House_trade.nd (pi_list (pe_lst (pa_cons (pv 1) (pa_cons (pv 2) (pa_cons (pv 3) (pa_cons (pv 4) pa_nil)))))) (blkOk_by (own := [("number", 6)]) (N := N_House_trade) (sc := defScope s_House_trade) (by decide +kernel)) (fun _ _ _ _ _ => (pg_name (i := 6) sc_House_trade.nd rfl (.inl rfl))) (fun _ _ _ _ _ => pts_nil) (fun _ _ _ _ _ => (pe_call (ok_is_key T) (hr.mono (by decide)) (by rfl) T.g_is_key T.F_is_key.kp T.b_is_key .nil pass0 (pa_cons (pv 6) pa_nil)))) pa_nil)))) (pw_or1 (pt_not (pt_chain op_le op_le pe_int (pv 5) (pv 4))))))
      (pss_one (ps_ret (pe_lst (pa_cons (pe_un un_neg pe_int) pa_nil))))
      pss_nil)
      (pss_cons (ps_if (pt_cmpR op_eq (pv 2) (pv 3) (nomark _))
      (pss_one (ps_ret (pe_lst (pa_cons (pe_un un_neg pe_int) pa_nil))))
      pss_nil)
      (pss_cons (ps_if (pt_cmp (pc_din (hu_of hr) (pv 1) (pe_fld (pe_fld (pv 0) rfl) rfl)))
      (pss_one (ps_ret (pe_lst (pa_cons (pe_un un_neg pe_int) pa_nil))))
      pss_nil)
      (pss_cons (ps_if (pt_val (pe_meth (pv 0) T.cl_House T.m_House_is_full (ok_House_is_full T) (hr.mono (by decide)) T.b_House_is_full .nil pass0 (pa_cons (pv 2) (pa_cons (pv 3) pa_nil))))
      (pss_one (ps_ret (pe_lst (pa_cons (pe_un un_neg pe_int) pa_nil))))
      pss_nil)
      (pss_cons (ps_dput (hu_of hr) (pe_fld (pe_fld (pv 0) rfl) rfl) (pv 1) (pe_make T.k_Trade (ok_Trade_init T) (hr.mono (by decide)) (by rfl) T.g_Trade T.b_Trade_init .nil pass0 (pa_cons (pv 2) (pa_cons (pv 3) (pa_cons (pv 4) (pa_cons (pv 5) pa_nil))))) rfl)
      (pss_one (ps_ret (pe_lst (pa_cons pe_int pa_nil))))))))), ?_⟩
    -- slots: 0 self, 1 key, 2 giver, 3 taker, 4 amount, 5 least, 6 number
    obtain ⟨hp, l, k, a, b', x, y, rfl, ⟨b, d, es, hh⟩, q⟩ := h
    have hb := hh.bk
    have ho := hh.ok
    have bad : (Vbchad.keyed k && (Vbchad.keyed a && (Vbchad.keyed b' && (Vbchad.within x 1 Vbchad.MONEY && (Vbchad.within y 0 Vbchad.MONEY && decide (y ≤ x)))))) = false → ∀ H1, Same H H1 → ∀ p, H1 p = none → Q (.ref p) (upd H1 p (.lst [.int (-1)])) := fun c H1 s1 p n =>
      q.new (ns := [-1]) hh s1 n (if_pos c)
    refine ⟨_, rfl, _, rfl, _, rfl, _, rfl, by show 4 ≤ sizeLine; decide, fun p1 n1 => ⟨p1, rfl, ⟨_, SqL.of upd_same⟩, fun D nD => lc_map (K := K) (a := p1) (xs := [.int k, .int a, .int b', .int x]) (out := ([k, a, b', x].map Vbchad.keyed).map V.bl) nD (SqL.of upd_same) (by show 4 ≤ sizeLine; decide) rfl ?_ ?_⟩⟩
    · rintro i z y2 H2 Q2 R2 hz hy s2 qq
      obtain ⟨n, hn, rfl⟩ : ∃ n, [k, a, b', x][i]? = some n ∧ z = .int n := by
        have hz : ([k, a, b', x].map V.int)[i]? = some z := hz
        rw [List.getElem?_map] at hz
        cases e : [k, a, b', x][i]? with
        | none => rw [e] at hz; cases hz
        | some n => rw [e] at hz; exact ⟨n, rfl, (Option.some.inj hz).symm⟩
      rw [List.getElem?_map, List.getElem?_map, hn] at hy
      obtain rfl := Option.some.inj hy
      exact ⟨rfl, tyes ⟨_, rfl, n, rfl, qq H2 (Same.refl _)⟩⟩
    intro H2 s2 e2
    have s02 := (same_new (o := .lst [.int k, .int a, .int b', .int x]) n1).trans s2
    refine ⟨D, [k, a, b', x].map Vbchad.keyed, rfl, SqL.of e2, _, rfl, ite2 (fun c => ?_) (fun c => ?_)⟩
    · refine iteT ⟨_, rfl, by show 1 ≤ sizeLine; decide, fun p n => bad ?_ H2 s02 p n⟩
      have c : (!([k, a, b', x].map Vbchad.keyed).all id) = true := c
      rw [Bool.not_eq_true'] at c
      rw [← Bool.not_eq_true] at c ⊢
      intro z
      refine c ?_
      simp only [Bool.and_eq_true] at z
      obtain ⟨z1, z2, z3, z4, _⟩ := z
      have z5 : Vbchad.keyed x = true := keyed_iff.mpr (by unfold Vbchad.within Vbchad.MONEY at z4; simp at z4; exact z4)
      simp [z1, z2, z3, z5]
    have c : (([k, a, b', x].map Vbchad.keyed).all id) = true := by simpa using c
    simp only [List.map_cons, List.map_nil, List.all_cons, List.all_nil, id, Bool.and_true, Bool.and_eq_true] at c
    obtain ⟨ck, ca, cb, cx⟩ := c
    have ck := keyed_iff.mp ck
    have ca := keyed_iff.mp ca
    have cb := keyed_iff.mp cb
    have cx := keyed_iff.mp cx
    refine ⟨_, rfl, _, _, rfl, rfl, _, rfl, ite2 (fun c0 => ?_) (fun c0 => ?_)⟩
    rotate_left
    · have c0 : ¬ 0 ≤ y := fun z => c0 (decide_eq_true z)
      refine ⟨_, rfl, iteT ⟨_, rfl, by show 1 ≤ sizeLine; decide, fun p n => bad ?_ H2 s02 p n⟩⟩
      rw [← Bool.not_eq_true]
      intro z
      simp only [Bool.and_eq_true] at z
      obtain ⟨_, _, _, _, z5, _⟩ := z
      unfold Vbchad.within at z5
      simp at z5
      omega
    have c0 : 0 ≤ y := of_decide_eq_true c0
    refine ⟨_, rfl, _, _, rfl, rfl, _, rfl, ite2 (fun c1 => ?_) (fun c1 => ?_)⟩
    · have c1 : ¬ y ≤ x := by
        have c1 : (!decide (y ≤ x)) = true := c1
        simpa using c1
      refine ⟨_, rfl, by show 1 ≤ sizeLine; decide, fun p n => bad ?_ H2 s02 p n⟩
      rw [← Bool.not_eq_true]
      intro z
      simp only [Bool.and_eq_true] at z
      obtain ⟨_, _, _, _, _, z6⟩ := z
      exact c1 (of_decide_eq_true z6)
    have c1 : y ≤ x := by
      have c1 : ¬ (!decide (y ≤ x)) = true := c1
      simpa using c1
    have good : ¬ (Vbchad.keyed k && (Vbchad.keyed a && (Vbchad.keyed b' && (Vbchad.within x 1 Vbchad.MONEY && (Vbchad.within y 0 Vbchad.MONEY && decide (y ≤ x)))))) = false := by
      rw [keyed_iff.mpr ck, keyed_iff.mpr ca, keyed_iff.mpr cb]
      unfold Vbchad.within Vbchad.MONEY
      simp
      omega
    obtain ⟨k, rfl⟩ : ∃ n : Nat, k = (n : Nat) := ⟨k.toNat, by omega⟩
    obtain ⟨a, rfl⟩ : ∃ n : Nat, a = (n : Nat) := ⟨a.toNat, by omega⟩
    obtain ⟨b', rfl⟩ : ∃ n : Nat, b' = (n : Nat) := ⟨b'.toNat, by omega⟩
    obtain ⟨x, rfl⟩ : ∃ n : Nat, x = (n : Nat) := ⟨x.toNat, by omega⟩
    obtain ⟨y, rfl⟩ : ∃ n : Nat, y = (n : Nat) := ⟨y.toNat, by omega⟩
    have hst : Vbchad.step ⟨l⟩ (.trade (k : Nat) (a : Nat) (b' : Nat) (x : Nat) (y : Nat)) = if (a : Int) = (b' : Int) then (⟨l⟩, [-3]) else if (Vbchad.tradeAt ⟨l⟩ k).isSome = true then (⟨l⟩, [-2]) else if 40 ≤ l.length ∨ 12 < (Vbchad.membersOf (Vbchad.put ⟨k, a, b', x, y⟩ l)).length then (⟨l⟩, [-9]) else (⟨Vbchad.put ⟨k, a, b', x, y⟩ l⟩, [0]) := by
      exact (if_neg good).trans rfl
    have hh2 := hh.same s02
    obtain ⟨dh, hH⟩ := hh2.hs
    obtain ⟨dx, hbk⟩ := hh2.bk.bk
    refine ⟨_, rfl, _, rfl, rfl, _, rfl, ite2 (fun c2 => ?_) (fun c2 => ?_)⟩
    · have c2 := int_inj c2
      exact ⟨_, rfl, by show 1 ≤ sizeLine; decide, fun p n => q.new (ns := [-3]) hh s02 n (by rw [hst, if_pos c2])⟩
    have c2 := int_ne c2
    rw [if_neg c2] at hst
    obtain ⟨o, g1, g2⟩ := hh2.bk.find hh2.ok k
    refine ⟨_, rfl, _, rfl, hp, _, dh, _, _, rfl, hH, T.cl_House, T.n_House_book, hF_book b, b, _, dx, _, _, rfl, hbk, T.cl_Book, T.n_Book_held, bF_held d, d, _, rfl, g1, _, rfl, ite2 (fun c3 => ?_) (fun c3 => ?_)⟩
    · rw [g2] at c3
      exact ⟨_, rfl, by show 1 ≤ sizeLine; decide, fun p n => q.new (ns := [-2]) hh s02 n (by rw [hst, if_pos c3])⟩
    rw [g2] at c3
    rw [if_neg c3] at hst
    refine ⟨_, rfl, hp, dh, _, rfl, hH, hF_no b (by decide +kernel), _, rfl, _, rfl, hp, b, d, es, l, ⟨k, a, b', x, y⟩, rfl, hh2, fun H3 s3 => ⟨_, rfl, ite2 (fun c4 => ?_) (fun c4 => ?_)⟩⟩
    · have s03 := s02.trans s3
      refine ⟨_, rfl, by show 1 ≤ sizeLine; decide, fun p n => q.new (ns := [-9]) hh s03 n (by rw [hst, if_pos]; simpa using c4)⟩
    have s03 := s02.trans s3
    have c4 : ¬ (40 ≤ l.length ∨ 12 < (Vbchad.membersOf (Vbchad.put ⟨k, a, b', x, y⟩ l)).length) := by simpa using c4
    rw [if_neg c4] at hst
    have hh3 := hh.same s03
    obtain ⟨dh3, hH3⟩ := hh3.hs
    obtain ⟨dx3, hbk3⟩ := hh3.bk.bk
    -- self.book.held[key] = Trade(..)
    refine ⟨_, rfl, _, rfl, _, rfl, _, rfl, fun z dz nz ndz hne => ⟨z, dz, a, b', x, y, rfl, upd_same, rfl, ?_⟩⟩
    rw [upd_upd]
    have s4 : Same H3 (upd (upd H3 dz (.own z)) z (.ins T.C_Trade dz (trF ⟨0, a, b', x, y⟩))) := (same_new ndz).trans (same_new (by rw [upd_ne hne.symm]; exact nz))
    have e4 : (upd (upd H3 dz (.own z)) z (.ins T.C_Trade dz (trF ⟨0, a, b', x, y⟩))) z = some (.ins T.C_Trade dz (trF ⟨k, a, b', x, y⟩)) := upd_same
    generalize upd (upd H3 dz (.own z)) z (.ins T.C_Trade dz (trF ⟨0, a, b', x, y⟩)) = H4 at s4 e4 ⊢
    have hb4 := hh3.bk.same s4
    have hlen : (es.map ent).length < sizeLine := by
      rw [List.length_map, ho.len]
      exact sz_lt (by have := ho.n40; omega)
    refine ⟨_, rfl, hp, _, dh3, _, _, rfl, s4 _ _ hH3, T.cl_House, T.n_House_book, hF_book b, b, _, dx3, _, _, rfl, s4 _ _ hbk3, T.cl_Book, T.n_Book_held, bF_held d, _, rfl, d, _, rfl, DPut.k (k := nk k) hb4.dict hlen, ?_⟩
    have hfr : ∀ t ∈ l, t.key ≠ k := tradeAt_none (by cases e : Vbchad.tradeAt ⟨l⟩ k with | none => rfl | some t => rw [e] at c3; exact absurd rfl c3)
    have hput : putK (es.map ent) (nk k) (.ref z) = (es ++ [(z, (⟨k, a, b', x, y⟩ : Tr))]).map ent := by
      rw [putK_new _ (valV_ent_no (es := es) (k := k) fun e' he w => hfr e'.2 (ho.mem.mpr ⟨e'.1, he⟩) w), List.map_append]
      rfl
    rw [hput]
    have hb5 := hb4.add (H1 := H4) (t := ⟨k, a, b', x, y⟩) (Same.refl _) ⟨dz, e4⟩
    have nzH : H z = none := s03.free nz
    have hok : BookOk (es ++ [(z, (⟨k, a, b', x, y⟩ : Tr))]) (Vbchad.put ⟨k, a, b', x, y⟩ l) := by
      refine ho.add hfr ⟨by show 1 ≤ k; omega, by show k ≤ 1000000000; omega, by show 1 ≤ a; omega, by show a ≤ 1000000000; omega, by show 1 ≤ b'; omega, by show b' ≤ 1000000000; omega, fun w => c2 (congrArg (fun n : Nat => (n : Int)) w), by show 1 ≤ x; omega, by show x ≤ 1000000000; omega, by show y ≤ x; omega⟩ (by omega) (by omega) fun e he w => ?_
      obtain ⟨dy, hy⟩ := hb.trs e he
      rw [w, nzH] at hy
      cases hy
    have s04 := s03.trans s4
    have kp : KeepB d es H (upd H4 d (.dK ((es ++ [(z, (⟨k, a, b', x, y⟩ : Tr))]).map ent))) := (KeepB.of s04).upd_d
    refine ⟨by show 1 ≤ sizeLine; decide, fun p n => ?_⟩
    have sn := same_new (o := .lst [.int 0]) n
    have hnp : H p = none := by
      cases e : H p with
      | none => rfl
      | some o =>
        by_cases hpd : p = d
        · rw [hpd, upd_same] at n
          cases n
        · rw [upd_ne hpd, s04 _ _ e] at n
          cases n
    refine q _ p ((hh.keepL kp).trans (KeepL.of sn)) hnp ?_ ?_
    · rw [hst, upd_same]
      rfl
    · rw [hst]
      exact ⟨b, d, _, (hh.of kp hb5 hok).same sn⟩
end
end St
end
section
set_option maxRecDepth 100000
set_option maxHeartbeats 4000000
namespace St
open PySem PySem.Spec PyProof.Rows L2 NT
theorem on_cases (l : List Tr) (k : Int) : (faultOf l k < 0 ∧ ∀ f, Vbchad.onTrade ⟨l⟩ k f = (⟨l⟩, [faultOf l k])) ∨ (faultOf l k = 0 ∧ ∃ t ∈ l, k = (t.key : Nat) ∧ ∀ f, Vbchad.onTrade ⟨l⟩ k f = f t) := by
  unfold faultOf Vbchad.onTrade
  cases c : Vbchad.keyed k with
  | false => exact .inl ⟨by rw [if_pos rfl]; decide, fun f => by rw [if_pos rfl, if_pos rfl]⟩
  | true =>
    have hk := keyed_iff.mp c
    cases e : Vbchad.tradeAt ⟨l⟩ k.toNat with
    | none => exact .inl ⟨by simp, fun f => by simp⟩
    | some t =>
      obtain ⟨h1, h2⟩ := tradeAt_some e
      exact .inr ⟨by simp, t, h1, by rw [h2]; omega, fun f => by simp⟩
theorem filter_out {A R : List Tr} {t : Tr} (h : (A ++ t :: R).Pairwise fun a b => a.key < b.key) : (A ++ t :: R).filter (fun x => x.key != t.key) = A ++ R := by
  obtain ⟨h1, h2, h3⟩ := List.pairwise_append.mp h
  obtain ⟨h4, h5⟩ := List.pairwise_cons.mp h2
  rw [List.filter_append, List.filter_cons_of_neg (by simp)]
  congr 1
  · refine List.filter_eq_self.mpr fun x hx => ?_
    have := h3 x hx t List.mem_cons_self
    simp
    omega
  · refine List.filter_eq_self.mpr fun x hx => ?_
    have := h4 x hx
    simp
    omega
theorem map_one {A R : List Tr} {t : Tr} {g : Tr → Tr} (h : (A ++ t :: R).Pairwise fun a b => a.key < b.key) : (A ++ t :: R).map (fun x => if x.key = t.key then g x else x) = A ++ g t :: R := by
  obtain ⟨h1, h2, h3⟩ := List.pairwise_append.mp h
  obtain ⟨h4, h5⟩ := List.pairwise_cons.mp h2
  rw [List.map_append, List.map_cons, if_pos rfl]
  congr 1
  · conv => rhs; rw [← List.map_id A]
    refine List.map_congr_left fun x hx => ?_
    have := h3 x hx t List.mem_cons_self
    rw [if_neg (by omega)]
    rfl
  · congr 1
    conv => rhs; rw [← List.map_id R]
    refine List.map_congr_left fun x hx => ?_
    have := h4 x hx
    rw [if_neg (by omega)]
    rfl
theorem free_in {H H' : Hp} (k : ∀ a o, H a = some o → ∃ u, H' a = some u) {p : Addr} (h : H' p = none) : H p = none := by
  cases e : H p with
  | none => rfl
  | some o =>
    obtain ⟨u, hu⟩ := k _ _ e
    rw [hu] at h
    cases h
section
variable {P : Program} {w : World} {K : PySem.W.Frag} {mg : Str → Option Value} {base : Heap}
def sp_House_drop (T : Tx K mg) : Sp := fun vs H Q _ => ∃ (h : Addr) (l : List Tr) (k : Int), vs = [.ref h, .int k] ∧ HAt T H h l ∧ Ans T H h l (.drop k) Q
theorem ok_House_drop (T : Tx K mg) : FnOk P w K mg base CX0 3 T.f_House_drop T.d_House_drop ["self", "key"] (sp_House_drop T) := by
  refine T.F_House_drop.ok sc_House_drop (fun vs H Q E h => ?_) (fun cdv A outer s H vs Q E hr h => ?_)
  · obtain ⟨hp, l, k, rfl, _⟩ := h
    rfl
  · refine ⟨_, (pss_cons (ps_set (i := 2) sc_House_drop.nd rfl (.inl rfl) (pe_meth (pv 0) T.cl_House T.m_House_key_fault (ok_House_key_fault T) (hr.mono (by decide)) T.b_House_key_fault .nil pass0 (pa_cons (pv 1) pa_nil)))
      (pss_one (ps_ret (pe_ifExp (pt_cmpR op_lt (pv 2) pe_int (nomark _)) (pe_lst (pa_cons (pv 2) pa_nil)) (pe_lst (pa_cons (pe_fld (pe_dpop1 (pe_fld (pe_fld (pv 0) rfl) rfl) (pv 1) ⟨rfl, rfl, rfl, rfl⟩) rfl) pa_nil)))))), ?_⟩
    -- slots: 0 self, 1 key, 2 fault
    obtain ⟨hp, l, k, rfl, ⟨b, d, es, hh⟩, q⟩ := h
    obtain ⟨dh, hH⟩ := hh.hs
    obtain ⟨dx, hbk⟩ := hh.bk.bk
    refine ⟨_, rfl, hp, dh, _, rfl, hH, hF_no b (by decide +kernel), _, rfl, hp, b, d, es, l, k, rfl, hh, ?_⟩
    refine ⟨_, rfl, _, _, rfl, rfl, _, rfl, ite2 (fun c => ?_) (fun c => ?_)⟩
    · have c : faultOf l k < 0 := of_decide_eq_true c
      rcases on_cases l k with ⟨_, h2⟩ | ⟨h1, _⟩
      · exact ⟨_, rfl, by show 1 ≤ sizeLine; decide, fun p n => q.new (ns := [faultOf l k]) hh (Same.refl _) n (h2 _)⟩
      · omega
    · have c : ¬ faultOf l k < 0 := fun z => c (decide_eq_true z)
      rcases on_cases l k with ⟨h1, _⟩ | ⟨_, t, ht, rfl, h2⟩
      · omega
      have hst := h2 fun t => (⟨l.filter fun x => x.key != t.key⟩, [(t.amount : Int)])
      obtain ⟨a, ha⟩ := hh.ok.mem.mp ht
      obtain ⟨E1, E2, rfl⟩ := hh.ok.split ha
      obtain ⟨A1, R, rfl⟩ := List.append_of_mem ht
      rw [filter_out hh.ok.srt] at hst
      obtain ⟨dt, hta⟩ := hh.bk.trs _ ha
      have hk := hh.ok.keys
      have had : a ≠ d := ne_of hta hh.bk.dict (by intro z; cases z)
      have hta2 : (upd H d (.dK (dropK ((E1 ++ (a, t) :: E2).map ent) (nk t.key)))) a = some (.ins T.C_Trade dt (trF t)) := by rw [upd_ne had]; exact hta
      refine ⟨_, rfl, hp, _, dh, _, _, rfl, hH, T.cl_House, T.n_House_book, hF_book b, b, _, dx, _, _, rfl, hbk, T.cl_Book, T.n_Book_held, bF_held d, d, rfl, .inl ⟨_, .inl hh.bk.dict⟩, _, rfl, _, nk t.key, _, hh.bk.dict, rfl, valV_ent hk ha,
        a, _, dt, _, _, rfl, hta2, T.cl_Trade, T.n_Trade_amount, trF_amount t, by show 1 ≤ sizeLine; decide, fun p n => ?_⟩
      have hb2 := hh.bk.out hk
      have kp : KeepB d (E1 ++ (a, t) :: E2) H (upd H d (.dK (dropK ((E1 ++ (a, t) :: E2).map ent) (nk t.key)))) := (KeepB.of (Same.refl _)).upd_d
      have sn := same_new (o := .lst [.int (t.amount : Nat)]) n
      have hnp : H p = none := free_in (fun x o hx => by
        by_cases z : x = d
        · subst z; exact ⟨_, upd_same⟩
        · exact ⟨o, by rw [upd_ne z]; exact hx⟩) n
      refine q _ p ((hh.keepL kp).trans (KeepL.of sn)) hnp ?_ ?_
      · rw [show Vbchad.step ⟨A1 ++ t :: R⟩ (.drop (t.key : Nat)) = _ from hst, upd_same]
        rfl
      · rw [show Vbchad.step ⟨A1 ++ t :: R⟩ (.drop (t.key : Nat)) = _ from hst]
        exact ⟨b, d, _, (hh.of kp hb2 hh.ok.drop).same sn⟩
def sp_House_floor (T : Tx K mg) : Sp := fun vs H Q _ => ∃ (h : Addr) (l : List Tr) (k n : Int), vs = [.ref h, .int k, .int n] ∧ HAt T H h l ∧ Ans T H h l (.keepLeast k n) Q
theorem within_iff {z lo : Int} {hi : Nat} : Vbchad.within z lo hi = true ↔ lo ≤ z ∧ z ≤ (hi : Int) := by
  unfold Vbchad.within
  rw [Bool.and_eq_true, decide_eq_true_iff, decide_eq_true_iff]
theorem within_no {z lo : Int} {hi : Nat} (h : ¬ (lo ≤ z ∧ z ≤ (hi : Int))) : Vbchad.within z lo hi = false := by
  rw [← Bool.not_eq_true, within_iff]
  exact h
theorem ok_House_floor (T : Tx K mg) : FnOk P w K mg base CX0 2 T.f_House_floor T.d_House_floor ["self", "key", "least"] (sp_House_floor T) := by
  refine T.F_House_floor.ok sc_House_floor (fun vs H Q E h => ?_) (fun cdv A outer s H vs Q E hr h => ?_)
  · obtain ⟨hp, l, k, n, rfl, _⟩ := h
    rfl
  · refine ⟨_, (pss_cons (ps_if (PW.pt (pw_or (pt_not (pt_val (pe_call (ok_is_key T) (hr.mono (by decide)) (by rfl) T.g_is_key T.F_is_key.kp T.b_is_key .nil pass0 (pa_cons (pv 1) pa_nil)))) (pw_or1 (pt_not (pt_chain op_le op_le pe_int (pv 2) (pe_glob (v := .int 1000000000) rfl T.g_MOST_KEY ⟨_, rfl⟩))))))
      (pss_one (ps_ret (pe_lst (pa_cons (pe_un un_neg pe_int) pa_nil))))
      pss_nil)
      (pss_cons (ps_if (pt_cmp (pc_dnotin (hu_of hr) (pv 1) (pe_fld (pe_fld (pv 0) rfl) rfl)))
      (pss_one (ps_ret (pe_lst (pa_cons (pe_un un_neg pe_int) pa_nil))))
      pss_nil)
      (pss_cons (ps_if (pt_cmpR op_gt (pv 2) (pe_fld (pe_dget (hu_of hr) (pe_fld (pe_fld (pv 0) rfl) rfl) (pv 1) (fun _ _ => rfl)) rfl) (nomark _))
      (pss_one (ps_ret (pe_lst (pa_cons (pe_un un_neg pe_int) pa_nil))))
      pss_nil)
      (pss_cons (ps_fld (pe_dget (hu_of hr) (pe_fld (pe_fld (pv 0) rfl) rfl) (pv 1) (fun _ _ => rfl)) (pv 2) rfl)
      (pss_one (ps_ret (pe_lst (pa_cons pe_int pa_nil)))))))), ?_⟩
    -- slots: 0 self, 1 key, 2 least
    obtain ⟨hp, l, k, n, rfl, ⟨b, d, es, hh⟩, q⟩ := h
    obtain ⟨dh, hH⟩ := hh.hs
    obtain ⟨dx, hbk⟩ := hh.bk.bk
    have bad : ∀ e : Int, Vbchad.step ⟨l⟩ (.keepLeast k n) = (⟨l⟩, [e]) → ∀ p, H p = none → Q (.ref p) (upd H p (.lst [.int e])) := fun e he p np => q.new (ns := [e]) hh (Same.refl _) np he
    refine ⟨_, rfl, k, rfl, _, rfl, ite2 (fun c => ?_) (fun c => ?_)⟩
    · have c : Vbchad.keyed k = false := by simpa using c
      refine iteT ⟨_, rfl, by show 1 ≤ sizeLine; decide, fun p np => bad (-1) ?_ p np⟩
      cases hw : Vbchad.within n 0 Vbchad.MONEY with
      | false => exact if_pos hw
      | true => exact (if_neg (by rw [hw]; decide)).trans (if_pos c)
    have c : Vbchad.keyed k = true := by simpa using c
    have hk := keyed_iff.mp c
    refine ⟨_, rfl, _, _, rfl, rfl, _, rfl, ite2 (fun c0 => ?_) (fun c0 => ?_)⟩
    rotate_left
    · have c0 : ¬ 0 ≤ n := fun z => c0 (decide_eq_true z)
      exact ⟨_, rfl, iteT ⟨_, rfl, by show 1 ≤ sizeLine; decide, fun p np => bad (-1) (if_pos (within_no fun z => c0 z.1)) p np⟩⟩
    have c0 : 0 ≤ n := of_decide_eq_true c0
    refine ⟨_, _, rfl, rfl, _, rfl, ite2 (fun c1 => ?_) (fun c1 => ?_)⟩
    · have c1 : ¬ n ≤ 1000000000 := by
        have c1 : (!decide (n ≤ 1000000000)) = true := c1
        simpa using c1
      exact ⟨_, rfl, by show 1 ≤ sizeLine; decide, fun p np => bad (-1) (if_pos (within_no fun z => c1 z.2)) p np⟩
    have c1 : n ≤ 1000000000 := by
      have c1 : ¬ (!decide (n ≤ 1000000000)) = true := c1
      simpa using c1
    have hw : Vbchad.within n 0 Vbchad.MONEY = true := within_iff.mpr ⟨c0, c1⟩
    have hst : ∀ f, Vbchad.step ⟨l⟩ (.keepLeast k n) = Vbchad.onTrade ⟨l⟩ k f → True := fun _ _ => trivial
    obtain ⟨n, rfl⟩ : ∃ m : Nat, n = (m : Nat) := ⟨n.toNat, by omega⟩
    have hst : Vbchad.step ⟨l⟩ (.keepLeast k (n : Nat)) = Vbchad.onTrade ⟨l⟩ k fun t => if (t.amount : Int) < (n : Nat) then (⟨l⟩, [-3]) else (⟨l.map fun x => if x.key = t.key then { x with least := n } else x⟩, [0]) := if_neg (by rw [hw]; decide)
    have hfo : faultOf l k = if (Vbchad.tradeAt ⟨l⟩ k.toNat).isSome = true then 0 else -4 := if_neg (by rw [c]; decide)
    obtain ⟨o, g1, g2⟩ := hh.bk.find hh.ok k.toNat
    have ek : ((k.toNat : Nat) : Int) = k := by omega
    rw [ek] at g1
    refine ⟨_, rfl, _, rfl, hp, _, dh, _, _, rfl, hH, T.cl_House, T.n_House_book, hF_book b, b, _, dx, _, _, rfl, hbk, T.cl_Book, T.n_Book_held, bF_held d, d, _, rfl, g1, _, rfl, ite2 (fun c2 => ?_) (fun c2 => ?_)⟩
    · have c2 : o.isSome = false := by simpa using c2
      rw [← g2, c2] at hfo
      have hfo : faultOf l k = -4 := hfo
      rcases on_cases l k with ⟨_, h2⟩ | ⟨h1, _⟩
      · refine ⟨_, rfl, by show 1 ≤ sizeLine; decide, fun p np => bad (-4) ?_ p np⟩
        rw [hst, h2, hfo]
      · omega
    have c2 : o.isSome = true := by
      cases e : o.isSome with
      | true => rfl
      | false => exact absurd (by rw [e]; rfl) c2
    rw [← g2, c2] at hfo
    have hfo : faultOf l k = 0 := hfo
    rcases on_cases l k with ⟨h1, _⟩ | ⟨_, t, ht, rfl, h2⟩
    · omega
    rw [h2] at hst
    obtain ⟨a, ha⟩ := hh.ok.mem.mp ht
    obtain ⟨dt, hta⟩ := hh.bk.trs _ ha
    have hget := hh.bk.rd.get hh.ok.keys ha
    refine ⟨_, rfl, _, rfl, hp, _, dh, _, _, rfl, hH, T.cl_House, T.n_House_book, hF_book b, b, _, dx, _, _, rfl, hbk, T.cl_Book, T.n_Book_held, bF_held d, _, rfl, d, .ref a, rfl, hget, a, _, dt, _, _, rfl, hta, T.cl_Trade, T.n_Trade_amount, trF_amount t, _, _, rfl, rfl, _, rfl, ite2 (fun c3 => ?_) (fun c3 => ?_)⟩
    · have c3 : (t.amount : Int) < (n : Int) := of_decide_eq_true c3
      exact ⟨_, rfl, by show 1 ≤ sizeLine; decide, fun p np => bad (-3) (by rw [hst, if_pos c3]) p np⟩
    have c3 : ¬ (t.amount : Int) < (n : Int) := fun z => c3 (decide_eq_true z)
    rw [if_neg c3] at hst
    refine ⟨_, rfl, _, rfl, hp, _, dh, _, _, rfl, hH, T.cl_House, T.n_House_book, hF_book b, b, _, dx, _, _, rfl, hbk, T.cl_Book, T.n_Book_held, bF_held d, _, rfl, d, .ref a, rfl, hget, a, _, dt, _, rfl, hta, T.cl_Trade, T.n_Trade_least, by show 4 < 1000; omega, ?_⟩
    rw [trF_setLeast]
    obtain ⟨E1, E2, rfl⟩ := hh.ok.split ha
    obtain ⟨A1, R, rfl⟩ := List.append_of_mem ht
    rw [map_one (g := fun x => { x with least := n }) hh.ok.srt] at hst
    have hb2 := hh.bk.write (t' := { t with least := n }) hh.ok.adr rfl (dt := dt)
    have hw2 := hh.ok.wf t ht
    have ho2 := hh.ok.put (t' := { t with least := n }) rfl rfl rfl { hw2 with l1 := by show n ≤ t.amount; omega }
    have kp : KeepB d (E1 ++ (a, t) :: E2) H (upd H a (.ins T.C_Trade dt (trF { t with least := n }))) := (KeepB.of (Same.refl _)).upd_e ha
    refine ⟨by show 1 ≤ sizeLine; decide, fun p np => ?_⟩
    have sn := same_new (o := .lst [.int 0]) np
    have hnp : H p = none := free_in (fun x o hx => by
      by_cases z : x = a
      · subst z; exact ⟨_, upd_same⟩
      · exact ⟨o, by rw [upd_ne z]; exact hx⟩) np
    refine q _ p ((hh.keepL kp).trans (KeepL.of sn)) hnp ?_ ?_
    · rw [hst, upd_same]
      rfl
    · rw [hst]
      exact ⟨b, d, _, (hh.of kp hb2 ho2).same sn⟩
end
end St
end
section
set_option maxRecDepth 100000
set_option maxHeartbeats 4000000
namespace St
open PySem PySem.Spec PyProof.Rows L2 NT
theorem told_room (l : List Tr) : ∀ (i : Nat) (t : Tr) (n : Nat), l[i]? = some t → (Vbchad.told l)[i]? = some n → n ≤ Vbchad.room t := fun i t n ht hn => by
  obtain ⟨hi, e⟩ := SP.tr_some ht
  have h := ((SP.told_lexMax l).1).1.bd i hi
  have h2 : SP.fl (Vbchad.told l) i ≤ ((Vbchad.room (SP.tr l i) : Nat) : Int) := h.2
  rw [SP.fl_some hn, e] at h2
  omega
theorem red_room {l : List Tr} {f : List Nat} (h : Vbchad.isReduction l f = true) (hl : f.length = l.length) : ∀ (i : Nat) (t : Tr) (n : Nat), l[i]? = some t → f[i]? = some n → n ≤ Vbchad.room t := fun i t n ht hn => by
  obtain ⟨hi, e⟩ := SP.tr_some ht
  have h := ((SP.isReduction_iff hl).mp h).1 i hi
  have h2 : SP.fl f i ≤ ((Vbchad.room (SP.tr l i) : Nat) : Int) := h.2
  rw [SP.fl_some hn, e] at h2
  omega
theorem numbers_nat {l : List Tr} {f : List Int} (h : Vbchad.numbers ⟨l⟩ f = true) : f.map V.int = NV (f.map Int.toNat) ∧ (f.map Int.toNat).length = l.length := by
  unfold Vbchad.numbers at h
  rw [Bool.and_eq_true, decide_eq_true_iff, List.all_eq_true] at h
  refine ⟨?_, by rw [List.length_map]; exact h.1⟩
  unfold NV
  rw [List.map_map]
  refine List.map_congr_left fun z hz => ?_
  have := (within_iff.mp (h.2 z hz)).1
  show V.int z = V.int (z.toNat : Nat)
  rw [Int.toNat_of_nonneg this]
section
variable {P : Program} {w : World} {K : PySem.W.Frag} {mg : Str → Option Value} {base : Heap}
def sp_House_take (T : Tx K mg) : Sp := fun vs H Q _ => ∃ (h : Addr) (l : List Tr), vs = [.ref h] ∧ HAt T H h l ∧ Ans T H h l .take Q
theorem ok_House_take (T : Tx K mg) : FnOk P w K mg base CX0 6 T.f_House_take T.d_House_take ["self"] (sp_House_take T) := by
  refine T.F_House_take.ok sc_House_take (fun vs H Q E h => ?_) (fun cdv A outer s H vs Q E hr h => ?_)
  · obtain ⟨hp, l, rfl, _⟩ := h
    rfl
  · refine ⟨_, (pss_cons (ps_set (i := 1) sc_House_take.nd rfl (.inl rfl) (pe_meth0 (pe_fld (pv 0) rfl) T.cl_Book T.m_Book_told (ok_Book_told T) (hr.mono (by decide)) T.b_Book_told .nil pass0))
      (pss_cons (ps_expr (pe_meth (pe_fld (pv 0) rfl) T.cl_Book T.m_Book_lessen (ok_Book_lessen T) (hr.mono (by decide)) T.b_Book_lessen .nil pass0 (pa_cons (pv 1) pa_nil)))
      (pss_one (ps_ret (pe_lst (pa_cons (pe_callB (cr_sum rfl) (by rfl) T.z_sum (by decide +kernel) (pa_cons (pv 1) pa_nil)) pa_nil)))))), ?_⟩
    -- slots: 0 self, 1 numbers
    obtain ⟨hp, l, rfl, ⟨b, d, es, hh⟩, q⟩ := h
    obtain ⟨dh, hH⟩ := hh.hs
    obtain ⟨dx, hbk⟩ := hh.bk.bk
    refine ⟨_, rfl, hp, _, dh, _, _, rfl, hH, T.cl_House, T.n_House_book, hF_book b, b, dx, _, rfl, hbk, bF_no d (by decide +kernel), b, d, es, l, rfl, hh.bk, hh.ok, fun H1 pn s1 n1 e1 => ?_⟩
    have hh1 := hh.same s1
    have htl := (SP.told_lexMax l).2
    refine ⟨_, rfl, hp, _, dh, _, _, rfl, s1 _ _ hH, T.cl_House, T.n_House_book, hF_book b, b, dx, _, rfl, s1 _ _ hbk, bF_no d (by decide +kernel), _, rfl, b, d, pn, es, l, Vbchad.told l, rfl, hh1.bk, hh1.ok, SqL.of e1, htl, told_room l, fun H2 es2 k2 al2 hb2 ho2 => ?_⟩
    have e2 := k2.lst hh1.bk e1
    have kp : KeepB d es H H2 := (KeepB.of s1).trans k2
    refine ⟨_, rfl, pn, (Vbchad.told l).map fun n => ((n : Nat) : Int), rfl, ?_, by show 1 ≤ sizeLine; decide, fun p np => ?_⟩
    · rw [← NV_ints]
      exact SqL.of e2
    rw [sumN, SP.told_total]
    have sn := same_new (o := .lst [.int (Vbchad.greatestOf l : Nat)]) np
    refine q _ p ((hh.keepL kp).trans (KeepL.of sn)) ?_ upd_same ⟨b, d, _, (hh.of kp hb2 ho2).same sn⟩
    exact ((KeepA.of s1).trans al2).free np
end
end St
end
section
set_option maxRecDepth 100000
set_option maxHeartbeats 4000000
namespace St
open PySem PySem.Spec PyProof.Rows L2 NT
section
variable {P : Program} {w : World} {K : PySem.W.Frag} {mg : Str → Option Value} {base : Heap}
def sp_are_numbers (T : Tx K mg) : Sp := fun vs H Q _ => ∃ (h b d pn : Addr) (es : List En) (l : List Tr) (f : List Int), vs = [.ref h, .ref pn] ∧ HB T H h b d es l ∧ SqL K H pn (f.map V.int) ∧ f.length ≤ 100000 ∧
  ∀ H', Same H H' → Q (.bl (Vbchad.numbers ⟨l⟩ f)) H'
theorem len_eq {α : Type} {f : List α} {l : List Tr} {n : Nat} (hn : n = l.length) : decide (V.int ((f.length : Nat) : Int) = V.int ((n : Nat) : Int)) = decide (f.length = l.length) := by
  subst hn
  exact intEq _ _
theorem ok_House_are_numbers (T : Tx K mg) : FnOk P w K mg base CX0 1 T.f_House_are_numbers T.d_House_are_numbers ["self", "numbers"] (sp_are_numbers T) := by
  refine T.F_House_are_numbers.ok sc_House_are_numbers (fun vs H Q E h => ?_) (fun cdv A outer s H vs Q E hr h => ?_)
  · obtain ⟨hp, b, d, pn, es, l, f, rfl, _⟩ := h
    rfl
  · refine ⟨_, (pss_one (ps_ret (pe_and (pe_cmpR op_eq (pe_callB call_len_seq (by rfl) T.z_len (by decide +kernel) (pa_cons (pv 1) pa_nil)) (pe_callB call_lenD (by rfl) T.z_len (by decide +kernel) (pa_cons (pe_fld (pe_fld (pv 0) rfl) rfl) pa_nil)) (nomark _)) (pe_one (pe_callB (cr_all rfl) (by rfl) T.z_all (by decide +kernel) (pa_cons (pe_lc (own := [("number", 2)]) (by rfl) sc_House_are_numbers.nd (pi_list (pv 1)) (blkOk_by (own := [("number", 2)]) (N := N_House_are_numbers) (sc := defScope s_House_are_numbers) (by decide +kernel)) (fun _ _ _ _ _ => (pg_name (i := 2) sc_House_are_numbers.nd rfl (.inl rfl))) (fun _ _ _ _ _ => pts_nil) (fun _ _ _ _ _ => (pe_chain op_le op_le pe_int (pv 2) (pe_glob (v := .int 1000000000) rfl T.g_MOST_KEY ⟨_, rfl⟩)))) pa_nil)))))), ?_⟩
    -- slots: 0 self, 1 numbers, 2 number
    obtain ⟨hp, b, d, pn, es, l, f, rfl, hh, hf, hfl, q⟩ := h
    obtain ⟨dh, hH⟩ := hh.hs
    obtain ⟨dx, hbk⟩ := hh.bk.bk
    have hel : (es.map ent).length = l.length := by rw [List.length_map]; exact hh.ok.len
    refine ⟨_, rfl, pn, _, rfl, .inl hf, _, rfl, hp, _, dh, _, _, rfl, hH, T.cl_House, T.n_House_book, hF_book b, b, _, dx, _, _, rfl, hbk, T.cl_Book, T.n_Book_held, bF_held d, d, _, rfl, hh.bk.dict, rfl, _, rfl, ite2 (fun c => ?_) (fun c => ?_)⟩
    · have c : f.length = l.length := by
        have := int_inj c
        rw [List.length_map] at this
        omega
      refine ⟨_, rfl, pn, rfl, ⟨_, hf⟩, fun D nD => lc_map (K := K) (a := pn) (xs := f.map V.int) (out := ((f.map fun z => Vbchad.within z 0 Vbchad.MONEY).map V.bl)) nD hf (sz_of (by simp; omega)) (by simp) ?_ ?_⟩
      · rintro i z y H2 Q2 R2 hz hy s2 qq
        rw [List.getElem?_map] at hz
        cases e : f[i]? with
        | none => rw [e] at hz; cases hz
        | some n =>
          rw [e] at hz
          obtain rfl := Option.some.inj hz
          rw [List.getElem?_map, List.getElem?_map, e] at hy
          obtain rfl := Option.some.inj hy
          have qq : ∀ H', Same H2 H' → Q2 (.bl (Vbchad.within n 0 Vbchad.MONEY)) H' := qq
          refine ⟨rfl, tyes ⟨_, rfl, _, _, rfl, rfl, _, rfl, ite2 (fun c => ?_) (fun c => ?_)⟩⟩
          · have c : 0 ≤ n := of_decide_eq_true c
            refine ⟨_, _, rfl, rfl, ?_⟩
            have e2 : Vbchad.within n 0 Vbchad.MONEY = decide (n ≤ 1000000000) := by
              rw [Bool.eq_iff_iff, within_iff, decide_eq_true_iff]
              exact ⟨fun z => z.2, fun z => ⟨c, z⟩⟩
            rw [e2] at qq
            exact qq H2 (Same.refl _)
          · have c : ¬ 0 ≤ n := fun z => c (decide_eq_true z)
            rw [within_no fun z => c z.1] at qq
            exact qq H2 (Same.refl _)
      · intro H2 s2 e2
        refine ⟨D, _, rfl, SqL.of e2, ?_⟩
        have := q H2 s2
        unfold Vbchad.numbers at this
        rw [decide_eq_true c, Bool.true_and] at this
        rw [List.all_map]
        exact this
    · have c : ¬ f.length = l.length := by
        have := int_ne c
        rw [List.length_map] at this
        omega
      have := q H (Same.refl _)
      unfold Vbchad.numbers at this
      rw [decide_eq_false c, Bool.false_and] at this
      exact this
def sp_are_potentials (T : Tx K mg) : Sp := fun vs H Q _ => ∃ (h b d pn : Addr) (es : List En) (l : List Tr) (f : List Int), vs = [.ref h, .ref pn] ∧ HB T H h b d es l ∧ SqL K H pn (f.map V.int) ∧ f.length ≤ 100000 ∧
  ∀ H', Same H H' → Q (.bl (Vbchad.potentialsIn ⟨l⟩ f)) H'
theorem ok_House_are_potentials (T : Tx K mg) : FnOk P w K mg base CX0 2 T.f_House_are_potentials T.d_House_are_potentials ["self", "numbers"] (sp_are_potentials T) := by
  refine T.F_House_are_potentials.ok sc_House_are_potentials (fun vs H Q E h => ?_) (fun cdv A outer s H vs Q E hr h => ?_)
  · obtain ⟨hp, b, d, pn, es, l, f, rfl, _⟩ := h
    rfl
  · refine ⟨_, (pss_cons (ps_if (pt_cmpR op_ne (pe_callB call_len_seq (by rfl) T.z_len (by decide +kernel) (pa_cons (pv 1) pa_nil)) (pe_callB call_len_seq (by rfl) T.z_len (by decide +kernel) (pa_cons (pe_meth0 (pe_fld (pv 0) rfl) T.cl_Book T.m_Book_members (ok_Book_members T) (hr.mono (by decide)) T.b_Book_members .nil pass0) pa_nil)) (nomark _))
      (pss_one (ps_ret pe_bl))
      pss_nil)
      (pss_one (ps_ret (pe_callB (cr_all rfl) (by rfl) T.z_all (by decide +kernel) (pa_cons (pe_lc (own := [("number", 2)]) (by rfl) sc_House_are_potentials.nd (pi_list (pv 1)) (blkOk_by (own := [("number", 2)]) (N := N_House_are_potentials) (sc := defScope s_House_are_potentials) (by decide +kernel)) (fun _ _ _ _ _ => (pg_name (i := 2) sc_House_are_potentials.nd rfl (.inl rfl))) (fun _ _ _ _ _ => pts_nil) (fun _ _ _ _ _ => (pe_chain op_le op_le (pe_op op_sub pe_int (pe_glob (v := .int 1000000) rfl T.g_MOST_POTENTIAL ⟨_, rfl⟩)) (pv 2) (pe_glob (v := .int 1000000) rfl T.g_MOST_POTENTIAL ⟨_, rfl⟩)))) pa_nil))))), ?_⟩
    -- slots: 0 self, 1 numbers, 2 number
    obtain ⟨hp, b, d, pn, es, l, f, rfl, hh, hf, hfl, q⟩ := h
    obtain ⟨dh, hH⟩ := hh.hs
    obtain ⟨dx, hbk⟩ := hh.bk.bk
    refine ⟨_, rfl, pn, _, rfl, .inl hf, _, rfl, hp, _, dh, _, _, rfl, hH, T.cl_House, T.n_House_book, hF_book b, b, dx, _, rfl, hbk, bF_no d (by decide +kernel), b, d, es, l, rfl, hh.bk, hh.ok, fun H1 pm s1 n1 e1 => ?_⟩
    refine ⟨pm, _, rfl, .inl (SqL.of e1), rfl, _, rfl, ite2 (fun c => ?_) (fun c => ?_)⟩
    · have c : ¬ f.length = (Vbchad.membersOf l).length := fun z => by
        have c : (!decide (V.int ((f.map V.int).length : Int) = V.int ((NV (Vbchad.membersOf l)).length : Int))) = true := c
        rw [List.length_map, NV_len, z] at c
        simp at c
      have := q H1 s1
      unfold Vbchad.potentialsIn at this
      rw [decide_eq_false c, Bool.false_and] at this
      exact this
    · have c : f.length = (Vbchad.membersOf l).length := by
        have c : ¬ (!decide (V.int ((f.map V.int).length : Int) = V.int ((NV (Vbchad.membersOf l)).length : Int))) = true := c
        rw [List.length_map, NV_len, intEq] at c
        simpa using c
      have hf1 := s1.seq hf
      refine ⟨_, rfl, pn, rfl, ⟨_, hf1⟩, fun D nD => lc_map (K := K) (a := pn) (xs := f.map V.int) (out := ((f.map fun z => Vbchad.within z (-1000000) 1000000).map V.bl)) nD hf1 (sz_of (by simp; omega)) (by simp) ?_ ?_⟩
      · rintro i z y H2 Q2 R2 hz hy s2 qq
        rw [List.getElem?_map] at hz
        cases e : f[i]? with
        | none => rw [e] at hz; cases hz
        | some n =>
          rw [e] at hz
          obtain rfl := Option.some.inj hz
          rw [List.getElem?_map, List.getElem?_map, e] at hy
          obtain rfl := Option.some.inj hy
          have qq : ∀ H', Same H2 H' → Q2 (.bl (Vbchad.within n (-1000000) 1000000)) H' := qq
          refine ⟨rfl, tyes ⟨_, _, rfl, rfl, _, rfl, _, _, rfl, rfl, _, rfl, ite2 (fun c => ?_) (fun c => ?_)⟩⟩
          · have c : (0 : Int) - 1000000 ≤ n := of_decide_eq_true c
            refine ⟨_, _, rfl, rfl, ?_⟩
            have e2 : Vbchad.within n (-1000000) 1000000 = decide (n ≤ 1000000) := by
              rw [Bool.eq_iff_iff, within_iff, decide_eq_true_iff]
              exact ⟨fun z => z.2, fun z => ⟨c, z⟩⟩
            rw [e2] at qq
            exact qq H2 (Same.refl _)
          · have c : ¬ (-1000000 : Int) ≤ n := fun z => c (decide_eq_true z)
            rw [within_no fun z => c z.1] at qq
            exact qq H2 (Same.refl _)
      · intro H2 s2 e2
        refine ⟨D, _, rfl, SqL.of e2, ?_⟩
        have := q H2 (s1.trans s2)
        unfold Vbchad.potentialsIn at this
        rw [decide_eq_true c, Bool.true_and] at this
        rw [List.all_map]
        exact this
def sp_House_apply (T : Tx K mg) : Sp := fun vs H Q _ => ∃ (h pn : Addr) (l : List Tr) (f : List Int), vs = [.ref h, .ref pn] ∧ HAt T H h l ∧ SqL K H pn (f.map V.int) ∧ f.length ≤ 100000 ∧ Ans T H h l (.apply f) Q
theorem ok_House_apply (T : Tx K mg) : FnOk P w K mg base CX0 6 T.f_House_apply T.d_House_apply ["self", "numbers"] (sp_House_apply T) := by
  refine T.F_House_apply.ok sc_House_apply (fun vs H Q E h => ?_) (fun cdv A outer s H vs Q E hr h => ?_)
  · obtain ⟨hp, pn, l, f, rfl, _⟩ := h
    rfl
  · refine ⟨_, (pss_cons (ps_if (pt_not (pt_val (pe_meth (pv 0) T.cl_House T.m_House_are_numbers (ok_House_are_numbers T) (hr.mono (by decide)) T.b_House_are_numbers .nil pass0 (pa_cons (pv 1) pa_nil))))
      (pss_one (ps_ret (pe_lst (pa_cons (pe_un un_neg pe_int) pa_nil))))
      pss_nil)
      (pss_cons (ps_if (pt_not (pt_val (pe_meth (pe_fld (pv 0) rfl) T.cl_Book T.m_Book_is_reduction (ok_Book_is_reduction T) (hr.mono (by decide)) T.b_Book_is_reduction .nil pass0 (pa_cons (pv 1) pa_nil))))
      (pss_one (ps_ret (pe_lst (pa_cons (pe_un un_neg pe_int) pa_nil))))
      pss_nil)
      (pss_cons (ps_set (i := 2) sc_House_apply.nd rfl (.inl rfl) (pe_meth0 (pe_fld (pv 0) rfl) T.cl_Book T.m_Book_greatest (ok_Book_greatest T) (hr.mono (by decide)) T.b_Book_greatest .nil pass0))
      (pss_cons (ps_expr (pe_meth (pe_fld (pv 0) rfl) T.cl_Book T.m_Book_lessen (ok_Book_lessen T) (hr.mono (by decide)) T.b_Book_lessen .nil pass0 (pa_cons (pv 1) pa_nil)))
      (pss_one (ps_ret (pe_lst (pa_cons (pe_callB (cr_sum rfl) (by rfl) T.z_sum (by decide +kernel) (pa_cons (pv 1) pa_nil)) (pa_cons (pv 2) pa_nil))))))))), ?_⟩
    -- slots: 0 self, 1 numbers, 2 greatest
    obtain ⟨hp, pn, l, f, rfl, ⟨b, d, es, hh⟩, hf, hfl, q⟩ := h
    obtain ⟨dh, hH⟩ := hh.hs
    obtain ⟨dx, hbk⟩ := hh.bk.bk
    refine ⟨_, rfl, hp, dh, _, rfl, hH, hF_no b (by decide +kernel), _, rfl, hp, b, d, pn, es, l, f, rfl, hh, hf, hfl, fun H1 s1 => ⟨_, rfl, ite2 (fun c => ?_) (fun c => ?_)⟩⟩
    · have c : Vbchad.numbers ⟨l⟩ f = false := by simpa using c
      exact ⟨_, rfl, by show 1 ≤ sizeLine; decide, fun p n => q.new (ns := [-1]) hh s1 n (if_pos c)⟩
    have c : Vbchad.numbers ⟨l⟩ f = true := by simpa using c
    obtain ⟨e1, e2⟩ := numbers_nat c
    rw [e1] at hf
    have hh1 := hh.same s1
    have hf1 := s1.seq hf
    refine ⟨_, rfl, hp, _, dh, _, _, rfl, s1 _ _ hH, T.cl_House, T.n_House_book, hF_book b, b, dx, _, rfl, s1 _ _ hbk, bF_no d (by decide +kernel), _, rfl, b, d, pn, es, l, f.map Int.toNat, rfl, hh1.bk, hh1.ok, hf1, e2, fun H2 s2 => ⟨_, rfl, ite2 (fun c2 => ?_) (fun c2 => ?_)⟩⟩
    · have c2 : Vbchad.isReduction l (f.map Int.toNat) = false := by simpa using c2
      exact ⟨_, rfl, by show 1 ≤ sizeLine; decide, fun p n => q.new (ns := [-6]) hh (s1.trans s2) n ((if_neg (by rw [c]; decide)).trans (if_pos c2))⟩
    have c2 : Vbchad.isReduction l (f.map Int.toNat) = true := by simpa using c2
    have hst : Vbchad.step ⟨l⟩ (.apply f) = (⟨Vbchad.less l (f.map Int.toNat)⟩, Vbchad.ints [Vbchad.sum (f.map Int.toNat), Vbchad.greatestOf l]) := (if_neg (by rw [c]; decide)).trans (if_neg (by rw [c2]; decide))
    have s12 := s1.trans s2
    have hh2 := hh.same s12
    refine ⟨_, rfl, hp, _, dh, _, _, rfl, s12 _ _ hH, T.cl_House, T.n_House_book, hF_book b, b, dx, _, rfl, s12 _ _ hbk, bF_no d (by decide +kernel), b, d, es, l, rfl, hh2.bk, hh2.ok, fun H3 s3 => ?_⟩
    have s13 := s12.trans s3
    have hh3 := hh.same s13
    have hf3 := s13.seq hf
    refine ⟨_, rfl, hp, _, dh, _, _, rfl, s13 _ _ hH, T.cl_House, T.n_House_book, hF_book b, b, dx, _, rfl, s13 _ _ hbk, bF_no d (by decide +kernel), _, rfl, b, d, pn, es, l, f.map Int.toNat, rfl, hh3.bk, hh3.ok, hf3, e2, red_room c2 e2, fun H4 es4 k4 al4 hb4 ho4 => ?_⟩
    have kp : KeepB d es H H4 := (KeepB.of s13).trans k4
    refine ⟨_, rfl, pn, (f.map Int.toNat).map fun n => ((n : Nat) : Int), rfl, ?_, _, rfl, by show 2 ≤ sizeLine; decide, fun p np => ?_⟩
    · rw [← NV_ints]
      exact k4.seq hh3.bk hf3
    rw [sumN]
    have sn := same_new (o := .lst [.int (Vbchad.sum (f.map Int.toNat) : Nat), .int (Vbchad.greatestOf l : Nat)]) np
    refine q _ p ((hh.keepL kp).trans (KeepL.of sn)) (((KeepA.of s13).trans al4).free np) ?_ ?_
    · rw [hst, upd_same]
      rfl
    · rw [hst]
      exact ⟨b, d, _, (hh.of kp hb4 ho4).same sn⟩
def sp_House_net (T : Tx K mg) : Sp := fun vs H Q _ => ∃ (h : Addr) (l : List Tr) (k : Int), vs = [.ref h, .int k] ∧ HAt T H h l ∧ Ans T H h l (.net k) Q
theorem ok_House_net (T : Tx K mg) : FnOk P w K mg base CX0 2 T.f_House_net T.d_House_net ["self", "member"] (sp_House_net T) := by
  refine T.F_House_net.ok sc_House_net (fun vs H Q E h => ?_) (fun cdv A outer s H vs Q E hr h => ?_)
  · obtain ⟨hp, l, k, rfl, _⟩ := h
    rfl
  · refine ⟨_, (pss_one (ps_ret (pe_ifExp (pt_val (pe_call (ok_is_key T) (hr.mono (by decide)) (by rfl) T.g_is_key T.F_is_key.kp T.b_is_key .nil pass0 (pa_cons (pv 1) pa_nil))) (pe_lst (pa_cons (pe_meth (pe_fld (pv 0) rfl) T.cl_Book T.m_Book_net (ok_Book_net T) (hr.mono (by decide)) T.b_Book_net .nil pass0 (pa_cons (pv 1) pa_nil)) pa_nil)) (pe_lst (pa_cons (pe_un un_neg pe_int) pa_nil))))), ?_⟩
    -- slots: 0 self, 1 member
    obtain ⟨hp, l, k, rfl, ⟨b, d, es, hh⟩, q⟩ := h
    obtain ⟨dh, hH⟩ := hh.hs
    obtain ⟨dx, hbk⟩ := hh.bk.bk
    refine ⟨_, rfl, k, rfl, _, rfl, ite2 (fun c => ?_) (fun c => ?_)⟩
    · have c : Vbchad.keyed k = true := c
      obtain ⟨k, rfl⟩ : ∃ n : Nat, k = (n : Nat) := ⟨k.toNat, by have := keyed_iff.mp c; omega⟩
      refine ⟨_, rfl, hp, _, dh, _, _, rfl, hH, T.cl_House, T.n_House_book, hF_book b, b, dx, _, rfl, hbk, bF_no d (by decide +kernel), _, rfl, b, d, es, l, k, rfl, hh.bk, hh.ok, fun H1 s1 => ⟨by show 1 ≤ sizeLine; decide, fun p n => ?_⟩⟩
      exact q.new (ns := [(Vbchad.outOf l (l.map fun t => t.amount) k : Int) - (Vbchad.into l (l.map fun t => t.amount) k : Int)]) hh s1 n (if_neg (by rw [c]; decide))
    · have c : Vbchad.keyed k = false := by simpa using c
      exact ⟨_, rfl, by show 1 ≤ sizeLine; decide, fun p n => q.new (ns := [-1]) hh (Same.refl _) n (if_pos c)⟩
end
end St
end
section
set_option maxRecDepth 100000
set_option maxHeartbeats 4000000
namespace St
open PySem PySem.Spec PyProof.Rows L2 NT
theorem pot_len {l : List Tr} {p : List Int} (h : Vbchad.potentialsIn ⟨l⟩ p = true) : p.length = (Vbchad.membersOf l).length := by
  unfold Vbchad.potentialsIn at h
  rw [Bool.and_eq_true, decide_eq_true_iff] at h
  exact h.1
theorem filter_tt (l : List Tr) : l.filter (fun _ => true) = l := List.filter_eq_self.mpr fun _ _ => rfl
theorem filter_te (l : List En) : l.filter (fun _ => true) = l := List.filter_eq_self.mpr fun _ _ => rfl
section
variable {P : Program} {w : World} {K : PySem.W.Frag} {mg : Str → Option Value} {base : Heap}
def sp_House_gross (T : Tx K mg) : Sp := fun vs H Q _ => ∃ (h : Addr) (l : List Tr), vs = [.ref h] ∧ HAt T H h l ∧ Ans T H h l .gross Q
theorem ok_House_gross (T : Tx K mg) : FnOk P w K mg base CX0 2 T.f_House_gross T.d_House_gross ["self"] (sp_House_gross T) := by
  refine T.F_House_gross.ok sc_House_gross (fun vs H Q E h => ?_) (fun cdv A outer s H vs Q E hr h => ?_)
  · obtain ⟨hp, l, rfl, _⟩ := h
    rfl
  · refine ⟨_, (pss_cons (ps_lock (ps_setLc (i := 1) (own := [("key", 2)]) (by rfl) sc_House_gross.nd rfl rfl (sw_true rfl rfl rfl (by decide +kernel)) (pi_keys (pe_fld (pe_fld (pv 0) rfl) rfl)) (blkOk_by (own := [("key", 2)]) (N := N_House_gross) (sc := defScope s_House_gross) (by decide +kernel)) (fun _ _ _ _ _ => (pg_name (i := 2) sc_House_gross.nd rfl (.inl rfl))) (fun _ _ _ _ _ => pts_nil) (fun _ _ _ _ _ => (pe_dget (hu_of hr) (pe_fldK (K := K) rfl (pe_fldK (K := K) rfl (pv 0) rfl) rfl) (pv 2) (fun _ _ => rfl)))))
      (pss_one (ps_ret (pe_lst (pa_cons (pe_callB (cr_sum rfl) (by rfl) T.z_sum (by decide +kernel) (pa_cons (pe_lc (own := [("trade", 3)]) (by rfl) sc_House_gross.nd (pi_list (pv 1)) (blkOk_by (own := [("trade", 3)]) (N := N_House_gross) (sc := defScope s_House_gross) (by decide +kernel)) (fun _ _ _ _ _ => (pg_name (i := 3) sc_House_gross.nd rfl (.inl rfl))) (fun _ _ _ _ _ => pts_nil) (fun _ _ _ _ _ => (pe_fldK (K := K) rfl (pv 3) rfl))) pa_nil)) (pa_cons (pe_callB (cr_sum rfl) (by rfl) T.z_sum (by decide +kernel) (pa_cons (pe_lc (own := [("trade", 3)]) (by rfl) sc_House_gross.nd (pi_list (pv 1)) (blkOk_by (own := [("trade", 3)]) (N := N_House_gross) (sc := defScope s_House_gross) (by decide +kernel)) (fun _ _ _ _ _ => (pg_name (i := 3) sc_House_gross.nd rfl (.inl rfl))) (fun _ _ _ _ _ => pts_nil) (fun _ _ _ _ _ => (pe_meth0 (pv 3) T.cl_Trade T.m_Trade_room (ok_Trade_room T) (hr.mono (by decide)) T.b_Trade_room .nil pass0))) pa_nil)) pa_nil)))))), ?_⟩
    -- slots: 0 self, 1 some, 2 key, 3 trade
    obtain ⟨hp, l, rfl, ⟨b, d, es, hh⟩, q⟩ := h
    have hb := hh.bk
    have ho := hh.ok
    have hlen : es.length ≤ 40 := by rw [ho.len]; exact ho.n40
    refine ⟨d, _, hb.dict, trivial, fun od => ?_⟩
    have hbL := hb.lock od
    obtain ⟨dh, hH⟩ := hh.hs
    have hHL : (upd H d (.frz od (.dK (es.map ent)))) hp = some (.ins T.C_House dh (hF b)) := by rw [upd_ne (ne_of hH hb.dict (by intro z; cases z))]; exact hH
    obtain ⟨dx, hbk⟩ := hbL.bk
    refine ⟨_, rfl, hp, _, dh, _, _, rfl, hHL, T.cl_House, T.n_House_book, hF_book b, b, _, dx, _, _, rfl, hbk, T.cl_Book, T.n_Book_held, bF_held d, d, od, rfl, .inl ⟨es.map ent, upd_same, fun D nD => lc_mapK (d := d) (o := od) (kvs := es.map ent) (out := es.map fun e => V.ref e.1) nD upd_same (sz_of (by simp; omega)) (by simp) ?_ ?_⟩⟩
    · rintro i k v y H2 Q2 R2 hk hy s2 qq
      obtain ⟨e, he, hm, rfl, rfl⟩ := ent_at hk
      rw [List.getElem?_map, he] at hy
      obtain rfl := Option.some.inj hy
      have hb2 := hbL.same s2
      obtain ⟨dx2, hbk2⟩ := hb2.bk
      exact ⟨rfl, tyes ⟨_, rfl, hp, _, dh, _, _, rfl, s2 _ _ hHL, T.cl_House, T.n_House_book, hF_book b, b, _, dx2, _, _, rfl, hbk2, T.cl_Book, T.n_Book_held, bF_held d, _, rfl, d, .ref e.1, rfl, hb2.get ho.keys hm, qq _ (Same.refl _)⟩⟩
    · intro H2 s2 e2
      refine ⟨s2 _ _ upd_same, ?_⟩
      have s3 := same_unlock hb.dict s2
      have dD : D ≠ d := fun z => by rw [z, upd_same] at nD; cases nD
      have e3 : (upd H2 d (.dK (es.map ent))) D = some (.lst (es.map fun e => V.ref e.1)) := by rw [upd_ne dD]; exact e2
      generalize upd H2 d (.dK (es.map ent)) = H4 at s3 e3 ⊢
      have hb4 := hb.same s3
      have pf1 := perm_filter_sum ho.perm (fun _ => true) fun x => x.amount
      have pf2 := perm_filter_sum ho.perm (fun _ => true) Vbchad.room
      rw [filter_tt, filter_te] at pf1 pf2
      refine ⟨_, rfl, D, rfl, ⟨_, SqL.of e3⟩, fun D5 nD5 => lc_map (K := K) (a := D) (xs := es.map fun e => V.ref e.1) (out := (es.map fun e => ((e.2.amount : Nat) : Int)).map V.int) nD5 (SqL.of e3) (sz_of (by simp; omega)) (by simp) ?_ ?_⟩
      · rintro i x y H5 Q5 R5 hx hy s5 qq
        rw [List.getElem?_map] at hx
        cases he : es[i]? with
        | none => rw [he] at hx; cases hx
        | some e =>
          rw [he] at hx
          obtain rfl := Option.some.inj hx
          rw [List.getElem?_map, List.getElem?_map, he] at hy
          obtain rfl := Option.some.inj hy
          obtain ⟨dt, ht⟩ := (hb4.same s5).trs e (List.mem_of_getElem? he)
          exact ⟨rfl, tyes ⟨_, rfl, e.1, _, dt, _, _, rfl, ht, T.cl_Trade, T.n_Trade_amount, trF_amount _, qq _ (Same.refl _)⟩⟩
      · intro H5 s5 e5
        refine ⟨D5, _, rfl, SqL.of e5, ?_⟩
        rw [pf1]
        have hb5 := hb4.same s5
        have e45 := s5 _ _ e3
        refine ⟨_, rfl, D, rfl, ⟨_, SqL.of e45⟩, fun D6 nD6 => lc_map (K := K) (a := D) (xs := es.map fun e => V.ref e.1) (out := (es.map fun e => ((Vbchad.room e.2 : Nat) : Int)).map V.int) nD6 (SqL.of e45) (sz_of (by simp; omega)) (by simp) ?_ ?_⟩
        · rintro i x y H6 Q6 R6 hx hy s6 qq
          rw [List.getElem?_map] at hx
          cases he : es[i]? with
          | none => rw [he] at hx; cases hx
          | some e =>
            rw [he] at hx
            obtain rfl := Option.some.inj hx
            rw [List.getElem?_map, List.getElem?_map, he] at hy
            obtain rfl := Option.some.inj hy
            have hem := List.mem_of_getElem? he
            obtain ⟨dt, ht⟩ := (hb5.same s6).trs e hem
            have hw := ho.wf e.2 (ho.mem.mpr ⟨e.1, hem⟩)
            exact ⟨rfl, tyes ⟨_, rfl, e.1, dt, _, rfl, ht, trF_room _, e.1, e.2, rfl, ⟨dt, ht⟩, hw.l1, qq _ (Same.refl _)⟩⟩
        · intro H6 s6 e6
          refine ⟨D6, _, rfl, SqL.of e6, ?_⟩
          rw [pf2]
          refine ⟨by show 2 ≤ sizeLine; decide, fun tp nt => ?_⟩
          exact q.new (ns := [(Vbchad.sum (l.map fun x => x.amount) : Nat), (Vbchad.sum (l.map Vbchad.room) : Nat)]) hh (s3.trans (s5.trans s6)) nt rfl
def sp_House_is_one (T : Tx K mg) : Sp := fun vs H Q _ => ∃ (h pn : Addr) (l : List Tr) (f : List Int), vs = [.ref h, .ref pn] ∧ HAt T H h l ∧ SqL K H pn (f.map V.int) ∧ f.length ≤ 100000 ∧ Ans T H h l (.isOne f) Q
theorem ok_House_is_one (T : Tx K mg) : FnOk P w K mg base CX0 5 T.f_House_is_one T.d_House_is_one ["self", "numbers"] (sp_House_is_one T) := by
  refine T.F_House_is_one.ok sc_House_is_one (fun vs H Q E h => ?_) (fun cdv A outer s H vs Q E hr h => ?_)
  · obtain ⟨hp, pn, l, f, rfl, _⟩ := h
    rfl
  · refine ⟨_, (pss_cons (ps_if (pt_not (pt_val (pe_meth (pv 0) T.cl_House T.m_House_are_numbers (ok_House_are_numbers T) (hr.mono (by decide)) T.b_House_are_numbers .nil pass0 (pa_cons (pv 1) pa_nil))))
      (pss_one (ps_ret (pe_lst (pa_cons (pe_un un_neg pe_int) pa_nil))))
      pss_nil)
      (pss_one (ps_ret (pe_lst (pa_cons (pe_callTy call_int1 (by rfl) T.z_int (by decide +kernel) (pa_cons (pe_meth (pe_fld (pv 0) rfl) T.cl_Book T.m_Book_is_reduction (ok_Book_is_reduction T) (hr.mono (by decide)) T.b_Book_is_reduction .nil pass0 (pa_cons (pv 1) pa_nil)) pa_nil)) (pa_cons (pe_callB (cr_sum rfl) (by rfl) T.z_sum (by decide +kernel) (pa_cons (pv 1) pa_nil)) pa_nil)))))), ?_⟩
    -- slots: 0 self, 1 numbers
    obtain ⟨hp, pn, l, f, rfl, ⟨b, d, es, hh⟩, hf, hfl, q⟩ := h
    obtain ⟨dh, hH⟩ := hh.hs
    obtain ⟨dx, hbk⟩ := hh.bk.bk
    refine ⟨_, rfl, hp, dh, _, rfl, hH, hF_no b (by decide +kernel), _, rfl, hp, b, d, pn, es, l, f, rfl, hh, hf, hfl, fun H1 s1 => ⟨_, rfl, ite2 (fun c => ?_) (fun c => ?_)⟩⟩
    · have c : Vbchad.numbers ⟨l⟩ f = false := by simpa using c
      exact ⟨_, rfl, by show 1 ≤ sizeLine; decide, fun p n => q.new (ns := [-1]) hh s1 n (if_pos c)⟩
    have c : Vbchad.numbers ⟨l⟩ f = true := by simpa using c
    obtain ⟨e1, e2⟩ := numbers_nat c
    rw [e1] at hf
    have hh1 := hh.same s1
    have hf1 := s1.seq hf
    refine ⟨_, rfl, hp, _, dh, _, _, rfl, s1 _ _ hH, T.cl_House, T.n_House_book, hF_book b, b, dx, _, rfl, s1 _ _ hbk, bF_no d (by decide +kernel), _, rfl, b, d, pn, es, l, f.map Int.toNat, rfl, hh1.bk, hh1.ok, hf1, e2, fun H2 s2 => .inr ⟨_, rfl, ?_⟩⟩
    refine ⟨_, rfl, pn, (f.map Int.toNat).map fun n => ((n : Nat) : Int), rfl, ?_, by show 2 ≤ sizeLine; decide, fun p n => ?_⟩
    · rw [← NV_ints]
      exact s2.seq hf1
    rw [sumN]
    exact q.new (ns := [if Vbchad.isReduction l (f.map Int.toNat) = true then 1 else 0, (Vbchad.sum (f.map Int.toNat) : Nat)]) hh (s1.trans s2) n (if_neg (by rw [c]; decide))
def sp_House_bound (T : Tx K mg) : Sp := fun vs H Q _ => ∃ (h pn : Addr) (l : List Tr) (f : List Int), vs = [.ref h, .ref pn] ∧ HAt T H h l ∧ SqL K H pn (f.map V.int) ∧ f.length ≤ 100000 ∧ Ans T H h l (.bound f) Q
theorem ok_House_bound (T : Tx K mg) : FnOk P w K mg base CX0 5 T.f_House_bound T.d_House_bound ["self", "potentials"] (sp_House_bound T) := by
  refine T.F_House_bound.ok sc_House_bound (fun vs H Q E h => ?_) (fun cdv A outer s H vs Q E hr h => ?_)
  · obtain ⟨hp, pn, l, f, rfl, _⟩ := h
    rfl
  · refine ⟨_, (pss_one (ps_ret (pe_ifExp (pt_val (pe_meth (pv 0) T.cl_House T.m_House_are_potentials (ok_House_are_potentials T) (hr.mono (by decide)) T.b_House_are_potentials .nil pass0 (pa_cons (pv 1) pa_nil))) (pe_lst (pa_cons (pe_meth (pe_fld (pv 0) rfl) T.cl_Book T.m_Book_bound (ok_Book_bound T) (hr.mono (by decide)) T.b_Book_bound .nil pass0 (pa_cons (pv 1) pa_nil)) pa_nil)) (pe_lst (pa_cons (pe_un un_neg pe_int) pa_nil))))), ?_⟩
    -- slots: 0 self, 1 potentials
    obtain ⟨hp, pn, l, f, rfl, ⟨b, d, es, hh⟩, hf, hfl, q⟩ := h
    obtain ⟨dh, hH⟩ := hh.hs
    obtain ⟨dx, hbk⟩ := hh.bk.bk
    refine ⟨_, rfl, hp, dh, _, rfl, hH, hF_no b (by decide +kernel), _, rfl, hp, b, d, pn, es, l, f, rfl, hh, hf, hfl, fun H1 s1 => ⟨_, rfl, ite2 (fun c => ?_) (fun c => ?_)⟩⟩
    · have c : Vbchad.potentialsIn ⟨l⟩ f = true := c
      have hh1 := hh.same s1
      refine ⟨_, rfl, hp, _, dh, _, _, rfl, s1 _ _ hH, T.cl_House, T.n_House_book, hF_book b, b, dx, _, rfl, s1 _ _ hbk, bF_no d (by decide +kernel), _, rfl, b, d, pn, es, l, f, rfl, hh1.bk, hh1.ok, s1.seq hf, pot_len c, fun H2 s2 => ⟨by show 1 ≤ sizeLine; decide, fun p n => ?_⟩⟩
      exact q.new (ns := [Vbchad.boundOf l f]) hh (s1.trans s2) n (if_neg (by rw [c]; decide))
    · have c : Vbchad.potentialsIn ⟨l⟩ f = false := by simpa using c
      exact ⟨_, rfl, by show 1 ≤ sizeLine; decide, fun p n => q.new (ns := [-1]) hh s1 n (if_pos c)⟩
def sp_House_proves (T : Tx K mg) : Sp := fun vs H Q _ => ∃ (h pp pn : Addr) (l : List Tr) (p f : List Int), vs = [.ref h, .ref pp, .ref pn] ∧ HAt T H h l ∧ SqL K H pp (p.map V.int) ∧ p.length ≤ 100000 ∧ SqL K H pn (f.map V.int) ∧ f.length ≤ 100000 ∧ Ans T H h l (.proves p f) Q
theorem ok_House_proves (T : Tx K mg) : FnOk P w K mg base CX0 5 T.f_House_proves T.d_House_proves ["self", "potentials", "numbers"] (sp_House_proves T) := by
  refine T.F_House_proves.ok sc_House_proves (fun vs H Q E h => ?_) (fun cdv A outer s H vs Q E hr h => ?_)
  · obtain ⟨hp, pp, pn, l, p, f, rfl, _⟩ := h
    rfl
  · refine ⟨_, (pss_cons (ps_if (PW.pt (pw_or (pt_not (pt_val (pe_meth (pv 0) T.cl_House T.m_House_are_potentials (ok_House_are_potentials T) (hr.mono (by decide)) T.b_House_are_potentials .nil pass0 (pa_cons (pv 1) pa_nil)))) (pw_or1 (pt_not (pt_val (pe_meth (pv 0) T.cl_House T.m_House_are_numbers (ok_House_are_numbers T) (hr.mono (by decide)) T.b_House_are_numbers .nil pass0 (pa_cons (pv 2) pa_nil)))))))
      (pss_one (ps_ret (pe_lst (pa_cons (pe_un un_neg pe_int) pa_nil))))
      pss_nil)
      (pss_one (ps_ret (pe_lst (pa_cons (pe_callTy call_int1 (by rfl) T.z_int (by decide +kernel) (pa_cons (pe_and (pe_meth (pe_fld (pv 0) rfl) T.cl_Book T.m_Book_is_reduction (ok_Book_is_reduction T) (hr.mono (by decide)) T.b_Book_is_reduction .nil pass0 (pa_cons (pv 2) pa_nil)) (pe_one (pe_cmpR op_eq (pe_callB (cr_sum rfl) (by rfl) T.z_sum (by decide +kernel) (pa_cons (pv 2) pa_nil)) (pe_meth (pe_fld (pv 0) rfl) T.cl_Book T.m_Book_bound (ok_Book_bound T) (hr.mono (by decide)) T.b_Book_bound .nil pass0 (pa_cons (pv 1) pa_nil)) (nomark _)))) pa_nil)) pa_nil))))), ?_⟩
    -- slots: 0 self, 1 potentials, 2 numbers
    obtain ⟨hp, pp, pn, l, p, f, rfl, ⟨b, d, es, hh⟩, hpp, hpl, hf, hfl, q⟩ := h
    obtain ⟨dh, hH⟩ := hh.hs
    obtain ⟨dx, hbk⟩ := hh.bk.bk
    refine ⟨_, rfl, hp, dh, _, rfl, hH, hF_no b (by decide +kernel), _, rfl, hp, b, d, pp, es, l, p, rfl, hh, hpp, hpl, fun H1 s1 => ⟨_, rfl, ite2 (fun c => ?_) (fun c => ?_)⟩⟩
    · have c : Vbchad.potentialsIn ⟨l⟩ p = false := by simpa using c
      exact iteT ⟨_, rfl, by show 1 ≤ sizeLine; decide, fun p n => q.new (ns := [-1]) hh s1 n (if_pos (by rw [c]; rfl))⟩
    have c : Vbchad.potentialsIn ⟨l⟩ p = true := by simpa using c
    have hh1 := hh.same s1
    refine ⟨_, rfl, hp, dh, _, rfl, s1 _ _ hH, hF_no b (by decide +kernel), _, rfl, hp, b, d, pn, es, l, f, rfl, hh1, s1.seq hf, hfl, fun H2 s2 => ⟨_, rfl, ite2 (fun c2 => ?_) (fun c2 => ?_)⟩⟩
    · have c2 : Vbchad.numbers ⟨l⟩ f = false := by simpa using c2
      exact ⟨_, rfl, by show 1 ≤ sizeLine; decide, fun p n => q.new (ns := [-1]) hh (s1.trans s2) n (if_pos (by rw [c, c2]; rfl))⟩
    have c2 : Vbchad.numbers ⟨l⟩ f = true := by simpa using c2
    obtain ⟨e1, e2⟩ := numbers_nat c2
    rw [e1] at hf
    have s12 := s1.trans s2
    have hh2 := hh.same s12
    have hf2 := s12.seq hf
    have hst : Vbchad.step ⟨l⟩ (.proves p f) = (⟨l⟩, [if Vbchad.isReduction l (f.map Int.toNat) = true ∧ (Vbchad.sum (f.map Int.toNat) : Int) = Vbchad.boundOf l p then 1 else 0]) := if_neg (by rw [c, c2]; decide)
    refine ⟨_, rfl, hp, _, dh, _, _, rfl, s12 _ _ hH, T.cl_House, T.n_House_book, hF_book b, b, dx, _, rfl, s12 _ _ hbk, bF_no d (by decide +kernel), _, rfl, b, d, pn, es, l, f.map Int.toNat, rfl, hh2.bk, hh2.ok, hf2, e2, fun H3 s3 => ⟨_, rfl, ite2 (fun c3 => ?_) (fun c3 => ?_)⟩⟩
    · have c3 : Vbchad.isReduction l (f.map Int.toNat) = true := c3
      refine ⟨_, rfl, pn, (f.map Int.toNat).map fun n => ((n : Nat) : Int), rfl, ?_, ?_⟩
      · rw [← NV_ints]
        exact s3.seq hf2
      rw [sumN]
      have s13 := s12.trans s3
      have hh3 := hh.same s13
      refine ⟨_, rfl, hp, _, dh, _, _, rfl, s13 _ _ hH, T.cl_House, T.n_House_book, hF_book b, b, dx, _, rfl, s13 _ _ hbk, bF_no d (by decide +kernel), _, rfl, b, d, pp, es, l, p, rfl, hh3.bk, hh3.ok, s13.seq hpp, pot_len c, fun H4 s4 => ⟨rfl, .inr ⟨_, rfl, by show 1 ≤ sizeLine; decide, fun r n => ?_⟩⟩⟩
      refine q.ro (ns := [if Vbchad.isReduction l (f.map Int.toNat) = true ∧ (Vbchad.sum (f.map Int.toNat) : Int) = Vbchad.boundOf l p then 1 else 0]) hh ((s13.trans s4).trans (same_new n)) ((s13.trans s4).free n) hst ?_
      rw [upd_same]
      refine congrArg (fun z => some (HO.lst [V.int z])) ?_
      by_cases z : ((Vbchad.sum (f.map Int.toNat) : Nat) : Int) = Vbchad.boundOf l p
      · rw [if_pos (decide_eq_true (congrArg V.int z)), if_pos ⟨c3, z⟩]
      · rw [if_neg (fun w => z (int_inj w)), if_neg fun w => z w.2]
    · have c3 : Vbchad.isReduction l (f.map Int.toNat) = false := by simpa using c3
      refine .inr ⟨_, rfl, by show 1 ≤ sizeLine; decide, fun p n => ?_⟩
      refine q.new (ns := [0]) hh (s12.trans s3) n ?_
      rw [hst, if_neg]
      rw [c3]
      intro z
      exact absurd z.1 (by decide)
def sp_House_without (T : Tx K mg) : Sp := fun vs H Q _ => ∃ (h : Addr) (l : List Tr) (k : Int), vs = [.ref h, .int k] ∧ HAt T H h l ∧ Ans T H h l (.without k) Q
theorem ok_House_without (T : Tx K mg) : FnOk P w K mg base CX0 5 T.f_House_without T.d_House_without ["self", "key"] (sp_House_without T) := by
  refine T.F_House_without.ok sc_House_without (fun vs H Q E h => ?_) (fun cdv A outer s H vs Q E hr h => ?_)
  · obtain ⟨hp, l, k, rfl, _⟩ := h
    rfl
  · refine ⟨_, (pss_cons (ps_set (i := 2) sc_House_without.nd rfl (.inl rfl) (pe_meth (pv 0) T.cl_House T.m_House_key_fault (ok_House_key_fault T) (hr.mono (by decide)) T.b_House_key_fault .nil pass0 (pa_cons (pv 1) pa_nil)))
      (pss_one (ps_ret (pe_ifExp (pt_cmpR op_lt (pv 2) pe_int (nomark _)) (pe_lst (pa_cons (pv 2) pa_nil)) (pe_lst (pa_cons (pe_meth (pe_fld (pv 0) rfl) T.cl_Book T.m_Book_total (ok_Book_total T) (hr.mono (by decide)) T.b_Book_total .nil pass0 (pa_cons (pv 1) (pa_cons pe_non pa_nil))) (pa_cons (pe_meth (pe_fld (pv 0) rfl) T.cl_Book T.m_Book_total (ok_Book_total T) (hr.mono (by decide)) T.b_Book_total .nil pass0 (pa_cons pe_non (pa_cons (pv 1) pa_nil))) pa_nil))))))), ?_⟩
    -- slots: 0 self, 1 key, 2 fault
    obtain ⟨hp, l, k, rfl, ⟨b, d, es, hh⟩, q⟩ := h
    obtain ⟨dh, hH⟩ := hh.hs
    obtain ⟨dx, hbk⟩ := hh.bk.bk
    refine ⟨_, rfl, hp, dh, _, rfl, hH, hF_no b (by decide +kernel), _, rfl, hp, b, d, es, l, k, rfl, hh, ?_⟩
    refine ⟨_, rfl, _, _, rfl, rfl, _, rfl, ite2 (fun c => ?_) (fun c => ?_)⟩
    · have c : faultOf l k < 0 := of_decide_eq_true c
      rcases on_cases l k with ⟨_, h2⟩ | ⟨h1, _⟩
      · exact ⟨_, rfl, by show 1 ≤ sizeLine; decide, fun p n => q.new (ns := [faultOf l k]) hh (Same.refl _) n (h2 _)⟩
      · omega
    · have c : ¬ faultOf l k < 0 := fun z => c (decide_eq_true z)
      rcases on_cases l k with ⟨h1, _⟩ | ⟨_, t, ht, rfl, h2⟩
      · omega
      have hst := h2 fun t => (⟨l⟩, Vbchad.ints [Vbchad.greatestOf (l.filter fun x => x.key != t.key), Vbchad.greatestOf (l.map fun x => if x.key = t.key then { x with least := 0 } else x)])
      refine ⟨_, rfl, hp, _, dh, _, _, rfl, hH, T.cl_House, T.n_House_book, hF_book b, b, dx, _, rfl, hbk, bF_no d (by decide +kernel), _, rfl, b, d, es, l, some t.key, none, rfl, hh.bk, hh.ok, fun H1 s1 => ?_⟩
      have hh1 := hh.same s1
      refine ⟨_, rfl, hp, _, dh, _, _, rfl, s1 _ _ hH, T.cl_House, T.n_House_book, hF_book b, b, dx, _, rfl, s1 _ _ hbk, bF_no d (by decide +kernel), _, rfl, b, d, es, l, none, some t.key, rfl, hh1.bk, hh1.ok, fun H2 s2 => ?_⟩
      rw [arcsL_wo, arcsL_ba]
      exact ⟨by show 2 ≤ sizeLine; decide, fun p n => q.new hh (s1.trans s2) n hst⟩
def sp_House_worth (T : Tx K mg) : Sp := fun vs H Q _ => ∃ (h : Addr) (l : List Tr) (k : Int), vs = [.ref h, .int k] ∧ HAt T H h l ∧ Ans T H h l (.worth k) Q
theorem ok_House_worth (T : Tx K mg) : FnOk P w K mg base CX0 6 T.f_House_worth T.d_House_worth ["self", "key"] (sp_House_worth T) := by
  refine T.F_House_worth.ok sc_House_worth (fun vs H Q E h => ?_) (fun cdv A outer s H vs Q E hr h => ?_)
  · obtain ⟨hp, l, k, rfl, _⟩ := h
    rfl
  · refine ⟨_, (pss_cons (ps_set (i := 2) sc_House_worth.nd rfl (.inl rfl) (pe_meth (pv 0) T.cl_House T.m_House_key_fault (ok_House_key_fault T) (hr.mono (by decide)) T.b_House_key_fault .nil pass0 (pa_cons (pv 1) pa_nil)))
      (pss_one (ps_ret (pe_ifExp (pt_cmpR op_lt (pv 2) pe_int (nomark _)) (pe_lst (pa_cons (pv 2) pa_nil)) (pe_lst (pa_cons (pe_meth (pe_fld (pv 0) rfl) T.cl_Book T.m_Book_worth (ok_Book_worth T) (hr.mono (by decide)) T.b_Book_worth .nil pass0 (pa_cons (pv 1) pa_nil)) pa_nil)))))), ?_⟩
    -- slots: 0 self, 1 key, 2 fault
    obtain ⟨hp, l, k, rfl, ⟨b, d, es, hh⟩, q⟩ := h
    obtain ⟨dh, hH⟩ := hh.hs
    obtain ⟨dx, hbk⟩ := hh.bk.bk
    refine ⟨_, rfl, hp, dh, _, rfl, hH, hF_no b (by decide +kernel), _, rfl, hp, b, d, es, l, k, rfl, hh, ?_⟩
    refine ⟨_, rfl, _, _, rfl, rfl, _, rfl, ite2 (fun c => ?_) (fun c => ?_)⟩
    · have c : faultOf l k < 0 := of_decide_eq_true c
      rcases on_cases l k with ⟨_, h2⟩ | ⟨h1, _⟩
      · exact ⟨_, rfl, by show 1 ≤ sizeLine; decide, fun p n => q.new (ns := [faultOf l k]) hh (Same.refl _) n (h2 _)⟩
      · omega
    · have c : ¬ faultOf l k < 0 := fun z => c (decide_eq_true z)
      rcases on_cases l k with ⟨h1, _⟩ | ⟨_, t, ht, rfl, h2⟩
      · omega
      have hst := h2 fun t => (⟨l⟩, [Vbchad.worthOf (Vbchad.membersOf l) (Vbchad.potentials l) t])
      refine ⟨_, rfl, hp, _, dh, _, _, rfl, hH, T.cl_House, T.n_House_book, hF_book b, b, dx, _, rfl, hbk, bF_no d (by decide +kernel), _, rfl, b, d, es, l, t, rfl, ht, hh.bk, hh.ok, fun H1 s1 => ?_⟩
      exact ⟨by show 1 ≤ sizeLine; decide, fun p n => q.new hh s1 n hst⟩
def sp_House_members (T : Tx K mg) : Sp := fun vs H Q _ => ∃ (h : Addr) (l : List Tr), vs = [.ref h] ∧ HAt T H h l ∧ Ans T H h l .members Q
theorem ok_House_members (T : Tx K mg) : FnOk P w K mg base CX0 2 T.f_House_members T.d_House_members ["self"] (sp_House_members T) := by
  refine T.F_House_members.ok sc_House_members (fun vs H Q E h => ?_) (fun cdv A outer s H vs Q E hr h => ?_)
  · obtain ⟨hp, l, rfl, _⟩ := h
    rfl
  · refine ⟨_, (pss_one (ps_ret (pe_op op_cat (pe_lst (pa_cons (pe_callB call_len_seq (by rfl) T.z_len (by decide +kernel) (pa_cons (pe_meth0 (pe_fld (pv 0) rfl) T.cl_Book T.m_Book_members (ok_Book_members T) (hr.mono (by decide)) T.b_Book_members .nil pass0) pa_nil)) pa_nil)) (pe_meth0 (pe_fld (pv 0) rfl) T.cl_Book T.m_Book_members (ok_Book_members T) (hr.mono (by decide)) T.b_Book_members .nil pass0)))), ?_⟩
    -- slots: 0 self
    obtain ⟨hp, l, rfl, ⟨b, d, es, hh⟩, q⟩ := h
    obtain ⟨dh, hH⟩ := hh.hs
    obtain ⟨dx, hbk⟩ := hh.bk.bk
    refine ⟨_, rfl, hp, _, dh, _, _, rfl, hH, T.cl_House, T.n_House_book, hF_book b, b, dx, _, rfl, hbk, bF_no d (by decide +kernel), b, d, es, l, rfl, hh.bk, hh.ok, fun H1 pm s1 n1 e1 => ?_⟩
    refine ⟨pm, _, rfl, .inl (SqL.of e1), by show 1 ≤ sizeLine; decide, fun p1 np1 => ?_⟩
    have sp1 := same_new (o := .lst [.int ((NV (Vbchad.membersOf l)).length : Nat)]) np1
    have s2 := s1.trans sp1
    have hh2 := hh.same s2
    refine ⟨_, rfl, hp, _, dh, _, _, rfl, s2 _ _ hH, T.cl_House, T.n_House_book, hF_book b, b, dx, _, rfl, s2 _ _ hbk, bF_no d (by decide +kernel), b, d, es, l, rfl, hh2.bk, hh2.ok, fun H3 pm3 s3 n3 e3 => ?_⟩
    have hm12 := hh.ok.m12
    refine ⟨p1, pm3, _, _, rfl, rfl, s3 _ _ upd_same, e3, sz_of (by rw [NV_len]; show 1 + _ ≤ _; omega), fun p n => ?_⟩
    refine q.ro (ns := Vbchad.ints ((Vbchad.membersOf l).length :: Vbchad.membersOf l)) hh ((s2.trans s3).trans (same_new n)) ((s2.trans s3).free n) rfl ?_
    rw [upd_same, NV_len, NV_ints]
    rfl
def sp_House_between (T : Tx K mg) : Sp := fun vs H Q _ => ∃ (h : Addr) (l : List Tr) (a b : Int), vs = [.ref h, .int a, .int b] ∧ HAt T H h l ∧ Ans T H h l (.between a b) Q
theorem ok_House_between (T : Tx K mg) : FnOk P w K mg base CX0 4 T.f_House_between T.d_House_between ["self", "one", "other"] (sp_House_between T) := by
  refine T.F_House_between.ok sc_House_between (fun vs H Q E h => ?_) (fun cdv A outer s H vs Q E hr h => ?_)
  · obtain ⟨hp, l, a, b, rfl, _⟩ := h
    rfl
  · refine ⟨_, (pss_cons (ps_if (PW.pt (pw_or (pt_not (pt_val (pe_call (ok_is_key T) (hr.mono (by decide)) (by rfl) T.g_is_key T.F_is_key.kp T.b_is_key .nil pass0 (pa_cons (pv 1) pa_nil)))) (pw_or1 (pt_not (pt_val (pe_call (ok_is_key T) (hr.mono (by decide)) (by rfl) T.g_is_key T.F_is_key.kp T.b_is_key .nil pass0 (pa_cons (pv 2) pa_nil)))))))
      (pss_one (ps_ret (pe_lst (pa_cons (pe_un un_neg pe_int) pa_nil))))
      pss_nil)
      (pss_cons (ps_if (pt_cmpR op_eq (pv 1) (pv 2) (nomark _))
      (pss_one (ps_ret (pe_lst (pa_cons (pe_un un_neg pe_int) pa_nil))))
      pss_nil)
      (pss_one (ps_ret (pe_lst (pa_cons (pe_ix ix_tup (pe_meth (pe_fld (pv 0) rfl) T.cl_Book T.m_Book_sums (ok_Book_sums T) (hr.mono (by decide)) T.b_Book_sums .nil pass0 (pa_cons (pv 1) (pa_cons (pv 2) pa_nil))) pe_int (fun _ _ => rfl)) (pa_cons (pe_meth (pe_fld (pv 0) rfl) T.cl_Book T.m_Book_pair (ok_Book_pair T) (hr.mono (by decide)) T.b_Book_pair .nil pass0 (pa_cons (pv 1) (pa_cons (pv 2) pa_nil))) pa_nil))))))), ?_⟩
    -- slots: 0 self, 1 one, 2 other
    obtain ⟨hp, l, a, c', rfl, ⟨b, d, es, hh⟩, q⟩ := h
    obtain ⟨dh, hH⟩ := hh.hs
    obtain ⟨dx, hbk⟩ := hh.bk.bk
    refine ⟨_, rfl, a, rfl, _, rfl, ite2 (fun c => ?_) (fun c => ?_)⟩
    · have c : Vbchad.keyed a = false := by simpa using c
      exact iteT ⟨_, rfl, by show 1 ≤ sizeLine; decide, fun p n => q.new (ns := [-1]) hh (Same.refl _) n (if_pos (by rw [c]; rfl))⟩
    have c : Vbchad.keyed a = true := by simpa using c
    refine ⟨_, rfl, c', rfl, _, rfl, ite2 (fun c2 => ?_) (fun c2 => ?_)⟩
    · have c2 : Vbchad.keyed c' = false := by simpa using c2
      exact ⟨_, rfl, by show 1 ≤ sizeLine; decide, fun p n => q.new (ns := [-1]) hh (Same.refl _) n (if_pos (by rw [c, c2]; rfl))⟩
    have c2 : Vbchad.keyed c' = true := by simpa using c2
    have hst : Vbchad.step ⟨l⟩ (.between a c') = if a = c' then (⟨l⟩, [-3]) else (⟨l⟩, Vbchad.ints [Vbchad.sum ((l.filter fun t => t.from_ == a.toNat && t.to == c'.toNat).map fun t => t.amount), Vbchad.pairRoom l a.toNat c'.toNat]) := if_neg (by rw [c, c2]; decide)
    refine ⟨_, rfl, _, rfl, rfl, _, rfl, ite2 (fun c3 => ?_) (fun c3 => ?_)⟩
    · have c3 := int_inj c3
      exact ⟨_, rfl, by show 1 ≤ sizeLine; decide, fun p n => q.new (ns := [-3]) hh (Same.refl _) n (by rw [hst, if_pos c3])⟩
    have c3 := int_ne c3
    rw [if_neg c3] at hst
    obtain ⟨a, rfl⟩ : ∃ n : Nat, a = (n : Nat) := ⟨a.toNat, by have := keyed_iff.mp c; omega⟩
    obtain ⟨c', rfl⟩ : ∃ n : Nat, c' = (n : Nat) := ⟨c'.toNat, by have := keyed_iff.mp c2; omega⟩
    rw [Int.toNat_natCast, Int.toNat_natCast] at hst
    refine ⟨_, rfl, hp, _, dh, _, _, rfl, hH, T.cl_House, T.n_House_book, hF_book b, b, dx, _, rfl, hbk, bF_no d (by decide +kernel), _, rfl, _, rfl, b, d, es, l, a, c', rfl, hh.bk, hh.ok, fun H1 p1 s1 e1 => ?_⟩
    have hh1 := hh.same s1
    refine ⟨p1, _, _, _, rfl, rfl, SqT.of e1, atI_nat (j := 0) rfl, _, rfl, hp, _, dh, _, _, rfl, s1 _ _ hH, T.cl_House, T.n_House_book, hF_book b, b, dx, _, rfl, s1 _ _ hbk, bF_no d (by decide +kernel), _, rfl, _, rfl, b, d, es, l, a, c', rfl, hh1.bk, hh1.ok, fun H2 s2 => ?_⟩
    exact ⟨by show 2 ≤ sizeLine; decide, fun p n => q.new hh (s1.trans s2) n hst⟩
end
end St
end
section
set_option maxRecDepth 100000
set_option maxHeartbeats 4000000
namespace St
open PySem PySem.Spec PyProof.Rows L2 NT
def two (ks ns : List Int) (i : Nat) : List Int := ((ks.length : Nat) : Int) :: ((ks.zip ns).take i).flatMap fun x => [x.1, x.2]
theorem two_len (ks ns : List Int) (i : Nat) : (two ks ns i).length ≤ 1 + 2 * i := by
  unfold two
  rw [List.length_cons, List.length_flatMap]
  have h : ∀ (xs : List (Int × Int)), (xs.map fun x => [x.1, x.2].length).sum = 2 * xs.length := fun xs => by
    induction xs with
    | nil => rfl
    | cons x xs ih => rw [List.map_cons, List.sum_cons, ih]; show 2 + 2 * xs.length = 2 * (xs.length + 1); omega
  rw [h, List.length_take]
  omega
theorem two_more {ks ns : List Int} {i : Nat} {a b : Int} (h1 : ks[i]? = some a) (h2 : ns[i]? = some b) : two ks ns (i + 1) = two ks ns i ++ [a, b] := by
  unfold two
  rw [take_more (x := (a, b)) (by rw [List.getElem?_zip_eq_some]; exact ⟨h1, h2⟩), List.flatMap_append]
  rfl
theorem two_zero (ks ns : List Int) : two ks ns 0 = [((ks.length : Nat) : Int)] := rfl
theorem vi_get {ns : List Int} {i : Nat} {x : V} (h : (ns.map V.int)[i]? = some x) : ∃ n, ns[i]? = some n ∧ x = .int n := by
  rw [List.getElem?_map] at h
  cases e : ns[i]? with
  | none => rw [e] at h; cases h
  | some n => rw [e] at h; exact ⟨n, rfl, (Option.some.inj h).symm⟩
theorem two_told {l : List Tr} : two (l.map fun t => ((t.key : Nat) : Int)) ((Vbchad.told l).map fun n => ((n : Nat) : Int)) l.length = Vbchad.ints (l.length :: (l.zip (Vbchad.told l)).flatMap fun x => [x.1.key, x.2]) := by
  unfold two Vbchad.ints
  rw [List.map_cons, List.length_map, List.take_of_length_le (by rw [List.length_zip, List.length_map]; omega), List.zip_map, List.flatMap_map, List.map_flatMap]
  rfl
theorem two_pot {l : List Tr} : two ((Vbchad.membersOf l).map fun n => ((n : Nat) : Int)) (Vbchad.potentials l) (Vbchad.membersOf l).length = ((Vbchad.membersOf l).length : Int) :: ((Vbchad.membersOf l).zip (Vbchad.potentials l)).flatMap fun x => [(x.1 : Int), x.2] := by
  unfold two
  rw [List.length_map, List.take_of_length_le (by rw [List.length_zip, List.length_map]; omega), List.zip_map_left, List.flatMap_map]
  rfl
def fiv (t : Tr) : List Nat := [t.key, t.from_, t.to, t.amount, t.least]
theorem fiv_len (l : List Tr) : (l.flatMap fiv).length = 5 * l.length := by
  rw [List.length_flatMap]
  induction l with
  | nil => rfl
  | cons x xs ih => rw [List.map_cons, List.sum_cons, ih]; show 5 + 5 * xs.length = 5 * (xs.length + 1); omega
section
variable {P : Program} {w : World} {K : PySem.W.Frag} {mg : Str → Option Value} {base : Heap}
def sp_House_told (T : Tx K mg) : Sp := fun vs H Q _ => ∃ (h : Addr) (l : List Tr), vs = [.ref h] ∧ HAt T H h l ∧ Ans T H h l .told Q
theorem ok_House_told (T : Tx K mg) : FnOk P w K mg base CX0 6 T.f_House_told T.d_House_told ["self"] (sp_House_told T) := by
  refine T.F_House_told.ok sc_House_told (fun vs H Q E h => ?_) (fun cdv A outer s H vs Q E hr h => ?_)
  · obtain ⟨hp, l, rfl, _⟩ := h
    rfl
  · refine ⟨_, (pss_cons (ps_par (i := 1) (j := 2) (by rfl) sc_House_told.nd rfl rfl (by decide) rfl rfl (pa_cons (pe_meth0 (pe_fld (pv 0) rfl) T.cl_Book T.m_Book_key_rows (ok_Book_key_rows T) (hr.mono (by decide)) T.b_Book_key_rows .nil pass0) (pa_cons (pe_meth0 (pe_fld (pv 0) rfl) T.cl_Book T.m_Book_told (ok_Book_told T) (hr.mono (by decide)) T.b_Book_told .nil pass0) pa_nil)) (by rfl))
      (pss_cons (ps_set (i := 3) sc_House_told.nd rfl (.inl rfl) (pe_lst (pa_cons (pe_callB call_len_seq (by rfl) T.z_len (by decide +kernel) (pa_cons (pv 1) pa_nil)) pa_nil)))
      (pss_cons (ps_for PassesOwn.never rfl (pi_zip (by rfl) T.z_zip (pa_cons (pv 1) (pa_cons (pv 2) pa_nil))) (pg_tup (by rfl) (pgs_cons (pg_name (i := 4) sc_House_told.nd rfl (.inl rfl)) (pgs_cons (pg_name (i := 5) sc_House_told.nd rfl (.inl rfl)) pgs_nil)))
      (pss_one (ps_expr (pe_bm PySem.F.plainAttrs_list PySem.F.slot_list_extend PySem.F.type_list_extend mt_extend (pv 3) (pa_cons (pe_lst (pa_cons (pv 4) (pa_cons (pv 5) pa_nil))) pa_nil)))))
      (pss_one (ps_ret (pv 3)))))), ?_⟩
    -- slots: 0 self, 1 keys, 2 numbers, 3 found, 4 key, 5 number
    obtain ⟨hp, l, rfl, ⟨b, d, es, hh⟩, q⟩ := h
    obtain ⟨dh, hH⟩ := hh.hs
    obtain ⟨dx, hbk⟩ := hh.bk.bk
    refine ⟨_, rfl, hp, _, dh, _, _, rfl, hH, T.cl_House, T.n_House_book, hF_book b, b, dx, _, rfl, hbk, bF_no d (by decide +kernel), b, d, es, l, rfl, hh.bk, hh.ok, fun H1 pk s1 n1 e1 => ?_⟩
    have hh1 := hh.same s1
    refine ⟨_, rfl, hp, _, dh, _, _, rfl, s1 _ _ hH, T.cl_House, T.n_House_book, hF_book b, b, dx, _, rfl, s1 _ _ hbk, bF_no d (by decide +kernel), b, d, es, l, rfl, hh1.bk, hh1.ok, fun H2 pn s2 n2 e2 => ⟨_, _, rfl, ?_⟩⟩
    have s12 := s1.trans s2
    have e12 := s2 _ _ e1
    rw [show NV (l.map fun t => t.key) = (l.map fun t => ((t.key : Nat) : Int)).map V.int by unfold NV; rw [List.map_map, List.map_map]; rfl] at e12
    rw [NV_ints] at e2
    have hkn : (l.map fun t => ((t.key : Nat) : Int)).length = ((Vbchad.told l).map fun n => ((n : Nat) : Int)).length := by rw [List.length_map, List.length_map]; exact (SP.told_lexMax l).2.symm
    have hk40 : (l.map fun t => ((t.key : Nat) : Int)).length ≤ 40 := by rw [List.length_map]; exact hh.ok.n40
    refine ⟨_, rfl, pk, _, rfl, .inl (SqL.of e12), by show 1 ≤ sizeLine; decide, fun pf nf => ?_⟩
    have ef : (upd H2 pf (.lst [.int (((l.map fun t => ((t.key : Nat) : Int)).map V.int).length : Nat)])) pf = some (.lst ((two (l.map fun t => ((t.key : Nat) : Int)) ((Vbchad.told l).map fun n => ((n : Nat) : Int)) 0).map V.int)) := by
      rw [upd_same, two_zero, List.length_map]
      rfl
    have sf := same_new (o := .lst [.int (((l.map fun t => ((t.key : Nat) : Int)).map V.int).length : Nat)]) nf
    refine ⟨_, rfl, _, rfl, pk, pn, (l.map fun t => ((t.key : Nat) : Int)).map V.int, ((Vbchad.told l).map fun n => ((n : Nat) : Int)).map V.int, rfl, SqL.of (sf _ _ e12), SqL.of (sf _ _ e2), RZ.for_zipL (K := K) (a := pk) (b := pn) (xs := (l.map fun t => ((t.key : Nat) : Int)).map V.int) (ys := ((Vbchad.told l).map fun n => ((n : Nat) : Int)).map V.int) (by simp only [List.length_map] at hkn ⊢; exact hkn) (fun i σ H3 => ∃ y4 y5, σ = [some (.ref hp), some (.ref pk), some (.ref pn), some (.ref pf), y4, y5] ∧ Same H2 H3 ∧ H3 pf = some (.lst ((two (l.map fun t => ((t.key : Nat) : Int)) ((Vbchad.told l).map fun n => ((n : Nat) : Int)) i).map V.int)))
      ⟨none, none, rfl, sf, ef⟩ (fun i σ H3 ⟨_, _, _, s3, _⟩ => ⟨SqL.of (s3 _ _ e12), SqL.of (s3 _ _ e2)⟩) ?_ ?_⟩
    · rintro i x y Tt σ H3 hx hy ⟨y4, y5, rfl, s3, e3⟩ nT
      obtain ⟨u, hu, rfl⟩ := vi_get hx
      obtain ⟨v, hv, rfl⟩ := vi_get hy
      have hi : i < (l.map fun t => ((t.key : Nat) : Int)).length := (List.getElem?_eq_some_iff.mp hu).1
      have sT := same_new (o := .tup [.int u, .int v]) nT
      refine ⟨Tt, _, rfl, SqT.of upd_same, rfl, _, _, rfl, _, _, rfl, rfl, ?_⟩
      refine ⟨_, rfl, .inl ⟨rfl, _, SqL.of (sT _ _ e3)⟩, _, rfl, _, rfl, by show 2 ≤ sizeLine; decide, fun p np => ⟨pf, p, _, _, rfl, rfl, (same_new np) _ _ (sT _ _ e3), upd_same, ?_, ?_⟩⟩
      · have := two_len (l.map fun t => ((t.key : Nat) : Int)) ((Vbchad.told l).map fun n => ((n : Nat) : Int)) i
        rw [List.length_map]
        refine sz_of ?_
        show _ + 2 ≤ _
        omega
      · refine ⟨some (.int u), some (.int v), rfl, (s3.trans (sT.trans (same_new np))).mut nf, ?_⟩
        rw [upd_same, two_more hu hv, List.map_append]
        rfl
    · rintro σ H3 ⟨y4, y5, rfl, s3, e3⟩
      refine ⟨_, rfl, q.ro (ns := two (l.map fun t => ((t.key : Nat) : Int)) ((Vbchad.told l).map fun n => ((n : Nat) : Int)) (l.map fun t => ((t.key : Nat) : Int)).length) hh (s12.trans s3) (s12.free nf) (by rw [List.length_map, two_told]; rfl) ?_⟩
      rw [e3, List.length_map]
def sp_House_potentials (T : Tx K mg) : Sp := fun vs H Q _ => ∃ (h : Addr) (l : List Tr), vs = [.ref h] ∧ HAt T H h l ∧ Ans T H h l .potentials Q
theorem ok_House_potentials (T : Tx K mg) : FnOk P w K mg base CX0 5 T.f_House_potentials T.d_House_potentials ["self"] (sp_House_potentials T) := by
  refine T.F_House_potentials.ok sc_House_potentials (fun vs H Q E h => ?_) (fun cdv A outer s H vs Q E hr h => ?_)
  · obtain ⟨hp, l, rfl, _⟩ := h
    rfl
  · refine ⟨_, (pss_cons (ps_par (i := 1) (j := 2) (by rfl) sc_House_potentials.nd rfl rfl (by decide) rfl rfl (pa_cons (pe_meth0 (pe_fld (pv 0) rfl) T.cl_Book T.m_Book_members (ok_Book_members T) (hr.mono (by decide)) T.b_Book_members .nil pass0) (pa_cons (pe_meth0 (pe_fld (pv 0) rfl) T.cl_Book T.m_Book_potentials (ok_Book_potentials T) (hr.mono (by decide)) T.b_Book_potentials .nil pass0) pa_nil)) (by rfl))
      (pss_cons (ps_set (i := 3) sc_House_potentials.nd rfl (.inl rfl) (pe_lst (pa_cons (pe_callB call_len_seq (by rfl) T.z_len (by decide +kernel) (pa_cons (pv 1) pa_nil)) pa_nil)))
      (pss_cons (ps_for PassesOwn.never rfl (pi_zip (by rfl) T.z_zip (pa_cons (pv 1) (pa_cons (pv 2) pa_nil))) (pg_tup (by rfl) (pgs_cons (pg_name (i := 4) sc_House_potentials.nd rfl (.inl rfl)) (pgs_cons (pg_name (i := 5) sc_House_potentials.nd rfl (.inl rfl)) pgs_nil)))
      (pss_one (ps_expr (pe_bm PySem.F.plainAttrs_list PySem.F.slot_list_extend PySem.F.type_list_extend mt_extend (pv 3) (pa_cons (pe_lst (pa_cons (pv 4) (pa_cons (pv 5) pa_nil))) pa_nil)))))
      (pss_one (ps_ret (pv 3)))))), ?_⟩
    -- slots: 0 self, 1 members, 2 potentials, 3 found, 4 member, 5 potential
    obtain ⟨hp, l, rfl, ⟨b, d, es, hh⟩, q⟩ := h
    obtain ⟨dh, hH⟩ := hh.hs
    obtain ⟨dx, hbk⟩ := hh.bk.bk
    refine ⟨_, rfl, hp, _, dh, _, _, rfl, hH, T.cl_House, T.n_House_book, hF_book b, b, dx, _, rfl, hbk, bF_no d (by decide +kernel), b, d, es, l, rfl, hh.bk, hh.ok, fun H1 pk s1 n1 e1 => ?_⟩
    have hh1 := hh.same s1
    refine ⟨_, rfl, hp, _, dh, _, _, rfl, s1 _ _ hH, T.cl_House, T.n_House_book, hF_book b, b, dx, _, rfl, s1 _ _ hbk, bF_no d (by decide +kernel), b, d, es, l, rfl, hh1.bk, hh1.ok, fun H2 pn s2 n2 e2 => ⟨_, _, rfl, ?_⟩⟩
    have s12 := s1.trans s2
    have e12 := s2 _ _ e1
    rw [NV_ints] at e12
    have hkn : ((Vbchad.membersOf l).map fun n => ((n : Nat) : Int)).length = (Vbchad.potentials l).length := by rw [List.length_map]; exact (SP.potentials_length l).symm
    have hk40 : ((Vbchad.membersOf l).map fun n => ((n : Nat) : Int)).length ≤ 40 := by rw [List.length_map]; have := hh.ok.m12; omega
    refine ⟨_, rfl, pk, _, rfl, .inl (SqL.of e12), by show 1 ≤ sizeLine; decide, fun pf nf => ?_⟩
    have ef : (upd H2 pf (.lst [.int ((((Vbchad.membersOf l).map fun n => ((n : Nat) : Int)).map V.int).length : Nat)])) pf = some (.lst ((two ((Vbchad.membersOf l).map fun n => ((n : Nat) : Int)) (Vbchad.potentials l) 0).map V.int)) := by
      rw [upd_same, two_zero, List.length_map]
      rfl
    have sf := same_new (o := .lst [.int ((((Vbchad.membersOf l).map fun n => ((n : Nat) : Int)).map V.int).length : Nat)]) nf
    refine ⟨_, rfl, _, rfl, pk, pn, ((Vbchad.membersOf l).map fun n => ((n : Nat) : Int)).map V.int, (Vbchad.potentials l).map V.int, rfl, SqL.of (sf _ _ e12), SqL.of (sf _ _ e2), RZ.for_zipL (K := K) (a := pk) (b := pn) (xs := ((Vbchad.membersOf l).map fun n => ((n : Nat) : Int)).map V.int) (ys := (Vbchad.potentials l).map V.int) (by simp only [List.length_map] at hkn ⊢; exact hkn) (fun i σ H3 => ∃ y4 y5, σ = [some (.ref hp), some (.ref pk), some (.ref pn), some (.ref pf), y4, y5] ∧ Same H2 H3 ∧ H3 pf = some (.lst ((two ((Vbchad.membersOf l).map fun n => ((n : Nat) : Int)) (Vbchad.potentials l) i).map V.int)))
      ⟨none, none, rfl, sf, ef⟩ (fun i σ H3 ⟨_, _, _, s3, _⟩ => ⟨SqL.of (s3 _ _ e12), SqL.of (s3 _ _ e2)⟩) ?_ ?_⟩
    · rintro i x y Tt σ H3 hx hy ⟨y4, y5, rfl, s3, e3⟩ nT
      obtain ⟨u, hu, rfl⟩ := vi_get hx
      obtain ⟨v, hv, rfl⟩ := vi_get hy
      have hi : i < ((Vbchad.membersOf l).map fun n => ((n : Nat) : Int)).length := (List.getElem?_eq_some_iff.mp hu).1
      have sT := same_new (o := .tup [.int u, .int v]) nT
      refine ⟨Tt, _, rfl, SqT.of upd_same, rfl, _, _, rfl, _, _, rfl, rfl, ?_⟩
      refine ⟨_, rfl, .inl ⟨rfl, _, SqL.of (sT _ _ e3)⟩, _, rfl, _, rfl, by show 2 ≤ sizeLine; decide, fun p np => ⟨pf, p, _, _, rfl, rfl, (same_new np) _ _ (sT _ _ e3), upd_same, ?_, ?_⟩⟩
      · have := two_len ((Vbchad.membersOf l).map fun n => ((n : Nat) : Int)) (Vbchad.potentials l) i
        rw [List.length_map]
        refine sz_of ?_
        show _ + 2 ≤ _
        omega
      · refine ⟨some (.int u), some (.int v), rfl, (s3.trans (sT.trans (same_new np))).mut nf, ?_⟩
        rw [upd_same, two_more hu hv, List.map_append]
        rfl
    · rintro σ H3 ⟨y4, y5, rfl, s3, e3⟩
      refine ⟨_, rfl, q.ro (ns := two ((Vbchad.membersOf l).map fun n => ((n : Nat) : Int)) (Vbchad.potentials l) ((Vbchad.membersOf l).map fun n => ((n : Nat) : Int)).length) hh (s12.trans s3) (s12.free nf) (by rw [List.length_map, two_pot]; rfl) ?_⟩
      rw [e3, List.length_map]
def sp_House_trades (T : Tx K mg) : Sp := fun vs H Q _ => ∃ (h : Addr) (l : List Tr), vs = [.ref h] ∧ HAt T H h l ∧ Ans T H h l .trades Q
theorem ok_House_trades (T : Tx K mg) : FnOk P w K mg base CX0 2 T.f_House_trades T.d_House_trades ["self"] (sp_House_trades T) := by
  refine T.F_House_trades.ok sc_House_trades (fun vs H Q E h => ?_) (fun cdv A outer s H vs Q E hr h => ?_)
  · obtain ⟨hp, l, rfl, _⟩ := h
    rfl
  · refine ⟨_, (pss_cons (ps_set (i := 1) sc_House_trades.nd rfl (.inl rfl) (pe_lst (pa_cons (pe_callB call_lenD (by rfl) T.z_len (by decide +kernel) (pa_cons (pe_fld (pe_fld (pv 0) rfl) rfl) pa_nil)) pa_nil)))
      (pss_cons (ps_for PassesOwn.never rfl (pi_list (pe_meth0 (pe_fld (pv 0) rfl) T.cl_Book T.m_Book_key_rows (ok_Book_key_rows T) (hr.mono (by decide)) T.b_Book_key_rows .nil pass0)) (pg_name (i := 2) sc_House_trades.nd rfl (.inl rfl))
      (pss_cons (ps_set (i := 3) sc_House_trades.nd rfl (.inl rfl) (pe_dget (hu_of hr) (pe_fld (pe_fld (pv 0) rfl) rfl) (pv 2) (fun _ _ => rfl)))
      (pss_one (ps_expr (pe_bm PySem.F.plainAttrs_list PySem.F.slot_list_extend PySem.F.type_list_extend mt_extend (pv 1) (pa_cons (pe_lst (pa_cons (pv 2) (pa_cons (pe_fld (pv 3) rfl) (pa_cons (pe_fld (pv 3) rfl) (pa_cons (pe_fld (pv 3) rfl) (pa_cons (pe_fld (pv 3) rfl) pa_nil)))))) pa_nil))))))
      (pss_one (ps_ret (pv 1))))), ?_⟩
    -- slots: 0 self, 1 found, 2 key, 3 trade
    obtain ⟨hp, l, rfl, ⟨b, d, es, hh⟩, q⟩ := h
    obtain ⟨dh, hH⟩ := hh.hs
    obtain ⟨dx, hbk⟩ := hh.bk.bk
    have hl40 := hh.ok.n40
    have hel : (es.map ent).length = l.length := by rw [List.length_map]; exact hh.ok.len
    refine ⟨_, rfl, hp, _, dh, _, _, rfl, hH, T.cl_House, T.n_House_book, hF_book b, b, _, dx, _, _, rfl, hbk, T.cl_Book, T.n_Book_held, bF_held d, d, _, rfl, hh.bk.dict, by show 1 ≤ sizeLine; decide, fun pf nf => ?_⟩
    have sf := same_new (o := .lst [.int ((es.map ent).length : Nat)]) nf
    have ef : (upd H pf (.lst [.int ((es.map ent).length : Nat)])) pf = some (.lst (NV (l.length :: (l.take 0).flatMap fiv))) := by
      rw [upd_same, hel]
      rfl
    have hh1 := hh.same sf
    refine ⟨_, rfl, hp, _, dh, _, _, rfl, sf _ _ hH, T.cl_House, T.n_House_book, hF_book b, b, dx, _, rfl, sf _ _ hbk, bF_no d (by decide +kernel), b, d, es, l, rfl, hh1.bk, hh1.ok, fun H2 pk s2 n2 e2 => ?_⟩
    have npk : pk ≠ pf := fun z => by rw [z, ef] at n2; cases n2
    refine ⟨pk, rfl, ⟨_, SqL.of e2⟩, for_list (K := K) (a := pk) (xs := NV (l.map fun t => t.key)) (fun i σ H3 => ∃ y2 y3, σ = [some (.ref hp), some (.ref pf), y2, y3] ∧ Same H H3 ∧ H3 pk = some (.lst (NV (l.map fun t => t.key))) ∧ H3 pf = some (.lst (NV (l.length :: (l.take i).flatMap fiv))))
      ⟨none, none, rfl, sf.trans s2, e2, s2 _ _ ef⟩ (fun i σ H3 _ ⟨_, _, _, _, e3, _⟩ => SqL.of e3) ?_ ?_⟩
    · rintro i x σ H3 hx ⟨y2, y3, rfl, s3, k3, e3⟩
      obtain ⟨t, ht, rfl⟩ : ∃ t, l[i]? = some t ∧ x = .int (t.key : Nat) := by
        unfold NV at hx
        rw [List.getElem?_map, List.getElem?_map] at hx
        cases e : l[i]? with
        | none => rw [e] at hx; cases hx
        | some t => rw [e] at hx; exact ⟨t, rfl, (Option.some.inj hx).symm⟩
      have htl := List.mem_of_getElem? ht
      obtain ⟨a, ha⟩ := hh.ok.mem.mp htl
      have hh3 := hh.same s3
      obtain ⟨dt, hta⟩ := hh3.bk.trs _ ha
      have hi : i < l.length := (List.getElem?_eq_some_iff.mp ht).1
      refine ⟨_, rfl, hp, _, dh, _, _, rfl, s3 _ _ hH, T.cl_House, T.n_House_book, hF_book b, b, _, dx, _, _, rfl, s3 _ _ hbk, T.cl_Book, T.n_Book_held, bF_held d, _, rfl, d, .ref a, rfl, hh3.bk.rd.get hh.ok.keys ha, ?_⟩
      refine ⟨_, rfl, .inl ⟨rfl, _, SqL.of e3⟩, _, rfl, _, rfl, a, _, dt, _, _, rfl, hta, T.cl_Trade, T.n_Trade_giver, trF_giver t, _, rfl, a, _, dt, _, _, rfl, hta, T.cl_Trade, T.n_Trade_taker, trF_taker t, _, rfl, a, _, dt, _, _, rfl, hta, T.cl_Trade, T.n_Trade_amount, trF_amount t, _, rfl, a, _, dt, _, _, rfl, hta, T.cl_Trade, T.n_Trade_least, trF_least t,
        by show 5 ≤ sizeLine; decide, fun p np => ⟨pf, p, _, _, rfl, rfl, (same_new np) _ _ e3, upd_same, ?_, ?_⟩⟩
      · have := fiv_len (l.take i)
        rw [List.length_take] at this
        rw [NV_len, List.length_cons, this]
        refine sz_of ?_
        show _ + 5 ≤ _
        omega
      · refine ⟨some (.int (t.key : Nat)), some (.ref a), rfl, (s3.trans (same_new np)).mut nf, ?_, ?_⟩
        · rw [upd_ne npk]
          exact (same_new np) _ _ k3
        · rw [upd_same, take_more ht, List.flatMap_append]
          unfold NV
          rw [List.map_cons, List.map_cons, List.map_append]
          rfl
    · rintro σ H3 ⟨y2, y3, rfl, s3, k3, e3⟩
      refine ⟨_, rfl, q.ro (ns := Vbchad.ints (l.length :: l.flatMap fiv)) hh s3 nf rfl ?_⟩
      rw [e3, NV_len, List.length_map, List.take_length, NV_ints]
      rfl
end
end St
end
section
set_option maxRecDepth 100000
set_option maxHeartbeats 4000000
namespace St
open PySem PySem.Spec PyProof.Rows L2 NT
/-! a dict of the module, whole numbers as keys and values: d.get(k, x) -/
def IntLit : List DictEntry → List (Int × Int) → Prop
  | [], [] => True
  | e :: r, p :: q => (∃ t, e.key = .int p.1 t) ∧ e.hash = hashInt p.1 ∧ (∃ t, e.val = .int p.2 t) ∧ IntLit r q
  | _, _ => False
theorem IntLit.keys : ∀ {es : List DictEntry} {kvs : List (Int × Int)}, IntLit es kvs → ∀ e ∈ es, ∃ k : Int, (∃ t, e.key = .int k t) ∧ e.hash = hashInt k
  | [], _, _, e, he => nomatch he
  | _ :: _, [], h, _, _ => h.elim
  | a :: r, p :: q, h, e, he => by
    obtain ⟨h1, h2, _, h4⟩ := h
    rcases List.mem_cons.mp he with rfl | he
    · exact ⟨p.1, h1, h2⟩
    · exact h4.keys e he
def lookI (kvs : List (Int × Int)) (k : Int) : Option Int := (kvs.find? fun p => p.1 == k).map fun p => p.2
theorem isInt_eq (k j : Int) (t : Tok) : Value.isInt k (.int j t) = (j == k) := by
  unfold Value.isInt
  first
  | rfl
  | exact Bool.eq_iff_iff.mpr (by simp)
theorem IntLit.find : ∀ {es : List DictEntry} {kvs : List (Int × Int)}, IntLit es kvs → ∀ k : Int, (lookI kvs k = none → (es.find? fun e => Value.isInt k e.key) = none) ∧ ∀ v, lookI kvs k = some v → ∃ e t, (es.find? fun e => Value.isInt k e.key) = some e ∧ e.val = .int v t
  | [], [], _, k => ⟨(fun _ => rfl), (fun v h => nomatch h)⟩
  | [], _ :: _, h, _ => h.elim
  | _ :: _, [], h, _ => h.elim
  | a :: r, p :: q, h, k => by
    obtain ⟨⟨t, h1⟩, _, ⟨u, h3⟩, h4⟩ := h
    obtain ⟨i1, i2⟩ := h4.find k
    unfold lookI at i1 i2 ⊢
    rw [List.find?_cons, List.find?_cons, h1, isInt_eq]
    cases c : (p.1 == k) with
    | true => exact ⟨(fun z => nomatch z), fun v z => ⟨a, u, rfl, h3.trans (congrArg (fun n => Value.int n u) (Option.some.inj z))⟩⟩
    | false => exact ⟨i1, i2⟩
structure KI (K : PySem.W.Frag) (a : Addr) (kvs : List (Int × Int)) : Prop where
  ex : ∃ es n, K.lookup a = some ⟨.type "dict", none, .dict es n, #[]⟩ ∧ IntLit es.toList kvs
  low : (a == sysModules) = false
def tKGet (K : PySem.W.Frag) (td ty tx : TE) : TE := fun σ H Q => td σ H fun x H1 => ∃ a kvs, x = .ref a ∧ KI K a kvs ∧ ty σ H1 fun y H2 => tx σ H2 fun z H3 => ∃ k d : Int, y = .int k ∧ z = .int d ∧ Q (.int ((lookI kvs k).getD d)) H3
section
variable {X : Cx} {o e f : Expr} {apos cpos : Pos} {td ty tx : TE}
theorem pe_kget (ho : PE X o td) (he : PE X e ty) (hf : PE X f tx) (m : M2 X o "get" apos e f cpos) : PE X (.Call (.Attribute o "get" apos) [e, f] [] cpos) (tKGet X.K td ty tx) := by
  refine ⟨fun pins s σ H Q I h => ?_⟩
  refine wpAny_Call_method m.base m.few m.line PySem.F.plainAttrs_dict PySem.F.slot_dict_get PySem.F.type_dict_get (thn (ho.run pins s σ H _ I h) fun u s1 ⟨x, H1, I1, rx, a, kvs, ex, kd, q1⟩ => ?_)
  subst ex
  obtain rfl : u = Value.ref a := rx
  obtain ⟨⟨es, n, hl, lit⟩, low⟩ := kd
  have o1 := I1.kIn _ _ hl
  refine ⟨⟨_, o1, rfl⟩, fun b q => ?_, ?_⟩
  · cases q
    exact ⟨_, o1, rfl⟩
  rw [m.trees]
  refine Calls.callWith_builtin rfl (Calls.evalArgs_plain (Calls.spliced_cons (thn (he.run pins s1 σ H1 _ I1 q1) fun iv s2 ⟨y, H2, I2, ry, q2⟩ =>
    Calls.spliced_cons (thn (hf.run pins s2 σ H2 _ I2 q2) fun fv s3 ⟨z, H3, I3, rz, k, d, ey, ez, q3⟩ => Calls.spliced_nil ?_))))
  subst ey
  subst ez
  obtain ⟨t1, rfl⟩ := (show ∃ t, iv = Value.int k t from ry)
  obtain ⟨t2, rfl⟩ := (show ∃ t, fv = Value.int d t from rz)
  have o3 := I3.kIn _ _ hl
  have mp : s3.heap.MapOf (PySem.intKind X.prog X.w) a (fun k => findBy Value.isInt es k) :=
    ⟨_, es, n, o3, ⟨rfl, rfl, rfl⟩, rfl, fun e he => by
      obtain ⟨k, ⟨t, e1⟩, e2⟩ := lit.keys e (Array.mem_toList_iff.mpr he)
      exact ⟨k, by rw [e1]; exact PySem.intKind_is X.prog X.w k t, e2⟩, fun _ => rfl⟩
  refine call_meetsIn PySem.F.slot_dict_get ⟨_, o3, rfl⟩ PySem.F.entry_dict_get (PySem.F.args_dict_get_3 _ _ _) (meets_dict_get_default (PySem.intKind X.prog X.w) a (PySem.intKind_is X.prog X.w k t1) low (.int d t2)) ⟨_, mp, ?_⟩
  refine ⟨.int ((lookI kvs k).getD d), H3, I3.tok _, ?_, q3⟩
  obtain ⟨i1, i2⟩ := lit.find k
  obtain ⟨les⟩ := es
  show ∃ t, (findBy Value.isInt ⟨les⟩ k).getD (.int d t2) = Value.int ((lookI kvs k).getD d) t
  unfold findBy
  rw [List.find?_toArray]
  cases c : lookI kvs k with
  | none =>
    rw [i1 c]
    exact ⟨t2, rfl⟩
  | some v =>
    obtain ⟨e', t, h1, h2⟩ := i2 v c
    rw [h1]
    exact ⟨t, h2⟩
end
end St
end
section
set_option maxRecDepth 100000
set_option maxHeartbeats 4000000
namespace St
open PySem PySem.Spec PyProof.Rows L2 NT
theorem cut_mid (xs : List V) {i j : Nat} (h : j ≤ xs.length) (hij : i ≤ j) : cutV xs (some ((i : Nat) : Int)) (some ((j : Nat) : Int)) = (xs.drop i).take (j - i) := by
  unfold cutV
  rw [show HT.sIx xs.length 0 (some ((i : Nat) : Int)) = min i xs.length from HT.sIx_nat xs.length 0 i, show HT.sIx xs.length xs.length (some ((j : Nat) : Int)) = min j xs.length from HT.sIx_nat xs.length xs.length j,
    Nat.min_eq_left h, Nat.min_eq_left (show i ≤ xs.length by omega)]
theorem row_some {r x t : List Int} (h : PyFlat.row r = some (x, t)) : ∃ n r', r = n :: r' ∧ 0 ≤ n ∧ n.toNat ≤ r'.length ∧ x = r'.take n.toNat ∧ t = r'.drop n.toNat := by
  cases r with
  | nil => cases h
  | cons n r' =>
    unfold PyFlat.row at h
    dsimp only at h
    by_cases c : 0 ≤ n ∧ n.toNat ≤ r'.length
    · rw [if_pos c] at h
      have h := Option.some.inj h
      exact ⟨n, r', rfl, c.1, c.2, (congrArg Prod.fst h).symm, (congrArg Prod.snd h).symm⟩
    · rw [if_neg c] at h
      cases h
theorem rows_one {r t : List Int} {xs : List (List Int)} (h : PyFlat.rows 1 r = some (xs, t)) : ∃ x, xs = [x] ∧ PyFlat.row r = some (x, t) := by
  unfold PyFlat.rows at h
  split at h
  · cases h
  · rename_i x s e
    unfold PyFlat.rows at h
    have h := Option.some.inj h
    obtain rfl := congrArg Prod.snd h
    exact ⟨x, (congrArg Prod.fst h).symm, e⟩
theorem rows_two {r t : List Int} {xs : List (List Int)} (h : PyFlat.rows 2 r = some (xs, t)) : ∃ x y s, xs = [x, y] ∧ PyFlat.row r = some (x, s) ∧ PyFlat.row s = some (y, t) := by
  unfold PyFlat.rows at h
  split at h
  · cases h
  · rename_i x s e
    split at h
    · cases h
    · rename_i ys t' e2
      have h := Option.some.inj h
      obtain rfl : t' = t := congrArg Prod.snd h
      obtain ⟨y, rfl, e3⟩ := rows_one e2
      exact ⟨x, y, s, (congrArg Prod.fst h).symm, e, e3⟩
def sizes : List (Int × Int) := [(0, 5), (1, 1), (2, 2), (5, 1), (13, 1), (15, 1), (18, 2)]
theorem shape_cases {p : Int} {n k : Nat} (h : PyVbchad.shape p = some (n, k)) : (p ∈ [(3 : Int), 6, 7, 8, 11, 14, 16, 17] ∧ n = 0 ∧ k = 0) ∨ (p ∈ [(4 : Int), 9, 10] ∧ n = 0 ∧ k = 1) ∨ (p = 12 ∧ n = 0 ∧ k = 2) ∨ (p ∈ [(0 : Int), 1, 2, 5, 13, 15, 18] ∧ lookI sizes p = some (n : Int) ∧ 1 ≤ n ∧ k = 0) := by
  unfold PyVbchad.shape at h
  by_cases h0 : p = 0
  · subst h0; cases h; exact .inr (.inr (.inr ⟨by decide, rfl, by decide, rfl⟩))
  rw [if_neg h0] at h
  by_cases h1 : p = 1
  · subst h1; cases h; exact .inr (.inr (.inr ⟨by decide, rfl, by decide, rfl⟩))
  rw [if_neg h1] at h
  by_cases h2 : p = 2
  · subst h2; cases h; exact .inr (.inr (.inr ⟨by decide, rfl, by decide, rfl⟩))
  rw [if_neg h2] at h
  by_cases h3 : p = 3
  · subst h3; cases h; exact .inl ⟨by decide, rfl, rfl⟩
  rw [if_neg h3] at h
  by_cases h4 : p = 4
  · subst h4; cases h; exact .inr (.inl ⟨by decide, rfl, rfl⟩)
  rw [if_neg h4] at h
  by_cases h5 : p = 5
  · subst h5; cases h; exact .inr (.inr (.inr ⟨by decide, rfl, by decide, rfl⟩))
  rw [if_neg h5] at h
  by_cases h6 : p = 6
  · subst h6; cases h; exact .inl ⟨by decide, rfl, rfl⟩
  rw [if_neg h6] at h
  by_cases h7 : p = 7
  · subst h7; cases h; exact .inl ⟨by decide, rfl, rfl⟩
  rw [if_neg h7] at h
  by_cases h8 : p = 8
  · subst h8; cases h; exact .inl ⟨by decide, rfl, rfl⟩
  rw [if_neg h8] at h
  by_cases h9 : p = 9
  · subst h9; cases h; exact .inr (.inl ⟨by decide, rfl, rfl⟩)
  rw [if_neg h9] at h
  by_cases h10 : p = 10
  · subst h10; cases h; exact .inr (.inl ⟨by decide, rfl, rfl⟩)
  rw [if_neg h10] at h
  by_cases h11 : p = 11
  · subst h11; cases h; exact .inl ⟨by decide, rfl, rfl⟩
  rw [if_neg h11] at h
  by_cases h12 : p = 12
  · subst h12; cases h; exact .inr (.inr (.inl ⟨rfl, rfl, rfl⟩))
  rw [if_neg h12] at h
  by_cases h13 : p = 13
  · subst h13; cases h; exact .inr (.inr (.inr ⟨by decide, rfl, by decide, rfl⟩))
  rw [if_neg h13] at h
  by_cases h14 : p = 14
  · subst h14; cases h; exact .inl ⟨by decide, rfl, rfl⟩
  rw [if_neg h14] at h
  by_cases h15 : p = 15
  · subst h15; cases h; exact .inr (.inr (.inr ⟨by decide, rfl, by decide, rfl⟩))
  rw [if_neg h15] at h
  by_cases h16 : p = 16
  · subst h16; cases h; exact .inl ⟨by decide, rfl, rfl⟩
  rw [if_neg h16] at h
  by_cases h17 : p = 17
  · subst h17; cases h; exact .inl ⟨by decide, rfl, rfl⟩
  rw [if_neg h17] at h
  by_cases h18 : p = 18
  · subst h18; cases h; exact .inr (.inr (.inr ⟨by decide, rfl, by decide, rfl⟩))
  rw [if_neg h18] at h
  cases h
theorem call_some {p : Int} {r t : List Int} {c : List (List Int)} (h : PyFlat.call PyVbchad.shape (p :: r) = some (c, t)) : ∃ n k xs, PyVbchad.shape p = some (n, k) ∧ n ≤ r.length ∧ PyFlat.rows k (r.drop n) = some (xs, t) ∧ c = (p :: r.take n) :: xs := by
  unfold PyFlat.call at h
  dsimp only at h
  cases e : PyVbchad.shape p with
  | none => rw [e] at h; cases h
  | some nk =>
    obtain ⟨n, k⟩ := nk
    rw [e] at h
    dsimp only at h
    by_cases hn : r.length < n
    · rw [if_pos hn] at h
      cases h
    rw [if_neg hn] at h
    cases e2 : PyFlat.rows k (r.drop n) with
    | none => rw [e2] at h; cases h
    | some y =>
      obtain ⟨xs, t'⟩ := y
      rw [e2] at h
      have h := Option.some.inj h
      obtain rfl : t' = t := congrArg Prod.snd h
      exact ⟨n, k, xs, rfl, by omega, e2, (congrArg Prod.fst h).symm⟩
section
variable {P : Program} {w : World} {K : PySem.W.Frag} {mg : Str → Option Value} {base : Heap}
def sp_row_at (K : PySem.W.Frag) : Sp := fun vs H Q _ => ∃ (pc : Addr) (L : List Int) (a : Nat) (n : Int) (r : List Int), vs = [.ref pc, .int (a : Nat)] ∧ SqL K H pc (L.map V.int) ∧ L.drop a = n :: r ∧ 0 ≤ n ∧ n.toNat ≤ r.length ∧
  ∀ H' q pr, Same H H' → H pr = none → H' pr = some (.lst ((r.take n.toNat).map V.int)) → H' q = some (.tup [.ref pr, .int ((a + 1 + n.toNat : Nat) : Int)]) → Q (.ref q) H'
theorem drop_at {L r : List Int} {a : Nat} {n : Int} (h : L.drop a = n :: r) : L[a]? = some n ∧ L.length = a + 1 + r.length ∧ L.drop (a + 1) = r := by
  have h1 : (L.drop a)[0]? = some n := by rw [h]; rfl
  rw [List.getElem?_drop] at h1
  have h2 := congrArg List.length h
  rw [List.length_drop, List.length_cons] at h2
  refine ⟨h1, by omega, ?_⟩
  rw [← List.drop_drop, h]
  rfl
theorem ok_row_at (T : Tx K mg) : FnOk P w K mg base CX0 1 T.f_row_at T.d_row_at ["calls", "at"] (sp_row_at K) := by
  refine T.F_row_at.ok sc_row_at (fun vs H Q E h => ?_) (fun cdv A outer s H vs Q E hr h => ?_)
  · obtain ⟨pc, L, a, n, r, rfl, _⟩ := h
    rfl
  · refine ⟨_, (pss_cons (ps_set (i := 2) sc_row_at.nd rfl (.inl rfl) (pe_op op_add (pe_op op_add (pv 1) pe_int) (pe_ix ix_list (pv 0) (pv 1) (fun _ _ => rfl))))
      (pss_one (ps_ret (pe_tup (pa_cons (pe_slice sl_list (pv 0) (po_some (pe_op op_add (pv 1) pe_int)) (po_some (pv 2))) (pa_cons (pv 2) pa_nil)))))), ?_⟩
    -- slots: 0 calls, 1 at, 2 end
    obtain ⟨pc, L, a, n, r, rfl, hL, hd, hn, hnr, q⟩ := h
    obtain ⟨d1, d2, d3⟩ := drop_at hd
    refine ⟨_, rfl, _, _, rfl, rfl, _, rfl, _, rfl, pc, _, _, _, rfl, rfl, hL, atI_nat (j := a) (by rw [List.getElem?_map, d1]; rfl), _, _, rfl, rfl, ?_⟩
    have en : (a : Int) + 1 + n = ((a + 1 + n.toNat : Nat) : Int) := by omega
    refine ⟨_, rfl, _, rfl, _, _, rfl, rfl, ((a + 1 : Nat) : Int), rfl, _, rfl, ((a + 1 + n.toNat : Nat) : Int), congrArg V.int en, pc, _, rfl, hL, fun pr nr => ?_⟩
    rw [cut_mid _ (by rw [List.length_map]; omega) (by omega), ← List.map_drop, d3, ← List.map_take, show a + 1 + n.toNat - (a + 1) = n.toNat by omega]
    refine ⟨_, rfl, by show 2 ≤ sizeLine; decide, fun q' nq => ?_⟩
    have s1 := same_new (o := .lst ((r.take n.toNat).map V.int)) nr
    refine q _ q' pr (s1.trans (same_new nq)) nr ((same_new nq) _ _ upd_same) ?_
    rw [upd_same]
    exact congrArg (fun z => some (HO.tup [V.ref pr, V.int z])) en
def sp_plain_answer (T : Tx K mg) : Sp := fun vs H Q _ => ∃ (h : Addr) (l : List Tr) (p : Int) (k : Vbchad.Call), vs = [.ref h, .int p] ∧ HAt T H h l ∧ p ∈ [(3 : Int), 6, 7, 8, 11, 14, 16, 17] ∧ VbchadNeutral.callOf [[p]] = some k ∧ Ans T H h l k Q
theorem ok_plain_answer (T : Tx K mg) : FnOk P w K mg base CX0 7 T.f_plain_answer T.d_plain_answer ["house", "call"] (sp_plain_answer T) := by
  refine T.F_plain_answer.ok sc_plain_answer (fun vs H Q E h => ?_) (fun cdv A outer s H vs Q E hr h => ?_)
  · obtain ⟨hp, l, p, k, rfl, _⟩ := h
    rfl
  · refine ⟨_, (pss_cons (ps_if (pt_cmpR op_eq (pv 1) pe_int (nomark _))
      (pss_one (ps_ret (pe_meth0 (pv 0) T.cl_House T.m_House_take (ok_House_take T) (hr.mono (by decide)) T.b_House_take .nil pass0)))
      pss_nil)
      (pss_cons (ps_if (pt_cmpR op_eq (pv 1) pe_int (nomark _))
      (pss_one (ps_ret (pe_meth0 (pv 0) T.cl_House T.m_House_gross (ok_House_gross T) (hr.mono (by decide)) T.b_House_gross .nil pass0)))
      pss_nil)
      (pss_cons (ps_if (pt_cmpR op_eq (pv 1) pe_int (nomark _))
      (pss_one (ps_ret (pe_lst (pa_cons (pe_meth0 (pe_fld (pv 0) rfl) T.cl_Book T.m_Book_greatest (ok_Book_greatest T) (hr.mono (by decide)) T.b_Book_greatest .nil pass0) pa_nil))))
      pss_nil)
      (pss_cons (ps_if (pt_cmpR op_eq (pv 1) pe_int (nomark _))
      (pss_one (ps_ret (pe_meth0 (pv 0) T.cl_House T.m_House_told (ok_House_told T) (hr.mono (by decide)) T.b_House_told .nil pass0)))
      pss_nil)
      (pss_cons (ps_if (pt_cmpR op_eq (pv 1) pe_int (nomark _))
      (pss_one (ps_ret (pe_meth0 (pv 0) T.cl_House T.m_House_potentials (ok_House_potentials T) (hr.mono (by decide)) T.b_House_potentials .nil pass0)))
      pss_nil)
      (pss_cons (ps_if (pt_cmpR op_eq (pv 1) pe_int (nomark _))
      (pss_one (ps_ret (pe_lst (pa_cons (pe_meth0 (pe_fld (pv 0) rfl) T.cl_Book T.m_Book_pairs (ok_Book_pairs T) (hr.mono (by decide)) T.b_Book_pairs .nil pass0) pa_nil))))
      pss_nil)
      (pss_one (ps_ret (pe_ifExp (pt_cmpR op_eq (pv 1) pe_int (nomark _)) (pe_meth0 (pv 0) T.cl_House T.m_House_members (ok_House_members T) (hr.mono (by decide)) T.b_House_members .nil pass0) (pe_meth0 (pv 0) T.cl_House T.m_House_trades (ok_House_trades T) (hr.mono (by decide)) T.b_House_trades .nil pass0)))))))))), ?_⟩
    -- slots: 0 house, 1 call
    obtain ⟨hp, l, p, k, rfl, ha, hpm, hk, q⟩ := h
    obtain ⟨b, d, es, hh⟩ := id ha
    obtain ⟨dh, hH⟩ := hh.hs
    obtain ⟨dx, hbk⟩ := hh.bk.bk
    refine ⟨_, rfl, rfl, _, rfl, ite2 (fun c => ?_) (fun c => ?_)⟩
    · obtain rfl : p = 3 := int_inj c
      obtain rfl : Vbchad.Call.take = k := Option.some.inj hk
      exact ⟨_, rfl, hp, dh, _, rfl, hH, hF_no b (by decide +kernel), hp, l, rfl, ha, q⟩
    have c3 : ¬ p = 3 := int_ne c
    refine ⟨_, rfl, rfl, _, rfl, ite2 (fun c => ?_) (fun c => ?_)⟩
    · obtain rfl : p = 6 := int_inj c
      obtain rfl : Vbchad.Call.gross = k := Option.some.inj hk
      exact ⟨_, rfl, hp, dh, _, rfl, hH, hF_no b (by decide +kernel), hp, l, rfl, ha, q⟩
    have c6 : ¬ p = 6 := int_ne c
    refine ⟨_, rfl, rfl, _, rfl, ite2 (fun c => ?_) (fun c => ?_)⟩
    · obtain rfl : p = 7 := int_inj c
      obtain rfl : Vbchad.Call.greatest = k := Option.some.inj hk
      refine ⟨_, rfl, hp, _, dh, _, _, rfl, hH, T.cl_House, T.n_House_book, hF_book b, b, dx, _, rfl, hbk, bF_no d (by decide +kernel), b, d, es, l, rfl, hh.bk, hh.ok, fun H1 s1 => ⟨by show 1 ≤ sizeLine; decide, fun p n => ?_⟩⟩
      exact q.new (ns := [(Vbchad.greatestOf l : Nat)]) hh s1 n rfl
    have c7 : ¬ p = 7 := int_ne c
    refine ⟨_, rfl, rfl, _, rfl, ite2 (fun c => ?_) (fun c => ?_)⟩
    · obtain rfl : p = 8 := int_inj c
      obtain rfl : Vbchad.Call.told = k := Option.some.inj hk
      exact ⟨_, rfl, hp, dh, _, rfl, hH, hF_no b (by decide +kernel), hp, l, rfl, ha, q⟩
    have c8 : ¬ p = 8 := int_ne c
    refine ⟨_, rfl, rfl, _, rfl, ite2 (fun c => ?_) (fun c => ?_)⟩
    · obtain rfl : p = 11 := int_inj c
      obtain rfl : Vbchad.Call.potentials = k := Option.some.inj hk
      exact ⟨_, rfl, hp, dh, _, rfl, hH, hF_no b (by decide +kernel), hp, l, rfl, ha, q⟩
    have c11 : ¬ p = 11 := int_ne c
    refine ⟨_, rfl, rfl, _, rfl, ite2 (fun c => ?_) (fun c => ?_)⟩
    · obtain rfl : p = 14 := int_inj c
      obtain rfl : Vbchad.Call.pairs = k := Option.some.inj hk
      refine ⟨_, rfl, hp, _, dh, _, _, rfl, hH, T.cl_House, T.n_House_book, hF_book b, b, dx, _, rfl, hbk, bF_no d (by decide +kernel), b, d, es, l, rfl, hh.bk, hh.ok, fun H1 s1 => ⟨by show 1 ≤ sizeLine; decide, fun p n => ?_⟩⟩
      exact q.new (ns := [(Vbchad.pairTotal l : Nat)]) hh s1 n rfl
    have c14 : ¬ p = 14 := int_ne c
    refine ⟨_, rfl, rfl, _, rfl, ite2 (fun c => ?_) (fun c => ?_)⟩
    · obtain rfl : p = 16 := int_inj c
      obtain rfl : Vbchad.Call.members = k := Option.some.inj hk
      exact ⟨_, rfl, hp, dh, _, rfl, hH, hF_no b (by decide +kernel), hp, l, rfl, ha, q⟩
    have c16 : ¬ p = 16 := int_ne c
    obtain rfl : p = 17 := by simpa [c3, c6, c7, c8, c11, c14, c16] using hpm
    obtain rfl : Vbchad.Call.trades = k := Option.some.inj hk
    exact ⟨_, rfl, hp, dh, _, rfl, hH, hF_no b (by decide +kernel), hp, l, rfl, ha, q⟩
def sp_row_answer (T : Tx K mg) : Sp := fun vs H Q _ => ∃ (h pr : Addr) (l : List Tr) (p : Int) (x : List Int) (k : Vbchad.Call), vs = [.ref h, .int p, .ref pr] ∧ HAt T H h l ∧ SqL K H pr (x.map V.int) ∧ x.length ≤ 100000 ∧ p ∈ [(4 : Int), 9, 10] ∧ VbchadNeutral.callOf [[p], x] = some k ∧ Ans T H h l k Q
theorem ok_row_answer (T : Tx K mg) : FnOk P w K mg base CX0 7 T.f_row_answer T.d_row_answer ["house", "call", "row"] (sp_row_answer T) := by
  refine T.F_row_answer.ok sc_row_answer (fun vs H Q E h => ?_) (fun cdv A outer s H vs Q E hr h => ?_)
  · obtain ⟨hp, pr, l, p, x, k, rfl, _⟩ := h
    rfl
  · refine ⟨_, (pss_cons (ps_if (pt_cmpR op_eq (pv 1) pe_int (nomark _))
      (pss_one (ps_ret (pe_meth (pv 0) T.cl_House T.m_House_apply (ok_House_apply T) (hr.mono (by decide)) T.b_House_apply .nil pass0 (pa_cons (pv 2) pa_nil))))
      pss_nil)
      (pss_one (ps_ret (pe_ifExp (pt_cmpR op_eq (pv 1) pe_int (nomark _)) (pe_meth (pv 0) T.cl_House T.m_House_is_one (ok_House_is_one T) (hr.mono (by decide)) T.b_House_is_one .nil pass0 (pa_cons (pv 2) pa_nil)) (pe_meth (pv 0) T.cl_House T.m_House_bound (ok_House_bound T) (hr.mono (by decide)) T.b_House_bound .nil pass0 (pa_cons (pv 2) pa_nil)))))), ?_⟩
    -- slots: 0 house, 1 call, 2 row
    obtain ⟨hp, pr, l, p, x, k, rfl, ha, hx, hxl, hpm, hk, q⟩ := h
    obtain ⟨b, d, es, hh⟩ := id ha
    obtain ⟨dh, hH⟩ := hh.hs
    refine ⟨_, rfl, rfl, _, rfl, ite2 (fun c => ?_) (fun c => ?_)⟩
    · obtain rfl : p = 4 := int_inj c
      obtain rfl : Vbchad.Call.apply x = k := Option.some.inj hk
      exact ⟨_, rfl, hp, dh, _, rfl, hH, hF_no b (by decide +kernel), _, rfl, hp, pr, l, x, rfl, ha, hx, hxl, q⟩
    have c4 : ¬ p = 4 := int_ne c
    refine ⟨_, rfl, rfl, _, rfl, ite2 (fun c => ?_) (fun c => ?_)⟩
    · obtain rfl : p = 9 := int_inj c
      obtain rfl : Vbchad.Call.isOne x = k := Option.some.inj hk
      exact ⟨_, rfl, hp, dh, _, rfl, hH, hF_no b (by decide +kernel), _, rfl, hp, pr, l, x, rfl, ha, hx, hxl, q⟩
    have c9 : ¬ p = 9 := int_ne c
    obtain rfl : p = 10 := by simpa [c4, c9] using hpm
    obtain rfl : Vbchad.Call.bound x = k := Option.some.inj hk
    exact ⟨_, rfl, hp, dh, _, rfl, hH, hF_no b (by decide +kernel), _, rfl, hp, pr, l, x, rfl, ha, hx, hxl, q⟩
def sp_number_answer (T : Tx K mg) : Sp := fun vs H Q _ => ∃ (h pr : Addr) (l : List Tr) (p : Int) (x : List Int) (k : Vbchad.Call), vs = [.ref h, .int p, .ref pr] ∧ HAt T H h l ∧ SqL K H pr (x.map V.int) ∧ p ∈ [(0 : Int), 1, 2, 5, 13, 15, 18] ∧ lookI sizes p = some (x.length : Int) ∧ VbchadNeutral.callOf [p :: x] = some k ∧ Ans T H h l k Q
theorem len1 {x : List Int} (h : (1 : Int) = (x.length : Int)) : ∃ a, x = [a] := by
  match x, h with
  | [a], _ => exact ⟨a, rfl⟩
  | [], h => simp at h
  | _ :: _ :: _, h => simp at h; omega
theorem len2 {x : List Int} (h : (2 : Int) = (x.length : Int)) : ∃ a b, x = [a, b] := by
  match x, h with
  | [a, b], _ => exact ⟨a, b, rfl⟩
  | [], h => simp at h
  | [_], h => simp at h
  | _ :: _ :: _ :: _, h => simp at h; omega
theorem len5 {x : List Int} (h : (5 : Int) = (x.length : Int)) : ∃ a b c d e, x = [a, b, c, d, e] := by
  match x, h with
  | [a, b, c, d, e], _ => exact ⟨a, b, c, d, e, rfl⟩
  | [], h => simp at h
  | [_], h => simp at h
  | [_, _], h => simp at h
  | [_, _, _], h => simp at h
  | [_, _, _, _], h => simp at h
  | _ :: _ :: _ :: _ :: _ :: _ :: _, h => simp at h; omega
theorem ok_number_answer (T : Tx K mg) : FnOk P w K mg base CX0 7 T.f_number_answer T.d_number_answer ["house", "call", "numbers"] (sp_number_answer T) := by
  refine T.F_number_answer.ok sc_number_answer (fun vs H Q E h => ?_) (fun cdv A outer s H vs Q E hr h => ?_)
  · obtain ⟨hp, pr, l, p, x, k, rfl, _⟩ := h
    rfl
  · refine ⟨_, (pss_cons (ps_if (pt_cmpR op_eq (pv 1) pe_int (nomark _))
      (pss_one (ps_ret (pe_meth (pv 0) T.cl_House T.m_House_trade (ok_House_trade T) (hr.mono (by decide)) T.b_House_trade .nil pass0 (pa_cons (pe_ix ix_list (pv 2) pe_int (fun _ _ => rfl)) (pa_cons (pe_ix ix_list (pv 2) pe_int (fun _ _ => rfl)) (pa_cons (pe_ix ix_list (pv 2) pe_int (fun _ _ => rfl)) (pa_cons (pe_ix ix_list (pv 2) pe_int (fun _ _ => rfl)) (pa_cons (pe_ix ix_list (pv 2) pe_int (fun _ _ => rfl)) pa_nil))))))))
      pss_nil)
      (pss_cons (ps_if (pt_cmpR op_eq (pv 1) pe_int (nomark _))
      (pss_one (ps_ret (pe_meth (pv 0) T.cl_House T.m_House_drop (ok_House_drop T) (hr.mono (by decide)) T.b_House_drop .nil pass0 (pa_cons (pe_ix ix_list (pv 2) pe_int (fun _ _ => rfl)) pa_nil))))
      pss_nil)
      (pss_cons (ps_if (pt_cmpR op_eq (pv 1) pe_int (nomark _))
      (pss_one (ps_ret (pe_meth (pv 0) T.cl_House T.m_House_floor (ok_House_floor T) (hr.mono (by decide)) T.b_House_floor .nil pass0 (pa_cons (pe_ix ix_list (pv 2) pe_int (fun _ _ => rfl)) (pa_cons (pe_ix ix_list (pv 2) pe_int (fun _ _ => rfl)) pa_nil)))))
      pss_nil)
      (pss_cons (ps_if (pt_cmpR op_eq (pv 1) pe_int (nomark _))
      (pss_one (ps_ret (pe_meth (pv 0) T.cl_House T.m_House_net (ok_House_net T) (hr.mono (by decide)) T.b_House_net .nil pass0 (pa_cons (pe_ix ix_list (pv 2) pe_int (fun _ _ => rfl)) pa_nil))))
      pss_nil)
      (pss_cons (ps_if (pt_cmpR op_eq (pv 1) pe_int (nomark _))
      (pss_one (ps_ret (pe_meth (pv 0) T.cl_House T.m_House_without (ok_House_without T) (hr.mono (by decide)) T.b_House_without .nil pass0 (pa_cons (pe_ix ix_list (pv 2) pe_int (fun _ _ => rfl)) pa_nil))))
      pss_nil)
      (pss_one (ps_ret (pe_ifExp (pt_cmpR op_eq (pv 1) pe_int (nomark _)) (pe_meth (pv 0) T.cl_House T.m_House_worth (ok_House_worth T) (hr.mono (by decide)) T.b_House_worth .nil pass0 (pa_cons (pe_ix ix_list (pv 2) pe_int (fun _ _ => rfl)) pa_nil)) (pe_meth (pv 0) T.cl_House T.m_House_between (ok_House_between T) (hr.mono (by decide)) T.b_House_between .nil pass0 (pa_cons (pe_ix ix_list (pv 2) pe_int (fun _ _ => rfl)) (pa_cons (pe_ix ix_list (pv 2) pe_int (fun _ _ => rfl)) pa_nil))))))))))), ?_⟩
    -- slots: 0 house, 1 call, 2 numbers
    obtain ⟨hp, pr, l, p, x, k, rfl, ha, hx, hpm, hs, hk, q⟩ := h
    obtain ⟨b, d, es, hh⟩ := id ha
    obtain ⟨dh, hH⟩ := hh.hs
    refine ⟨_, rfl, rfl, _, rfl, ite2 (fun c => ?_) (fun c => ?_)⟩
    · obtain rfl : p = 0 := int_inj c
      obtain ⟨x0, x1, x2, x3, x4, rfl⟩ := len5 (Option.some.inj hs)
      obtain rfl : Vbchad.Call.trade x0 x1 x2 x3 x4 = k := Option.some.inj hk
      exact ⟨_, rfl, hp, dh, _, rfl, hH, hF_no b (by decide +kernel), _, rfl, pr, _, _, _, rfl, rfl, hx, atI_nat (j := 0) rfl, _, rfl, pr, _, _, _, rfl, rfl, hx, atI_nat (j := 1) rfl, _, rfl, pr, _, _, _, rfl, rfl, hx, atI_nat (j := 2) rfl, _, rfl, pr, _, _, _, rfl, rfl, hx, atI_nat (j := 3) rfl, _, rfl, pr, _, _, _, rfl, rfl, hx, atI_nat (j := 4) rfl, hp, l, x0, x1, x2, x3, x4, rfl, ha, q⟩
    have c0 : ¬ p = 0 := int_ne c
    refine ⟨_, rfl, rfl, _, rfl, ite2 (fun c => ?_) (fun c => ?_)⟩
    · obtain rfl : p = 1 := int_inj c
      obtain ⟨x0, rfl⟩ := len1 (Option.some.inj hs)
      obtain rfl : Vbchad.Call.drop x0 = k := Option.some.inj hk
      exact ⟨_, rfl, hp, dh, _, rfl, hH, hF_no b (by decide +kernel), _, rfl, pr, _, _, _, rfl, rfl, hx, atI_nat (j := 0) rfl, hp, l, x0, rfl, ha, q⟩
    have c1 : ¬ p = 1 := int_ne c
    refine ⟨_, rfl, rfl, _, rfl, ite2 (fun c => ?_) (fun c => ?_)⟩
    · obtain rfl : p = 2 := int_inj c
      obtain ⟨x0, x1, rfl⟩ := len2 (Option.some.inj hs)
      obtain rfl : Vbchad.Call.keepLeast x0 x1 = k := Option.some.inj hk
      exact ⟨_, rfl, hp, dh, _, rfl, hH, hF_no b (by decide +kernel), _, rfl, pr, _, _, _, rfl, rfl, hx, atI_nat (j := 0) rfl, _, rfl, pr, _, _, _, rfl, rfl, hx, atI_nat (j := 1) rfl, hp, l, x0, x1, rfl, ha, q⟩
    have c2 : ¬ p = 2 := int_ne c
    refine ⟨_, rfl, rfl, _, rfl, ite2 (fun c => ?_) (fun c => ?_)⟩
    · obtain rfl : p = 5 := int_inj c
      obtain ⟨x0, rfl⟩ := len1 (Option.some.inj hs)
      obtain rfl : Vbchad.Call.net x0 = k := Option.some.inj hk
      exact ⟨_, rfl, hp, dh, _, rfl, hH, hF_no b (by decide +kernel), _, rfl, pr, _, _, _, rfl, rfl, hx, atI_nat (j := 0) rfl, hp, l, x0, rfl, ha, q⟩
    have c5 : ¬ p = 5 := int_ne c
    refine ⟨_, rfl, rfl, _, rfl, ite2 (fun c => ?_) (fun c => ?_)⟩
    · obtain rfl : p = 13 := int_inj c
      obtain ⟨x0, rfl⟩ := len1 (Option.some.inj hs)
      obtain rfl : Vbchad.Call.without x0 = k := Option.some.inj hk
      exact ⟨_, rfl, hp, dh, _, rfl, hH, hF_no b (by decide +kernel), _, rfl, pr, _, _, _, rfl, rfl, hx, atI_nat (j := 0) rfl, hp, l, x0, rfl, ha, q⟩
    have c13 : ¬ p = 13 := int_ne c
    refine ⟨_, rfl, rfl, _, rfl, ite2 (fun c => ?_) (fun c => ?_)⟩
    · obtain rfl : p = 15 := int_inj c
      obtain ⟨x0, rfl⟩ := len1 (Option.some.inj hs)
      obtain rfl : Vbchad.Call.worth x0 = k := Option.some.inj hk
      exact ⟨_, rfl, hp, dh, _, rfl, hH, hF_no b (by decide +kernel), _, rfl, pr, _, _, _, rfl, rfl, hx, atI_nat (j := 0) rfl, hp, l, x0, rfl, ha, q⟩
    have c15 : ¬ p = 15 := int_ne c
    obtain rfl : p = 18 := by simpa [c0, c1, c2, c5, c13, c15] using hpm
    obtain ⟨x0, x1, rfl⟩ := len2 (Option.some.inj hs)
    obtain rfl : Vbchad.Call.between x0 x1 = k := Option.some.inj hk
    exact ⟨_, rfl, hp, dh, _, rfl, hH, hF_no b (by decide +kernel), _, rfl, pr, _, _, _, rfl, rfl, hx, atI_nat (j := 0) rfl, _, rfl, pr, _, _, _, rfl, rfl, hx, atI_nat (j := 1) rfl, hp, l, x0, x1, rfl, ha, q⟩
end
end St
end
section
set_option maxRecDepth 100000
set_option maxHeartbeats 4000000
namespace St
open PySem PySem.Spec PyProof.Rows L2 NT
theorem in_three (p : Int) : inV (.int p) [.int 4, .int 9, .int 10] = true ↔ p ∈ [(4 : Int), 9, 10] := by
  show ([V.int 4, V.int 9, V.int 10].any fun y => eqV y (.int p)) = true ↔ _
  rw [List.any_eq_true]
  constructor
  · rintro ⟨y, h1, h2⟩
    rcases List.mem_cons.mp h1 with rfl | h1
    · have h2 : ((4 : Int) == p) = true := h2
      rw [← eq_of_beq h2]; decide
    rcases List.mem_cons.mp h1 with rfl | h1
    · have h2 : ((9 : Int) == p) = true := h2
      rw [← eq_of_beq h2]; decide
    rcases List.mem_cons.mp h1 with rfl | h1
    · have h2 : ((10 : Int) == p) = true := h2
      rw [← eq_of_beq h2]; decide
    cases h1
  · intro h
    rcases List.mem_cons.mp h with rfl | h
    · exact ⟨.int 4, by simp, rfl⟩
    rcases List.mem_cons.mp h with rfl | h
    · exact ⟨.int 9, by simp, rfl⟩
    rcases List.mem_cons.mp h with rfl | h
    · exact ⟨.int 10, by simp, rfl⟩
    cases h
theorem plain_size : ∀ p ∈ [(3 : Int), 6, 7, 8, 11, 14, 16, 17], (lookI sizes p).getD 0 = 0 ∧ ¬ p = 12 ∧ ¬ p ∈ [(4 : Int), 9, 10] := by decide
theorem num_no : ∀ p ∈ [(0 : Int), 1, 2, 5, 13, 15, 18], ¬ p = 12 ∧ ¬ p ∈ [(4 : Int), 9, 10] := by decide
theorem three_no : ∀ p ∈ [(4 : Int), 9, 10], ¬ p = 12 := by decide
theorem drop_more {L r : List Int} {a n : Nat} (h : L.drop a = r) : L.drop (a + n) = r.drop n := by rw [← List.drop_drop, h]
section
variable {P : Program} {w : World} {K : PySem.W.Frag} {mg : Str → Option Value} {base : Heap}
def sp_answer_at (T : Tx K mg) : Sp := fun vs H Q _ => ∃ (h pc : Addr) (l : List Tr) (L : List Int) (a : Nat) (p : Int) (r t : List Int) (c : List (List Int)) (k : Vbchad.Call), vs = [.ref h, .ref pc, .int (a : Nat)] ∧ HAt T H h l ∧ SqL K H pc (L.map V.int) ∧ L.length ≤ 100000 ∧
  L.drop a = p :: r ∧ PyFlat.call PyVbchad.shape (p :: r) = some (c, t) ∧ VbchadNeutral.callOf c = some k ∧
  ∀ H' q pt a', KeepL H H' → H pt = none → H' q = some (.tup [.ref pt, .int ((a' : Nat) : Int)]) → H' pt = some (.lst ((Vbchad.step ⟨l⟩ k).2.map V.int)) → HAt T H' h (Vbchad.step ⟨l⟩ k).1.trades → L.drop a' = t → a < a' → a' ≤ L.length → Q (.ref q) H'
theorem ok_answer_at (T : Tx K mg) (hS : KI K T.a_SIZES sizes) : FnOk P w K mg base CX0 8 T.f_answer_at T.d_answer_at ["house", "calls", "at"] (sp_answer_at T) := by
  refine T.F_answer_at.ok sc_answer_at (fun vs H Q E h => ?_) (fun cdv A outer s H vs Q E hr h => ?_)
  · obtain ⟨hp, pc, l, L, a, p, r, t, c, k, rfl, _⟩ := h
    rfl
  · refine ⟨_, (pss_cons (ps_set (i := 3) sc_answer_at.nd rfl (.inl rfl) (pe_ix ix_list (pv 1) (pv 2) (fun _ _ => rfl)))
      (pss_cons (ps_if (pt_cmpR op_eq (pv 3) pe_int (nomark _))
      (pss_cons (ps_asg (pe_call (ok_row_at T) (hr.mono (by decide)) (by rfl) T.g_row_at T.F_row_at.kp T.b_row_at .nil pass0 (pa_cons (pv 1) (pa_cons (pe_op op_add (pv 2) pe_int) pa_nil))) (pg_tup (by rfl) (pgs_cons (pg_name (i := 4) sc_answer_at.nd rfl (.inl rfl)) (pgs_cons (pg_name (i := 5) sc_answer_at.nd rfl (.inl rfl)) pgs_nil))))
      (pss_cons (ps_asg (pe_call (ok_row_at T) (hr.mono (by decide)) (by rfl) T.g_row_at T.F_row_at.kp T.b_row_at .nil pass0 (pa_cons (pv 1) (pa_cons (pv 5) pa_nil))) (pg_tup (by rfl) (pgs_cons (pg_name (i := 6) sc_answer_at.nd rfl (.inl rfl)) (pgs_cons (pg_name (i := 7) sc_answer_at.nd rfl (.inl rfl)) pgs_nil))))
      (pss_one (ps_ret (pe_tup (pa_cons (pe_meth (pv 0) T.cl_House T.m_House_proves (ok_House_proves T) (hr.mono (by decide)) T.b_House_proves .nil pass0 (pa_cons (pv 4) (pa_cons (pv 6) pa_nil))) (pa_cons (pv 7) pa_nil)))))))
      pss_nil)
      (pss_cons (ps_if (pt_cmpR op_in_seq (pv 3) (pe_lst (pa_cons pe_int (pa_cons pe_int (pa_cons pe_int pa_nil)))) (by rfl))
      (pss_cons (ps_asg (pe_call (ok_row_at T) (hr.mono (by decide)) (by rfl) T.g_row_at T.F_row_at.kp T.b_row_at .nil pass0 (pa_cons (pv 1) (pa_cons (pe_op op_add (pv 2) pe_int) pa_nil))) (pg_tup (by rfl) (pgs_cons (pg_name (i := 8) sc_answer_at.nd rfl (.inl rfl)) (pgs_cons (pg_name (i := 7) sc_answer_at.nd rfl (.inl rfl)) pgs_nil))))
      (pss_one (ps_ret (pe_tup (pa_cons (pe_call (ok_row_answer T) (hr.mono (by decide)) (by rfl) T.g_row_answer T.F_row_answer.kp T.b_row_answer .nil pass0 (pa_cons (pv 0) (pa_cons (pv 3) (pa_cons (pv 8) pa_nil)))) (pa_cons (pv 7) pa_nil))))))
      pss_nil)
      (pss_cons (ps_set (i := 9) sc_answer_at.nd rfl (.inl rfl) (pe_kget (pe_glob (v := .ref T.a_SIZES) rfl T.g_SIZES rfl) (pv 3) pe_int ⟨rfl, rfl, rfl, rfl⟩))
      (pss_cons (ps_if (pt_cmpR op_eq (pv 9) pe_int (nomark _))
      (pss_one (ps_ret (pe_tup (pa_cons (pe_call (ok_plain_answer T) (hr.mono (by decide)) (by rfl) T.g_plain_answer T.F_plain_answer.kp T.b_plain_answer .nil pass0 (pa_cons (pv 0) (pa_cons (pv 3) pa_nil))) (pa_cons (pe_op op_add (pv 2) pe_int) pa_nil)))))
      pss_nil)
      (pss_one (ps_ret (pe_tup (pa_cons (pe_call (ok_number_answer T) (hr.mono (by decide)) (by rfl) T.g_number_answer T.F_number_answer.kp T.b_number_answer .nil pass0 (pa_cons (pv 0) (pa_cons (pv 3) (pa_cons (pe_slice sl_list (pv 1) (po_some (pe_op op_add (pv 2) pe_int)) (po_some (pe_op op_add (pe_op op_add (pv 2) pe_int) (pv 9)))) pa_nil)))) (pa_cons (pe_op op_add (pe_op op_add (pv 2) pe_int) (pv 9)) pa_nil)))))))))), ?_⟩
    -- slots: 0 house, 1 calls, 2 at, 3 call, 4 potentials, 5 middle, 6 numbers, 7 end, 8 row, 9 size
    obtain ⟨hp, pc, l, L, a, p, r, t, c, k, rfl, ha, hL, hLl, hd, hc, hk, q⟩ := h
    obtain ⟨d1, d2, d3⟩ := drop_at hd
    obtain ⟨n, kk, xs, hs, hn, hrs, rfl⟩ := call_some hc
    have fin : ∀ (H1 : Hp) (a' : Nat), Same H H1 → L.drop a' = t → a < a' → a' ≤ L.length → ∀ H2 pt, KeepL H1 H2 → H1 pt = none → H2 pt = some (.lst ((Vbchad.step ⟨l⟩ k).2.map V.int)) → HAt T H2 hp (Vbchad.step ⟨l⟩ k).1.trades → ∀ q', H2 q' = none → Q (.ref q') (upd H2 q' (.tup [.ref pt, .int ((a' : Nat) : Int)])) := fun H1 a' s1 e1 e2 e3 H2 pt k2 n2 e4 h4 q' nq =>
      q _ q' pt a' ((KeepL.of s1).trans (k2.trans (KeepL.of (same_new nq)))) (s1.free n2) upd_same ((same_new nq) _ _ e4) (h4.same (same_new nq)) e1 e2 e3
    obtain ⟨b, d, es, hh⟩ := id ha
    obtain ⟨dh, hH⟩ := hh.hs
    have hLa : (L.map V.int)[a]? = some (.int p) := by rw [List.getElem?_map, d1]; rfl
    refine ⟨_, rfl, _, rfl, pc, _, _, _, rfl, rfl, hL, atI_nat (j := a) hLa, ?_⟩
    refine ⟨_, rfl, rfl, _, rfl, ite2 (fun c => ?_) (fun c => ?_)⟩
    · -- 12
      obtain rfl : p = 12 := int_inj c
      have hnk : n = 0 ∧ kk = 2 := by
        rcases shape_cases hs with ⟨h1, _⟩ | ⟨h1, _⟩ | ⟨_, h2, h3⟩ | ⟨h1, _⟩
        · exact absurd h1 (by decide)
        · exact absurd h1 (by decide)
        · exact ⟨h2, h3⟩
        · exact absurd h1 (by decide)
      obtain ⟨rfl, rfl⟩ := hnk
      obtain ⟨x, y, s', rfl, r1, r2⟩ := rows_two hrs
      rw [List.drop_zero] at r1
      obtain ⟨n1, u1, rfl, p1, l1, rfl, rfl⟩ := row_some r1
      obtain ⟨n2, u2, eu, p2, l2, rfl, rfl⟩ := row_some r2
      have hd2 : L.drop (a + 1 + 1 + n1.toNat) = n2 :: u2 := by rw [drop_more (drop_at d3).2.2, eu]
      have d4 := drop_at d3
      have d5 := drop_at hd2
      refine ⟨_, rfl, _, rfl, _, _, rfl, rfl, pc, L, a + 1, n1, u1, rfl, hL, d3, p1, l1, fun H1 q1 pr1 s1 np1 e1 t1 => ?_⟩
      refine ⟨q1, _, rfl, SqT.of t1, rfl, _, _, rfl, _, _, rfl, rfl, ?_⟩
      refine ⟨_, rfl, _, rfl, pc, L, a + 1 + 1 + n1.toNat, n2, u2, rfl, s1.seq hL, hd2, p2, l2, fun H2 q2 pr2 s2 np2 e2 t2 => ?_⟩
      refine ⟨q2, _, rfl, SqT.of t2, rfl, _, _, rfl, _, _, rfl, rfl, ?_⟩
      have s12 := s1.trans s2
      obtain rfl : Vbchad.Call.proves (u1.take n1.toNat) (u2.take n2.toNat) = k := Option.some.inj hk
      refine ⟨_, rfl, hp, dh, _, rfl, s12 _ _ hH, hF_no b (by decide +kernel), _, rfl, _, rfl, hp, pr1, pr2, l, u1.take n1.toNat, u2.take n2.toNat, rfl, ha.same s12, SqL.of (s2 _ _ e1), ?_, SqL.of e2, ?_, fun H3 pt k3 n3 e3 h3 => ?_⟩
      · rw [List.length_take]; omega
      · rw [List.length_take]; omega
      · refine ⟨_, rfl, by show 2 ≤ sizeLine; decide, fun q' nq => ?_⟩
        exact fin H2 (a + 1 + 1 + n1.toNat + 1 + n2.toNat) s12 (drop_more d5.2.2) (by omega) (by omega) H3 pt k3 n3 e3 h3 q' nq
    have c12 : ¬ p = 12 := int_ne c
    refine ⟨_, rfl, by show 3 ≤ sizeLine; decide, fun p3 n3 => ⟨p3, _, rfl, .inl (SqL.of upd_same), rfl, rfl, _, rfl, ?_⟩⟩
    have s3 := same_new (o := .lst [.int 4, .int 9, .int 10]) n3
    have hL3 := s3.seq hL
    have ha3 := ha.same s3
    have hH3 := s3 _ _ hH
    generalize upd H p3 (.lst [.int 4, .int 9, .int 10]) = H3 at s3 hL3 ha3 hH3 ⊢
    refine ite2 (fun c => ?_) (fun c => ?_)
    · -- a row
      have c : p ∈ [(4 : Int), 9, 10] := (in_three p).mp c
      have hnk : n = 0 ∧ kk = 1 := by
        rcases shape_cases hs with ⟨h1, _⟩ | ⟨_, h2, h3⟩ | ⟨h1, _⟩ | ⟨h1, _⟩
        · exact absurd c (plain_size p h1).2.2
        · exact ⟨h2, h3⟩
        · exact absurd h1 c12
        · exact absurd c (num_no p h1).2
      obtain ⟨rfl, rfl⟩ := hnk
      obtain ⟨x, rfl, r1⟩ := rows_one hrs
      rw [List.drop_zero] at r1
      obtain ⟨n1, u1, rfl, p1, l1, rfl, rfl⟩ := row_some r1
      have d4 := drop_at d3
      refine ⟨_, rfl, _, rfl, _, _, rfl, rfl, pc, L, a + 1, n1, u1, rfl, hL3, d3, p1, l1, fun H1 q1 pr1 s1 np1 e1 t1 => ?_⟩
      refine ⟨q1, _, rfl, SqT.of t1, rfl, _, _, rfl, _, _, rfl, rfl, ?_⟩
      have s31 := s3.trans s1
      refine ⟨_, rfl, _, rfl, _, rfl, hp, pr1, l, p, u1.take n1.toNat, k, rfl, ha3.same s1, SqL.of e1, ?_, c, hk, fun H4 pt k4 n4 e4 h4 => ?_⟩
      · rw [List.length_take]; omega
      · refine ⟨_, rfl, by show 2 ≤ sizeLine; decide, fun q' nq => ?_⟩
        exact fin H1 (a + 1 + 1 + n1.toNat) s31 (drop_more d4.2.2) (by omega) (by omega) H4 pt k4 n4 e4 h4 q' nq
    have c3 : ¬ p ∈ [(4 : Int), 9, 10] := fun z => c ((in_three p).mpr z)
    refine ⟨T.a_SIZES, sizes, rfl, hS, _, rfl, p, 0, rfl, rfl, ?_⟩
    refine ⟨_, rfl, rfl, _, rfl, ite2 (fun c => ?_) (fun c => ?_)⟩
    · have c : (lookI sizes p).getD 0 = 0 := int_inj c
      rcases shape_cases hs with ⟨h1, rfl, rfl⟩ | ⟨h1, _⟩ | ⟨h1, _⟩ | ⟨h1, h2, h3, _⟩
      · cases hrs
        refine ⟨_, rfl, _, rfl, hp, l, p, k, rfl, ha3, h1, hk, fun H4 pt k4 n4 e4 h4 => ?_⟩
        refine ⟨_, rfl, _, _, rfl, rfl, by show 2 ≤ sizeLine; decide, fun q' nq => ?_⟩
        exact fin H3 (a + 1) s3 d3 (by omega) (by omega) H4 pt k4 n4 e4 h4 q' nq
      · exact absurd h1 c3
      · exact absurd h1 c12
      · rw [h2] at c
        have c : ((n : Nat) : Int) = 0 := c
        omega
    · have c : ¬ (lookI sizes p).getD 0 = 0 := int_ne c
      rcases shape_cases hs with ⟨h1, _⟩ | ⟨h1, _⟩ | ⟨h1, _⟩ | ⟨h1, h2, h3, rfl⟩
      · exact absurd (plain_size p h1).1 c
      · exact absurd h1 c3
      · exact absurd h1 c12
      · cases hrs
        have hsz : (lookI sizes p).getD 0 = ((n : Nat) : Int) := by rw [h2]; rfl
        have en : (a : Int) + 1 + (lookI sizes p).getD 0 = ((a + 1 + n : Nat) : Int) := by rw [hsz]; omega
        refine ⟨_, rfl, _, rfl, _, rfl, _, rfl, _, _, rfl, rfl, ((a + 1 : Nat) : Int), rfl, _, rfl, _, _, rfl, rfl, _, rfl, _, _, rfl, rfl, ((a + 1 + n : Nat) : Int), congrArg V.int en, pc, _, rfl, hL3, fun px nx => ?_⟩
        rw [cut_mid _ (by rw [List.length_map]; omega) (by omega), ← List.map_drop, d3, ← List.map_take, show a + 1 + n - (a + 1) = n by omega]
        have sx := same_new (o := .lst ((r.take n).map V.int)) nx
        refine ⟨hp, px, l, p, r.take n, k, rfl, ha3.same sx, SqL.of upd_same, h1, ?_, hk, fun H4 pt k4 n4 e4 h4 => ?_⟩
        · rw [h2, List.length_take, Nat.min_eq_left hn]
        · refine ⟨_, rfl, _, _, rfl, rfl, _, rfl, _, _, rfl, rfl, by show 2 ≤ sizeLine; decide, fun q' nq => ?_⟩
          have := fin _ (a + 1 + n) (s3.trans sx) (drop_more d3) (by omega) (by omega) H4 pt k4 n4 e4 h4 q' nq
          rw [← en] at this
          exact this
end
end St
end
section
set_option maxRecDepth 100000
set_option maxHeartbeats 4000000
namespace St
open PySem PySem.Spec PyProof.Rows L2 NT
theorem whole_id (c : List (List Int)) : PyVbchad.whole c = c := by
  unfold PyVbchad.whole
  split <;> rfl
theorem callOf_some {p : Int} {r t : List Int} {c : List (List Int)} (h : PyFlat.call PyVbchad.shape (p :: r) = some (c, t)) : ∃ k, VbchadNeutral.callOf c = some k := by
  obtain ⟨n, kk, xs, hs, hn, hr, rfl⟩ := call_some h
  rcases shape_cases hs with ⟨h1, rfl, rfl⟩ | ⟨h1, rfl, rfl⟩ | ⟨rfl, rfl, rfl⟩ | ⟨h1, h2, h3, rfl⟩
  · cases hr
    simp only [List.mem_cons, List.not_mem_nil, or_false] at h1
    rcases h1 with rfl | rfl | rfl | rfl | rfl | rfl | rfl | rfl <;> exact ⟨_, rfl⟩
  · obtain ⟨x, rfl, _⟩ := rows_one hr
    simp only [List.mem_cons, List.not_mem_nil, or_false] at h1
    rcases h1 with rfl | rfl | rfl <;> exact ⟨_, rfl⟩
  · obtain ⟨x, y, s, rfl, _⟩ := rows_two hr
    exact ⟨_, rfl⟩
  · cases hr
    have hl : (r.take n).length = n := by rw [List.length_take, Nat.min_eq_left hn]
    rw [← hl] at h2
    simp only [List.mem_cons, List.not_mem_nil, or_false] at h1
    generalize r.take n = x at h2
    rcases h1 with rfl | rfl | rfl | rfl | rfl | rfl | rfl
    · obtain ⟨a, b, c, d, e, rfl⟩ := len5 (Option.some.inj h2); exact ⟨_, rfl⟩
    · obtain ⟨a, rfl⟩ := len1 (Option.some.inj h2); exact ⟨_, rfl⟩
    · obtain ⟨a, b, rfl⟩ := len2 (Option.some.inj h2); exact ⟨_, rfl⟩
    · obtain ⟨a, rfl⟩ := len1 (Option.some.inj h2); exact ⟨_, rfl⟩
    · obtain ⟨a, rfl⟩ := len1 (Option.some.inj h2); exact ⟨_, rfl⟩
    · obtain ⟨a, rfl⟩ := len1 (Option.some.inj h2); exact ⟨_, rfl⟩
    · obtain ⟨a, b, rfl⟩ := len2 (Option.some.inj h2); exact ⟨_, rfl⟩
theorem step_eq {l : List Tr} {c : List (List Int)} {k : Vbchad.Call} (h : VbchadNeutral.callOf c = some k) : VbchadNeutral.step ⟨l⟩ c = Vbchad.step ⟨l⟩ k := by
  unfold VbchadNeutral.step
  rw [h]
theorem calls_nil {shape : Int → Option (Nat × Nat)} {f : Nat} {cs : List (List (List Int))} (h : PyFlat.calls shape f [] = some cs) : cs = [] := by
  cases f with
  | zero => exact (Option.some.inj h).symm
  | succ f => exact (Option.some.inj h).symm
theorem calls_cons {shape : Int → Option (Nat × Nat)} {f : Nat} {p : Int} {r : List Int} {cs : List (List (List Int))} (h : PyFlat.calls shape f (p :: r) = some cs) : ∃ f' c t cs', PyFlat.call shape (p :: r) = some (c, t) ∧ PyFlat.calls shape f' t = some cs' ∧ cs = c :: cs' := by
  cases f with
  | zero => cases h
  | succ f =>
    unfold PyFlat.calls at h
    cases e : PyFlat.call shape (p :: r) with
    | none => rw [e] at h; cases h
    | some ct =>
      obtain ⟨c, t⟩ := ct
      rw [e] at h
      dsimp only at h
      cases e2 : PyFlat.calls shape f t with
      | none => rw [e2] at h; cases h
      | some cs' =>
        rw [e2] at h
        exact ⟨f, c, t, cs', rfl, e2, (Option.some.inj h).symm⟩
theorem row_len {lo hi : Int} {m : Nat} {b : List (Int × Int × Nat × Nat)} {x : List Int} {xs : List (List Int)} (h : PyInside.lists ((lo, hi, 0, m) :: b) (x :: xs) = true) : x.length ≤ m ∧ PyInside.lists b xs = true := by
  unfold PyInside.lists at h
  simp only [Bool.and_eq_true, decide_eq_true_iff] at h
  exact ⟨h.1.1.2, h.2⟩
theorem call_len {p : Int} {r t : List Int} {c : List (List Int)} (h : PyFlat.call PyVbchad.shape (p :: r) = some (c, t)) (hb : PyInside.call PyVbchad.bound c = true) : r.length ≤ 129 + t.length := by
  obtain ⟨n, kk, xs, hs, hn, hr, rfl⟩ := call_some h
  have hb2 : PyInside.lists (PyVbchad.bound p).2 xs = true := by
    have : (PyInside.each (PyVbchad.bound p).1 (r.take n) && PyInside.lists (PyVbchad.bound p).2 xs) = true := hb
    rw [Bool.and_eq_true] at this
    exact this.2
  rcases shape_cases hs with ⟨h1, rfl, rfl⟩ | ⟨h1, rfl, rfl⟩ | ⟨rfl, rfl, rfl⟩ | ⟨h1, h2, h3, rfl⟩
  · cases hr
    rw [List.drop_zero]
    omega
  · obtain ⟨x, rfl, hx⟩ := rows_one hr
    rw [List.drop_zero] at hx
    obtain ⟨m, u, rfl, m0, ml, rfl, rfl⟩ := row_some hx
    have hbp : (PyVbchad.bound p).2 = [(-1000000000000000000, 1000000000000000000, 0, 60)] := by
      simp only [List.mem_cons, List.not_mem_nil, or_false] at h1
      rcases h1 with rfl | rfl | rfl <;> rfl
    rw [hbp] at hb2
    have := (row_len hb2).1
    rw [List.length_take] at this
    rw [List.length_cons, List.length_drop]
    omega
  · obtain ⟨x, y, s, rfl, hx, hy⟩ := rows_two hr
    rw [List.drop_zero] at hx
    obtain ⟨m, u, rfl, m0, ml, rfl, rfl⟩ := row_some hx
    obtain ⟨m2, u2, eu, m02, ml2, rfl, rfl⟩ := row_some hy
    have hbp : (PyVbchad.bound 12).2 = [(-1000000000000000000, 1000000000000000000, 0, 60), (-1000000000000000000, 1000000000000000000, 0, 60)] := rfl
    rw [hbp] at hb2
    obtain ⟨b1, b2⟩ := row_len hb2
    have b3 := (row_len b2).1
    rw [List.length_take] at b1 b3
    have := congrArg List.length eu
    rw [List.length_drop, List.length_cons] at this
    rw [List.length_cons, List.length_drop]
    omega
  · cases hr
    have : n ≤ 5 := by
      simp only [List.mem_cons, List.not_mem_nil, or_false] at h1
      rcases h1 with rfl | rfl | rfl | rfl | rfl | rfl | rfl
      all_goals
        have h4 := Option.some.inj h2
        simp at h4
        omega
    rw [List.length_drop]
    omega
theorem calls_len {f : Nat} : ∀ {cs : List (List (List Int))} {l : List Int} {f : Nat}, PyFlat.calls PyVbchad.shape f l = some cs → PyInside.calls PyVbchad.bound cs = true → l.length ≤ 130 * cs.length
  | cs, [], f, h, hb => Nat.zero_le _
  | cs, p :: r, f, h, hb => by
    obtain ⟨f', c, t, cs', h1, h2, rfl⟩ := calls_cons h
    have hb' : (PyInside.call PyVbchad.bound c && PyInside.calls PyVbchad.bound cs') = true := hb
    rw [Bool.and_eq_true] at hb'
    have a := call_len h1 hb'.1
    have b := calls_len (f := 0) h2 hb'.2
    rw [List.length_cons, List.length_cons]
    omega
termination_by cs => cs.length
theorem played_cons (s : Vbchad.State) (c : List (List Int)) (r : List (List (List Int))) : PyFlat.played VbchadNeutral.step s (c :: r) = (VbchadNeutral.step s c).2 :: PyFlat.played VbchadNeutral.step (VbchadNeutral.step s c).1 r := rfl
theorem told_cons (x : List Int) (xs : List (List Int)) : PyFlat.told (x :: xs) = ((x.length : Int) :: x) ++ PyFlat.told xs := by
  unfold PyFlat.told
  rw [List.flatMap_cons]
theorem asked_of {L : List Int} (h : PyVbchad.answers_asked L = true) : ∃ raw, PyFlat.calls PyVbchad.shape L.length L = some raw ∧ L.length ≤ 100000 ∧ PyVbchad.answers L = PyFlat.told (PyFlat.played VbchadNeutral.step VbchadNeutral.start raw) ∧ (PyVbchad.answers L).length ≤ 10000000 := by
  unfold PyVbchad.answers_asked at h
  cases e : PyFlat.calls PyVbchad.shape L.length L with
  | none => rw [e] at h; cases h
  | some raw =>
    rw [e] at h
    dsimp only at h
    simp only [Bool.and_eq_true] at h
    obtain ⟨⟨⟨⟨h1, h2⟩, h3⟩, h4⟩, h5⟩ := h
    have h2 : raw.length ≤ 400 := of_decide_eq_true h2
    refine ⟨raw, rfl, ?_, ?_, of_decide_eq_true h5⟩
    · have := calls_len (f := 0) e h3
      omega
    · unfold PyVbchad.answers PyVbchad.calls
      rw [e]
      dsimp only
      rw [show raw.map PyVbchad.whole = raw by rw [show PyVbchad.whole = id from funext whole_id, List.map_id]]
section
variable {K : PySem.W.Frag} {mg : Str → Option Value} {T : Tx K mg} {H : Hp} {h p : Addr} {l : List Tr} {xs ys : List V}
theorem HAt.updL (hh : HAt T H h l) (hp : H p = some (.lst xs)) : HAt T (upd H p (.lst ys)) h l := by
  obtain ⟨b, d, es, q⟩ := hh
  refine ⟨b, d, es, ?_, ⟨?_, ?_, fun e he => ?_⟩, q.ok⟩
  · obtain ⟨dx, z⟩ := q.hs
    exact ⟨dx, by rw [upd_ne (ne_of z hp (by intro w; cases w))]; exact z⟩
  · obtain ⟨dx, z⟩ := q.bk.bk
    exact ⟨dx, by rw [upd_ne (ne_of z hp (by intro w; cases w))]; exact z⟩
  · rw [upd_ne (ne_of q.bk.dict hp (by intro w; cases w))]
    exact q.bk.dict
  · obtain ⟨dx, z⟩ := q.bk.trs e he
    exact ⟨dx, by rw [upd_ne (ne_of z hp (by intro w; cases w))]; exact z⟩
theorem KeepL.mut {H H' : Hp} {p : Addr} {o : HO} (k : KeepL H H') (n : H p = none) : KeepL H (upd H' p o) := fun a u ha s => by
  rw [upd_ne (ne_of_none ha n)]
  exact k _ _ ha s
end
section
variable {P : Program} {w : World} {K : PySem.W.Frag} {mg : Str → Option Value} {base : Heap}
def sp_answers (T : Tx K mg) : Sp := fun vs H Q _ => ∃ (pc : Addr) (L : List Int), vs = [.ref pc] ∧ SqL K H pc (L.map V.int) ∧ PyVbchad.answers_asked L = true ∧
  ∀ H' p, KeepL H H' → H' p = some (.lst ((PyVbchad.answers L).map V.int)) → Q (.ref p) H'
theorem ok_answers (T : Tx K mg) (hS : KI K T.a_SIZES sizes) : FnOk P w K mg base CX0 9 T.f_answers T.d_answers ["calls"] (sp_answers T) := by
  refine T.F_answers.ok sc_answers (fun vs H Q E h => ?_) (fun cdv A outer s H vs Q E hr h => ?_)
  · obtain ⟨pc, L, rfl, _⟩ := h
    rfl
  · refine ⟨_, (pss_cons (ps_set (i := 1) sc_answers.nd rfl (.inl rfl) (pe_make0 T.k_House (ok_House_init T) (hr.mono (by decide)) (by rfl) T.g_House T.b_House_init .nil pass0))
      (pss_cons (ps_set (i := 2) sc_answers.nd rfl (.inl rfl) (pe_lst pa_nil))
      (pss_cons (ps_set (i := 3) sc_answers.nd rfl (.inl rfl) pe_int)
      (pss_cons (ps_while PassesOwn.never (pt_cmpR op_lt (pv 3) (pe_callB call_len_seq (by rfl) T.z_len (by decide +kernel) (pa_cons (pv 0) pa_nil)) (nomark _))
      (pss_cons (ps_asg (pe_call (ok_answer_at T hS) (hr.mono (by decide)) (by rfl) T.g_answer_at T.F_answer_at.kp T.b_answer_at .nil pass0 (pa_cons (pv 1) (pa_cons (pv 0) (pa_cons (pv 3) pa_nil)))) (pg_tup (by rfl) (pgs_cons (pg_name (i := 4) sc_answers.nd rfl (.inl rfl)) (pgs_cons (pg_name (i := 3) sc_answers.nd rfl (.inl rfl)) pgs_nil))))
      (pss_cons (ps_expr (pe_bm PySem.F.plainAttrs_list PySem.F.slot_list_append PySem.F.type_list_append mt_append (pv 2) (pa_cons (pe_callB call_len_seq (by rfl) T.z_len (by decide +kernel) (pa_cons (pv 4) pa_nil)) pa_nil)))
      (pss_one (ps_expr (pe_bm PySem.F.plainAttrs_list PySem.F.slot_list_extend PySem.F.type_list_extend mt_extend (pv 2) (pa_cons (pv 4) pa_nil)))))))
      (pss_one (ps_ret (pv 2))))))), ?_⟩
    -- slots: 0 calls, 1 house, 2 found, 3 at, 4 told
    obtain ⟨pc, L, rfl, hL, hask, q⟩ := h
    obtain ⟨raw, hraw, hLl, hans, hsz⟩ := asked_of hask
    -- house = House()
    intro x dx nx ndx hne
    refine ⟨x, dx, rfl, upd_same, fun H1 k1 hA1 => ⟨rfl, ?_⟩⟩
    have s1 : Same H H1 := fun a o ha => by
      have a1 : a ≠ x := ne_of_none ha nx
      refine k1 a o ?_ a1
      rw [upd_ne a1, upd_ne (ne_of_none ha ndx)]
      exact ha
    -- found = []
    refine ⟨Nat.zero_le _, fun pf nf => ?_⟩
    have sf := same_new (o := .lst []) nf
    have nfH : H pf = none := s1.free nf
    have hA2 := hA1.same sf
    -- at = 0; while
    refine ⟨fun m σ H3 => ∃ (a : Nat) (l : List Tr) (done : List Int) (rest : List (List (List Int))) (f : Nat) (y4 : Option V), σ = [some (.ref pc), some (.ref x), some (.ref pf), some (.int (a : Nat)), y4] ∧ KeepL H H3 ∧ H3 pf = some (.lst (done.map V.int)) ∧ HAt T H3 x l ∧ PyFlat.calls PyVbchad.shape f (L.drop a) = some rest ∧
      PyVbchad.answers L = done ++ PyFlat.told (PyFlat.played VbchadNeutral.step ⟨l⟩ rest) ∧ a ≤ L.length ∧ m = L.length - a,
      ⟨L.length, 0, [], [], raw, L.length, none, rfl, (KeepL.of s1).trans (KeepL.of sf), upd_same, hA2, hraw, hans, Nat.zero_le _, rfl⟩, ?_⟩
    rintro m σ H3 ⟨a, l, done, rest, f, y4, rfl, k3, e3, hA3, hc3, ha3, hal, rfl⟩
    have hL3 := k3.seq hL
    refine ⟨_, rfl, _, rfl, pc, _, rfl, .inl hL3, _, _, rfl, rfl, _, rfl, ite2 (fun c => ?_) (fun c => ?_)⟩
    · have c : (a : Int) < ((L.map V.int).length : Int) := of_decide_eq_true c
      rw [List.length_map] at c
      have hal2 : a < L.length := by omega
      obtain ⟨p, r, hd⟩ : ∃ p r, L.drop a = p :: r := by
        rw [List.drop_eq_getElem_cons hal2]
        exact ⟨_, _, rfl⟩
      rw [hd] at hc3
      obtain ⟨f', cc, t, cs', hc, hcs, rfl⟩ := calls_cons hc3
      obtain ⟨k, hk⟩ := callOf_some hc
      refine ⟨_, fun _ _ h => h, ?_⟩
      refine ⟨_, rfl, _, rfl, _, rfl, x, pc, l, L, a, p, r, t, cc, k, rfl, hA3, hL3, hLl, hd, hc, hk, fun H4 q4 pt a' k4 npt eq4 ept hA4 hd4 hlt hle => ?_⟩
      refine ⟨q4, _, rfl, SqT.of eq4, rfl, _, _, rfl, _, _, rfl, rfl, ?_⟩
      have e4 := k4 _ _ e3 trivial
      have npf : pt ≠ pf := fun z => by rw [z, e3] at npt; cases npt
      have hst := step_eq (l := l) hk
      have ha4 : PyVbchad.answers L = done ++ ((((Vbchad.step ⟨l⟩ k).2.length : Int) :: (Vbchad.step ⟨l⟩ k).2) ++ PyFlat.told (PyFlat.played VbchadNeutral.step (Vbchad.step ⟨l⟩ k).1 cs')) := by
        rw [ha3]
        rw [played_cons, told_cons, hst]
      have hlen := congrArg List.length ha4
      rw [List.length_append, List.length_append, List.length_cons] at hlen
      -- found.append(len(told))
      refine ⟨_, rfl, .inl ⟨rfl, _, SqL.of e4⟩, _, rfl, pt, _, rfl, .inl (SqL.of ept), pf, _, _, rfl, rfl, e4, ?_, ?_⟩
      · rw [List.length_map, sizeLine_eq]
        omega
      have e5 : (upd H4 pf (.lst (done.map V.int ++ [.int (((Vbchad.step ⟨l⟩ k).2.map V.int).length : Nat)]))) pf = some (.lst ((done ++ [((Vbchad.step ⟨l⟩ k).2.length : Int)]).map V.int)) := by
        rw [upd_same, List.length_map, List.map_append]
        rfl
      have ept5 : (upd H4 pf (.lst (done.map V.int ++ [.int (((Vbchad.step ⟨l⟩ k).2.map V.int).length : Nat)]))) pt = some (.lst ((Vbchad.step ⟨l⟩ k).2.map V.int)) := by
        rw [upd_ne npf]
        exact ept
      have hA5 : HAt T (upd H4 pf (.lst (done.map V.int ++ [.int (((Vbchad.step ⟨l⟩ k).2.map V.int).length : Nat)]))) x (Vbchad.step ⟨l⟩ k).1.trades := hA4.updL e4
      have k5 : KeepL H (upd H4 pf (.lst (done.map V.int ++ [.int (((Vbchad.step ⟨l⟩ k).2.map V.int).length : Nat)]))) := (k3.trans k4).mut nfH
      generalize upd H4 pf (.lst (done.map V.int ++ [.int (((Vbchad.step ⟨l⟩ k).2.map V.int).length : Nat)])) = H5 at e5 ept5 hA5 k5 ⊢
      -- found.extend(told)
      refine ⟨_, rfl, .inl ⟨rfl, _, SqL.of e5⟩, _, rfl, pf, pt, _, _, rfl, rfl, e5, ept5, ?_, ?_⟩
      · rw [List.length_map, List.length_map, List.length_append, sizeLine_eq]
        show done.length + 1 + _ ≤ _
        omega
      · refine ⟨L.length - a', by omega, a', (Vbchad.step ⟨l⟩ k).1.trades, done ++ [((Vbchad.step ⟨l⟩ k).2.length : Int)] ++ (Vbchad.step ⟨l⟩ k).2, cs', f', some (.ref pt), rfl, k5.mut nfH, ?_, hA5.updL e5, ?_, ?_, hle, rfl⟩
        · rw [upd_same, ← List.map_append]
        · rw [hd4]
          exact hcs
        · rw [ha4, List.append_assoc, List.append_assoc]
          rfl
    · have c : ¬ (a : Int) < ((L.map V.int).length : Int) := fun z => c (decide_eq_true z)
      rw [List.length_map] at c
      have hnil : L.drop a = [] := List.drop_eq_nil_of_le (by omega)
      rw [hnil] at hc3
      obtain rfl := calls_nil hc3
      refine ⟨_, rfl, q H3 pf k3 ?_⟩
      rw [ha3]
      show _ = some (HO.lst ((done ++ []).map V.int))
      rw [List.append_nil]
      exact e3
end
end St
end
section
set_option maxRecDepth 100000
set_option maxHeartbeats 4000000
namespace St
open PySem PySem.Spec PyProof.Rows L2 NT
structure FD (K : PySem.W.Frag) (x qual : Str) (st : Stmt) (f : Addr) : Prop where
  ex : ∃ fd, Fun K x qual st f fd
structure GD (K : PySem.W.Frag) (x : Str) (st : Stmt) (f : Addr) : Prop where
  at_ : PySem.W.nsIn K mainGlobals x = some (some (.ref f))
  fd : FD K x x st f
structure MD (K : PySem.W.Frag) (C : Addr) (x qual : Str) (st : Stmt) (f : Addr) : Prop where
  at_ : PySem.W.findIn K (.ref C) x = some (some (.ref f))
  fn : PySem.W.isFn K (.ref f) = true
  fd : FD K x qual st f
structure CD (K : PySem.W.Frag) (x : Str) (C : Addr) : Prop where
  at_ : PySem.W.nsIn K mainGlobals x = some (some (.ref C))
  cl : Cls K C
  made : PySem.W.makesIn K C = true
  kp : PySem.W.keepIn K (.ref C) = true
theorem fd_mk {K : PySem.W.Frag} {x qual : Str} {st : Stmt} {f : Addr} {oc : Value} {od an : Option Addr} {osl : Array (Option Value)} {kV doc pm cdv ct : Value} (l : K.lookup f = some ⟨oc, od, .func (PySem.W.fnOf x qual (defArgs st) (defBody st) (defScope st) .none kV doc pm an cdv ct), osl⟩)
    (c : PySem.W.codeIn K cdv qual = true) (k : PySem.W.keepIn K (.ref f) = true) : FD K x qual st f := ⟨_, fun_mk l c k⟩
theorem gd_mk {K : PySem.W.Frag} {x : Str} {st : Stmt} {f : Addr} {oc : Value} {od an : Option Addr} {osl : Array (Option Value)} {kV doc pm cdv ct : Value} (a : PySem.W.nsIn K mainGlobals x = some (some (.ref f))) (l : K.lookup f = some ⟨oc, od, .func (PySem.W.fnOf x x (defArgs st) (defBody st) (defScope st) .none kV doc pm an cdv ct), osl⟩)
    (c : PySem.W.codeIn K cdv x = true) (k : PySem.W.keepIn K (.ref f) = true) : GD K x st f := ⟨a, fd_mk l c k⟩
theorem md_mk {K : PySem.W.Frag} {C : Addr} {x qual : Str} {st : Stmt} {f : Addr} {oc : Value} {od an : Option Addr} {osl : Array (Option Value)} {kV doc pm cdv ct : Value} (a : PySem.W.findIn K (.ref C) x = some (some (.ref f))) (i : PySem.W.isFn K (.ref f) = true) (l : K.lookup f = some ⟨oc, od, .func (PySem.W.fnOf x qual (defArgs st) (defBody st) (defScope st) .none kV doc pm an cdv ct), osl⟩)
    (c : PySem.W.codeIn K cdv qual = true) (k : PySem.W.keepIn K (.ref f) = true) : MD K C x qual st f := ⟨a, i, fd_mk l c k⟩
theorem cd_mk {K : PySem.W.Frag} {x : Str} {C : Addr} (a : PySem.W.nsIn K mainGlobals x = some (some (.ref C))) (pg : PySem.W.plainGet K C Str.empty = true) (hd : PySem.W.hasDictIn K C = true) (po : PySem.W.plainOver K C = true) (sa : PySem.W.findIn K (.ref C) "__setattr__" = some (some (.builtin "object.__setattr__")))
    (mk : PySem.W.makesIn K C = true) (kc : PySem.W.keepIn K (.ref C) = true) : CD K x C := ⟨a, ⟨pg, hd, po, sa⟩, mk, kc⟩
theorem ki_mk {K : PySem.W.Frag} {a n : Nat} {es : Array DictEntry} {kvs : List (Int × Int)} (l : K.lookup a = some ⟨.type "dict", none, .dict es n, #[]⟩) (q : IntLit es.toList kvs) (b : (a == sysModules) = false) : KI K a kvs := ⟨⟨_, _, l, q⟩, b⟩
def sp_ansK (K : PySem.W.Frag) : Sp := fun vs H Q _ => ∃ (pc : Addr) (L : List Int), vs = [.ref pc] ∧ SqL K H pc (L.map V.int) ∧ PyVbchad.answers_asked L = true ∧
  ∀ H' p, KeepL H H' → H' p = some (.lst ((PyVbchad.answers L).map V.int)) → Q (.ref p) H'

theorem fin_of {P : Program} {w : World} {K : PySem.W.Frag} {h : Heap} {mg : Str → Option Value} {fa CTrade CBook CHouse f_excesses f_ways f_labels f_led_back f_push f_even_out f_greatest_flow f_least_potentials f_worth_of f_bound_of f_way_round f_raise_arc f_first_flow f_Trade_init f_Trade_room f_Book_init f_Book_members f_Book_arcs f_Book_key_rows f_Book_all_arcs f_Book_total f_Book_greatest f_Book_told f_Book_potentials f_Book_worth f_Book_bound f_Book_is_reduction f_Book_lessen f_Book_net f_Book_sums f_Book_pair f_Book_pairs f_is_key f_House_init f_House_key_fault f_House_is_full f_House_trade f_House_drop f_House_floor f_House_take f_House_are_numbers f_House_are_potentials f_House_apply f_House_net f_House_gross f_House_told f_House_is_one f_House_bound f_House_potentials f_House_proves f_House_without f_House_worth f_House_members f_House_trades f_House_between f_row_at f_plain_answer f_row_answer f_number_answer f_answer_at f_answers a_SIZES : Addr} {t_MOST_KEY t_MOST_TRADES t_MOST_MEMBERS t_MOST_POTENTIAL : Tok} (X : K.In h) (G : h.Ns mainGlobals mg) (hfa : mg "answers" = some (.ref fa))
    (cTrade : CD K "Trade" CTrade)
    (nTrade_giver : PySem.W.findIn K (.ref CTrade) "giver" = some none)
    (nTrade_taker : PySem.W.findIn K (.ref CTrade) "taker" = some none)
    (nTrade_amount : PySem.W.findIn K (.ref CTrade) "amount" = some none)
    (nTrade_least : PySem.W.findIn K (.ref CTrade) "least" = some none)
    (cBook : CD K "Book" CBook)
    (nBook_held : PySem.W.findIn K (.ref CBook) "held" = some none)
    (cHouse : CD K "House" CHouse)
    (nHouse_book : PySem.W.findIn K (.ref CHouse) "book" = some none)
    (D_excesses : GD K "excesses" s_excesses f_excesses)
    (D_ways : GD K "ways" s_ways f_ways)
    (D_labels : GD K "labels" s_labels f_labels)
    (D_led_back : GD K "led_back" s_led_back f_led_back)
    (D_push : GD K "push" s_push f_push)
    (D_even_out : GD K "even_out" s_even_out f_even_out)
    (D_greatest_flow : GD K "greatest_flow" s_greatest_flow f_greatest_flow)
    (D_least_potentials : GD K "least_potentials" s_least_potentials f_least_potentials)
    (D_worth_of : GD K "worth_of" s_worth_of f_worth_of)
    (D_bound_of : GD K "bound_of" s_bound_of f_bound_of)
    (D_way_round : GD K "way_round" s_way_round f_way_round)
    (D_raise_arc : GD K "raise_arc" s_raise_arc f_raise_arc)
    (D_first_flow : GD K "first_flow" s_first_flow f_first_flow)
    (D_Trade_init : MD K CTrade "__init__" "Trade.__init__" s_Trade_init f_Trade_init)
    (D_Trade_room : MD K CTrade "room" "Trade.room" s_Trade_room f_Trade_room)
    (D_Book_init : MD K CBook "__init__" "Book.__init__" s_Book_init f_Book_init)
    (D_Book_members : MD K CBook "members" "Book.members" s_Book_members f_Book_members)
    (D_Book_arcs : MD K CBook "arcs" "Book.arcs" s_Book_arcs f_Book_arcs)
    (D_Book_key_rows : MD K CBook "key_rows" "Book.key_rows" s_Book_key_rows f_Book_key_rows)
    (D_Book_all_arcs : MD K CBook "all_arcs" "Book.all_arcs" s_Book_all_arcs f_Book_all_arcs)
    (D_Book_total : MD K CBook "total" "Book.total" s_Book_total f_Book_total)
    (D_Book_greatest : MD K CBook "greatest" "Book.greatest" s_Book_greatest f_Book_greatest)
    (D_Book_told : MD K CBook "told" "Book.told" s_Book_told f_Book_told)
    (D_Book_potentials : MD K CBook "potentials" "Book.potentials" s_Book_potentials f_Book_potentials)
    (D_Book_worth : MD K CBook "worth" "Book.worth" s_Book_worth f_Book_worth)
    (D_Book_bound : MD K CBook "bound" "Book.bound" s_Book_bound f_Book_bound)
    (D_Book_is_reduction : MD K CBook "is_reduction" "Book.is_reduction" s_Book_is_reduction f_Book_is_reduction)
    (D_Book_lessen : MD K CBook "lessen" "Book.lessen" s_Book_lessen f_Book_lessen)
    (D_Book_net : MD K CBook "net" "Book.net" s_Book_net f_Book_net)
    (D_Book_sums : MD K CBook "sums" "Book.sums" s_Book_sums f_Book_sums)
    (D_Book_pair : MD K CBook "pair" "Book.pair" s_Book_pair f_Book_pair)
    (D_Book_pairs : MD K CBook "pairs" "Book.pairs" s_Book_pairs f_Book_pairs)
    (D_is_key : GD K "is_key" s_is_key f_is_key)
    (D_House_init : MD K CHouse "__init__" "House.__init__" s_House_init f_House_init)
    (D_House_key_fault : MD K CHouse "key_fault" "House.key_fault" s_House_key_fault f_House_key_fault)
    (D_House_is_full : MD K CHouse "is_full" "House.is_full" s_House_is_full f_House_is_full)
    (D_House_trade : MD K CHouse "trade" "House.trade" s_House_trade f_House_trade)
    (D_House_drop : MD K CHouse "drop" "House.drop" s_House_drop f_House_drop)
    (D_House_floor : MD K CHouse "floor" "House.floor" s_House_floor f_House_floor)
    (D_House_take : MD K CHouse "take" "House.take" s_House_take f_House_take)
    (D_House_are_numbers : MD K CHouse "are_numbers" "House.are_numbers" s_House_are_numbers f_House_are_numbers)
    (D_House_are_potentials : MD K CHouse "are_potentials" "House.are_potentials" s_House_are_potentials f_House_are_potentials)
    (D_House_apply : MD K CHouse "apply" "House.apply" s_House_apply f_House_apply)
    (D_House_net : MD K CHouse "net" "House.net" s_House_net f_House_net)
    (D_House_gross : MD K CHouse "gross" "House.gross" s_House_gross f_House_gross)
    (D_House_told : MD K CHouse "told" "House.told" s_House_told f_House_told)
    (D_House_is_one : MD K CHouse "is_one" "House.is_one" s_House_is_one f_House_is_one)
    (D_House_bound : MD K CHouse "bound" "House.bound" s_House_bound f_House_bound)
    (D_House_potentials : MD K CHouse "potentials" "House.potentials" s_House_potentials f_House_potentials)
    (D_House_proves : MD K CHouse "proves" "House.proves" s_House_proves f_House_proves)
    (D_House_without : MD K CHouse "without" "House.without" s_House_without f_House_without)
    (D_House_worth : MD K CHouse "worth" "House.worth" s_House_worth f_House_worth)
    (D_House_members : MD K CHouse "members" "House.members" s_House_members f_House_members)
    (D_House_trades : MD K CHouse "trades" "House.trades" s_House_trades f_House_trades)
    (D_House_between : MD K CHouse "between" "House.between" s_House_between f_House_between)
    (D_row_at : GD K "row_at" s_row_at f_row_at)
    (D_plain_answer : GD K "plain_answer" s_plain_answer f_plain_answer)
    (D_row_answer : GD K "row_answer" s_row_answer f_row_answer)
    (D_number_answer : GD K "number_answer" s_number_answer f_number_answer)
    (D_answer_at : GD K "answer_at" s_answer_at f_answer_at)
    (D_answers : GD K "answers" s_answers f_answers)
    (v_MOST_KEY : PySem.W.nsIn K mainGlobals "MOST_KEY" = some (some (.int 1000000000 t_MOST_KEY)))
    (v_MOST_TRADES : PySem.W.nsIn K mainGlobals "MOST_TRADES" = some (some (.int 40 t_MOST_TRADES)))
    (v_MOST_MEMBERS : PySem.W.nsIn K mainGlobals "MOST_MEMBERS" = some (some (.int 12 t_MOST_MEMBERS)))
    (v_MOST_POTENTIAL : PySem.W.nsIn K mainGlobals "MOST_POTENTIAL" = some (some (.int 1000000 t_MOST_POTENTIAL)))
    (v_SIZES : PySem.W.nsIn K mainGlobals "SIZES" = some (some (.ref a_SIZES)))
    (S : KI K a_SIZES sizes)
    (z_range : PySem.W.nsIn K mainGlobals "range" = some none)
    (z_len : PySem.W.nsIn K mainGlobals "len" = some none)
    (z_zip : PySem.W.nsIn K mainGlobals "zip" = some none)
    (z_sum : PySem.W.nsIn K mainGlobals "sum" = some none)
    (z_all : PySem.W.nsIn K mainGlobals "all" = some none)
    (z_sorted : PySem.W.nsIn K mainGlobals "sorted" = some none)
    (z_list : PySem.W.nsIn K mainGlobals "list" = some none)
    (z_int : PySem.W.nsIn K mainGlobals "int" = some none)
    (z_max : PySem.W.nsIn K mainGlobals "max" = some none)
    (z_min : PySem.W.nsIn K mainGlobals "min" = some none) :
    ∃ fd : FuncData, (∀ (s : Shared) (us : List Value), us.length = (["calls"] : List Str).length → BindsTo s fd ⟨us, []⟩ ((["calls"] : List Str).zip us)) ∧ ∀ base : Heap, K.In base → base.Ns mainGlobals mg → FnOk P w K mg base CX0 9 fa fd ["calls"] (sp_ansK K) := by
  have e := hfa.symm.trans (PySem.W.mg_of X G D_answers.at_)
  cases e
  obtain ⟨d_excesses, F_excesses⟩ := D_excesses.fd.ex
  have b_excesses := F_excesses.binds (ps := ["many", "arcs", "flow"]) fun _ _ _ _ _ _ us hl => match us, hl with | [_, _, _], _ => rfl
  obtain ⟨d_ways, F_ways⟩ := D_ways.fd.ex
  have b_ways := F_ways.binds (ps := ["arcs", "flow"]) fun _ _ _ _ _ _ us hl => match us, hl with | [_, _], _ => rfl
  obtain ⟨d_labels, F_labels⟩ := D_labels.fd.ex
  have b_labels := F_labels.binds (ps := ["many", "found", "excess"]) fun _ _ _ _ _ _ us hl => match us, hl with | [_, _, _], _ => rfl
  obtain ⟨d_led_back, F_led_back⟩ := D_led_back.fd.ex
  have b_led_back := F_led_back.binds (ps := ["last", "place"]) fun _ _ _ _ _ _ us hl => match us, hl with | [_, _], _ => rfl
  obtain ⟨d_push, F_push⟩ := D_push.fd.ex
  have b_push := F_push.binds (ps := ["flow", "steps", "amount"]) fun _ _ _ _ _ _ us hl => match us, hl with | [_, _, _], _ => rfl
  obtain ⟨d_even_out, F_even_out⟩ := D_even_out.fd.ex
  have b_even_out := F_even_out.binds (ps := ["many", "arcs", "flow"]) fun _ _ _ _ _ _ us hl => match us, hl with | [_, _, _], _ => rfl
  obtain ⟨d_greatest_flow, F_greatest_flow⟩ := D_greatest_flow.fd.ex
  have b_greatest_flow := F_greatest_flow.binds (ps := ["many", "arcs"]) fun _ _ _ _ _ _ us hl => match us, hl with | [_, _], _ => rfl
  obtain ⟨d_least_potentials, F_least_potentials⟩ := D_least_potentials.fd.ex
  have b_least_potentials := F_least_potentials.binds (ps := ["many", "arcs", "flow"]) fun _ _ _ _ _ _ us hl => match us, hl with | [_, _, _], _ => rfl
  obtain ⟨d_worth_of, F_worth_of⟩ := D_worth_of.fd.ex
  have b_worth_of := F_worth_of.binds (ps := ["potentials", "start", "end"]) fun _ _ _ _ _ _ us hl => match us, hl with | [_, _, _], _ => rfl
  obtain ⟨d_bound_of, F_bound_of⟩ := D_bound_of.fd.ex
  have b_bound_of := F_bound_of.binds (ps := ["potentials", "arcs"]) fun _ _ _ _ _ _ us hl => match us, hl with | [_, _], _ => rfl
  obtain ⟨d_way_round, F_way_round⟩ := D_way_round.fd.ex
  have b_way_round := F_way_round.binds (ps := ["found", "begin", "target"]) fun _ _ _ _ _ _ us hl => match us, hl with | [_, _, _], _ => rfl
  obtain ⟨d_raise_arc, F_raise_arc⟩ := D_raise_arc.fd.ex
  have b_raise_arc := F_raise_arc.binds (ps := ["arcs", "flow", "at", "free"]) fun _ _ _ _ _ _ us hl => match us, hl with | [_, _, _, _], _ => rfl
  obtain ⟨d_first_flow, F_first_flow⟩ := D_first_flow.fd.ex
  have b_first_flow := F_first_flow.binds (ps := ["many", "arcs"]) fun _ _ _ _ _ _ us hl => match us, hl with | [_, _], _ => rfl
  obtain ⟨d_Trade_init, F_Trade_init⟩ := D_Trade_init.fd.ex
  have b_Trade_init := F_Trade_init.binds (ps := ["self", "giver", "taker", "amount", "least"]) fun _ _ _ _ _ _ us hl => match us, hl with | [_, _, _, _, _], _ => rfl
  obtain ⟨d_Trade_room, F_Trade_room⟩ := D_Trade_room.fd.ex
  have b_Trade_room := F_Trade_room.binds (ps := ["self"]) fun _ _ _ _ _ _ us hl => match us, hl with | [_], _ => rfl
  obtain ⟨d_Book_init, F_Book_init⟩ := D_Book_init.fd.ex
  have b_Book_init := F_Book_init.binds (ps := ["self"]) fun _ _ _ _ _ _ us hl => match us, hl with | [_], _ => rfl
  obtain ⟨d_Book_members, F_Book_members⟩ := D_Book_members.fd.ex
  have b_Book_members := F_Book_members.binds (ps := ["self"]) fun _ _ _ _ _ _ us hl => match us, hl with | [_], _ => rfl
  obtain ⟨d_Book_arcs, F_Book_arcs⟩ := D_Book_arcs.fd.ex
  have b_Book_arcs := F_Book_arcs.binds (ps := ["self", "without", "bare"]) fun _ _ _ _ _ _ us hl => match us, hl with | [_, _, _], _ => rfl
  obtain ⟨d_Book_key_rows, F_Book_key_rows⟩ := D_Book_key_rows.fd.ex
  have b_Book_key_rows := F_Book_key_rows.binds (ps := ["self"]) fun _ _ _ _ _ _ us hl => match us, hl with | [_], _ => rfl
  obtain ⟨d_Book_all_arcs, F_Book_all_arcs⟩ := D_Book_all_arcs.fd.ex
  have b_Book_all_arcs := F_Book_all_arcs.binds (ps := ["self"]) fun _ _ _ _ _ _ us hl => match us, hl with | [_], _ => rfl
  obtain ⟨d_Book_total, F_Book_total⟩ := D_Book_total.fd.ex
  have b_Book_total := F_Book_total.binds (ps := ["self", "without", "bare"]) fun _ _ _ _ _ _ us hl => match us, hl with | [_, _, _], _ => rfl
  obtain ⟨d_Book_greatest, F_Book_greatest⟩ := D_Book_greatest.fd.ex
  have b_Book_greatest := F_Book_greatest.binds (ps := ["self"]) fun _ _ _ _ _ _ us hl => match us, hl with | [_], _ => rfl
  obtain ⟨d_Book_told, F_Book_told⟩ := D_Book_told.fd.ex
  have b_Book_told := F_Book_told.binds (ps := ["self"]) fun _ _ _ _ _ _ us hl => match us, hl with | [_], _ => rfl
  obtain ⟨d_Book_potentials, F_Book_potentials⟩ := D_Book_potentials.fd.ex
  have b_Book_potentials := F_Book_potentials.binds (ps := ["self"]) fun _ _ _ _ _ _ us hl => match us, hl with | [_], _ => rfl
  obtain ⟨d_Book_worth, F_Book_worth⟩ := D_Book_worth.fd.ex
  have b_Book_worth := F_Book_worth.binds (ps := ["self", "key"]) fun _ _ _ _ _ _ us hl => match us, hl with | [_, _], _ => rfl
  obtain ⟨d_Book_bound, F_Book_bound⟩ := D_Book_bound.fd.ex
  have b_Book_bound := F_Book_bound.binds (ps := ["self", "potentials"]) fun _ _ _ _ _ _ us hl => match us, hl with | [_, _], _ => rfl
  obtain ⟨d_Book_is_reduction, F_Book_is_reduction⟩ := D_Book_is_reduction.fd.ex
  have b_Book_is_reduction := F_Book_is_reduction.binds (ps := ["self", "numbers"]) fun _ _ _ _ _ _ us hl => match us, hl with | [_, _], _ => rfl
  obtain ⟨d_Book_lessen, F_Book_lessen⟩ := D_Book_lessen.fd.ex
  have b_Book_lessen := F_Book_lessen.binds (ps := ["self", "numbers"]) fun _ _ _ _ _ _ us hl => match us, hl with | [_, _], _ => rfl
  obtain ⟨d_Book_net, F_Book_net⟩ := D_Book_net.fd.ex
  have b_Book_net := F_Book_net.binds (ps := ["self", "member"]) fun _ _ _ _ _ _ us hl => match us, hl with | [_, _], _ => rfl
  obtain ⟨d_Book_sums, F_Book_sums⟩ := D_Book_sums.fd.ex
  have b_Book_sums := F_Book_sums.binds (ps := ["self", "giver", "taker"]) fun _ _ _ _ _ _ us hl => match us, hl with | [_, _, _], _ => rfl
  obtain ⟨d_Book_pair, F_Book_pair⟩ := D_Book_pair.fd.ex
  have b_Book_pair := F_Book_pair.binds (ps := ["self", "one", "other"]) fun _ _ _ _ _ _ us hl => match us, hl with | [_, _, _], _ => rfl
  obtain ⟨d_Book_pairs, F_Book_pairs⟩ := D_Book_pairs.fd.ex
  have b_Book_pairs := F_Book_pairs.binds (ps := ["self"]) fun _ _ _ _ _ _ us hl => match us, hl with | [_], _ => rfl
  obtain ⟨d_is_key, F_is_key⟩ := D_is_key.fd.ex
  have b_is_key := F_is_key.binds (ps := ["number"]) fun _ _ _ _ _ _ us hl => match us, hl with | [_], _ => rfl
  obtain ⟨d_House_init, F_House_init⟩ := D_House_init.fd.ex
  have b_House_init := F_House_init.binds (ps := ["self"]) fun _ _ _ _ _ _ us hl => match us, hl with | [_], _ => rfl
  obtain ⟨d_House_key_fault, F_House_key_fault⟩ := D_House_key_fault.fd.ex
  have b_House_key_fault := F_House_key_fault.binds (ps := ["self", "key"]) fun _ _ _ _ _ _ us hl => match us, hl with | [_, _], _ => rfl
  obtain ⟨d_House_is_full, F_House_is_full⟩ := D_House_is_full.fd.ex
  have b_House_is_full := F_House_is_full.binds (ps := ["self", "giver", "taker"]) fun _ _ _ _ _ _ us hl => match us, hl with | [_, _, _], _ => rfl
  obtain ⟨d_House_trade, F_House_trade⟩ := D_House_trade.fd.ex
  have b_House_trade := F_House_trade.binds (ps := ["self", "key", "giver", "taker", "amount", "least"]) fun _ _ _ _ _ _ us hl => match us, hl with | [_, _, _, _, _, _], _ => rfl
  obtain ⟨d_House_drop, F_House_drop⟩ := D_House_drop.fd.ex
  have b_House_drop := F_House_drop.binds (ps := ["self", "key"]) fun _ _ _ _ _ _ us hl => match us, hl with | [_, _], _ => rfl
  obtain ⟨d_House_floor, F_House_floor⟩ := D_House_floor.fd.ex
  have b_House_floor := F_House_floor.binds (ps := ["self", "key", "least"]) fun _ _ _ _ _ _ us hl => match us, hl with | [_, _, _], _ => rfl
  obtain ⟨d_House_take, F_House_take⟩ := D_House_take.fd.ex
  have b_House_take := F_House_take.binds (ps := ["self"]) fun _ _ _ _ _ _ us hl => match us, hl with | [_], _ => rfl
  obtain ⟨d_House_are_numbers, F_House_are_numbers⟩ := D_House_are_numbers.fd.ex
  have b_House_are_numbers := F_House_are_numbers.binds (ps := ["self", "numbers"]) fun _ _ _ _ _ _ us hl => match us, hl with | [_, _], _ => rfl
  obtain ⟨d_House_are_potentials, F_House_are_potentials⟩ := D_House_are_potentials.fd.ex
  have b_House_are_potentials := F_House_are_potentials.binds (ps := ["self", "numbers"]) fun _ _ _ _ _ _ us hl => match us, hl with | [_, _], _ => rfl
  obtain ⟨d_House_apply, F_House_apply⟩ := D_House_apply.fd.ex
  have b_House_apply := F_House_apply.binds (ps := ["self", "numbers"]) fun _ _ _ _ _ _ us hl => match us, hl with | [_, _], _ => rfl
  obtain ⟨d_House_net, F_House_net⟩ := D_House_net.fd.ex
  have b_House_net := F_House_net.binds (ps := ["self", "member"]) fun _ _ _ _ _ _ us hl => match us, hl with | [_, _], _ => rfl
  obtain ⟨d_House_gross, F_House_gross⟩ := D_House_gross.fd.ex
  have b_House_gross := F_House_gross.binds (ps := ["self"]) fun _ _ _ _ _ _ us hl => match us, hl with | [_], _ => rfl
  obtain ⟨d_House_told, F_House_told⟩ := D_House_told.fd.ex
  have b_House_told := F_House_told.binds (ps := ["self"]) fun _ _ _ _ _ _ us hl => match us, hl with | [_], _ => rfl
  obtain ⟨d_House_is_one, F_House_is_one⟩ := D_House_is_one.fd.ex
  have b_House_is_one := F_House_is_one.binds (ps := ["self", "numbers"]) fun _ _ _ _ _ _ us hl => match us, hl with | [_, _], _ => rfl
  obtain ⟨d_House_bound, F_House_bound⟩ := D_House_bound.fd.ex
  have b_House_bound := F_House_bound.binds (ps := ["self", "potentials"]) fun _ _ _ _ _ _ us hl => match us, hl with | [_, _], _ => rfl
  obtain ⟨d_House_potentials, F_House_potentials⟩ := D_House_potentials.fd.ex
  have b_House_potentials := F_House_potentials.binds (ps := ["self"]) fun _ _ _ _ _ _ us hl => match us, hl with | [_], _ => rfl
  obtain ⟨d_House_proves, F_House_proves⟩ := D_House_proves.fd.ex
  have b_House_proves := F_House_proves.binds (ps := ["self", "potentials", "numbers"]) fun _ _ _ _ _ _ us hl => match us, hl with | [_, _, _], _ => rfl
  obtain ⟨d_House_without, F_House_without⟩ := D_House_without.fd.ex
  have b_House_without := F_House_without.binds (ps := ["self", "key"]) fun _ _ _ _ _ _ us hl => match us, hl with | [_, _], _ => rfl
  obtain ⟨d_House_worth, F_House_worth⟩ := D_House_worth.fd.ex
  have b_House_worth := F_House_worth.binds (ps := ["self", "key"]) fun _ _ _ _ _ _ us hl => match us, hl with | [_, _], _ => rfl
  obtain ⟨d_House_members, F_House_members⟩ := D_House_members.fd.ex
  have b_House_members := F_House_members.binds (ps := ["self"]) fun _ _ _ _ _ _ us hl => match us, hl with | [_], _ => rfl
  obtain ⟨d_House_trades, F_House_trades⟩ := D_House_trades.fd.ex
  have b_House_trades := F_House_trades.binds (ps := ["self"]) fun _ _ _ _ _ _ us hl => match us, hl with | [_], _ => rfl
  obtain ⟨d_House_between, F_House_between⟩ := D_House_between.fd.ex
  have b_House_between := F_House_between.binds (ps := ["self", "one", "other"]) fun _ _ _ _ _ _ us hl => match us, hl with | [_, _, _], _ => rfl
  obtain ⟨d_row_at, F_row_at⟩ := D_row_at.fd.ex
  have b_row_at := F_row_at.binds (ps := ["calls", "at"]) fun _ _ _ _ _ _ us hl => match us, hl with | [_, _], _ => rfl
  obtain ⟨d_plain_answer, F_plain_answer⟩ := D_plain_answer.fd.ex
  have b_plain_answer := F_plain_answer.binds (ps := ["house", "call"]) fun _ _ _ _ _ _ us hl => match us, hl with | [_, _], _ => rfl
  obtain ⟨d_row_answer, F_row_answer⟩ := D_row_answer.fd.ex
  have b_row_answer := F_row_answer.binds (ps := ["house", "call", "row"]) fun _ _ _ _ _ _ us hl => match us, hl with | [_, _, _], _ => rfl
  obtain ⟨d_number_answer, F_number_answer⟩ := D_number_answer.fd.ex
  have b_number_answer := F_number_answer.binds (ps := ["house", "call", "numbers"]) fun _ _ _ _ _ _ us hl => match us, hl with | [_, _, _], _ => rfl
  obtain ⟨d_answer_at, F_answer_at⟩ := D_answer_at.fd.ex
  have b_answer_at := F_answer_at.binds (ps := ["house", "calls", "at"]) fun _ _ _ _ _ _ us hl => match us, hl with | [_, _, _], _ => rfl
  obtain ⟨d_answers, F_answers⟩ := D_answers.fd.ex
  have b_answers := F_answers.binds (ps := ["calls"]) fun _ _ _ _ _ _ us hl => match us, hl with | [_], _ => rfl
  have T : ∃ T : Tx K mg, T.f_answers = fa ∧ T.a_SIZES = a_SIZES ∧ T.d_answers = d_answers := ⟨{
    C_Trade := CTrade
    g_Trade := PySem.W.mg_of X G cTrade.at_
    cl_Trade := cTrade.cl
    n_Trade_giver := nTrade_giver
    n_Trade_taker := nTrade_taker
    n_Trade_amount := nTrade_amount
    n_Trade_least := nTrade_least
    C_Book := CBook
    g_Book := PySem.W.mg_of X G cBook.at_
    cl_Book := cBook.cl
    n_Book_held := nBook_held
    C_House := CHouse
    g_House := PySem.W.mg_of X G cHouse.at_
    cl_House := cHouse.cl
    n_House_book := nHouse_book
    f_excesses := f_excesses
    d_excesses := d_excesses
    F_excesses := F_excesses
    b_excesses := b_excesses
    g_excesses := PySem.W.mg_of X G D_excesses.at_
    f_ways := f_ways
    d_ways := d_ways
    F_ways := F_ways
    b_ways := b_ways
    g_ways := PySem.W.mg_of X G D_ways.at_
    f_labels := f_labels
    d_labels := d_labels
    F_labels := F_labels
    b_labels := b_labels
    g_labels := PySem.W.mg_of X G D_labels.at_
    f_led_back := f_led_back
    d_led_back := d_led_back
    F_led_back := F_led_back
    b_led_back := b_led_back
    g_led_back := PySem.W.mg_of X G D_led_back.at_
    f_push := f_push
    d_push := d_push
    F_push := F_push
    b_push := b_push
    g_push := PySem.W.mg_of X G D_push.at_
    f_even_out := f_even_out
    d_even_out := d_even_out
    F_even_out := F_even_out
    b_even_out := b_even_out
    g_even_out := PySem.W.mg_of X G D_even_out.at_
    f_greatest_flow := f_greatest_flow
    d_greatest_flow := d_greatest_flow
    F_greatest_flow := F_greatest_flow
    b_greatest_flow := b_greatest_flow
    g_greatest_flow := PySem.W.mg_of X G D_greatest_flow.at_
    f_least_potentials := f_least_potentials
    d_least_potentials := d_least_potentials
    F_least_potentials := F_least_potentials
    b_least_potentials := b_least_potentials
    g_least_potentials := PySem.W.mg_of X G D_least_potentials.at_
    f_worth_of := f_worth_of
    d_worth_of := d_worth_of
    F_worth_of := F_worth_of
    b_worth_of := b_worth_of
    g_worth_of := PySem.W.mg_of X G D_worth_of.at_
    f_bound_of := f_bound_of
    d_bound_of := d_bound_of
    F_bound_of := F_bound_of
    b_bound_of := b_bound_of
    g_bound_of := PySem.W.mg_of X G D_bound_of.at_
    f_way_round := f_way_round
    d_way_round := d_way_round
    F_way_round := F_way_round
    b_way_round := b_way_round
    g_way_round := PySem.W.mg_of X G D_way_round.at_
    f_raise_arc := f_raise_arc
    d_raise_arc := d_raise_arc
    F_raise_arc := F_raise_arc
    b_raise_arc := b_raise_arc
    g_raise_arc := PySem.W.mg_of X G D_raise_arc.at_
    f_first_flow := f_first_flow
    d_first_flow := d_first_flow
    F_first_flow := F_first_flow
    b_first_flow := b_first_flow
    g_first_flow := PySem.W.mg_of X G D_first_flow.at_
    f_Trade_init := f_Trade_init
    d_Trade_init := d_Trade_init
    F_Trade_init := F_Trade_init
    b_Trade_init := b_Trade_init
    k_Trade := ⟨cTrade.made, D_Trade_init.at_, D_Trade_init.fn, cTrade.kp⟩
    f_Trade_room := f_Trade_room
    d_Trade_room := d_Trade_room
    F_Trade_room := F_Trade_room
    b_Trade_room := b_Trade_room
    m_Trade_room := ⟨D_Trade_room.at_, D_Trade_room.fn, F_Trade_room.kp⟩
    f_Book_init := f_Book_init
    d_Book_init := d_Book_init
    F_Book_init := F_Book_init
    b_Book_init := b_Book_init
    k_Book := ⟨cBook.made, D_Book_init.at_, D_Book_init.fn, cBook.kp⟩
    f_Book_members := f_Book_members
    d_Book_members := d_Book_members
    F_Book_members := F_Book_members
    b_Book_members := b_Book_members
    m_Book_members := ⟨D_Book_members.at_, D_Book_members.fn, F_Book_members.kp⟩
    f_Book_arcs := f_Book_arcs
    d_Book_arcs := d_Book_arcs
    F_Book_arcs := F_Book_arcs
    b_Book_arcs := b_Book_arcs
    m_Book_arcs := ⟨D_Book_arcs.at_, D_Book_arcs.fn, F_Book_arcs.kp⟩
    f_Book_key_rows := f_Book_key_rows
    d_Book_key_rows := d_Book_key_rows
    F_Book_key_rows := F_Book_key_rows
    b_Book_key_rows := b_Book_key_rows
    m_Book_key_rows := ⟨D_Book_key_rows.at_, D_Book_key_rows.fn, F_Book_key_rows.kp⟩
    f_Book_all_arcs := f_Book_all_arcs
    d_Book_all_arcs := d_Book_all_arcs
    F_Book_all_arcs := F_Book_all_arcs
    b_Book_all_arcs := b_Book_all_arcs
    m_Book_all_arcs := ⟨D_Book_all_arcs.at_, D_Book_all_arcs.fn, F_Book_all_arcs.kp⟩
    f_Book_total := f_Book_total
    d_Book_total := d_Book_total
    F_Book_total := F_Book_total
    b_Book_total := b_Book_total
    m_Book_total := ⟨D_Book_total.at_, D_Book_total.fn, F_Book_total.kp⟩
    f_Book_greatest := f_Book_greatest
    d_Book_greatest := d_Book_greatest
    F_Book_greatest := F_Book_greatest
    b_Book_greatest := b_Book_greatest
    m_Book_greatest := ⟨D_Book_greatest.at_, D_Book_greatest.fn, F_Book_greatest.kp⟩
    f_Book_told := f_Book_told
    d_Book_told := d_Book_told
    F_Book_told := F_Book_told
    b_Book_told := b_Book_told
    m_Book_told := ⟨D_Book_told.at_, D_Book_told.fn, F_Book_told.kp⟩
    f_Book_potentials := f_Book_potentials
    d_Book_potentials := d_Book_potentials
    F_Book_potentials := F_Book_potentials
    b_Book_potentials := b_Book_potentials
    m_Book_potentials := ⟨D_Book_potentials.at_, D_Book_potentials.fn, F_Book_potentials.kp⟩
    f_Book_worth := f_Book_worth
    d_Book_worth := d_Book_worth
    F_Book_worth := F_Book_worth
    b_Book_worth := b_Book_worth
    m_Book_worth := ⟨D_Book_worth.at_, D_Book_worth.fn, F_Book_worth.kp⟩
    f_Book_bound := f_Book_bound
    d_Book_bound := d_Book_bound
    F_Book_bound := F_Book_bound
    b_Book_bound := b_Book_bound
    m_Book_bound := ⟨D_Book_bound.at_, D_Book_bound.fn, F_Book_bound.kp⟩
    f_Book_is_reduction := f_Book_is_reduction
    d_Book_is_reduction := d_Book_is_reduction
    F_Book_is_reduction := F_Book_is_reduction
    b_Book_is_reduction := b_Book_is_reduction
    m_Book_is_reduction := ⟨D_Book_is_reduction.at_, D_Book_is_reduction.fn, F_Book_is_reduction.kp⟩
    f_Book_lessen := f_Book_lessen
    d_Book_lessen := d_Book_lessen
    F_Book_lessen := F_Book_lessen
    b_Book_lessen := b_Book_lessen
    m_Book_lessen := ⟨D_Book_lessen.at_, D_Book_lessen.fn, F_Book_lessen.kp⟩
    f_Book_net := f_Book_net
    d_Book_net := d_Book_net
    F_Book_net := F_Book_net
    b_Book_net := b_Book_net
    m_Book_net := ⟨D_Book_net.at_, D_Book_net.fn, F_Book_net.kp⟩
    f_Book_sums := f_Book_sums
    d_Book_sums := d_Book_sums
    F_Book_sums := F_Book_sums
    b_Book_sums := b_Book_sums
    m_Book_sums := ⟨D_Book_sums.at_, D_Book_sums.fn, F_Book_sums.kp⟩
    f_Book_pair := f_Book_pair
    d_Book_pair := d_Book_pair
    F_Book_pair := F_Book_pair
    b_Book_pair := b_Book_pair
    m_Book_pair := ⟨D_Book_pair.at_, D_Book_pair.fn, F_Book_pair.kp⟩
    f_Book_pairs := f_Book_pairs
    d_Book_pairs := d_Book_pairs
    F_Book_pairs := F_Book_pairs
    b_Book_pairs := b_Book_pairs
    m_Book_pairs := ⟨D_Book_pairs.at_, D_Book_pairs.fn, F_Book_pairs.kp⟩
    f_is_key := f_is_key
    d_is_key := d_is_key
    F_is_key := F_is_key
    b_is_key := b_is_key
    g_is_key := PySem.W.mg_of X G D_is_key.at_
    f_House_init := f_House_init
    d_House_init := d_House_init
    F_House_init := F_House_init
    b_House_init := b_House_init
    k_House := ⟨cHouse.made, D_House_init.at_, D_House_init.fn, cHouse.kp⟩
    f_House_key_fault := f_House_key_fault
    d_House_key_fault := d_House_key_fault
    F_House_key_fault := F_House_key_fault
    b_House_key_fault := b_House_key_fault
    m_House_key_fault := ⟨D_House_key_fault.at_, D_House_key_fault.fn, F_House_key_fault.kp⟩
    f_House_is_full := f_House_is_full
    d_House_is_full := d_House_is_full
    F_House_is_full := F_House_is_full
    b_House_is_full := b_House_is_full
    m_House_is_full := ⟨D_House_is_full.at_, D_House_is_full.fn, F_House_is_full.kp⟩
    f_House_trade := f_House_trade
    d_House_trade := d_House_trade
    F_House_trade := F_House_trade
    b_House_trade := b_House_trade
    m_House_trade := ⟨D_House_trade.at_, D_House_trade.fn, F_House_trade.kp⟩
    f_House_drop := f_House_drop
    d_House_drop := d_House_drop
    F_House_drop := F_House_drop
    b_House_drop := b_House_drop
    m_House_drop := ⟨D_House_drop.at_, D_House_drop.fn, F_House_drop.kp⟩
    f_House_floor := f_House_floor
    d_House_floor := d_House_floor
    F_House_floor := F_House_floor
    b_House_floor := b_House_floor
    m_House_floor := ⟨D_House_floor.at_, D_House_floor.fn, F_House_floor.kp⟩
    f_House_take := f_House_take
    d_House_take := d_House_take
    F_House_take := F_House_take
    b_House_take := b_House_take
    m_House_take := ⟨D_House_take.at_, D_House_take.fn, F_House_take.kp⟩
    f_House_are_numbers := f_House_are_numbers
    d_House_are_numbers := d_House_are_numbers
    F_House_are_numbers := F_House_are_numbers
    b_House_are_numbers := b_House_are_numbers
    m_House_are_numbers := ⟨D_House_are_numbers.at_, D_House_are_numbers.fn, F_House_are_numbers.kp⟩
    f_House_are_potentials := f_House_are_potentials
    d_House_are_potentials := d_House_are_potentials
    F_House_are_potentials := F_House_are_potentials
    b_House_are_potentials := b_House_are_potentials
    m_House_are_potentials := ⟨D_House_are_potentials.at_, D_House_are_potentials.fn, F_House_are_potentials.kp⟩
    f_House_apply := f_House_apply
    d_House_apply := d_House_apply
    F_House_apply := F_House_apply
    b_House_apply := b_House_apply
    m_House_apply := ⟨D_House_apply.at_, D_House_apply.fn, F_House_apply.kp⟩
    f_House_net := f_House_net
    d_House_net := d_House_net
    F_House_net := F_House_net
    b_House_net := b_House_net
    m_House_net := ⟨D_House_net.at_, D_House_net.fn, F_House_net.kp⟩
    f_House_gross := f_House_gross
    d_House_gross := d_House_gross
    F_House_gross := F_House_gross
    b_House_gross := b_House_gross
    m_House_gross := ⟨D_House_gross.at_, D_House_gross.fn, F_House_gross.kp⟩
    f_House_told := f_House_told
    d_House_told := d_House_told
    F_House_told := F_House_told
    b_House_told := b_House_told
    m_House_told := ⟨D_House_told.at_, D_House_told.fn, F_House_told.kp⟩
    f_House_is_one := f_House_is_one
    d_House_is_one := d_House_is_one
    F_House_is_one := F_House_is_one
    b_House_is_one := b_House_is_one
    m_House_is_one := ⟨D_House_is_one.at_, D_House_is_one.fn, F_House_is_one.kp⟩
    f_House_bound := f_House_bound
    d_House_bound := d_House_bound
    F_House_bound := F_House_bound
    b_House_bound := b_House_bound
    m_House_bound := ⟨D_House_bound.at_, D_House_bound.fn, F_House_bound.kp⟩
    f_House_potentials := f_House_potentials
    d_House_potentials := d_House_potentials
    F_House_potentials := F_House_potentials
    b_House_potentials := b_House_potentials
    m_House_potentials := ⟨D_House_potentials.at_, D_House_potentials.fn, F_House_potentials.kp⟩
    f_House_proves := f_House_proves
    d_House_proves := d_House_proves
    F_House_proves := F_House_proves
    b_House_proves := b_House_proves
    m_House_proves := ⟨D_House_proves.at_, D_House_proves.fn, F_House_proves.kp⟩
    f_House_without := f_House_without
    d_House_without := d_House_without
    F_House_without := F_House_without
    b_House_without := b_House_without
    m_House_without := ⟨D_House_without.at_, D_House_without.fn, F_House_without.kp⟩
    f_House_worth := f_House_worth
    d_House_worth := d_House_worth
    F_House_worth := F_House_worth
    b_House_worth := b_House_worth
    m_House_worth := ⟨D_House_worth.at_, D_House_worth.fn, F_House_worth.kp⟩
    f_House_members := f_House_members
    d_House_members := d_House_members
    F_House_members := F_House_members
    b_House_members := b_House_members
    m_House_members := ⟨D_House_members.at_, D_House_members.fn, F_House_members.kp⟩
    f_House_trades := f_House_trades
    d_House_trades := d_House_trades
    F_House_trades := F_House_trades
    b_House_trades := b_House_trades
    m_House_trades := ⟨D_House_trades.at_, D_House_trades.fn, F_House_trades.kp⟩
    f_House_between := f_House_between
    d_House_between := d_House_between
    F_House_between := F_House_between
    b_House_between := b_House_between
    m_House_between := ⟨D_House_between.at_, D_House_between.fn, F_House_between.kp⟩
    f_row_at := f_row_at
    d_row_at := d_row_at
    F_row_at := F_row_at
    b_row_at := b_row_at
    g_row_at := PySem.W.mg_of X G D_row_at.at_
    f_plain_answer := f_plain_answer
    d_plain_answer := d_plain_answer
    F_plain_answer := F_plain_answer
    b_plain_answer := b_plain_answer
    g_plain_answer := PySem.W.mg_of X G D_plain_answer.at_
    f_row_answer := f_row_answer
    d_row_answer := d_row_answer
    F_row_answer := F_row_answer
    b_row_answer := b_row_answer
    g_row_answer := PySem.W.mg_of X G D_row_answer.at_
    f_number_answer := f_number_answer
    d_number_answer := d_number_answer
    F_number_answer := F_number_answer
    b_number_answer := b_number_answer
    g_number_answer := PySem.W.mg_of X G D_number_answer.at_
    f_answer_at := f_answer_at
    d_answer_at := d_answer_at
    F_answer_at := F_answer_at
    b_answer_at := b_answer_at
    g_answer_at := PySem.W.mg_of X G D_answer_at.at_
    f_answers := fa
    d_answers := d_answers
    F_answers := F_answers
    b_answers := b_answers
    g_answers := hfa
    t_MOST_KEY := t_MOST_KEY
    g_MOST_KEY := PySem.W.mg_of X G v_MOST_KEY
    t_MOST_TRADES := t_MOST_TRADES
    g_MOST_TRADES := PySem.W.mg_of X G v_MOST_TRADES
    t_MOST_MEMBERS := t_MOST_MEMBERS
    g_MOST_MEMBERS := PySem.W.mg_of X G v_MOST_MEMBERS
    t_MOST_POTENTIAL := t_MOST_POTENTIAL
    g_MOST_POTENTIAL := PySem.W.mg_of X G v_MOST_POTENTIAL
    a_SIZES := a_SIZES
    g_SIZES := PySem.W.mg_of X G v_SIZES
    z_range := PySem.W.mg_none_of X G z_range
    z_len := PySem.W.mg_none_of X G z_len
    z_zip := PySem.W.mg_none_of X G z_zip
    z_sum := PySem.W.mg_none_of X G z_sum
    z_all := PySem.W.mg_none_of X G z_all
    z_sorted := PySem.W.mg_none_of X G z_sorted
    z_list := PySem.W.mg_none_of X G z_list
    z_int := PySem.W.mg_none_of X G z_int
    z_max := PySem.W.mg_none_of X G z_max
    z_min := PySem.W.mg_none_of X G z_min }, rfl, rfl, rfl⟩
  have bt : ∀ (s : Shared) (us : List Value), us.length = (["calls"] : List Str).length → BindsTo s d_answers ⟨us, []⟩ ((["calls"] : List Str).zip us) := by
    obtain ⟨oc, od, kV, doc, pm, an, cdv, ct, osl, e9, _, _⟩ := F_answers.ex
    intro s us hu
    rw [e9]
    exact match us, hu with | [_], _ => .of_eq rfl
  obtain ⟨T, e1, e2, e3⟩ := T
  subst e1
  subst e2
  rw [← e3] at bt
  exact ⟨T.d_answers, bt, fun base _ _ => ok_answers T S⟩
end St
end
open PySem PySem.W PyProof.Rows
set_option maxRecDepth 100000 in
set_option maxHeartbeats 0 in
theorem PySem.Challenge.cw_smallertrades_s01_answers_holds : PySem.Challenge.rw_smallertrades_s01_answers.Holds := by
  w_on; k_headS; (case hw => exact ⟨[.list [.int 6]], by decide +kernel, by decide +kernel⟩)
  k_fillS
  refine L2.walk_specK (r := PySem.Challenge.rw_smallertrades_s01_answers) (k := 9) (CX := L2.CX0) (ps := ["calls"]) (sp := St.sp_ansK) (by decide +kernel) rfl rfl ⟨rfl, by decide, by decide⟩ (fun w h Y => PySem.W.kIn_of Y) ?F ?S (fun _ _ _ _ z => z)
  case F =>
    intro w mg fa h Y KX G hmg
    refine' St.fin_of KX G hmg ?cTrade ?nTrade_giver ?nTrade_taker ?nTrade_amount ?nTrade_least ?cBook ?nBook_held ?cHouse ?nHouse_book ?D_excesses ?D_ways ?D_labels ?D_led_back ?D_push ?D_even_out ?D_greatest_flow ?D_least_potentials ?D_worth_of ?D_bound_of ?D_way_round ?D_raise_arc ?D_first_flow ?D_Trade_init ?D_Trade_room ?D_Book_init ?D_Book_members ?D_Book_arcs ?D_Book_key_rows ?D_Book_all_arcs ?D_Book_total ?D_Book_greatest ?D_Book_told ?D_Book_potentials ?D_Book_worth ?D_Book_bound ?D_Book_is_reduction ?D_Book_lessen ?D_Book_net ?D_Book_sums ?D_Book_pair ?D_Book_pairs ?D_is_key ?D_House_init ?D_House_key_fault ?D_House_is_full ?D_House_trade ?D_House_drop ?D_House_floor ?D_House_take ?D_House_are_numbers ?D_House_are_potentials ?D_House_apply ?D_House_net ?D_House_gross ?D_House_told ?D_House_is_one ?D_House_bound ?D_House_potentials ?D_House_proves ?D_House_without ?D_House_worth ?D_House_members ?D_House_trades ?D_House_between ?D_row_at ?D_plain_answer ?D_row_answer ?D_number_answer ?D_answer_at ?D_answers ?v_MOST_KEY ?v_MOST_TRADES ?v_MOST_MEMBERS ?v_MOST_POTENTIAL ?v_SIZES ?KISZ ?z_range ?z_len ?z_zip ?z_sum ?z_all ?z_sorted ?z_list ?z_int ?z_max ?z_min
    (case cTrade => refine' St.cd_mk ?za ?zp ?zh ?zo ?zs ?zm ?zk; (case za => k_is); (case zp => k_is); (case zh => k_is); (case zo => k_is); (case zs => k_is); (case zm => k_is); (case zk => k_is))
    (case nTrade_giver => k_is)
    (case nTrade_taker => k_is)
    (case nTrade_amount => k_is)
    (case nTrade_least => k_is)
    (case cBook => refine' St.cd_mk ?za ?zp ?zh ?zo ?zs ?zm ?zk; (case za => k_is); (case zp => k_is); (case zh => k_is); (case zo => k_is); (case zs => k_is); (case zm => k_is); (case zk => k_is))
    (case nBook_held => k_is)
    (case cHouse => refine' St.cd_mk ?za ?zp ?zh ?zo ?zs ?zm ?zk; (case za => k_is); (case zp => k_is); (case zh => k_is); (case zo => k_is); (case zs => k_is); (case zm => k_is); (case zk => k_is))
    (case nHouse_book => k_is)
    (case D_excesses => refine' St.gd_mk ?za ?zl ?zc ?zk; (case za => k_is); (case zl => k_is); (case zc => k_is); (case zk => k_is))
    (case D_ways => refine' St.gd_mk ?za ?zl ?zc ?zk; (case za => k_is); (case zl => k_is); (case zc => k_is); (case zk => k_is))
    (case D_labels => refine' St.gd_mk ?za ?zl ?zc ?zk; (case za => k_is); (case zl => k_is); (case zc => k_is); (case zk => k_is))
    (case D_led_back => refine' St.gd_mk ?za ?zl ?zc ?zk; (case za => k_is); (case zl => k_is); (case zc => k_is); (case zk => k_is))
    (case D_push => refine' St.gd_mk ?za ?zl ?zc ?zk; (case za => k_is); (case zl => k_is); (case zc => k_is); (case zk => k_is))
    (case D_even_out => refine' St.gd_mk ?za ?zl ?zc ?zk; (case za => k_is); (case zl => k_is); (case zc => k_is); (case zk => k_is))
    (case D_greatest_flow => refine' St.gd_mk ?za ?zl ?zc ?zk; (case za => k_is); (case zl => k_is); (case zc => k_is); (case zk => k_is))
    (case D_least_potentials => refine' St.gd_mk ?za ?zl ?zc ?zk; (case za => k_is); (case zl => k_is); (case zc => k_is); (case zk => k_is))
    (case D_worth_of => refine' St.gd_mk ?za ?zl ?zc ?zk; (case za => k_is); (case zl => k_is); (case zc => k_is); (case zk => k_is))
    (case D_bound_of => refine' St.gd_mk ?za ?zl ?zc ?zk; (case za => k_is); (case zl => k_is); (case zc => k_is); (case zk => k_is))
    (case D_way_round => refine' St.gd_mk ?za ?zl ?zc ?zk; (case za => k_is); (case zl => k_is); (case zc => k_is); (case zk => k_is))
    (case D_raise_arc => refine' St.gd_mk ?za ?zl ?zc ?zk; (case za => k_is); (case zl => k_is); (case zc => k_is); (case zk => k_is))
    (case D_first_flow => refine' St.gd_mk ?za ?zl ?zc ?zk; (case za => k_is); (case zl => k_is); (case zc => k_is); (case zk => k_is))
    (case D_Trade_init => refine' St.md_mk ?za ?zi ?zl ?zc ?zk; (case za => k_is); (case zi => k_is); (case zl => k_is); (case zc => k_is); (case zk => k_is))
    (case D_Trade_room => refine' St.md_mk ?za ?zi ?zl ?zc ?zk; (case za => k_is); (case zi => k_is); (case zl => k_is); (case zc => k_is); (case zk => k_is))
    (case D_Book_init => refine' St.md_mk ?za ?zi ?zl ?zc ?zk; (case za => k_is); (case zi => k_is); (case zl => k_is); (case zc => k_is); (case zk => k_is))
    (case D_Book_members => refine' St.md_mk ?za ?zi ?zl ?zc ?zk; (case za => k_is); (case zi => k_is); (case zl => k_is); (case zc => k_is); (case zk => k_is))
    (case D_Book_arcs => refine' St.md_mk ?za ?zi ?zl ?zc ?zk; (case za => k_is); (case zi => k_is); (case zl => k_is); (case zc => k_is); (case zk => k_is))
    (case D_Book_key_rows => refine' St.md_mk ?za ?zi ?zl ?zc ?zk; (case za => k_is); (case zi => k_is); (case zl => k_is); (case zc => k_is); (case zk => k_is))
    (case D_Book_all_arcs => refine' St.md_mk ?za ?zi ?zl ?zc ?zk; (case za => k_is); (case zi => k_is); (case zl => k_is); (case zc => k_is); (case zk => k_is))
    (case D_Book_total => refine' St.md_mk ?za ?zi ?zl ?zc ?zk; (case za => k_is); (case zi => k_is); (case zl => k_is); (case zc => k_is); (case zk => k_is))
    (case D_Book_greatest => refine' St.md_mk ?za ?zi ?zl ?zc ?zk; (case za => k_is); (case zi => k_is); (case zl => k_is); (case zc => k_is); (case zk => k_is))
    (case D_Book_told => refine' St.md_mk ?za ?zi ?zl ?zc ?zk; (case za => k_is); (case zi => k_is); (case zl => k_is); (case zc => k_is); (case zk => k_is))
    (case D_Book_potentials => refine' St.md_mk ?za ?zi ?zl ?zc ?zk; (case za => k_is); (case zi => k_is); (case zl => k_is); (case zc => k_is); (case zk => k_is))
    (case D_Book_worth => refine' St.md_mk ?za ?zi ?zl ?zc ?zk; (case za => k_is); (case zi => k_is); (case zl => k_is); (case zc => k_is); (case zk => k_is))
    (case D_Book_bound => refine' St.md_mk ?za ?zi ?zl ?zc ?zk; (case za => k_is); (case zi => k_is); (case zl => k_is); (case zc => k_is); (case zk => k_is))
    (case D_Book_is_reduction => refine' St.md_mk ?za ?zi ?zl ?zc ?zk; (case za => k_is); (case zi => k_is); (case zl => k_is); (case zc => k_is); (case zk => k_is))
    (case D_Book_lessen => refine' St.md_mk ?za ?zi ?zl ?zc ?zk; (case za => k_is); (case zi => k_is); (case zl => k_is); (case zc => k_is); (case zk => k_is))
    (case D_Book_net => refine' St.md_mk ?za ?zi ?zl ?zc ?zk; (case za => k_is); (case zi => k_is); (case zl => k_is); (case zc => k_is); (case zk => k_is))
    (case D_Book_sums => refine' St.md_mk ?za ?zi ?zl ?zc ?zk; (case za => k_is); (case zi => k_is); (case zl => k_is); (case zc => k_is); (case zk => k_is))
    (case D_Book_pair => refine' St.md_mk ?za ?zi ?zl ?zc ?zk; (case za => k_is); (case zi => k_is); (case zl => k_is); (case zc => k_is); (case zk => k_is))
    (case D_Book_pairs => refine' St.md_mk ?za ?zi ?zl ?zc ?zk; (case za => k_is); (case zi => k_is); (case zl => k_is); (case zc => k_is); (case zk => k_is))
    (case D_is_key => refine' St.gd_mk ?za ?zl ?zc ?zk; (case za => k_is); (case zl => k_is); (case zc => k_is); (case zk => k_is))
    (case D_House_init => refine' St.md_mk ?za ?zi ?zl ?zc ?zk; (case za => k_is); (case zi => k_is); (case zl => k_is); (case zc => k_is); (case zk => k_is))
    (case D_House_key_fault => refine' St.md_mk ?za ?zi ?zl ?zc ?zk; (case za => k_is); (case zi => k_is); (case zl => k_is); (case zc => k_is); (case zk => k_is))
    (case D_House_is_full => refine' St.md_mk ?za ?zi ?zl ?zc ?zk; (case za => k_is); (case zi => k_is); (case zl => k_is); (case zc => k_is); (case zk => k_is))
    (case D_House_trade => refine' St.md_mk ?za ?zi ?zl ?zc ?zk; (case za => k_is); (case zi => k_is); (case zl => k_is); (case zc => k_is); (case zk => k_is))
    (case D_House_drop => refine' St.md_mk ?za ?zi ?zl ?zc ?zk; (case za => k_is); (case zi => k_is); (case zl => k_is); (case zc => k_is); (case zk => k_is))
    (case D_House_floor => refine' St.md_mk ?za ?zi ?zl ?zc ?zk; (case za => k_is); (case zi => k_is); (case zl => k_is); (case zc => k_is); (case zk => k_is))
    (case D_House_take => refine' St.md_mk ?za ?zi ?zl ?zc ?zk; (case za => k_is); (case zi => k_is); (case zl => k_is); (case zc => k_is); (case zk => k_is))
    (case D_House_are_numbers => refine' St.md_mk ?za ?zi ?zl ?zc ?zk; (case za => k_is); (case zi => k_is); (case zl => k_is); (case zc => k_is); (case zk => k_is))
    (case D_House_are_potentials => refine' St.md_mk ?za ?zi ?zl ?zc ?zk; (case za => k_is); (case zi => k_is); (case zl => k_is); (case zc => k_is); (case zk => k_is))
    (case D_House_apply => refine' St.md_mk ?za ?zi ?zl ?zc ?zk; (case za => k_is); (case zi => k_is); (case zl => k_is); (case zc => k_is); (case zk => k_is))
    (case D_House_net => refine' St.md_mk ?za ?zi ?zl ?zc ?zk; (case za => k_is); (case zi => k_is); (case zl => k_is); (case zc => k_is); (case zk => k_is))
    (case D_House_gross => refine' St.md_mk ?za ?zi ?zl ?zc ?zk; (case za => k_is); (case zi => k_is); (case zl => k_is); (case zc => k_is); (case zk => k_is))
    (case D_House_told => refine' St.md_mk ?za ?zi ?zl ?zc ?zk; (case za => k_is); (case zi => k_is); (case zl => k_is); (case zc => k_is); (case zk => k_is))
    (case D_House_is_one => refine' St.md_mk ?za ?zi ?zl ?zc ?zk; (case za => k_is); (case zi => k_is); (case zl => k_is); (case zc => k_is); (case zk => k_is))
    (case D_House_bound => refine' St.md_mk ?za ?zi ?zl ?zc ?zk; (case za => k_is); (case zi => k_is); (case zl => k_is); (case zc => k_is); (case zk => k_is))
    (case D_House_potentials => refine' St.md_mk ?za ?zi ?zl ?zc ?zk; (case za => k_is); (case zi => k_is); (case zl => k_is); (case zc => k_is); (case zk => k_is))
    (case D_House_proves => refine' St.md_mk ?za ?zi ?zl ?zc ?zk; (case za => k_is); (case zi => k_is); (case zl => k_is); (case zc => k_is); (case zk => k_is))
    (case D_House_without => refine' St.md_mk ?za ?zi ?zl ?zc ?zk; (case za => k_is); (case zi => k_is); (case zl => k_is); (case zc => k_is); (case zk => k_is))
    (case D_House_worth => refine' St.md_mk ?za ?zi ?zl ?zc ?zk; (case za => k_is); (case zi => k_is); (case zl => k_is); (case zc => k_is); (case zk => k_is))
    (case D_House_members => refine' St.md_mk ?za ?zi ?zl ?zc ?zk; (case za => k_is); (case zi => k_is); (case zl => k_is); (case zc => k_is); (case zk => k_is))
    (case D_House_trades => refine' St.md_mk ?za ?zi ?zl ?zc ?zk; (case za => k_is); (case zi => k_is); (case zl => k_is); (case zc => k_is); (case zk => k_is))
    (case D_House_between => refine' St.md_mk ?za ?zi ?zl ?zc ?zk; (case za => k_is); (case zi => k_is); (case zl => k_is); (case zc => k_is); (case zk => k_is))
    (case D_row_at => refine' St.gd_mk ?za ?zl ?zc ?zk; (case za => k_is); (case zl => k_is); (case zc => k_is); (case zk => k_is))
    (case D_plain_answer => refine' St.gd_mk ?za ?zl ?zc ?zk; (case za => k_is); (case zl => k_is); (case zc => k_is); (case zk => k_is))
    (case D_row_answer => refine' St.gd_mk ?za ?zl ?zc ?zk; (case za => k_is); (case zl => k_is); (case zc => k_is); (case zk => k_is))
    (case D_number_answer => refine' St.gd_mk ?za ?zl ?zc ?zk; (case za => k_is); (case zl => k_is); (case zc => k_is); (case zk => k_is))
    (case D_answer_at => refine' St.gd_mk ?za ?zl ?zc ?zk; (case za => k_is); (case zl => k_is); (case zc => k_is); (case zk => k_is))
    (case D_answers => refine' St.gd_mk ?za ?zl ?zc ?zk; (case za => k_is); (case zl => k_is); (case zc => k_is); (case zk => k_is))
    (case v_MOST_KEY => k_is)
    (case v_MOST_TRADES => k_is)
    (case v_MOST_MEMBERS => k_is)
    (case v_MOST_POTENTIAL => k_is)
    (case v_SIZES => k_is)
    (case KISZ => refine' St.ki_mk ?zl ?zq ?zb; (case zl => k_is); (case zq => exact ⟨⟨_, rfl⟩, by decide +kernel, ⟨_, rfl⟩, ⟨_, rfl⟩, by decide +kernel, ⟨_, rfl⟩, ⟨_, rfl⟩, by decide +kernel, ⟨_, rfl⟩, ⟨_, rfl⟩, by decide +kernel, ⟨_, rfl⟩, ⟨_, rfl⟩, by decide +kernel, ⟨_, rfl⟩, ⟨_, rfl⟩, by decide +kernel, ⟨_, rfl⟩, ⟨_, rfl⟩, by decide +kernel, ⟨_, rfl⟩, trivial⟩); (case zb => decide))
    (case z_range => k_is)
    (case z_len => k_is)
    (case z_zip => k_is)
    (case z_sum => k_is)
    (case z_all => k_is)
    (case z_sorted => k_is)
    (case z_list => k_is)
    (case z_int => k_is)
    (case z_max => k_is)
    (case z_min => k_is)
  case S =>
    intro K H xs a hO hwi hask hx
    cases hx with
    | cons h1 h2 =>
      cases h2
      cases h1 with
      | lst hs ha =>
        have e := L2.ints_dw a.1 _ ha
        subst e
        exact ⟨_, a.1, rfl, hs, hask, fun H' p _ hp => .lst (L2.SqL.of hp) (L2.dw_ints _)⟩
