import PyProof.Rows.All
import Wide.All
import OpenK.AllK
import Wide.FinOn
import HandS.ForMost
import HandS.Walk
import HandS.Zip
import HandS.Star
import HandS.IsInst
import HandS.Wide
import PyProof.Rows.CallKwBuiltin
import KE.KMinBuiltin
import HandS.Defaults
import HandS.RaiseMore
import HandS.Conv
import HandS.Property
import PySem.Challenge.RW_sumlives_k06_divisors_of_forms
set_option Elab.async false
set_option linter.all false
set_option maxRecDepth 100000
namespace Lat
/-- a vector less so many times another one -/
def less (one : List Int) (t : Int) (other : List Int) : List Int := List.zipWith (fun a b => a - t * b) one other
/-- the value of a form at a vector -/
def val (f v : List Int) : Int := (List.zipWith (fun a b => a * b) f v).sum
/-- all that comes from 0 by taking away multiples of generators -/
inductive Sp (w : Nat) (S : List (List Int)) : List Int → Prop
  | zero : Sp w S (List.replicate w 0)
  | step {r v : List Int} {t : Int} : r ∈ S → Sp w S v → Sp w S (less v t r)
theorem less_length {a b : List Int} {t : Int} : (less a t b).length = min a.length b.length := by
  unfold less; rw [List.length_zipWith]
theorem less_len {a b : List Int} {t : Int} {w : Nat} (ha : a.length = w) (hb : b.length = w) : (less a t b).length = w := by
  rw [less_length, ha, hb]; exact Nat.min_self w
theorem less_get {a b : List Int} {t : Int} {i : Nat} (h : a.length = b.length) : (less a t b)[i]?.getD 0 = a[i]?.getD 0 - t * b[i]?.getD 0 := by
  unfold less
  rw [List.getElem?_zipWith]
  by_cases hi : i < a.length
  · have hb : i < b.length := h ▸ hi
    rw [List.getElem?_eq_getElem hi, List.getElem?_eq_getElem hb]; rfl
  · have e1 : a[i]? = none := List.getElem?_eq_none (by omega)
    have e2 : b[i]? = none := List.getElem?_eq_none (by omega)
    rw [e1, e2]; simp
/-- a number of a vector, 0 outside -/
def at' (v : List Int) (i : Nat) : Int := v[i]?.getD 0
theorem at_less {a b : List Int} {t : Int} {i : Nat} (h : a.length = b.length) : at' (less a t b) i = at' a i - t * at' b i := less_get h
theorem at_zero (w i : Nat) : at' (List.replicate w 0) i = 0 := by
  unfold at'
  rw [List.getElem?_replicate]
  split <;> rfl
theorem ext_at {a b : List Int} (h : a.length = b.length) (k : ∀ i, at' a i = at' b i) : a = b := by
  apply List.ext_getElem h
  intro i h1 h2
  have := k i
  unfold at' at this
  rw [List.getElem?_eq_getElem h1, List.getElem?_eq_getElem h2] at this
  exact this
/-- all rows have the width -/
def Wd (w : Nat) (S : List (List Int)) : Prop := ∀ r ∈ S, r.length = w
theorem Sp.len {w : Nat} {S : List (List Int)} {v : List Int} (hS : Wd w S) (h : Sp w S v) : v.length = w := by
  induction h with
  | zero => exact List.length_replicate
  | step hr _ ih => exact less_len ih (hS _ hr)
theorem Sp.sub {w : Nat} {S : List (List Int)} {u v : List Int} {t : Int} (hS : Wd w S) (hv : Sp w S v) (hu : Sp w S u) : Sp w S (less v t u) := by
  induction hu generalizing v t with
  | zero =>
    have e : less v t (List.replicate w 0) = v := by
      have hl : v.length = (List.replicate w (0:Int)).length := by rw [hv.len hS, List.length_replicate]
      apply ext_at
      · rw [less_length, ← hl]; exact Nat.min_self _
      · intro i; rw [at_less hl, at_zero]; simp
    rw [e]; exact hv
  | step hr hu' ih =>
    rename_i r u' t'
    have l1 := hv.len hS
    have l2 := hu'.len hS
    have l3 := hS _ hr
    have e : less v t (less u' t' r) = less (less v t u') (-(t * t')) r := by
      apply ext_at
      · rw [less_len l1 (less_len l2 l3), less_len (less_len l1 l2) l3]
      · intro i
        rw [at_less (by rw [l1, less_len l2 l3]), at_less (by rw [l2, l3]), at_less (by rw [less_len l1 l2, l3]), at_less (by rw [l1, l2])]
        rw [Int.mul_sub, Int.neg_mul, Int.mul_assoc]; omega
    rw [e]
    exact .step hr (ih hv)
theorem Sp.mem {w : Nat} {S : List (List Int)} {r : List Int} (hS : Wd w S) (h : r ∈ S) : Sp w S r := by
  have h1 : Sp w S (less (List.replicate w 0) (-1) r) := .step h .zero
  have e : less (List.replicate w 0) (-1) r = r := by
    have hl : (List.replicate w (0:Int)).length = r.length := by rw [hS r h, List.length_replicate]
    apply ext_at
    · rw [less_length, hl]; exact Nat.min_self _
    · intro i; rw [at_less hl, at_zero]; omega
  rw [e] at h1; exact h1
theorem Sp.trans {w : Nat} {S T : List (List Int)} {v : List Int} (hT : Wd w T) (k : ∀ r ∈ S, Sp w T r) (h : Sp w S v) : Sp w T v := by
  induction h with
  | zero => exact .zero
  | step hr _ ih => exact ih.sub hT (k _ hr)
/-- the same sums -/
def Eqv (w : Nat) (S T : List (List Int)) : Prop := (∀ r ∈ S, Sp w T r) ∧ (∀ r ∈ T, Sp w S r)
theorem Eqv.refl {w : Nat} {S : List (List Int)} (hS : Wd w S) : Eqv w S S := ⟨fun _ h => .mem hS h, fun _ h => .mem hS h⟩
theorem Eqv.symm {w : Nat} {S T : List (List Int)} (h : Eqv w S T) : Eqv w T S := ⟨h.2, h.1⟩
theorem Eqv.trans {w : Nat} {S T U : List (List Int)} (hS : Wd w S) (hU : Wd w U) (h1 : Eqv w S T) (h2 : Eqv w T U) : Eqv w S U :=
  ⟨fun r hr => (h1.1 r hr).trans hU h2.1, fun r hr => (h2.2 r hr).trans hS h1.2⟩
theorem Eqv.sp {w : Nat} {S T : List (List Int)} {v : List Int} (hT : Wd w T) (h : Eqv w S T) (hv : Sp w S v) : Sp w T v := hv.trans hT h.1
theorem Sp.mono {w : Nat} {S T : List (List Int)} {v : List Int} (h : ∀ r ∈ S, r ∈ T) (hv : Sp w S v) : Sp w T v := by
  induction hv with
  | zero => exact .zero
  | step hr _ ih => exact .step (h _ hr) ih
theorem Eqv.perm {w : Nat} {S T : List (List Int)} (hS : Wd w S) (h : ∀ r, r ∈ S ↔ r ∈ T) : Eqv w S T :=
  ⟨fun r hr => .mem (fun x hx => hS x ((h x).2 hx)) ((h r).1 hr), fun r hr => .mem hS ((h r).2 hr)⟩
/-- values -/
theorem val_less {f a b : List Int} {t : Int} (h : a.length = b.length) : val f (less a t b) = val f a - t * val f b := by
  unfold val less
  induction f generalizing a b with
  | nil => simp
  | cons x f ih =>
    cases a with
    | nil => cases b with
      | nil => simp
      | cons _ _ => simp at h
    | cons y a => cases b with
      | nil => simp at h
      | cons z b =>
        have := ih (a := a) (b := b) (by simpa using h)
        simp only [List.zipWith_cons_cons, List.sum_cons] at this ⊢
        rw [this, Int.mul_add, Int.mul_sub, Int.mul_left_comm t x z]; omega
theorem val_zero (f : List Int) (w : Nat) : val f (List.replicate w 0) = 0 := by
  unfold val
  induction f generalizing w with
  | nil => simp
  | cons x f ih => cases w with
    | zero => simp
    | succ w => simp only [List.replicate_succ, List.zipWith_cons_cons, List.sum_cons, ih w]; simp
theorem Sp.dvd {w : Nat} {S : List (List Int)} {v f : List Int} {d : Int} (hS : Wd w S) (k : ∀ r ∈ S, d ∣ val f r) (h : Sp w S v) : d ∣ val f v := by
  induction h with
  | zero => rw [val_zero]; exact Int.dvd_zero d
  | step hr hv ih =>
    rw [val_less (by rw [hv.len hS, hS _ hr])]
    exact Int.dvd_sub ih (Int.dvd_mul_of_dvd_right (k _ hr))
/-- the place of the first number that is not 0; the width if there is none -/
def piv (v : List Int) : Nat := match v with
  | [] => 0
  | x :: r => if x = 0 then piv r + 1 else 0
theorem at_cons_succ (x : Int) (r : List Int) (i : Nat) : at' (x :: r) (i + 1) = at' r i := by unfold at'; simp
theorem at_cons_zero (x : Int) (r : List Int) : at' (x :: r) 0 = x := by unfold at'; simp
theorem piv_eq {v : List Int} {n : Nat} (h : n ≤ v.length) (h0 : ∀ i, i < n → at' v i = 0) (h1 : n = v.length ∨ at' v n ≠ 0) : piv v = n := by
  induction v generalizing n with
  | nil => simp at h; rw [h]; rfl
  | cons x r ih =>
    unfold piv
    cases n with
    | zero =>
      have : x ≠ 0 := by
        rcases h1 with h1 | h1
        · simp at h1
        · rw [at_cons_zero] at h1; exact h1
      rw [if_neg this]
    | succ n =>
      have e : x = 0 := by have := h0 0 (by omega); rwa [at_cons_zero] at this
      rw [if_pos e, ih (n := n) (by simpa using h) (fun i hi => by have := h0 (i + 1) (by omega); rwa [at_cons_succ] at this) ?_]
      rcases h1 with h1 | h1
      · left; simpa using h1
      · right; rwa [at_cons_succ] at h1
theorem piv_le (v : List Int) : piv v ≤ v.length := by
  induction v with
  | nil => exact Nat.le_refl _
  | cons x r ih => unfold piv; split <;> simp <;> omega
theorem piv_zero {v : List Int} {i : Nat} (h : i < piv v) : at' v i = 0 := by
  induction v generalizing i with
  | nil => unfold piv at h; omega
  | cons x r ih =>
    unfold piv at h
    split at h
    · cases i with
      | zero => rw [at_cons_zero]; assumption
      | succ i => rw [at_cons_succ]; exact ih (by omega)
    · omega
theorem piv_ne {v : List Int} (h : piv v < v.length) : at' v (piv v) ≠ 0 := by
  induction v with
  | nil => simp at h
  | cons x r ih =>
    unfold piv at h ⊢
    split at h
    · rename_i e
      rw [if_pos e, at_cons_succ]
      exact ih (by simpa using h)
    · rename_i e
      rw [if_neg e, at_cons_zero]; exact e
end Lat
namespace Lat
/-- the greatest common divisor of numbers -/
def gcds (l : List Int) : Int := l.foldl (fun g x => (Int.gcd g x : Int)) 0
theorem foldl_gcd_dvd (l : List Int) (g : Int) : (l.foldl (fun g x => (Int.gcd g x : Int)) g ∣ g) ∧ ∀ x ∈ l, l.foldl (fun g x => (Int.gcd g x : Int)) g ∣ x := by
  induction l generalizing g with
  | nil => exact ⟨Int.dvd_refl g, fun x h => by cases h⟩
  | cons y l ih =>
    have := ih ((Int.gcd g y : Int))
    refine ⟨Int.dvd_trans this.1 (Int.gcd_dvd_left _ _), fun x hx => ?_⟩
    rcases List.mem_cons.mp hx with rfl | hx
    · exact Int.dvd_trans this.1 (Int.gcd_dvd_right _ _)
    · exact this.2 x hx
theorem dvd_foldl_gcd (l : List Int) (g d : Int) (h : d ∣ g) (k : ∀ x ∈ l, d ∣ x) : d ∣ l.foldl (fun g x => (Int.gcd g x : Int)) g := by
  induction l generalizing g with
  | nil => exact h
  | cons y l ih => exact ih _ (Int.dvd_coe_gcd h (k y (List.mem_cons_self ..))) fun x hx => k x (List.mem_cons_of_mem _ hx)
theorem gcds_dvd {l : List Int} {x : Int} (h : x ∈ l) : gcds l ∣ x := (foldl_gcd_dvd l 0).2 x h
theorem dvd_gcds {l : List Int} {d : Int} (k : ∀ x ∈ l, d ∣ x) : d ∣ gcds l := dvd_foldl_gcd l 0 d (Int.dvd_zero d) k
theorem foldl_gcd_nonneg (l : List Int) (g : Int) (h : 0 ≤ g) : 0 ≤ l.foldl (fun g x => (Int.gcd g x : Int)) g := by
  induction l generalizing g with
  | nil => exact h
  | cons y l ih => exact ih _ (Int.natCast_nonneg _)
theorem gcds_nonneg (l : List Int) : 0 ≤ gcds l := foldl_gcd_nonneg l 0 (Int.le_refl 0)
theorem gcds_eq {l m : List Int} (h1 : ∀ x ∈ l, gcds m ∣ x) (h2 : ∀ x ∈ m, gcds l ∣ x) : gcds l = gcds m :=
  Int.dvd_antisymm (gcds_nonneg l) (gcds_nonneg m) (dvd_gcds h2) (dvd_gcds h1)
theorem gcds_eqv {w : Nat} {S T : List (List Int)} (hS : Wd w S) (hT : Wd w T) (h : Eqv w S T) (f : List Int) : gcds (S.map (val f)) = gcds (T.map (val f)) := by
  refine gcds_eq (fun x hx => ?_) (fun x hx => ?_)
  · obtain ⟨r, hr, rfl⟩ := List.mem_map.mp hx
    exact (h.1 r hr).dvd hT fun s hs => gcds_dvd (List.mem_map_of_mem hs)
  · obtain ⟨r, hr, rfl⟩ := List.mem_map.mp hx
    exact (h.2 r hr).dvd hS fun s hs => gcds_dvd (List.mem_map_of_mem hs)
end Lat
set_option maxHeartbeats 1000000
namespace Lat
/-- all numbers are at most B in size -/
def Bd (B : Nat) (S : List (List Int)) : Prop := ∀ r ∈ S, ∀ i, (at' r i).natAbs ≤ B
theorem Bd.mono {B C : Nat} {S : List (List Int)} (h : Bd B S) (k : B ≤ C) : Bd C S := fun r hr i => Nat.le_trans (h r hr i) k
theorem Bd.sub {B : Nat} {S T : List (List Int)} (h : Bd B S) (k : ∀ r ∈ T, r ∈ S) : Bd B T := fun r hr i => h r (k r hr) i
/-- one turn at place p: the others less multiples of f -/
def turn (p : Nat) (f r : List Int) : List Int := less r ((at' r p).fdiv (at' f p)) f
theorem turn_at {p : Nat} {f r : List Int} (h : r.length = f.length) : at' (turn p f r) p = (at' r p).fmod (at' f p) := by
  unfold turn
  rw [at_less h, Int.fmod_def, Int.mul_comm]
theorem fmod_natAbs {x y : Int} (h : y ≠ 0) : (x.fmod y).natAbs < y.natAbs := by
  by_cases hy : 0 < y
  · have h1 := Int.fmod_nonneg_of_pos x hy
    have h2 := Int.fmod_lt_of_pos x hy
    omega
  · have e : x.fmod y = -((-x).fmod (-y)) := by rw [Int.fmod_def, Int.fmod_def, Int.neg_fdiv_neg, Int.neg_mul]; omega
    have h1 := Int.fmod_nonneg_of_pos (-x) (show 0 < -y by omega)
    have h2 := Int.fmod_lt_of_pos (-x) (show 0 < -y by omega)
    omega
theorem fdiv_natAbs (x y : Int) : (x.fdiv y).natAbs ≤ x.natAbs := by
  by_cases h : y = 0
  · rw [h, Int.fdiv_zero]; simp
  have e := Int.mul_fdiv_add_fmod x y
  have h1 := fmod_natAbs (x := x) h
  by_cases q0 : x.fdiv y = 0
  · rw [q0]; simp
  by_cases hy : 0 < y
  · have r1 := Int.fmod_nonneg_of_pos x hy
    have r2 := Int.fmod_lt_of_pos x hy
    by_cases q1 : 0 < x.fdiv y
    · have : x.fdiv y ≤ y * x.fdiv y := by
        have := Int.mul_le_mul_of_nonneg_right (show (1:Int) ≤ y by omega) (show 0 ≤ x.fdiv y by omega)
        omega
      omega
    · have : y * x.fdiv y ≤ y * (-1) + (x.fdiv y + 1) := by
        have := Int.mul_le_mul_of_nonneg_right (show (1:Int) ≤ y by omega) (show 0 ≤ -(x.fdiv y) - 1 by omega)
        rw [Int.one_mul, Int.mul_sub, Int.mul_neg] at this
        omega
      omega
  · have f2 : (-x).fdiv (-y) = x.fdiv y := Int.neg_fdiv_neg x y
    have r1 := Int.fmod_nonneg_of_pos (-x) (show 0 < -y by omega)
    have r2 := Int.fmod_lt_of_pos (-x) (show 0 < -y by omega)
    have e2 := Int.mul_fdiv_add_fmod (-x) (-y)
    rw [f2] at e2
    by_cases q1 : 0 < x.fdiv y
    · have : x.fdiv y ≤ (-y) * x.fdiv y := by
        have := Int.mul_le_mul_of_nonneg_right (show (1:Int) ≤ -y by omega) (show 0 ≤ x.fdiv y by omega)
        omega
      omega
    · have : (-y) * x.fdiv y ≤ (-y) * (-1) + (x.fdiv y + 1) := by
        have := Int.mul_le_mul_of_nonneg_right (show (1:Int) ≤ -y by omega) (show 0 ≤ -(x.fdiv y) - 1 by omega)
        rw [Int.one_mul, Int.mul_sub, Int.mul_neg] at this
        omega
      omega
/-- what stands between two turns of gathering at place p -/
structure GI (w p : Nat) (rows left others : List (List Int)) : Prop where
  eqv : Eqv w rows (left ++ others)
  wd : Wd w (left ++ others)
  nz : ∀ r ∈ left, at' r p ≠ 0
  z : ∀ r ∈ others, at' r p = 0
  pre : ∀ r ∈ left ++ others, ∀ i, i < p → at' r i = 0
  len : left.length + others.length ≤ rows.length
def turned (p k : Nat) (left : List (List Int)) (f : List Int) : List (List Int) := (left.take k ++ left.drop (k + 1)).map (turn p f)
theorem mem_rest {left : List (List Int)} {k : Nat} {f : List Int} (h : left[k]? = some f) (r : List Int) : r ∈ left ↔ r = f ∨ r ∈ left.take k ++ left.drop (k + 1) := by
  have hk : k < left.length := (List.getElem?_eq_some_iff.mp h).1
  have e : left = left.take k ++ f :: left.drop (k + 1) := by
    rw [List.getElem?_eq_getElem hk] at h
    have := Option.some.inj h
    subst this
    rw [List.getElem_cons_drop]; exact (List.take_append_drop k left).symm
  constructor
  · intro hr
    rw [e] at hr
    rcases List.mem_append.mp hr with hr | hr
    · right; exact List.mem_append_left _ hr
    · rcases List.mem_cons.mp hr with hr | hr
      · left; exact hr
      · right; exact List.mem_append_right _ hr
  · intro hr
    rcases hr with rfl | hr
    · exact List.mem_of_getElem? h
    · rcases List.mem_append.mp hr with hr | hr
      · exact List.mem_of_mem_take hr
      · exact List.mem_of_mem_drop hr
theorem rest_len {left : List (List Int)} {k : Nat} (hk : k < left.length) : (left.take k ++ left.drop (k + 1)).length + 1 = left.length := by
  rw [List.length_append, List.length_take, List.length_drop]; omega
def leftN (p k : Nat) (left : List (List Int)) (f : List Int) : List (List Int) := f :: (turned p k left f).filter (fun r => decide (at' r p ≠ 0))
def othersN (p k : Nat) (left others : List (List Int)) (f : List Int) : List (List Int) := others ++ (turned p k left f).filter (fun r => decide (at' r p = 0))
theorem filter_len (l : List (List Int)) (p : Nat) : (l.filter (fun r => decide (at' r p ≠ 0))).length + (l.filter (fun r => decide (at' r p = 0))).length = l.length := by
  induction l with
  | nil => rfl
  | cons x l ih =>
    by_cases h : at' x p = 0
    · simp only [List.filter_cons, h, ne_eq, not_true, decide_false, decide_true, if_true, List.length_cons]
      simp only [Bool.false_eq_true, if_false]
      simp only [ne_eq] at ih
      omega
    · simp only [List.filter_cons, h, ne_eq, not_false_eq_true, decide_false, decide_true, if_true, List.length_cons]
      simp only [Bool.false_eq_true, if_false]
      simp only [ne_eq] at ih
      omega
theorem GI.step {w p k : Nat} {rows left others : List (List Int)} {f : List Int} (G : GI w p rows left others) (hr : Wd w rows) (hf : left[k]? = some f) : GI w p rows (leftN p k left f) (othersN p k left others f) := by
  have hk : k < left.length := (List.getElem?_eq_some_iff.mp hf).1
  have fm : f ∈ left := List.mem_of_getElem? hf
  have fw : f.length = w := G.wd f (List.mem_append_left _ fm)
  have tm : ∀ r ∈ left.take k ++ left.drop (k + 1), r ∈ left := fun r h => (mem_rest hf r).2 (.inr h)
  have tw : ∀ r ∈ turned p k left f, ∃ r0 ∈ left.take k ++ left.drop (k + 1), r = turn p f r0 := fun r h => by
    obtain ⟨r0, h1, h2⟩ := List.mem_map.mp h
    exact ⟨r0, h1, h2.symm⟩
  have rw0 : ∀ r ∈ left, r.length = w := fun r h => G.wd r (List.mem_append_left _ h)
  have memN : ∀ r, r ∈ leftN p k left f ++ othersN p k left others f ↔ r = f ∨ r ∈ turned p k left f ∨ r ∈ others := by
    intro r
    unfold leftN othersN
    simp only [List.mem_append, List.mem_cons, List.mem_filter, decide_eq_true_eq, ne_eq]
    constructor
    · rintro ((h | h) | (h | h))
      · exact .inl h
      · exact .inr (.inl h.1)
      · exact .inr (.inr h)
      · exact .inr (.inl h.1)
    · rintro (h | h | h)
      · exact .inl (.inl h)
      · by_cases e : at' r p = 0
        · exact .inr (.inr ⟨h, e⟩)
        · exact .inl (.inr ⟨h, e⟩)
      · exact .inr (.inl h)
  have wdN : Wd w (leftN p k left f ++ othersN p k left others f) := fun r h => by
    rcases (memN r).1 h with rfl | h | h
    · exact fw
    · obtain ⟨r0, h1, rfl⟩ := tw r h
      exact less_len (rw0 _ (tm _ h1)) fw
    · exact G.wd r (List.mem_append_right _ h)
  have e1 : Eqv w (left ++ others) (leftN p k left f ++ othersN p k left others f) := by
    have sf : Sp w (leftN p k left f ++ othersN p k left others f) f := .mem wdN ((memN f).2 (.inl rfl))
    constructor
    · intro r h
      rcases List.mem_append.mp h with h | h
      · rcases (mem_rest hf r).1 h with rfl | h
        · exact sf
        · have st : Sp w (leftN p k left f ++ othersN p k left others f) (turn p f r) := .mem wdN ((memN _).2 (.inr (.inl (List.mem_map_of_mem h))))
          have e : r = less (turn p f r) (-((at' r p).fdiv (at' f p))) f := by
            have l0 := rw0 _ (tm _ h)
            apply ext_at
            · unfold turn; rw [less_len (less_len l0 fw) fw, l0]
            · intro i
              unfold turn
              rw [at_less (by rw [less_len l0 fw, fw]), at_less (by rw [l0, fw]), Int.neg_mul]; omega
          rw [e]
          exact st.sub wdN sf
      · exact .mem wdN ((memN r).2 (.inr (.inr h)))
    · intro r h
      rcases (memN r).1 h with rfl | h | h
      · exact .mem G.wd (List.mem_append_left _ fm)
      · obtain ⟨r0, h1, rfl⟩ := tw r h
        exact (Sp.mem G.wd (List.mem_append_left _ (tm _ h1))).sub G.wd (.mem G.wd (List.mem_append_left _ fm))
      · exact .mem G.wd (List.mem_append_right _ h)
  refine ⟨G.eqv.trans hr wdN e1, wdN, ?_, ?_, ?_, ?_⟩
  · intro r h
    rcases List.mem_cons.mp h with rfl | h
    · exact G.nz _ fm
    · have := (List.mem_filter.mp h).2
      simpa using this
  · intro r h
    rcases List.mem_append.mp h with h | h
    · exact G.z r h
    · have := (List.mem_filter.mp h).2
      simpa using this
  · intro r h i hi
    rcases (memN r).1 h with rfl | h | h
    · exact G.pre _ (List.mem_append_left _ fm) i hi
    · obtain ⟨r0, h1, rfl⟩ := tw r h
      unfold turn
      rw [at_less (by rw [rw0 _ (tm _ h1), fw]), G.pre _ (List.mem_append_left _ (tm _ h1)) i hi, G.pre _ (List.mem_append_left _ fm) i hi]; simp
    · exact G.pre r (List.mem_append_right _ h) i hi
  · have h1 := filter_len (turned p k left f) p
    have h2 : (turned p k left f).length + 1 = left.length := by unfold turned; rw [List.length_map]; exact rest_len hk
    have h3 := G.len
    unfold leftN othersN
    rw [List.length_cons, List.length_append]
    omega
/-- the sizes at the place, together -/
def siz (p : Nat) (l : List (List Int)) : Nat := (l.map fun r => (at' r p).natAbs).sum
theorem siz_append (p : Nat) (a b : List (List Int)) : siz p (a ++ b) = siz p a + siz p b := by unfold siz; rw [List.map_append, List.sum_append]
theorem siz_cons (p : Nat) (a : List Int) (b : List (List Int)) : siz p (a :: b) = (at' a p).natAbs + siz p b := by unfold siz; rw [List.map_cons, List.sum_cons]
theorem siz_filter (p : Nat) (l : List (List Int)) (q : List Int → Bool) : siz p (l.filter q) ≤ siz p l := by
  induction l with
  | nil => exact Nat.le_refl _
  | cons x l ih =>
    rw [List.filter_cons]
    split
    · rw [siz_cons, siz_cons]; omega
    · rw [siz_cons]; omega
theorem siz_turned {w p : Nat} {f : List Int} (fw : f.length = w) (fz : at' f p ≠ 0) (l : List (List Int)) (hl : Wd w l) (hm : ∀ r ∈ l, (at' f p).natAbs ≤ (at' r p).natAbs) : siz p (l.map (turn p f)) + l.length ≤ siz p l := by
  induction l with
  | nil => exact Nat.le_refl _
  | cons x l ih =>
    have h1 := ih (fun r h => hl r (List.mem_cons_of_mem _ h)) (fun r h => hm r (List.mem_cons_of_mem _ h))
    rw [List.map_cons, siz_cons, siz_cons, turn_at (by rw [fw]; exact hl x (List.mem_cons_self ..)), List.length_cons]
    have h2 := fmod_natAbs (x := at' x p) fz
    have h3 := hm x (List.mem_cons_self ..)
    omega
theorem siz_step {w p k : Nat} {rows left others : List (List Int)} {f : List Int} (G : GI w p rows left others) (hf : left[k]? = some f) (hm : ∀ r ∈ left, (at' f p).natAbs ≤ (at' r p).natAbs) (h1 : 1 < left.length) : siz p (leftN p k left f) < siz p left := by
  have hk : k < left.length := (List.getElem?_eq_some_iff.mp hf).1
  have fm : f ∈ left := List.mem_of_getElem? hf
  have fw : f.length = w := G.wd f (List.mem_append_left _ fm)
  have tm : ∀ r ∈ left.take k ++ left.drop (k + 1), r ∈ left := fun r h => (mem_rest hf r).2 (.inr h)
  have e : siz p left = siz p (left.take k ++ left.drop (k + 1)) + (at' f p).natAbs := by
    have e0 : left = left.take k ++ f :: left.drop (k + 1) := by
      have h := hf
      rw [List.getElem?_eq_getElem hk] at h
      have := Option.some.inj h
      subst this
      rw [List.getElem_cons_drop]; exact (List.take_append_drop k left).symm
    rw [congrArg (siz p) e0, siz_append, siz_append, siz_cons]; omega
  have h2 := siz_turned fw (G.nz _ fm) (left.take k ++ left.drop (k + 1)) (fun r h => G.wd r (List.mem_append_left _ (tm r h))) (fun r h => hm r (tm r h))
  have h3 := siz_filter p (turned p k left f) (fun r => decide (at' r p ≠ 0))
  have h4 := rest_len hk
  unfold leftN
  rw [siz_cons]
  have h5 : siz p (turned p k left f) = siz p ((left.take k ++ left.drop (k + 1)).map (turn p f)) := rfl
  omega
end Lat
set_option maxHeartbeats 1000000
namespace Lat
/-- all numbers at the place have one sign -/
def Sgn (p : Nat) (l : List (List Int)) : Prop := (∀ r ∈ l, 0 < at' r p) ∨ (∀ r ∈ l, at' r p < 0)
/-- how large numbers can be, behind a first turn -/
structure Ph (p B0 C : Nat) (left others : List (List Int)) (B c a : Nat) : Prop where
  bd : Bd B (left ++ others)
  sg : Sgn p left
  lo : ∀ r ∈ left, a ≤ (at' r p).natAbs
  hi : ∀ r ∈ left, (at' r p).natAbs ≤ c
  atc : ∃ r ∈ left, (at' r p).natAbs = c
  ata : ∃ r ∈ left, (at' r p).natAbs = a
  cb : c ≤ B0
  pot : B * (c * a) ^ 2 * 2 ^ left.length ≤ C
def PhX (p B0 C : Nat) (left others : List (List Int)) : Prop := Bd B0 (left ++ others) ∨ ∃ B c a, Ph p B0 C left others B c a
theorem least (p : Nat) : ∀ l : List (List Int), l ≠ [] → ∃ r ∈ l, ∀ s ∈ l, (at' r p).natAbs ≤ (at' s p).natAbs
  | [], h => absurd rfl h
  | [x], _ => ⟨x, List.mem_cons_self .., fun s h => by rw [List.mem_singleton.mp h]; exact Nat.le_refl _⟩
  | x :: y :: l, _ => by
    obtain ⟨r, h1, h2⟩ := least p (y :: l) (by simp)
    by_cases c : (at' x p).natAbs ≤ (at' r p).natAbs
    · refine ⟨x, List.mem_cons_self .., fun s h => ?_⟩
      rcases List.mem_cons.mp h with rfl | h
      · exact Nat.le_refl _
      · exact Nat.le_trans c (h2 s h)
    · refine ⟨r, List.mem_cons_of_mem _ h1, fun s h => ?_⟩
      rcases List.mem_cons.mp h with rfl | h
      · omega
      · exact h2 s h
theorem natAbs_step {x y q : Int} {B Q : Nat} (hx : x.natAbs ≤ B) (hy : y.natAbs ≤ B) (hq : q.natAbs ≤ Q) : (x - q * y).natAbs ≤ (1 + Q) * B := by
  have h1 : (q * y).natAbs ≤ Q * B := by rw [Int.natAbs_mul]; exact Nat.mul_le_mul hq hy
  rw [Nat.add_mul, Nat.one_mul]
  omega
theorem bd_step {w p k B Q : Nat} {rows left others : List (List Int)} {f : List Int} (G : GI w p rows left others) (hf : left[k]? = some f) (hb : Bd B (left ++ others)) (hq : ∀ r ∈ left, ((at' r p).fdiv (at' f p)).natAbs ≤ Q) :
    Bd ((1 + Q) * B) (leftN p k left f ++ othersN p k left others f) := by
  have fm : f ∈ left := List.mem_of_getElem? hf
  have fw : f.length = w := G.wd f (List.mem_append_left _ fm)
  have tm : ∀ r ∈ left.take k ++ left.drop (k + 1), r ∈ left := fun r h => (mem_rest hf r).2 (.inr h)
  have le : B ≤ (1 + Q) * B := by rw [Nat.add_mul, Nat.one_mul]; omega
  have tb : ∀ r ∈ turned p k left f, ∀ i, (at' r i).natAbs ≤ (1 + Q) * B := fun r h i => by
    obtain ⟨r0, h1, rfl⟩ := List.mem_map.mp h
    unfold turn
    rw [at_less (by rw [fw]; exact G.wd _ (List.mem_append_left _ (tm _ h1)))]
    exact natAbs_step (hb _ (List.mem_append_left _ (tm _ h1)) i) (hb _ (List.mem_append_left _ fm) i) (hq _ (tm _ h1))
  intro r h i
  unfold leftN othersN at h
  simp only [List.mem_append, List.mem_cons, List.mem_filter] at h
  rcases h with (rfl | h) | (h | h)
  · exact Nat.le_trans (hb _ (List.mem_append_left _ fm) i) le
  · exact tb r h.1 i
  · exact Nat.le_trans (hb _ (List.mem_append_right _ h) i) le
  · exact tb r h.1 i
theorem fmod_sign {x y : Int} (h : x.fmod y ≠ 0) : (0 < y → 0 < x.fmod y) ∧ (y < 0 → x.fmod y < 0) := by
  constructor
  · intro hy
    have := Int.fmod_nonneg_of_pos x hy
    omega
  · intro hy
    have e : x.fmod y = -((-x).fmod (-y)) := by rw [Int.fmod_def, Int.fmod_def, Int.neg_fdiv_neg, Int.neg_mul]; omega
    have h1 := Int.fmod_nonneg_of_pos (-x) (show 0 < -y by omega)
    omega
theorem sgn_step {w p k : Nat} {rows left others : List (List Int)} {f : List Int} (G : GI w p rows left others) (hf : left[k]? = some f) : Sgn p (leftN p k left f) := by
  have fm : f ∈ left := List.mem_of_getElem? hf
  have fw : f.length = w := G.wd f (List.mem_append_left _ fm)
  have fz := G.nz _ fm
  have tm : ∀ r ∈ left.take k ++ left.drop (k + 1), r ∈ left := fun r h => (mem_rest hf r).2 (.inr h)
  have key : ∀ r ∈ leftN p k left f, (0 < at' f p → 0 < at' r p) ∧ (at' f p < 0 → at' r p < 0) := fun r h => by
    rcases List.mem_cons.mp h with rfl | h
    · exact ⟨fun h => h, fun h => h⟩
    · obtain ⟨h1, h2⟩ := List.mem_filter.mp h
      obtain ⟨r0, h3, rfl⟩ := List.mem_map.mp h1
      have h2' : at' (turn p f r0) p ≠ 0 := by simpa using h2
      rw [turn_at (by rw [fw]; exact G.wd _ (List.mem_append_left _ (tm _ h3)))] at h2' ⊢
      exact fmod_sign h2'
  by_cases c : 0 < at' f p
  · exact .inl fun r h => (key r h).1 c
  · exact .inr fun r h => (key r h).2 (by omega)
/-- the numbers at the place behind a turn: f's, or smaller -/
theorem siz_mem {w p k : Nat} {rows left others : List (List Int)} {f : List Int} (G : GI w p rows left others) (hf : left[k]? = some f) {r : List Int} (h : r ∈ leftN p k left f) : (at' r p).natAbs ≤ (at' f p).natAbs := by
  have fm : f ∈ left := List.mem_of_getElem? hf
  have fw : f.length = w := G.wd f (List.mem_append_left _ fm)
  have tm : ∀ r ∈ left.take k ++ left.drop (k + 1), r ∈ left := fun r h => (mem_rest hf r).2 (.inr h)
  rcases List.mem_cons.mp h with rfl | h
  · exact Nat.le_refl _
  · obtain ⟨h1, h2⟩ := List.mem_filter.mp h
    obtain ⟨r0, h3, rfl⟩ := List.mem_map.mp h1
    rw [turn_at (by rw [fw]; exact G.wd _ (List.mem_append_left _ (tm _ h3)))]
    exact Nat.le_of_lt (fmod_natAbs (G.nz _ fm))
theorem leftN_ne (p k : Nat) (left : List (List Int)) (f : List Int) : leftN p k left f ≠ [] := by unfold leftN; simp
theorem leftN_len {p k : Nat} {left : List (List Int)} {f : List Int} (hf : left[k]? = some f) : (leftN p k left f).length ≤ left.length := by
  have hk : k < left.length := (List.getElem?_eq_some_iff.mp hf).1
  have h1 := filter_len (turned p k left f) p
  have h2 : (turned p k left f).length + 1 = left.length := by unfold turned; rw [List.length_map]; exact rest_len hk
  unfold leftN
  rw [List.length_cons]
  omega
/-- where no row went, no number at the place became 0 -/
theorem leftN_all {p k : Nat} {left : List (List Int)} {f : List Int} (hf : left[k]? = some f) (e : (leftN p k left f).length = left.length) : ∀ r ∈ left.take k ++ left.drop (k + 1), turn p f r ∈ leftN p k left f := by
  have hk : k < left.length := (List.getElem?_eq_some_iff.mp hf).1
  have h1 := filter_len (turned p k left f) p
  have h2 : (turned p k left f).length + 1 = left.length := by unfold turned; rw [List.length_map]; exact rest_len hk
  unfold leftN at e
  rw [List.length_cons] at e
  have h3 : ((turned p k left f).filter (fun r => decide (at' r p = 0))) = [] := List.eq_nil_of_length_eq_zero (by omega)
  intro r hr
  unfold leftN
  refine List.mem_cons_of_mem _ (List.mem_filter.mpr ⟨List.mem_map_of_mem hr, ?_⟩)
  by_cases z : at' (turn p f r) p = 0
  · have : turn p f r ∈ ((turned p k left f).filter (fun r => decide (at' r p = 0))) := List.mem_filter.mpr ⟨List.mem_map_of_mem hr, by simpa using z⟩
    rw [h3] at this; cases this
  · simpa using z
theorem pot_calc {B c a a' n n' Q C : Nat} (hQ : (1 + Q) * a ≤ 2 * c) (ha : a' ≤ a) (hc : a ≤ c) (hn : n' < n ∨ (n' ≤ n ∧ 2 * a' ≤ c)) (h : B * (c * a) ^ 2 * 2 ^ n ≤ C) : (1 + Q) * B * (a * a') ^ 2 * 2 ^ n' ≤ C := by
  have key : ∀ m, (1 + Q) * (a * a') ^ 2 * m ≤ 2 * (c * a * a' * a') * m := fun m => by
    have e : (1 + Q) * (a * a') ^ 2 = ((1 + Q) * a) * (a * a' * a') := by
      rw [Nat.pow_two]
      ac_rfl
    have := Nat.mul_le_mul_right (a * a' * a') hQ
    rw [e]
    refine Nat.mul_le_mul_right m (Nat.le_trans this (Nat.le_of_eq ?_))
    ac_rfl
  refine Nat.le_trans ?_ h
  rcases hn with hn | ⟨hn, h2⟩
  · have p2 : 2 * 2 ^ n' ≤ 2 ^ n := by
      have : 2 ^ (n' + 1) ≤ 2 ^ n := Nat.pow_le_pow_right (by decide) hn
      rw [Nat.pow_succ] at this; omega
    have k1 := key (B * 2 ^ n')
    have e1 : (1 + Q) * B * (a * a') ^ 2 * 2 ^ n' = (1 + Q) * (a * a') ^ 2 * (B * 2 ^ n') := by ac_rfl
    rw [e1]
    refine Nat.le_trans k1 ?_
    have k2 : c * a * a' * a' ≤ (c * a) ^ 2 := by
      rw [Nat.pow_two, Nat.mul_assoc (c * a)]
      refine Nat.mul_le_mul_left _ (Nat.mul_le_mul (Nat.le_trans ha hc) ha)
    have k3 : 2 * (c * a * a' * a') * (B * 2 ^ n') = B * (c * a * a' * a') * (2 * 2 ^ n') := by ac_rfl
    rw [k3]
    exact Nat.mul_le_mul (Nat.mul_le_mul_left _ k2) p2
  · have p2 : 2 ^ n' ≤ 2 ^ n := Nat.pow_le_pow_right (by decide) hn
    have k1 := key (B * 2 ^ n')
    have e1 : (1 + Q) * B * (a * a') ^ 2 * 2 ^ n' = (1 + Q) * (a * a') ^ 2 * (B * 2 ^ n') := by ac_rfl
    rw [e1]
    refine Nat.le_trans k1 ?_
    have k2 : 2 * (c * a * a' * a') ≤ (c * a) ^ 2 := by
      have e : 2 * (c * a * a' * a') = c * a * ((2 * a') * a') := by ac_rfl
      rw [e, Nat.pow_two]
      exact Nat.mul_le_mul_left _ (Nat.mul_le_mul h2 ha)
    have k3 : 2 * (c * a * a' * a') * (B * 2 ^ n') = B * (2 * (c * a * a' * a')) * 2 ^ n' := by ac_rfl
    rw [k3]
    exact Nat.mul_le_mul (Nat.mul_le_mul_left _ k2) p2
theorem fdiv_same {x y : Int} (h : (0 < x ∧ 0 < y) ∨ (x < 0 ∧ y < 0)) : (x.fdiv y).natAbs = x.natAbs / y.natAbs ∧ (x.fmod y).natAbs = x.natAbs % y.natAbs := by
  have pos : ∀ x y : Int, 0 < x → 0 < y → (x.fdiv y).natAbs = x.natAbs / y.natAbs ∧ (x.fmod y).natAbs = x.natAbs % y.natAbs := fun x y hx hy => by
    rw [Int.fdiv_eq_ediv_of_nonneg x (by omega), Int.fmod_eq_emod_of_nonneg x (by omega)]
    obtain ⟨a, rfl⟩ := Int.eq_ofNat_of_zero_le (Int.le_of_lt hx)
    obtain ⟨b, rfl⟩ := Int.eq_ofNat_of_zero_le (Int.le_of_lt hy)
    rw [← Int.natCast_ediv, ← Int.natCast_emod]
    exact ⟨rfl, rfl⟩
  rcases h with ⟨h1, h2⟩ | ⟨h1, h2⟩
  · exact pos x y h1 h2
  · have q := pos (-x) (-y) (by omega) (by omega)
    rw [Int.neg_fdiv_neg, Int.natAbs_neg, Int.natAbs_neg] at q
    refine ⟨q.1, ?_⟩
    rw [← q.2]
    have e : x.fmod y = -((-x).fmod (-y)) := by rw [Int.fmod_def, Int.fmod_def, Int.neg_fdiv_neg, Int.neg_mul]; omega
    rw [e, Int.natAbs_neg]
theorem Ph.step {w p k B0 C B c a : Nat} {rows left others : List (List Int)} {f : List Int} (G : GI w p rows left others) (h : Ph p B0 C left others B c a) (hf : left[k]? = some f) (hm : ∀ r ∈ left, (at' f p).natAbs ≤ (at' r p).natAbs) (h1 : 1 < left.length) :
    ∃ B c a, Ph p B0 C (leftN p k left f) (othersN p k left others f) B c a := by
  have fm : f ∈ left := List.mem_of_getElem? hf
  have fw : f.length = w := G.wd f (List.mem_append_left _ fm)
  have fz := G.nz _ fm
  have fa : (at' f p).natAbs = a := by
    obtain ⟨r, r1, r2⟩ := h.ata
    have := hm r r1
    have := h.lo f fm
    omega
  have sg : ∀ r ∈ left, (0 < at' r p ∧ 0 < at' f p) ∨ (at' r p < 0 ∧ at' f p < 0) := fun r hr => by
    rcases h.sg with s | s
    · exact .inl ⟨s r hr, s f fm⟩
    · exact .inr ⟨s r hr, s f fm⟩
  have ap : 0 < a := by omega
  have ac : a ≤ c := by rw [← fa]; exact h.hi f fm
  obtain ⟨g, g1, g2⟩ := least p (leftN p k left f) (leftN_ne _ _ _ _)
  have qb : ∀ r ∈ left, ((at' r p).fdiv (at' f p)).natAbs ≤ c / a := fun r hr => by
    rw [(fdiv_same (sg r hr)).1, fa]
    exact Nat.div_le_div_right (h.hi r hr)
  have ga : (at' g p).natAbs ≤ a := by rw [← fa]; exact siz_mem G hf g1
  refine ⟨(1 + c / a) * B, a, (at' g p).natAbs, ⟨bd_step G hf h.bd qb, sgn_step G hf, g2, fun r hr => by rw [← fa]; exact siz_mem G hf hr, ⟨f, List.mem_cons_self .., fa⟩, ⟨g, g1, rfl⟩, Nat.le_trans ac h.cb, ?_⟩⟩
  refine pot_calc (n := left.length) (c := c) ?_ ga ac ?_ h.pot
  · rw [Nat.add_mul, Nat.one_mul]
    have := Nat.div_mul_le_self c a
    omega
  · by_cases e : (leftN p k left f).length < left.length
    · exact .inl e
    · have e' : (leftN p k left f).length = left.length := by have := leftN_len (p := p) hf; omega
      refine .inr ⟨Nat.le_of_eq e', ?_⟩
      have al := leftN_all hf e'
      obtain ⟨r, r1, r2⟩ := h.atc
      rcases (mem_rest hf r).1 r1 with rfl | r3
      · -- c = a: every other row leaves
        have hk : k < left.length := (List.getElem?_eq_some_iff.mp hf).1
        have h4 := rest_len hk
        have : left.take k ++ left.drop (k + 1) ≠ [] := by intro z; rw [z] at h4; simp at h4; omega
        obtain ⟨t, ht⟩ := List.exists_mem_of_ne_nil _ this
        have ht' : t ∈ left := (mem_rest hf t).2 (.inr ht)
        have m1 := al t ht
        have m2 := g2 _ m1
        rw [turn_at (by rw [fw]; exact G.wd _ (List.mem_append_left _ ht')), (fdiv_same (sg t ht')).2] at m2
        have t1 := h.hi t ht'
        have t2 := h.lo t ht'
        have : (at' t p).natAbs = (at' r p).natAbs := by omega
        rw [this, Nat.mod_self] at m2
        omega
      · have m2 := g2 _ (al r r3)
        rw [turn_at (by rw [fw]; exact G.wd _ (List.mem_append_left _ r1)), (fdiv_same (sg r r1)).2, r2, fa] at m2
        have m3 := Nat.mod_lt c ap
        have m4 := Nat.div_add_mod c a
        have m5 : 1 ≤ c / a := (Nat.le_div_iff_mul_le ap).mpr (by omega)
        have m6 : a ≤ a * (c / a) := by have := Nat.mul_le_mul_left a m5; omega
        omega
theorem pow_calc {B0 n n' C a a' : Nat} (h1 : 1 ≤ B0) (ha : a ≤ B0) (ha' : a' ≤ B0) (hn : n' ≤ n) (h : (1 + B0) * B0 ^ 5 * 2 ^ n ≤ C) : (1 + B0) * B0 * (a * a') ^ 2 * 2 ^ n' ≤ C := by
  refine Nat.le_trans ?_ h
  refine Nat.mul_le_mul ?_ (Nat.pow_le_pow_right (by decide) hn)
  rw [Nat.mul_assoc]
  refine Nat.mul_le_mul_left _ ?_
  have e : B0 ^ 5 = B0 * (B0 * B0) ^ 2 := by rw [← Nat.pow_two, ← Nat.pow_mul, Nat.mul_comm B0, ← Nat.pow_succ]
  rw [e]
  exact Nat.mul_le_mul_left _ (Nat.pow_le_pow_left (Nat.mul_le_mul ha ha') 2)
theorem PhX.step {w p k B0 C : Nat} {rows left others : List (List Int)} {f : List Int} (G : GI w p rows left others) (h : PhX p B0 C left others) (hB : 1 ≤ B0) (hC : (1 + B0) * B0 ^ 5 * 2 ^ rows.length ≤ C) (hf : left[k]? = some f) (hm : ∀ r ∈ left, (at' f p).natAbs ≤ (at' r p).natAbs) (h1 : 1 < left.length) :
    PhX p B0 C (leftN p k left f) (othersN p k left others f) := by
  rcases h with h | ⟨B, c, a, h⟩
  · have fm : f ∈ left := List.mem_of_getElem? hf
    obtain ⟨g, g1, g2⟩ := least p (leftN p k left f) (leftN_ne _ _ _ _)
    have fb : (at' f p).natAbs ≤ B0 := h f (List.mem_append_left _ fm) p
    refine .inr ⟨(1 + B0) * B0, (at' f p).natAbs, (at' g p).natAbs, bd_step G hf h (fun r hr => Nat.le_trans (fdiv_natAbs _ _) (h r (List.mem_append_left _ hr) p)), sgn_step G hf, g2, fun r hr => siz_mem G hf hr, ⟨f, List.mem_cons_self .., rfl⟩, ⟨g, g1, rfl⟩, fb, ?_⟩
    refine pow_calc (n := rows.length) hB fb (Nat.le_trans (siz_mem G hf g1) fb) ?_ hC
    have := leftN_len (p := p) hf
    have := G.len
    omega
  · exact .inr (h.step G hf hm h1)
theorem PhX.bd {w p B0 C : Nat} {rows left others : List (List Int)} (G : GI w p rows left others) (h : PhX p B0 C left others) (hB : 1 ≤ B0) (hC : (1 + B0) * B0 ^ 5 * 2 ^ rows.length ≤ C) : Bd C (left ++ others) := by
  rcases h with h | ⟨B, c, a, h⟩
  · refine h.mono (Nat.le_trans ?_ hC)
    have := pow_calc (n := rows.length) (n' := 0) (a := 1) (a' := 1) hB hB hB (Nat.zero_le _) (Nat.le_refl _)
    refine Nat.le_trans ?_ this
    simp only [Nat.mul_one, Nat.pow_zero, Nat.one_pow]
    rw [Nat.add_mul, Nat.one_mul]; omega
  · refine h.bd.mono (Nat.le_trans ?_ h.pot)
    obtain ⟨r, r1, r2⟩ := h.ata
    have z := G.nz r r1
    have ac : a ≤ c := by rw [← r2]; exact h.hi r r1
    have : 0 < (c * a) ^ 2 * 2 ^ left.length := Nat.mul_pos (Nat.pow_pos (Nat.mul_pos (by omega) (by omega))) (Nat.pow_pos (by decide))
    rw [Nat.mul_assoc]
    exact Nat.le_mul_of_pos_right B this
/-- the number at the place by which is divided stays as small as at the start -/
theorem PhX.piv {w p B0 C : Nat} {rows left others : List (List Int)} (G : GI w p rows left others) (h : PhX p B0 C left others) {r : List Int} (hr : r ∈ left) : (at' r p).natAbs ≤ B0 := by
  rcases h with h | ⟨B, c, a, h⟩
  · exact h r (List.mem_append_left _ hr) p
  · exact Nat.le_trans (h.hi r hr) h.cb
theorem gi_start {w p : Nat} {rs : List (List Int)} (hw : Wd w rs) (h0 : ∀ r ∈ rs, ∀ i, i < p → at' r i = 0) : GI w p rs (rs.filter fun r => decide (at' r p ≠ 0)) (rs.filter fun r => decide (at' r p = 0)) := by
  have mem : ∀ r, r ∈ rs ↔ r ∈ (rs.filter fun r => decide (at' r p ≠ 0)) ++ (rs.filter fun r => decide (at' r p = 0)) := fun r => by
    simp only [List.mem_append, List.mem_filter, decide_eq_true_eq]
    constructor
    · intro h
      by_cases c : at' r p = 0
      · exact .inr ⟨h, c⟩
      · exact .inl ⟨h, c⟩
    · rintro (h | h) <;> exact h.1
  refine ⟨.perm hw mem, fun r h => hw r ((mem r).2 h), fun r h => ?_, fun r h => ?_, fun r h => h0 r ((mem r).2 h), ?_⟩
  · simpa using (List.mem_filter.mp h).2
  · simpa using (List.mem_filter.mp h).2
  · exact Nat.le_of_eq (filter_len rs p)
theorem gb_start {p B : Nat} {rs : List (List Int)} (h : Bd B rs) : Bd B ((rs.filter fun r => decide (at' r p ≠ 0)) ++ (rs.filter fun r => decide (at' r p = 0))) := h.sub fun r hr => by
  rcases List.mem_append.mp hr with hr | hr <;> exact (List.mem_filter.mp hr).1
theorem at_neg {w : Nat} {f : List Int} (fw : f.length = w) (i : Nat) : at' (less (List.replicate w 0) 1 f) i = -at' f i := by
  rw [at_less (by rw [List.length_replicate, fw]), at_zero]; omega
theorem neg_eqv {w : Nat} {S : List (List Int)} {f : List Int} (hw : Wd w (f :: S)) : Eqv w (f :: S) (less (List.replicate w 0) 1 f :: S) ∧ Wd w (less (List.replicate w 0) 1 f :: S) := by
  have fw := hw f (List.mem_cons_self ..)
  have nw : Wd w (less (List.replicate w 0) 1 f :: S) := fun r h => by
    rcases List.mem_cons.mp h with rfl | h
    · exact less_len List.length_replicate fw
    · exact hw r (List.mem_cons_of_mem _ h)
  refine ⟨⟨fun r h => ?_, fun r h => ?_⟩, nw⟩
  · rcases List.mem_cons.mp h with rfl | h
    · have h1 : Sp w (less (List.replicate w 0) 1 r :: S) (less (List.replicate w 0) 1 (less (List.replicate w 0) 1 r)) := .step (List.mem_cons_self ..) .zero
      have e : less (List.replicate w 0) 1 (less (List.replicate w 0) 1 r) = r := by
        apply ext_at
        · rw [less_len List.length_replicate (less_len List.length_replicate fw), fw]
        · intro i
          rw [at_neg (less_len List.length_replicate fw), at_neg fw]; omega
      rw [e] at h1; exact h1
    · exact .mem nw (List.mem_cons_of_mem _ h)
  · rcases List.mem_cons.mp h with rfl | h
    · exact .step (List.mem_cons_self ..) .zero
    · exact .mem hw (List.mem_cons_of_mem _ h)
theorem neg_bd {w C : Nat} {S : List (List Int)} {f : List Int} (fw : f.length = w) (h : Bd C (f :: S)) : Bd C (less (List.replicate w 0) 1 f :: S) := fun r hr i => by
  rcases List.mem_cons.mp hr with rfl | hr
  · rw [at_neg fw, Int.natAbs_neg]; exact h f (List.mem_cons_self ..) i
  · exact h r (List.mem_cons_of_mem _ hr) i
end Lat
set_option maxHeartbeats 1000000
namespace Lat
structure PRow (w : Nat) (r : List Int) : Prop where
  len : r.length = w
  lt : piv r < w
  pos : 0 < at' r (piv r)
structure Ech (w : Nat) (S : List (List Int)) : Prop where
  row : ∀ r ∈ S, PRow w r
  asc : S.Pairwise fun a b => piv a < piv b
structure Hnf (w : Nat) (S : List (List Int)) : Prop extends Ech w S where
  red : S.Pairwise fun a b => 0 ≤ at' a (piv b) ∧ at' a (piv b) < at' b (piv b)
theorem Ech.wd {w : Nat} {S : List (List Int)} (h : Ech w S) : Wd w S := fun r hr => (h.row r hr).len
def settle (S : List (List Int)) (row : List Int) : List (List Int) := S.map (turn (piv row) row) ++ [row]
def settled (B : List (List Int)) : List (List Int) := B.foldl settle []
theorem turn_low {w : Nat} {r row : List Int} (hr : r.length = w) (hw : row.length = w) {i : Nat} (hi : i < piv row) : at' (turn (piv row) row r) i = at' r i := by
  unfold turn
  rw [at_less (by rw [hr, hw]), piv_zero hi]; simp
theorem piv_turn {w : Nat} {r row : List Int} (hr : PRow w r) (hw : PRow w row) (h : piv r < piv row) : piv (turn (piv row) row r) = piv r := by
  have l : (turn (piv row) row r).length = w := less_len hr.len hw.len
  refine piv_eq (by rw [l]; exact Nat.le_of_lt hr.lt) (fun i hi => ?_) (.inr ?_)
  · rw [turn_low hr.len hw.len (by omega)]; exact piv_zero hi
  · rw [turn_low hr.len hw.len h]
    have := hr.pos
    omega
theorem prow_turn {w : Nat} {r row : List Int} (hr : PRow w r) (hw : PRow w row) (h : piv r < piv row) : PRow w (turn (piv row) row r) := by
  refine ⟨less_len hr.len hw.len, by rw [piv_turn hr hw h]; exact hr.lt, ?_⟩
  rw [piv_turn hr hw h, turn_low hr.len hw.len h]; exact hr.pos
theorem settle_hnf {w : Nat} {S : List (List Int)} {row : List Int} (h : Hnf w S) (hw : PRow w row) (hp : ∀ r ∈ S, piv r < piv row) : Hnf w (settle S row) := by
  have pt : ∀ r ∈ S, piv (turn (piv row) row r) = piv r := fun r hr => piv_turn (h.row r hr) hw (hp r hr)
  refine ⟨⟨fun r hr => ?_, ?_⟩, ?_⟩
  · rcases List.mem_append.mp hr with hr | hr
    · obtain ⟨r0, h0, rfl⟩ := List.mem_map.mp hr
      exact prow_turn (h.row r0 h0) hw (hp r0 h0)
    · rw [List.mem_singleton.mp hr]; exact hw
  · unfold settle
    rw [List.pairwise_append]
    refine ⟨?_, List.pairwise_singleton _ _, fun a ha b hb => ?_⟩
    · rw [List.pairwise_map]
      exact h.asc.imp_of_mem fun {a b} ha hb q => by rw [pt a ha, pt b hb]; exact q
    · obtain ⟨r0, h0, rfl⟩ := List.mem_map.mp ha
      rw [List.mem_singleton.mp hb, pt r0 h0]; exact hp r0 h0
  · unfold settle
    rw [List.pairwise_append]
    refine ⟨?_, List.pairwise_singleton _ _, fun a ha b hb => ?_⟩
    · rw [List.pairwise_map]
      exact h.red.imp_of_mem fun {a b} ha hb q => by
        rw [pt b hb, turn_low (h.row a ha).len hw.len (hp b hb), turn_low (h.row b hb).len hw.len (hp b hb)]; exact q
    · obtain ⟨r0, h0, rfl⟩ := List.mem_map.mp ha
      rw [List.mem_singleton.mp hb, turn_at (by rw [(h.row r0 h0).len, hw.len])]
      exact ⟨Int.fmod_nonneg_of_pos _ hw.pos, Int.fmod_lt_of_pos _ hw.pos⟩
theorem settle_eqv {w : Nat} {S : List (List Int)} {row : List Int} (h : Wd w S) (hw : row.length = w) : Eqv w (S ++ [row]) (settle S row) ∧ Wd w (settle S row) := by
  have wd : Wd w (settle S row) := fun r hr => by
    rcases List.mem_append.mp hr with hr | hr
    · obtain ⟨r0, h0, rfl⟩ := List.mem_map.mp hr
      exact less_len (h r0 h0) hw
    · rw [List.mem_singleton.mp hr]; exact hw
  have wd0 : Wd w (S ++ [row]) := fun r hr => by
    rcases List.mem_append.mp hr with hr | hr
    · exact h r hr
    · rw [List.mem_singleton.mp hr]; exact hw
  have mr : row ∈ settle S row := List.mem_append_right _ (List.mem_singleton.mpr rfl)
  have mr0 : row ∈ S ++ [row] := List.mem_append_right _ (List.mem_singleton.mpr rfl)
  refine ⟨⟨fun r hr => ?_, fun r hr => ?_⟩, wd⟩
  · rcases List.mem_append.mp hr with hr | hr
    · have st : Sp w (settle S row) (turn (piv row) row r) := .mem wd (List.mem_append_left _ (List.mem_map_of_mem hr))
      have e : r = less (turn (piv row) row r) (-((at' r (piv row)).fdiv (at' row (piv row)))) row := by
        have l0 := h r hr
        apply ext_at
        · unfold turn; rw [less_len (less_len l0 hw) hw, l0]
        · intro i
          unfold turn
          rw [at_less (by rw [less_len l0 hw, hw]), at_less (by rw [l0, hw]), Int.neg_mul]; omega
      rw [e]
      exact st.sub wd (.mem wd mr)
    · rw [List.mem_singleton.mp hr]; exact .mem wd mr
  · rcases List.mem_append.mp hr with hr | hr
    · obtain ⟨r0, h0, rfl⟩ := List.mem_map.mp hr
      exact (Sp.mem wd0 (List.mem_append_left _ h0)).sub wd0 (.mem wd0 mr0)
    · rw [List.mem_singleton.mp hr]; exact .mem wd0 mr0
theorem settle_bd {w B R : Nat} {S : List (List Int)} {row : List Int} (h : Wd w S) (hw : row.length = w) (hS : Bd B S) (hR : ∀ i, (at' row i).natAbs ≤ R) (hB : 1 ≤ B) : Bd (B * (1 + R)) (settle S row) := fun r hr i => by
  rcases List.mem_append.mp hr with hr | hr
  · obtain ⟨r0, h0, rfl⟩ := List.mem_map.mp hr
    unfold turn
    rw [at_less (by rw [h r0 h0, hw])]
    have h1 := hS r0 h0 i
    have h2 : ((at' r0 (piv row)).fdiv (at' row (piv row)) * at' row i).natAbs ≤ B * R := by
      rw [Int.natAbs_mul]
      exact Nat.mul_le_mul (Nat.le_trans (fdiv_natAbs _ _) (hS r0 h0 _)) (hR i)
    rw [Nat.mul_add, Nat.mul_one]
    omega
  · rw [List.mem_singleton.mp hr]
    have h1 := hR i
    have : R ≤ B * R := Nat.le_mul_of_pos_left R hB
    rw [Nat.mul_add, Nat.mul_one]
    omega
/-- behind some rows -/
theorem settled_upto {w R : Nat} {B : List (List Int)} (h : Ech w B) (hb : Bd R B) (hR : 1 ≤ R) : ∀ n, n ≤ B.length → Hnf w (settled (B.take n)) ∧ Eqv w (B.take n) (settled (B.take n)) ∧ Bd (R * (1 + R) ^ n) (settled (B.take n)) ∧ (settled (B.take n)).length = n ∧
    (∀ r ∈ settled (B.take n), ∃ s ∈ B.take n, piv r = piv s) := by
  intro n
  induction n with
  | zero => intro _; exact ⟨⟨⟨(fun r h => nomatch h), .nil⟩, .nil⟩, ⟨(fun r h => nomatch h), (fun r h => nomatch h)⟩, (fun r h => by cases h), rfl, (fun r h => nomatch h)⟩
  | succ n ih =>
    intro hn
    obtain ⟨h1, h2, h3, h4, h5⟩ := ih (by omega)
    have hl : n < B.length := hn
    have e : B.take (n + 1) = B.take n ++ [B[n]] := by rw [List.take_add_one, List.getElem?_eq_getElem hl]; rfl
    have hm : B[n] ∈ B := List.getElem_mem hl
    have es : settled (B.take (n + 1)) = settle (settled (B.take n)) B[n] := by rw [e]; unfold settled; rw [List.foldl_append]; rfl
    have hp : ∀ r ∈ settled (B.take n), piv r < piv B[n] := fun r hr => by
      obtain ⟨s, hs, e1⟩ := h5 r hr
      rw [e1]
      have pw := h.asc
      rw [← List.take_append_drop n B, List.pairwise_append] at pw
      exact pw.2.2 s hs _ (by rw [List.drop_eq_getElem_cons hl]; exact List.mem_cons_self ..)
    have pr := h.row _ hm
    obtain ⟨q1, q2⟩ := settle_eqv h1.wd pr.len
    rw [es]
    refine ⟨settle_hnf h1 pr hp, ?_, ?_, ?_, ?_⟩
    · rw [e]
      have wt : Wd w (B.take n) := fun r hr => h.wd r (List.mem_of_mem_take hr)
      have w1 : Wd w (B.take n ++ [B[n]]) := fun r hr => by
        rcases List.mem_append.mp hr with hr | hr
        · exact wt r hr
        · rw [List.mem_singleton.mp hr]; exact pr.len
      have w2 : Wd w (settled (B.take n) ++ [B[n]]) := fun r hr => by
        rcases List.mem_append.mp hr with hr | hr
        · exact h1.wd r hr
        · rw [List.mem_singleton.mp hr]; exact pr.len
      refine Eqv.trans w1 q2 (T := settled (B.take n) ++ [B[n]]) ⟨fun r hr => ?_, fun r hr => ?_⟩ q1
      · rcases List.mem_append.mp hr with hr | hr
        · exact (h2.1 r hr).mono fun x hx => List.mem_append_left _ hx
        · rw [List.mem_singleton.mp hr]; exact .mem w2 (List.mem_append_right _ (List.mem_singleton.mpr rfl))
      · rcases List.mem_append.mp hr with hr | hr
        · exact (h2.2 r hr).mono fun x hx => List.mem_append_left _ hx
        · rw [List.mem_singleton.mp hr]; exact .mem w1 (List.mem_append_right _ (List.mem_singleton.mpr rfl))
    · rw [Nat.pow_succ, ← Nat.mul_assoc]
      exact settle_bd h1.wd pr.len h3 (hb _ hm) (Nat.mul_pos hR (Nat.pow_pos (by omega)))
    · unfold settle; rw [List.length_append, List.length_map, h4]; rfl
    · intro r hr
      unfold settle at hr
      rcases List.mem_append.mp hr with hr | hr
      · obtain ⟨r0, h0, rfl⟩ := List.mem_map.mp hr
        rw [piv_turn (h1.row r0 h0) pr (hp r0 h0)]
        obtain ⟨s, hs, e1⟩ := h5 r0 h0
        exact ⟨s, by rw [e]; exact List.mem_append_left _ hs, e1⟩
      · rw [List.mem_singleton.mp hr]
        exact ⟨B[n], by rw [e]; exact List.mem_append_right _ (List.mem_singleton.mpr rfl), rfl⟩
/-- how numbers can grow, place by place -/
def grow (n B : Nat) : Nat → Nat
  | 0 => B
  | p + 1 => (1 + grow n B p) * grow n B p ^ 5 * 2 ^ n
def bits (n b : Nat) : Nat → Nat
  | 0 => b
  | p + 1 => 6 * bits n b p + n
theorem grow_pos {n B : Nat} (h : 1 ≤ B) : ∀ p, 1 ≤ grow n B p
  | 0 => h
  | p + 1 => Nat.mul_pos (Nat.mul_pos (by omega) (Nat.pow_pos (grow_pos h p))) (Nat.pow_pos (by decide))
theorem grow_mono {n B : Nat} (h : 1 ≤ B) (p : Nat) : grow n B p ≤ grow n B (p + 1) := by
  have g := grow_pos (n := n) h p
  show _ ≤ (1 + grow n B p) * grow n B p ^ 5 * 2 ^ n
  have h1 : 1 ≤ grow n B p ^ 5 := Nat.pow_pos g
  have h2 : 1 ≤ 2 ^ n := Nat.pow_pos (by decide)
  have h3 := Nat.mul_le_mul (Nat.mul_le_mul (Nat.le_refl (1 + grow n B p)) h1) h2
  omega
theorem grow_le {n B : Nat} (h : 1 ≤ B) {p q : Nat} (hpq : p ≤ q) : grow n B p ≤ grow n B q := by
  induction hpq with
  | refl => exact Nat.le_refl _
  | step _ ih => exact Nat.le_trans ih (grow_mono h _)
theorem grow_bits {n B b : Nat} (h : B < 2 ^ b) : ∀ p, grow n B p < 2 ^ bits n b p
  | 0 => h
  | p + 1 => by
    have ih := grow_bits (n := n) h p
    show (1 + grow n B p) * grow n B p ^ 5 * 2 ^ n < 2 ^ (6 * bits n b p + n)
    rw [Nat.pow_add]
    refine Nat.mul_lt_mul_of_pos_right ?_ (Nat.pow_pos (by decide))
    have e : 2 ^ (6 * bits n b p) = 2 ^ bits n b p * (2 ^ bits n b p) ^ 5 := by rw [← Nat.pow_mul, ← Nat.pow_add]; congr 1; omega
    rw [e]
    have h1 : 1 + grow n B p ≤ 2 ^ bits n b p := by omega
    have h2 : grow n B p ^ 5 < (2 ^ bits n b p) ^ 5 := Nat.pow_lt_pow_left ih (by decide)
    exact Nat.lt_of_le_of_lt (Nat.mul_le_mul_right _ h1) (Nat.mul_lt_mul_of_pos_left h2 (Nat.pow_pos (by decide)))
/-- behind the places below p -/
structure BI (w n B p : Nat) (rows found left : List (List Int)) : Prop where
  eqv : Eqv w rows (found ++ left)
  ech : Ech w found
  low : ∀ r ∈ found, piv r < p
  wd : Wd w left
  z : ∀ r ∈ left, ∀ i, i < p → at' r i = 0
  bd : Bd (grow n B p) (found ++ left)
  pb : ∀ r ∈ found, ∃ q, q < p ∧ (at' r (piv r)).natAbs ≤ grow n B q
  fl : found.length ≤ p
  ll : left.length ≤ n
theorem bi_start {w n B : Nat} {rows : List (List Int)} (hw : Wd w rows) (hb : Bd B rows) (hn : rows.length ≤ n) : BI w n B 0 rows [] rows :=
  ⟨Eqv.refl hw, ⟨(fun r h => nomatch h), .nil⟩, (fun r h => by cases h), hw, (fun r h i hi => by omega), hb, (fun r h => by cases h), Nat.le_refl _, hn⟩
theorem bi_step {w n B p C : Nat} {rows found left others : List (List Int)} {o : Option (List Int)} (hw : Wd w rows) (h : BI w n B p rows found left) (hB : 1 ≤ B) (hp : p < w) (hC : C = grow n B (p + 1))
    (ge : Eqv w left (o.toList ++ others)) (gw : Wd w (o.toList ++ others)) (gz : ∀ r ∈ others, ∀ i, i ≤ p → at' r i = 0) (gp : ∀ f, o = some f → (∀ i, i < p → at' f i = 0) ∧ 0 < at' f p)
    (gl : o.toList.length + others.length ≤ left.length) (gb : Bd C (o.toList ++ others)) (gpb : ∀ f, o = some f → (at' f p).natAbs ≤ grow n B p) : BI w n B (p + 1) rows (found ++ o.toList) others := by
  subst hC
  have pf : ∀ f, o = some f → PRow w f ∧ piv f = p := fun f e => by
    have fl : f.length = w := gw f (by rw [e]; exact List.mem_append_left _ (List.mem_singleton.mpr rfl))
    obtain ⟨h1, h2⟩ := gp f e
    have pe : piv f = p := piv_eq (by omega) h1 (.inr (by omega))
    exact ⟨⟨fl, by omega, by rw [pe]; exact h2⟩, pe⟩
  have om : ∀ f, f ∈ o.toList → o = some f := fun f hf => by
    cases o with
    | none => cases hf
    | some g => rw [List.mem_singleton.mp (show f ∈ [g] from hf)]
  have wN : Wd w ((found ++ o.toList) ++ others) := fun r hr => by
    rw [List.append_assoc] at hr
    rcases List.mem_append.mp hr with hr | hr
    · exact h.ech.wd r hr
    · exact gw r hr
  refine ⟨?_, ⟨fun r hr => ?_, ?_⟩, fun r hr => ?_, fun r hr => gw r (List.mem_append_right _ hr), fun r hr i hi => gz r hr i (by omega), ?_, fun r hr => ?_, ?_, ?_⟩
  · refine Eqv.trans hw wN h.eqv ⟨fun r hr => ?_, fun r hr => ?_⟩
    · rcases List.mem_append.mp hr with hr | hr
      · exact .mem wN (List.mem_append_left _ (List.mem_append_left _ hr))
      · refine (ge.1 r hr).mono fun x hx => ?_
        rw [List.append_assoc]; exact List.mem_append_right _ hx
    · rw [List.append_assoc] at hr
      have wO : Wd w (found ++ left) := fun r hr => by
        rcases List.mem_append.mp hr with hr | hr
        · exact h.ech.wd r hr
        · exact h.wd r hr
      rcases List.mem_append.mp hr with hr | hr
      · exact .mem wO (List.mem_append_left _ hr)
      · exact (ge.2 r hr).mono fun x hx => List.mem_append_right _ hx
  · rcases List.mem_append.mp hr with hr | hr
    · exact h.ech.row r hr
    · exact (pf r (om r hr)).1
  · rw [List.pairwise_append]
    refine ⟨h.ech.asc, ?_, fun a ha b hb => ?_⟩
    · cases o with
      | none => exact .nil
      | some g => exact List.pairwise_singleton _ _
    · rw [(pf b (om b hb)).2]; exact h.low a ha
  · rcases List.mem_append.mp hr with hr | hr
    · have := h.low r hr; omega
    · rw [(pf r (om r hr)).2]; omega
  · intro r hr i
    rw [List.append_assoc] at hr
    rcases List.mem_append.mp hr with hr | hr
    · exact Nat.le_trans (h.bd r (List.mem_append_left _ hr) i) (grow_mono hB p)
    · exact gb r hr i
  · rcases List.mem_append.mp hr with hr | hr
    · obtain ⟨q, h1, h2⟩ := h.pb r hr
      exact ⟨q, by omega, h2⟩
    · refine ⟨p, by omega, ?_⟩
      rw [(pf r (om r hr)).2]; exact gpb r (om r hr)
  · rw [List.length_append]
    have : o.toList.length ≤ 1 := by cases o <;> simp
    have := h.fl
    omega
  · have := h.ll; omega
theorem bi_end {w n B : Nat} {rows found left : List (List Int)} (hw : Wd w rows) (h : BI w n B w rows found left) : Eqv w rows found := by
  have z : ∀ r ∈ left, r = List.replicate w 0 := fun r hr => by
    apply ext_at
    · rw [h.wd r hr, List.length_replicate]
    · intro i
      rw [at_zero]
      by_cases hi : i < w
      · exact h.z r hr i hi
      · unfold at'; rw [List.getElem?_eq_none (by rw [h.wd r hr]; omega)]; rfl
  refine Eqv.trans hw h.ech.wd h.eqv ⟨fun r hr => ?_, fun r hr => ?_⟩
  · rcases List.mem_append.mp hr with hr | hr
    · exact .mem h.ech.wd hr
    · rw [z r hr]; exact .zero
  · exact (Sp.mem h.ech.wd hr).mono fun x hx => List.mem_append_left _ hx
end Lat
set_option maxHeartbeats 4000000
namespace My
open PySem L2
/-- all but what stands at D is as it was -/
def SameX (D : Addr) (H H' : Hp) : Prop := ∀ b o, b ≠ D → H b = some o → H' b = some o
/-- a value that is a tuple of ints -/
def IsRow (K : PySem.W.Frag) (H : Hp) (v : V) (r : List Int) : Prop := ∃ a, v = .ref a ∧ SqT K H a (r.map V.int)
theorem seqT {K : PySem.W.Frag} {H H' : Hp} {a : Addr} {xs : List V} (e : Same H H') (h : SqT K H a xs) : SqT K H' a xs := by
  rcases h with (h | ⟨o, h⟩) | h
  · exact .inl (.inl (e _ _ h))
  · exact .inl (.inr ⟨o, e _ _ h⟩)
  · exact .inr h
theorem seqTX {K : PySem.W.Frag} {H H' : Hp} {D a : Addr} {xs l : List V} (hD : H D = some (.lst l)) (e : SameX D H H') (h : SqT K H a xs) : SqT K H' a xs := by
  rcases h with (h | ⟨o, h⟩) | h
  · exact .inl (.inl (e _ _ (fun q => by subst q; rw [hD] at h; cases h) h))
  · exact .inl (.inr ⟨o, e _ _ (fun q => by subst q; rw [hD] at h; cases h) h⟩)
  · exact .inr h
theorem IsRow.same {K : PySem.W.Frag} {H H' : Hp} {v : V} {r : List Int} (e : Same H H') (h : IsRow K H v r) : IsRow K H' v r :=
  let ⟨a, e1, h1⟩ := h; ⟨a, e1, seqT e h1⟩
/-- what a thing looks like in the heap, whatever happens to a list at D -/
structure Stab (D : Addr) {β : Type} (R : Hp → V → β → Prop) : Prop where
  st : ∀ (H H' : Hp) (v : V) (b : β) (l : List V), H D = some (.lst l) → SameX D H H' → R H v b → R H' v b
theorem stab_row {D : Addr} {K : PySem.W.Frag} : Stab D (IsRow K) := ⟨fun H H' v b l hD e ⟨a, e1, h1⟩ => ⟨a, e1, seqTX hD e h1⟩⟩
def IsInt (_ : Hp) (v : V) (i : Int) : Prop := v = .int i
theorem stab_int {D : Addr} : Stab D IsInt := ⟨fun H H' v b l hD e h => h⟩
theorem Paired.imp {α β : Type} {F G : α → β → Prop} (f : ∀ a b, F a b → G a b) : ∀ {l₁ : List α} {l₂ : List β}, Paired F l₁ l₂ → Paired G l₁ l₂
  | _, _, .nil => .nil
  | _, _, .cons r t => .cons (f _ _ r) (Paired.imp f t)
theorem Paired.snoc {α β : Type} {F : α → β → Prop} {x : α} {y : β} (h : F x y) : ∀ {l₁ : List α} {l₂ : List β}, Paired F l₁ l₂ → Paired F (l₁ ++ [x]) (l₂ ++ [y])
  | _, _, .nil => .cons h .nil
  | _, _, .cons r t => .cons r (Paired.snoc h t)
theorem paired_len {α β : Type} {F : α → β → Prop} : ∀ {l₁ : List α} {l₂ : List β}, Paired F l₁ l₂ → l₁.length = l₂.length
  | _, _, .nil => rfl
  | _, _, .cons _ t => congrArg Nat.succ (paired_len t)
theorem paired_int {H : Hp} : ∀ {l₁ : List V} {l₂ : List Int}, Paired (IsInt H) l₁ l₂ → l₁ = l₂.map V.int
  | _, _, .nil => rfl
  | _, _, .cons r t => by rw [show _ = V.int _ from r, paired_int t]; rfl
/-- the items that turns keep, so far -/
def outs {β : Type} (st : Nat → Option β) (n : Nat) : List β := (List.range n).filterMap st
theorem outs_succ {β : Type} (st : Nat → Option β) (n : Nat) : outs st (n + 1) = outs st n ++ (match st n with | some c => [c] | none => []) := by
  unfold outs
  rw [List.range_succ, List.filterMap_append]
  congr 1
  cases h : st n <;> simp [h]
theorem outs_len {β : Type} (st : Nat → Option β) (n : Nat) : (outs st n).length ≤ n := by
  unfold outs
  exact Nat.le_trans (List.length_filterMap_le _ _) (by simp)
/-- a comprehension whose turns change nothing that stood -/
theorem lcp {β : Type} {J : It} {n : Nat} {G : Hp → Prop} {Y : Nat → Hp → V → Hp → Prop} (w : Walk J n G Y) {g : TG} {tt : TT} {te : TE} {vs : List Nat} {σ : St} {H1 : Hp} {D : Addr} {Qd : Hp → Prop}
    (R : Hp → V → β → Prop) (S : Stab D R) (st : Nat → Option β) (hn : n ≤ 1000000) (hD : H1 D = none) (hG : ∀ H, Same H1 H → G H)
    (hs : ∀ i x H H', i < n → Same H1 H → Y i H x H' → ∀ (k1 : V → Hp → Prop) (k0 : Hp → Prop), (∀ y H4 c, Same H H4 → st i = some c → R H4 y c → k1 y H4) → (∀ H3, Same H H3 → st i = none → k0 H3) →
      g x (wipe σ vs) H' fun σ2 H2 => wipe σ2 vs = wipe σ vs ∧ tt σ2 H2 fun b H3 => if b = true then te σ2 H3 k1 else k0 H3)
    (hd : ∀ H ys, Same H1 H → H D = some (.lst ys) → Paired (R H) ys (outs st n) → Qd H) :
    ∃ W : Nat → Nat → Hp → Prop, (∃ m, W 0 m (upd H1 D (.lst []))) ∧ ∀ i m H, W i m H →
      (J.stop i H ∧ Qd H) ∨ (J.go i H ∧ ∃ Nx : Hp → Prop, (∀ H', Nx H' → ∃ m', m' < m ∧ W (i + 1) m' H') ∧ ∀ x H', J.yld i H x H' → g x (wipe σ vs) H' fun σ2 H2 => wipe σ2 vs = wipe σ vs ∧ tt σ2 H2 fun b H3 =>
        if b = true then te σ2 H3 fun y H4 => ∃ acc, H4 D = some (.lst acc) ∧ acc.length < sizeLine ∧ Nx (upd H4 D (.lst (acc ++ [y]))) else Nx H3) := by
  refine lc_it w (fun i H => Same H1 H ∧ ∃ ys, H D = some (.lst ys) ∧ Paired (R H) ys (outs st i)) ⟨?_, [], upd_same, .nil⟩ (fun i H _ p => hG H p.1) ?_ (fun H ⟨a, ys, b, c⟩ => hd H ys a b c)
  · intro b o e
    rw [upd_ne (ne_of_none e hD)]
    exact e
  · intro i x H H' hi ⟨s1, ys, hy, pr⟩ y
    refine hs i x H H' hi s1 y _ _ (fun v H4 c s4 ec r => ⟨ys, s4 _ _ hy, ?_, ?_, ys ++ [v], upd_same, ?_⟩) fun H3 s3 e0 => ?_
    · have := paired_len pr
      have := outs_len st i
      rw [sizeLine_eq]; omega
    · intro b o e
      rw [upd_ne (ne_of_none e hD)]
      exact s4 _ _ (s1 _ _ e)
    · have sx : SameX D H (upd H4 D (.lst (ys ++ [v]))) := fun b o hb e => by rw [upd_ne hb]; exact s4 _ _ e
      have sx4 : SameX D H4 (upd H4 D (.lst (ys ++ [v]))) := fun b o hb e => by rw [upd_ne hb]; exact e
      rw [outs_succ, ec]
      exact Paired.snoc (S.st H4 _ v c ys (s4 _ _ hy) sx4 r) (Paired.imp (fun a b q => S.st H _ a b ys hy sx q) pr)
    · refine ⟨fun b o e => s3 _ _ (s1 _ _ e), ys, s3 _ _ hy, ?_⟩
      rw [outs_succ, e0, List.append_nil]
      exact Paired.imp (fun a b q => S.st H _ a b ys hy (fun b o _ e => s3 _ _ e) q) pr
/-- zip of two tuples, walked -/
theorem walk_zipT {K : PySem.W.Frag} {a b : Addr} {xs ys : List V} {n : Nat} (hn : n = min xs.length ys.length) : Walk (RZ.ItzT K a b) n (fun H => SqT K H a xs ∧ SqT K H b ys) (YPair (fun i => xs[i]?) (fun i => ys[i]?)) := by
  refine ⟨fun i H hi q => ⟨xs, ys, xs[i]'(by omega), ys[i]'(by omega), q.1, q.2, by simp [show i < xs.length by omega], by simp [show i < ys.length by omega]⟩, fun H q => ⟨xs, ys, q.1, q.2, by omega⟩, fun i H x H' _ q y => ?_⟩
  obtain ⟨T, u, v, e, hT, eH, h1, h2⟩ := y
  exact ⟨T, u, v, e, hT, eH, h1 xs q.1, h2 ys q.2⟩
end My
set_option maxHeartbeats 4000000
namespace My
open PySem L2 PyProof.Rows
/-- what the search for the least holds behind j numbers: nothing yet, or the least so far, twice -/
def Best (ns : List Int) (j : Nat) (b : Array Value) : Prop :=
  (j = 0 ∧ b = #[]) ∨ ∃ m t u, 0 < j ∧ b = #[.int m t, .int m u] ∧ m ∈ ns.take j ∧ ∀ a ∈ ns.take j, m ≤ a
theorem take_snoc {ns : List Int} {j : Nat} {n : Int} (h : ns[j]? = some n) : ns.take (j + 1) = ns.take j ++ [n] := by
  rw [List.take_add_one, h]; rfl
theorem minLoop {prog : Program} {w : World} {A : Around} {l I S : Addr} {vs : List Value} {ns : List Int} {R : Result → Shared → Prop} (hh : A.handled = none) (hlI : l ≠ I) (hSI : S ≠ I) (hlS : l ≠ S) (hv : IntsAre vs ns) (hpos : 0 < vs.length) :
    ∀ (r j : Nat) (h : Heap) (tk : Nat) (s : Shared) (b : Array Value) (c : Nat), vs.length - j = r → j ≤ vs.length → h.IsListIter I l j → h.IsList l vs.toArray → h.get? S = some (seqObj "list" b c) → Best ns j b →
      (∀ h' tk' m t, (∀ x o, x ≠ I → x ≠ S → h.get? x = some o → h'.get? x = some o) → m ∈ ns → (∀ a ∈ ns, m ≤ a) → R (.ok (.ret (.int m t))) { s with heap := h', toks := tk' }) →
      codeAny (model prog w) A (.builtin "min.loop" ⟨[.ref I, .type "int", .ref S], []⟩) R { s with heap := h, toks := tk } := by
  have nm : (toString "min" ++ toString ".loop" : String) = "min.loop" := by decide
  have W := Walks.list (prog := prog) (w := w) (A := A.in1) hh I l hlI vs.toArray
  have zs : vs.toArray.size = vs.length := List.size_toArray ..
  have ln := hv.length
  intro r
  induction r with
  | zero =>
    intro j h tk s b c hr hj it li gs be fin
    obtain rfl : j = vs.length := by omega
    refine codeAny_builtin PySem.F.entry_min_loop ?_
    rw [Around.under_plainId PySem.F.plain_min_loop _]
    show wpAny _ A.in1 (seqItems? (.ref S) >>= _) _ _ _
    refine wpAny_bind (wpAny_seqItems gs rfl ?_)
    show wpAny _ A.in1 (tryCatch (pyNext (.ref I)) _ >>= _) _ _ _
    refine wpAny_bind (wpAny_tryCatch (W.done _ _ _ ⟨by rw [zs]; exact it, li⟩ fun h' tk' kp => ?_))
    rcases be with ⟨e, _⟩ | ⟨m, t, u, _, rfl, m1, m2⟩
    · omega
    · rw [show ns.take vs.length = ns by rw [ln]; exact List.take_length ..] at m1 m2
      have gs' := kp S _ (by simpa using hSI) gs
      have sb := Heap.SameBut.update h' S (Obj.mapSeq fun _ => (#[] : Array Value))
      show wpAny _ A.in1 (updateSeq S (fun _ => #[]) >>= _) _ _ _
      refine wpAny_bind (wpAny_updateSeq gs' rfl (wpAny_bind (wpAny_letGo (wpAny_pure ?_))))
      exact fin _ _ m t (fun x o hx hs e => (sb.2 x hs).trans (kp x o (by simpa using hx) e)) m1 m2
  | succ r ih =>
    intro j h tk s b c hr hj it li gs be fin
    have hlt : j < vs.length := by omega
    refine codeAny_builtin PySem.F.entry_min_loop ?_
    rw [Around.under_plainId PySem.F.plain_min_loop _]
    show wpAny _ A.in1 (seqItems? (.ref S) >>= _) _ _ _
    refine wpAny_bind (wpAny_seqItems gs rfl ?_)
    show wpAny _ A.in1 (tryCatch (pyNext (.ref I)) _ >>= _) _ _ _
    refine wpAny_bind (wpAny_tryCatch (W.item j _ _ _ (by rw [zs]; exact hlt) ⟨it, li⟩ fun v h' tk' hP st' kp => ?_))
    have ev : vs[j]? = some v := by simpa using hP
    obtain ⟨n, t0, rfl, en⟩ := hv.at j v ev
    have gs' := kp S _ (by simpa using hSI) gs
    show wpAny _ A.in1 (tryCatch (holding [_] (call (.type "int") [_])) _ >>= _) _ _ _
    refine wpAny_bind (wpAny_tryCatch (wpAny_holding (call_int_int ?_)))
    have nxt : ∀ (h2 : Heap) (tk2 : Nat) (b2 : Array Value) (c2 : Nat), (∀ x o, x ≠ S → h'.get? x = some o → h2.get? x = some o) → h2.get? S = some (seqObj "list" b2 c2) → Best ns (j + 1) b2 →
        codeAny (model prog w) A (.builtin "min.loop" ⟨[.ref I, .type "int", .ref S], []⟩) R { s with heap := h2, toks := tk2 } := fun h2 tk2 b2 c2 kp2 g2 be2 => by
      refine ih (j + 1) h2 tk2 s b2 c2 (by omega) hlt ?_ ?_ g2 be2 fun h3 tk3 m t kp3 => fin h3 tk3 m t fun x o hx hs e => kp3 x o hx hs (kp2 x o hs (kp x o (by simpa using hx) e))
      · obtain ⟨o, q, r1⟩ := st'.1
        exact ⟨o, kp2 _ _ hSI.symm q, r1⟩
      · exact st'.2.at fun o e => kp2 _ _ hlS e
    have upd' : ∀ (h2 : Heap) (b2 b3 : Array Value) (c2 : Nat), h2.get? S = some (seqObj "list" b2 c2) → ∃ c3, (h2.update S (Obj.mapSeq fun _ => b3)).get? S = some (seqObj "list" b3 c3) := fun h2 b2 b3 c2 g2 => ⟨_, get?_update_seq g2 fun _ => b3⟩
    rcases be with ⟨rfl, rfl⟩ | ⟨m, t, u, jp, rfl, m1, m2⟩
    · obtain ⟨c3, g3⟩ := upd' h' #[] #[.int n t0, .int n t0] c gs'
      show wpAny _ A.in1 (updateSeq S (fun _ => #[.int n t0, .int n t0]) >>= _) _ _ _
      refine wpAny_bind (wpAny_updateSeq gs' rfl ?_)
      rw [nm]
      refine wpAny_pure ⟨plainId_quiet PySem.F.plain_min_loop _, nxt _ _ _ c3 (fun x o hx e => ((Heap.SameBut.update h' S _).2 x hx).trans e) g3 (.inr ⟨n, t0, t0, by omega, rfl, ?_, ?_⟩)⟩
      · rw [take_snoc en]; simp
      · rw [take_snoc en]; simp
    · show wpAny _ A.in1 (tryCatch (holding [_, _] (richCompare .Lt _ _ >>= _)) _ >>= _) _ _ _
      refine wpAny_bind (wpAny_tryCatch (wpAny_holding (wpAny_bind (CmpOf.ints_lt (prog := prog) (w := w) (A := A.in1) (P := fun (i : Nat) v => ∃ t, v = .int (if i = 0 then n else m) t) (fun i => if i = 0 then n else m) (fun i v h => h) 0 1 _ _ _ _ _ ⟨t0, rfl⟩ ⟨u, rfl⟩ ?_))))
      refine wpAny_bind (wpAny_holding (wpAny_truthy_bool (wpAny_bind (wpAny_letGo (wpAny_pure ?_)))))
      by_cases lt : n < m
      · obtain ⟨c3, g3⟩ := upd' h' _ #[.int n t0, .int n t0] c gs'
        simp only [if_true, show (1 : Nat) ≠ 0 from by decide, if_false, lt, decide_true]
        refine wpAny_bind (wpAny_updateSeq gs' rfl (wpAny_bind (wpAny_letGo ?_)))
        rw [nm]
        refine wpAny_pure ⟨plainId_quiet PySem.F.plain_min_loop _, nxt _ _ _ c3 (fun x o hx e => ((Heap.SameBut.update h' S _).2 x hx).trans e) g3 (.inr ⟨n, t0, t0, by omega, rfl, ?_, ?_⟩)⟩
        · rw [take_snoc en]; simp
        · rw [take_snoc en]
          intro a ha
          rcases List.mem_append.mp ha with ha | ha
          · have := m2 a ha; omega
          · rw [List.mem_singleton.mp ha]; exact Int.le_refl n
      · simp only [if_true, show (1 : Nat) ≠ 0 from by decide, if_false, lt, decide_false, Bool.false_eq_true]
        refine wpAny_bind (wpAny_letGo ?_)
        rw [nm]
        refine wpAny_pure ⟨plainId_quiet PySem.F.plain_min_loop _, nxt _ _ _ c (fun x o hx e => e) gs' (.inr ⟨m, t, u, by omega, rfl, ?_, ?_⟩)⟩
        · rw [take_snoc en]; exact List.mem_append_left _ m1
        · rw [take_snoc en]
          intro a ha
          rcases List.mem_append.mp ha with ha | ha
          · exact m2 a ha
          · rw [List.mem_singleton.mp ha]; omega
theorem minCall {prog : Program} {w : World} {A : Around} {E : Value → Shared → Prop} {s : Shared} {l : Addr} {vs : List Value} {ns : List Int} {Q : Value → Shared → Prop} (hh : A.handled = none) (li : s.heap.IsList l vs.toArray) (hv : IntsAre vs ns) (hpos : 0 < ns.length)
    (fin : ∀ h' tk' m t, (∀ x o, s.heap.get? x = some o → h'.get? x = some o) → m ∈ ns → (∀ a ∈ ns, m ≤ a) → Q (.int m t) { s with heap := h', toks := tk' }) :
    wpAny (model prog w) A (call (.builtin "min") [.ref l] [(Str.ofString "key", .type "int")]) Q E s := by
  have nm : (toString "min" ++ toString ".loop" : String) = "min.loop" := by decide
  have ln := hv.length
  obtain ⟨ol, gl, rl⟩ := id li
  have ll : l < s.heap.objs.size := Heap.lt_size gl
  refine kmb_tree PySem.F.kind_min PySem.F.plain_min PySem.F.entry_min (kmb_min_key _ _) ?_
  show wpAny _ A.in1 (Builtin.Builtins.bindParams "min" ["key", "default"] 0 ⟨[], [(Str.ofString "key", .type "int")]⟩ >>= _) _ _ s
  refine wpAny_bind (wpAny_of_eq (show Builtin.Builtins.bindParams "min" ["key", "default"] 0 ⟨[], [(Str.ofString "key", .type "int")]⟩ = pure [some (.type "int"), none] from rfl) (wpAny_bind (wpAny_pure (wpAny_bind (wpAny_pyIter_list li (wpAny_bind (wpAny_newList ?_ (Nat.zero_le _))))))))
  rw [nm]
  refine wpAny_pure ⟨plainId_quiet PySem.F.plain_min_loop _, ?_⟩
  have sz : (s.heap.push { cls := .type "list_iterator", data := .fields #[.ref l, .int 0 0] }).objs.size = s.heap.objs.size + 1 := size_push' ..
  have old : ∀ x o, s.heap.get? x = some o → ((s.heap.push { cls := .type "list_iterator", data := .fields #[.ref l, .int 0 0] }).push (seqObj "list" #[] 0)).get? x = some o := fun x o e => Heap.get?_push_of_some _ (Heap.get?_push_of_some _ e)
  refine minLoop (l := l) (I := s.heap.objs.size) (S := (s.heap.push { cls := .type "list_iterator", data := .fields #[.ref l, .int 0 0] }).objs.size) hh (Nat.ne_of_lt ll) (by rw [sz]; exact Nat.succ_ne_self _) (by rw [sz]; exact Nat.ne_of_lt (Nat.lt_succ_of_lt ll)) hv (by omega) _ 0 _ _ s #[] 0 rfl (Nat.zero_le _) ⟨_, Heap.get?_push_of_some _ (Heap.get?_push_size _ rfl), rfl, rfl⟩ (li.at fun o e => old _ _ e) (Heap.get?_push_size _ rfl) (.inl ⟨rfl, rfl⟩) fun h' tk' m t kp m1 m2 => ?_
  exact fin h' tk' m t (fun x o e => kp x o (Nat.ne_of_lt (Heap.lt_size e)) (by rw [sz]; exact Nat.ne_of_lt (Nat.lt_succ_of_lt (Heap.lt_size e))) (old x o e)) m1 m2
/-- min(e, key=int) of a list of ints -/
def tMinInt (K : PySem.W.Frag) (ta : TA) : TE := fun σ H Q => ta σ H fun vs H1 => ∃ (a : Addr) (ns : List Int), vs = [.ref a] ∧ SqL K H1 a (ns.map V.int) ∧ 0 < ns.length ∧ ∀ m, m ∈ ns → (∀ y ∈ ns, m ≤ y) → Q (.int m) H1
theorem pe_minInt {X : Cx} {e : Expr} {ta : TA} {p q kp pos : Pos} (hc : X.calm = true) (hg : Gl X "min") (hm : X.mg "min" = none) (hg2 : Gl X "int") (hm2 : X.mg "int" = none) (ha : PA X [e] ta)
    (h1 : backTo pos (starEach [e] X.env) = (false, eval e X.env) :: backTo pos (starEach [] X.env) := by rfl) (h2 : (backTo pos (starEach [e] X.env)).any (·.1) = false := by rfl) :
    PE X (.Call (.Name "min" p) [e] [⟨some "key", .Name "int" q, kp⟩] pos) (tMinInt X.K ta) := by
  refine ⟨fun pins s σ H Q I h => ?_⟩
  refine wpAny_Call_Name_kw (ld_blt I hg hm (show bootBuiltins "min" = some (.builtin "min") by decide +kernel) (callWith_kw ?_ h1 h2))
  refine thn (ha.run pos pins s σ H _ I h) fun us s1 ⟨vs, H1, I1, r1, q1⟩ => ?_
  obtain ⟨a, ns, rfl, hl, hp, k⟩ := q1
  refine kws_cons (ld_blt I1 hg2 hm2 (show bootBuiltins "int" = some (.type "int") by decide +kernel) (kws_nil ?_))
  obtain ⟨its, rv, pl, _⟩ := I1.list hl
  rw [Vals.ref1 r1]
  refine minCall (I1.ok.hd hc) pl.isList rv.ints hp fun h' tk' m t kp' m1 m2 => ?_
  exact ⟨.int m, H1, I1.kept kp', ⟨_, rfl⟩, k m m1 m2⟩
end My
set_option maxHeartbeats 4000000
namespace My
open PySem L2
open Lat
/-- built-in names that the text leaves alone -/
structure Bn (mg : Str → Option Value) : Prop where
  zip : mg "zip" = none
  tuple : mg "tuple" = none
  list : mg "list" = none
  dict : mg "dict" = none
  abs : mg "abs" = none
  int : mg "int" = none
  bool : mg "bool" = none
  str : mg "str" = none
  sum : mg "sum" = none
  len : mg "len" = none
  min : mg "min" = none
  max : mg "max" = none
  all : mg "all" = none
  any : mg "any" = none
  isinstance : mg "isinstance" = none
  range : mg "range" = none
  repr : mg "repr" = none
  enumerate : mg "enumerate" = none
  sorted : mg "sorted" = none
/-- a def of the text, by its name and promise -/
structure Cal (P : Program) (w : World) (K : PySem.W.Frag) (mg : Str → Option Value) (base : Heap) (x : Str) (k : Nat) (ps : List Str) (sp : Sp) : Prop where
  ex : ∃ (f : Addr) (fd : FuncData), mg x = some (.ref f) ∧ PySem.W.keepIn K (.ref f) = true ∧ Binds K fd ps [] ∧ FnOk P w K mg base CX0 k f fd ps sp
section
variable {X : Cx}
theorem op_mulOk : OpR X (binaryOp .Mult) (rI IntMulOk fun i j => .int (i * j)) := opI fun _ _ _ _ _ _ _ hc q => PyProof.Rows.mul_int q hc
def CDivL (_ j : Int) : Prop := j ≠ 0 ∧ j.natAbs.log2 < 9000
theorem op_fdivL : OpR X (binaryOp .FloorDiv) (rI CDivL fun i j => .int (i.fdiv j)) := opI fun _ _ _ _ _ _ _ hc q => PyProof.Rows.floordiv_int hc.1 q (.inl (PyProof.noPylong_of_log2 hc.2))
end
section
variable {X : Cx} {K : PySem.W.Frag} (h : X.K = K)
include h
theorem ix_tupK : IxR X (rIxT K) := by subst h; exact ix_tup
theorem ix_listK : IxR X (rIxL K) := by subst h; exact ix_list
theorem sl_listK : SlR X (rSlL K) := by subst h; exact sl_list
theorem sl_tupK : SlR X (rSlT K) := by subst h; exact sl_tup
theorem op_catTK : OpR X (binaryOp .Add) (rCatT K) := by subst h; exact op_catT
theorem op_in_seqK : OpR X (compareOp .In) (rIn K false) := by subst h; exact op_in_seq
theorem op_notIn_seqK : OpR X (compareOp .NotIn) (rIn K true) := by subst h; exact op_notIn_seq
theorem op_eqDK (hu : X.A.units + 64 < cLine) : OpR X (compareOp .Eq) (rEqD K) := by subst h; exact op_eqD hu
theorem op_neDK (hu : X.A.units + 64 < cLine) : OpR X (compareOp .NotEq) (rNeD K) := by subst h; exact op_neD hu
theorem mt_indexK : MtR X "list.index" (rIndex K) := by subst h; exact mt_index
theorem cr_sumK (hc : X.calm = true) : CallR X (.builtin "sum") (rSum K) := by subst h; exact cr_sum hc
theorem cr_allK (hc : X.calm = true) : CallR X (.builtin "all") (rAll K) := by subst h; exact cr_all hc
theorem cr_anyK (hc : X.calm = true) : CallR X (.builtin "any") (rAny K) := by subst h; exact cr_any hc
theorem call_isiX : CallR X (.builtin "isinstance") (rIsi K) := by subst h; exact call_isi
theorem call_isiTX : CallR X (.builtin "isinstance") (rIsiT K) := by subst h; exact call_isiT
def rTupOf (K : PySem.W.Frag) : List V → Hp → VK → Prop := fun xs H Q => ∃ p ys, xs = [.ref p] ∧ ((SqL K H p ys ∧ ∀ l, H l = none → Q (.ref l) (upd H l (.tup ys))) ∨ (SqT K H p ys ∧ Q (.ref p) H))
theorem call_tuple_ofK : CallR X (.type "tuple") (rTupOf K) := by subst h; exact call_tuple_of
def rListOf (K : PySem.W.Frag) : List V → Hp → VK → Prop := fun xs H Q => ∃ p ys, xs = [.ref p] ∧ (SqL K H p ys ∨ SqT K H p ys) ∧ ∀ l, H l = none → Q (.ref l) (upd H l (.lst ys))
theorem call_list_ofK : CallR X (.type "list") (rListOf K) := by subst h; exact call_list_of
end
theorem at_map {r : List Int} {i : Nat} (h : i < r.length) : (r.map V.int)[i]? = some (V.int (at' r i)) := by
  unfold at'
  rw [List.getElem?_map, List.getElem?_eq_getElem h]; rfl
section
variable {K : PySem.W.Frag} {a b : Addr}
theorem walk_zipTI {xs ys : List Int} {n : Nat} (hn : n = min xs.length ys.length) : Walk (RZ.ItzT K a b) n (fun H => SqT K H a (xs.map V.int) ∧ SqT K H b (ys.map V.int)) (fun i H v H' => ∃ T, v = .ref T ∧ H T = none ∧ H' = upd H T (.tup [.int (at' xs i), .int (at' ys i)])) := by
  refine (walk_zipT (xs := xs.map V.int) (ys := ys.map V.int) (n := n) (by rw [List.length_map, List.length_map]; exact hn)).mono (fun H h => h) fun i H v H' hi _ ⟨T, x, y, e, hT, eH, h1, h2⟩ => ?_
  have h1' : (xs.map V.int)[i]? = some x := h1
  have h2' : (ys.map V.int)[i]? = some y := h2
  rw [at_map (by omega)] at h1' h2'
  cases h1'; cases h2'
  exact ⟨T, e, hT, eH⟩
theorem walk_zipLI {xs ys : List Int} {n : Nat} (hn : n = min xs.length ys.length) : Walk (Itz K a b) n (fun H => SqL K H a (xs.map V.int) ∧ SqL K H b (ys.map V.int)) (fun i H v H' => ∃ T, v = .ref T ∧ H T = none ∧ H' = upd H T (.tup [.int (at' xs i), .int (at' ys i)])) := by
  refine (walk_zip (xs := xs.map V.int) (ys := ys.map V.int) (n := n) (by rw [List.length_map, List.length_map]; exact hn)).mono (fun H h => h) fun i H v H' hi _ ⟨T, x, y, e, hT, eH, h1, h2⟩ => ?_
  have h1' : (xs.map V.int)[i]? = some x := h1
  have h2' : (ys.map V.int)[i]? = some y := h2
  rw [at_map (by omega)] at h1' h2'
  cases h1'; cases h2'
  exact ⟨T, e, hT, eH⟩
theorem walk_tupI {r : List Int} : Walk (Itt K a) r.length (fun H => SqT K H a (r.map V.int)) (fun i H v H' => H' = H ∧ v = .int (at' r i)) := by
  have h := (walk_tup (K := K) (a := a) (xs := r.map V.int))
  rw [List.length_map] at h
  refine h.mono (fun H h => h) fun i H v H' hi _ ⟨e, h1⟩ => ⟨e, ?_⟩
  rw [at_map hi] at h1
  exact (Option.some.inj h1).symm
theorem walk_listI {r : List Int} : Walk (Itl K a) r.length (fun H => SqL K H a (r.map V.int)) (fun i H v H' => H' = H ∧ v = .int (at' r i)) := by
  have h := (walk_list (K := K) (a := a) (xs := r.map V.int))
  rw [List.length_map] at h
  refine h.mono (fun H h => h) fun i H v H' hi _ ⟨e, h1⟩ => ⟨e, ?_⟩
  rw [at_map hi] at h1
  exact (Option.some.inj h1).symm
end
/-- a list, a tuple of rows -/
def IsRows (K : PySem.W.Frag) (H : Hp) (a : Addr) (rs : List (List Int)) : Prop := ∃ xs, SqL K H a xs ∧ Paired (IsRow K H) xs rs
def IsRowsT (K : PySem.W.Frag) (H : Hp) (a : Addr) (rs : List (List Int)) : Prop := ∃ xs, SqT K H a xs ∧ Paired (IsRow K H) xs rs
theorem IsRows.same {K : PySem.W.Frag} {H H' : Hp} {a : Addr} {rs : List (List Int)} (e : Same H H') (h : IsRows K H a rs) : IsRows K H' a rs :=
  let ⟨xs, h1, h2⟩ := h; ⟨xs, e.seq h1, Paired.imp (fun _ _ q => q.same e) h2⟩
theorem IsRowsT.same {K : PySem.W.Frag} {H H' : Hp} {a : Addr} {rs : List (List Int)} (e : Same H H') (h : IsRowsT K H a rs) : IsRowsT K H' a rs :=
  let ⟨xs, h1, h2⟩ := h; ⟨xs, seqT e h1, Paired.imp (fun _ _ q => q.same e) h2⟩
theorem paired_get {α β : Type} {F : α → β → Prop} : ∀ {l₁ : List α} {l₂ : List β} {i : Nat} {x : α}, Paired F l₁ l₂ → l₁[i]? = some x → ∃ y, l₂[i]? = some y ∧ F x y
  | _, _, _, _, .nil, e => by simp at e
  | _, _, 0, _, .cons r _, e => by simp at e; subst e; exact ⟨_, rfl, r⟩
  | _, _, i + 1, x, .cons _ t, e => by
    obtain ⟨y, h1, h2⟩ := paired_get (i := i) (x := x) t (by simpa using e)
    exact ⟨y, by simpa using h1, h2⟩
theorem paired_get' {α β : Type} {F : α → β → Prop} : ∀ {l₁ : List α} {l₂ : List β} {i : Nat} {y : β}, Paired F l₁ l₂ → l₂[i]? = some y → ∃ x, l₁[i]? = some x ∧ F x y
  | _, _, _, _, .nil, e => by simp at e
  | _, _, 0, _, .cons r _, e => by simp at e; subst e; exact ⟨_, rfl, r⟩
  | _, _, i + 1, y, .cons _ t, e => by
    obtain ⟨x, h1, h2⟩ := paired_get' (i := i) (y := y) t (by simpa using e)
    exact ⟨x, by simpa using h1, h2⟩
/-- what is made by turns that all keep -/
theorem outs_map {β : Type} (f : Nat → β) (n : Nat) : outs (fun i => some (f i)) n = (List.range n).map f := by
  unfold outs
  induction n with
  | zero => rfl
  | succ n ih => rw [List.range_succ, List.filterMap_append, List.map_append, ih]; rfl
theorem range_map_less {a b : List Int} {t : Int} (h : a.length = b.length) : (List.range a.length).map (fun i => at' a i - t * at' b i) = less a t b := by
  apply ext_at
  · rw [List.length_map, List.length_range, less_length, ← h]; exact (Nat.min_self _).symm
  · intro i
    rw [at_less h]
    by_cases hi : i < a.length
    · show ((List.range a.length).map _)[i]?.getD 0 = _
      rw [List.getElem?_map, List.getElem?_range hi]; rfl
    · show ((List.range a.length).map _)[i]?.getD 0 = _
      rw [List.getElem?_eq_none (by simpa using hi)]
      unfold at'
      rw [List.getElem?_eq_none (by omega), List.getElem?_eq_none (by omega)]; simp
theorem same_upd {H : Hp} {a : Addr} {o : HO} (h : H a = none) : Same H (upd H a o) := fun c u e => by rw [upd_ne (ne_of_none e h)]; exact e
theorem at_mem {r : List Int} {i : Nat} (h : i < r.length) : at' r i ∈ r := by
  unfold at'; rw [List.getElem?_eq_getElem h]; exact List.getElem_mem h
/-- a while by what holds between turns and a number that falls -/
theorem while_k {c : TT} {tb : TS} {D : Ends} {σ : L2.St} {H : Hp} (Pv : L2.St → Hp → Prop) (μ : L2.St → Hp → Nat) (h0 : Pv σ H)
    (hs : ∀ σ H, Pv σ H → ∀ KT : Hp → Prop, (∀ H1, tb { D with nx := fun σ' H' => Pv σ' H' ∧ μ σ' H' < μ σ H, ct := fun σ' H' => Pv σ' H' ∧ μ σ' H' < μ σ H, bk := D.nx } σ H1 → KT H1) →
      c σ H fun b H1 => if b = true then KT H1 else D.nx σ H1) : tWhile c tb D σ H := by
  refine ⟨fun m σ H => m = μ σ H ∧ Pv σ H, ⟨_, rfl, h0⟩, ?_⟩
  rintro m σ H ⟨rfl, p⟩
  exact hs σ H p _ fun H1 q => ⟨_, fun σ' H' ⟨p', l⟩ => ⟨_, l, rfl, p'⟩, q⟩
theorem range_map_val {a b : List Int} (h : a.length = b.length) : ((List.range a.length).map fun i => at' a i * at' b i).sum = val a b := by
  unfold val
  congr 1
  apply List.ext_getElem
  · rw [List.length_map, List.length_range, List.length_zipWith, ← h]; exact (Nat.min_self _).symm
  · intro i h1 h2
    rw [List.length_map, List.length_range] at h1
    rw [List.getElem_map, List.getElem_range, List.getElem_zipWith]
    unfold at'
    rw [List.getElem?_eq_getElem h1, List.getElem?_eq_getElem (by omega)]; rfl
/-- a number that any other may be multiplied by -/
def IntMulSmall (x : Int) : Prop := Builtin.Int.intBits x ≤ 64
theorem IntMulSmall.ok {x y : Int} (h : IntMulSmall x) : IntMulOk x y := .of_left h
theorem IntMulSmall.ok' {x y : Int} (h : IntMulSmall x) : IntMulOk y x := .of_right h
theorem small_of {x : Int} (h1 : -(2 ^ 64) < x) (h2 : x < 2 ^ 64) : IntMulSmall x := intBits_le_64 h1 h2
theorem while_m {c : TT} {tb : TS} {D : Ends} {σ : L2.St} {H : Hp} (W : Nat → L2.St → Hp → Prop) (m0 : Nat) (h0 : W m0 σ H)
    (hs : ∀ m σ H, W m σ H → ∀ KT : Hp → Prop, (∀ H1, tb { D with nx := fun σ' H' => ∃ m', m' < m ∧ W m' σ' H', ct := fun σ' H' => ∃ m', m' < m ∧ W m' σ' H', bk := D.nx } σ H1 → KT H1) →
      c σ H fun b H1 => if b = true then KT H1 else D.nx σ H1) : tWhile c tb D σ H := by
  refine ⟨W, ⟨m0, h0⟩, ?_⟩
  intro m σ H p
  exact hs m σ H p _ fun H1 q => ⟨_, fun σ' H' ⟨m', l, p'⟩ => ⟨m', l, p'⟩, q⟩
/-- a list of rows, walked -/
theorem walk_rows {K : PySem.W.Frag} {a : Addr} {H0 : Hp} {xs : List V} {rs : List (List Int)} (pr : Paired (IsRow K H0) xs rs) : Walk (Itl K a) rs.length (fun H => SqL K H a xs ∧ Same H0 H) (fun i H x H' => H' = H ∧ ∃ r, rs[i]? = some r ∧ IsRow K H x r) := by
  have h := walk_list (K := K) (a := a) (xs := xs)
  rw [paired_len pr] at h
  refine h.mono (fun H h => h.1) fun i H v H' hi h ⟨e, h1⟩ => ⟨e, ?_⟩
  obtain ⟨y, h2, h3⟩ := paired_get pr h1
  exact ⟨y, h2, h3.same h.2⟩
theorem walk_rowsT {K : PySem.W.Frag} {a : Addr} {H0 : Hp} {xs : List V} {rs : List (List Int)} (pr : Paired (IsRow K H0) xs rs) : Walk (Itt K a) rs.length (fun H => SqT K H a xs ∧ Same H0 H) (fun i H x H' => H' = H ∧ ∃ r, rs[i]? = some r ∧ IsRow K H x r) := by
  have h := walk_tup (K := K) (a := a) (xs := xs)
  rw [paired_len pr] at h
  refine h.mono (fun H h => h.1) fun i H v H' hi h ⟨e, h1⟩ => ⟨e, ?_⟩
  obtain ⟨y, h2, h3⟩ := paired_get pr h1
  exact ⟨y, h2, h3.same h.2⟩
theorem outs_filter {α : Type} (q : α → Bool) (rs : List α) : outs (fun i => (rs[i]?).bind fun r => if q r = true then some r else none) rs.length = rs.filter q := by
  have key : ∀ n, n ≤ rs.length → outs (fun i => (rs[i]?).bind fun r => if q r = true then some r else none) n = (rs.take n).filter q := by
    intro n
    induction n with
    | zero => intro _; rfl
    | succ n ih =>
      intro h
      rw [outs_succ, ih (by omega), List.take_add_one, List.filter_append, List.getElem?_eq_getElem (by omega)]
      congr 1
      show _ = [rs[n]].filter q
      by_cases c : q rs[n] = true
      · simp [c]
      · simp [c]
  rw [key _ (Nat.le_refl _), List.take_length]
theorem outs_mapG {α β : Type} (f : α → β) (rs : List α) : outs (fun i => (rs[i]?).map f) rs.length = rs.map f := by
  have key : ∀ n, n ≤ rs.length → outs (fun i => (rs[i]?).map f) n = (rs.take n).map f := by
    intro n
    induction n with
    | zero => intro _; rfl
    | succ n ih =>
      intro h
      rw [outs_succ, ih (by omega), List.take_add_one, List.map_append, List.getElem?_eq_getElem (by omega)]
      rfl
  rw [key _ (Nat.le_refl _), List.take_length]
theorem cutV_take {xs : List V} {k : Nat} (h : k ≤ xs.length) : cutV xs none (some (k : Int)) = xs.take k := by
  unfold cutV
  rw [HT.sIx_none, HT.sIx_nat, Nat.min_eq_left h, List.drop_zero, Nat.sub_zero]
theorem cutV_drop {xs : List V} {k : Nat} (h : k ≤ xs.length) : cutV xs (some (k : Int)) none = xs.drop k := by
  unfold cutV
  rw [HT.sIx_none, HT.sIx_nat, Nat.min_eq_left h]
  exact List.take_of_length_le (by rw [List.length_drop]; exact Nat.le_refl _)
theorem paired_take {α β : Type} {F : α → β → Prop} : ∀ (n : Nat) {l₁ : List α} {l₂ : List β}, Paired F l₁ l₂ → Paired F (l₁.take n) (l₂.take n)
  | 0, _, _, _ => .nil
  | _ + 1, _, _, .nil => .nil
  | n + 1, _, _, .cons r t => .cons r (paired_take n t)
theorem paired_drop {α β : Type} {F : α → β → Prop} : ∀ (n : Nat) {l₁ : List α} {l₂ : List β}, Paired F l₁ l₂ → Paired F (l₁.drop n) (l₂.drop n)
  | 0, _, _, r => r
  | _ + 1, _, _, .nil => .nil
  | n + 1, _, _, .cons _ t => paired_drop n t
theorem paired_app {α β : Type} {F : α → β → Prop} : ∀ {l₁ m₁ : List α} {l₂ m₂ : List β}, Paired F l₁ l₂ → Paired F m₁ m₂ → Paired F (l₁ ++ m₁) (l₂ ++ m₂)
  | _, _, _, _, .nil, s => s
  | _, _, _, _, .cons r t, s => .cons r (paired_app t s)
theorem paired_nil {α β : Type} {F : α → β → Prop} {l₁ : List α} {l₂ : List β} (h : Paired F l₁ l₂) : Paired F (l₁ ++ []) l₂ := by rw [List.append_nil]; exact h
theorem flat_rep {α : Type} (x : α) (n : Nat) : (List.replicate n [x]).flatten = List.replicate n x := by
  induction n with
  | zero => rfl
  | succ n ih => rw [List.replicate_succ, List.flatten_cons, ih]; rfl
theorem rep_int (n : Nat) (x : Int) : List.replicate n (V.int x) = (List.replicate n x).map V.int := by rw [List.map_replicate]
theorem first_at {m : Int} : ∀ {ns : List Int}, m ∈ ns → ∃ j : Nat, ns[j]? = some m ∧ ∀ i : Nat, i < j → ns[i]? ≠ some m
  | [], h => by cases h
  | x :: ns, h => by
    by_cases e : x = m
    · exact ⟨0, by simp [e], fun i hi => by omega⟩
    · obtain ⟨j, h1, h2⟩ := first_at (m := m) (ns := ns) (by rcases List.mem_cons.mp h with rfl | h; exact absurd rfl e; exact h)
      refine ⟨j + 1, by simpa using h1, fun i hi => ?_⟩
      cases i with
      | zero => simpa using e
      | succ i => simpa using h2 i (by omega)
theorem eqV_int (a b : Int) : eqV (.int a) (.int b) = decide (a = b) := by
  by_cases h : a = b
  · subst h; simp [eqV]
  · simp [eqV, h]
theorem small_len {n : Nat} (h : n ≤ 100000) : n ≤ sizeLine := by rw [sizeLine_eq]; omega
theorem mulOk_of {x y : Int} {m n : Nat} (hx : x.natAbs < 2 ^ m) (hy : y.natAbs < 2 ^ n) (h : m + n + 2 ≤ 134217728) : IntMulOk x y := by
  have key : ∀ (z : Int) (k : Nat), z.natAbs < 2 ^ k → Builtin.Int.intBits z ≤ k + 1 := fun z k hz => by
    unfold Builtin.Int.intBits
    split
    · exact Nat.zero_le _
    · have := PySem.Flt.log2_lt_of (n := z.natAbs) (k := k + 1) (by omega) (Nat.lt_of_lt_of_le hz (Nat.pow_le_pow_right (by decide) (by omega)))
      omega
  exact PyProof.Rows.mulOk_of_bits (key x m hx) (key y n hy) (by omega)
/-- a list or a tuple, walked -/
def SeqB (K : PySem.W.Frag) (a : Addr) (R : It → Hp → Prop) (H1 : Hp) : Prop := ((∃ xs, SqL K H1 a xs) ∧ R (Itl K a) H1) ∨ ((∃ xs, SqT K H1 a xs) ∧ R (Itt K a) H1)
def iSeq (K : PySem.W.Frag) (tl : TE) : TI := fun σ H R => tl σ H fun x H1 => ∃ a, x = .ref a ∧ SeqB K a R H1
theorem pi_seq {X : Cx} {tg l : Expr} {tl : TE} (hl : PE X l tl) : PI X tg l (iSeq X.K tl) := by
  refine ⟨fun pins s σ H R I h => thn (hl.run pins s σ H _ I h) fun v s1 ⟨x, H1, I1, r1, q1⟩ => ?_⟩
  obtain ⟨a, e, q⟩ := q1
  subst e
  cases r1
  rcases q with ⟨⟨xs, hq⟩, q⟩ | ⟨⟨xs, hq⟩, q⟩
  · obtain ⟨its, rv, p, hz⟩ := I1.list hq
    exact PySem.wpAny_pyIter_list p.isList (pi_one (tk := s1.toks) I1 _ (turn_list a _) ⟨_, Heap.get?_push_size _ rfl, rfl, rfl⟩ q)
  · obtain ⟨its, rv, p, hz⟩ := I1.tuple hq
    exact PySem.wpAny_pyIter_tuple (show s1.heap.IsTuple a its.toArray from p) (pi_one (tk := s1.toks) I1 _ (turn_tuple a _) ⟨_, Heap.get?_push_size _ rfl, rfl, rfl⟩ q)
/-- a list or a tuple of rows -/
def IsRowsS (K : PySem.W.Frag) (H : Hp) (a : Addr) (rs : List (List Int)) : Prop := IsRows K H a rs ∨ IsRowsT K H a rs
theorem IsRowsS.same {K : PySem.W.Frag} {H H' : Hp} {a : Addr} {rs : List (List Int)} (e : Same H H') (h : IsRowsS K H a rs) : IsRowsS K H' a rs := h.imp (fun q => q.same e) fun q => q.same e
theorem seq_walk {K : PySem.W.Frag} {H : Hp} {a : Addr} {rs : List (List Int)} (h : IsRowsS K H a rs) : ∃ (J : It) (G : Hp → Prop), Walk J rs.length G (fun i H x H' => H' = H ∧ ∃ r, rs[i]? = some r ∧ IsRow K H x r) ∧ (∀ H', Same H H' → G H') ∧
    ∀ R : It → Hp → Prop, R J H → SeqB K a R H := by
  rcases h with ⟨xs, h1, pr⟩ | ⟨xs, h1, pr⟩
  · exact ⟨_, _, walk_rows pr, fun H' s => ⟨s.seq h1, s⟩, fun R q => .inl ⟨⟨xs, h1⟩, q⟩⟩
  · exact ⟨_, _, walk_rowsT pr, fun H' s => ⟨seqT s h1, s⟩, fun R q => .inr ⟨⟨xs, h1⟩, q⟩⟩
theorem ty_tup {K : PySem.W.Frag} {H : Hp} {a : Addr} {xs : List V} (h : SqT K H a xs) : TyX K H (.ref a) (.type "tuple") := by
  rcases h with (h | ⟨o, h⟩) | ⟨o, its, n, h1, h2, _⟩
  · exact .base (.tup h)
  · exact .fTuple h
  · exact .kTuple h1 h2
theorem ty_list {K : PySem.W.Frag} {H : Hp} {a : Addr} {xs : List V} (h : SqL K H a xs) : TyX K H (.ref a) (.type "list") := by
  rcases h with (h | ⟨o, h⟩) | ⟨o, its, n, h1, h2, _⟩
  · exact .base (.lst h)
  · exact .base (.frz h)
  · exact .kList h1 h2
theorem paired_bl : ∀ {l₁ : List V} {n : Nat}, Paired (fun (v : V) (b : Bool) => v = .bl b) l₁ (List.replicate n true) → l₁ = (List.replicate n true).map V.bl
  | _, 0, .nil => rfl
  | _, n + 1, .cons r t => by rw [r, paired_bl (n := n) t]; rfl
def IsBl (_ : Hp) (v : V) (b : Bool) : Prop := v = .bl b
theorem stab_bl {D : Addr} : Stab D IsBl := ⟨fun H H' v b l hD e h => h⟩
theorem paired_isbl {H : Hp} : ∀ {l₁ : List V} {l₂ : List Bool}, Paired (IsBl H) l₁ l₂ → l₁ = l₂.map V.bl
  | _, _, .nil => rfl
  | _, _, .cons r t => by rw [show _ = V.bl _ from r, paired_isbl t]; rfl
theorem outs_none {β : Type} (n : Nat) : outs (fun _ => (none : Option β)) n = [] := by
  unfold outs
  induction n with
  | zero => rfl
  | succ n ih => rw [List.range_succ, List.filterMap_append, ih]; rfl
end My
set_option maxHeartbeats 4000000
namespace My
open PySem L2
open Lat
/-- a source of draws -/
def IsBox (H : Hp) (b : Addr) : Prop := ∃ x y z : Int, H b = some (.lst [.int x, .int y, .int z])
theorem SameX.refl {b : Addr} (H : Hp) : SameX b H H := fun _ _ _ e => e
theorem SameX.trans {b : Addr} {H H1 H2 : Hp} (h : SameX b H H1) (k : SameX b H1 H2) : SameX b H H2 := fun c o hc e => k c o hc (h c o hc e)
theorem Same.x {b : Addr} {H H1 : Hp} (h : Same H H1) : SameX b H H1 := fun c o _ e => h c o e
theorem IsBox.same {b : Addr} {H H1 : Hp} (h : IsBox H b) (s : Same H H1) : IsBox H1 b := let ⟨x, y, z, e⟩ := h; ⟨x, y, z, s _ _ e⟩
theorem samex_upd {b : Addr} {H : Hp} {o : HO} : SameX b H (upd H b o) := fun c u hc e => by rw [upd_ne hc]; exact e
theorem samex_new {b a : Addr} {H : Hp} {o : HO} (h : H a = none) : SameX b H (upd H a o) := fun c u _ e => same_upd h c u e
theorem IsRow.x {K : PySem.W.Frag} {b : Addr} {H H1 : Hp} {v : V} {r : List Int} (hb : IsBox H b) (s : SameX b H H1) (h : IsRow K H v r) : IsRow K H1 v r := by
  obtain ⟨x, y, z, e⟩ := hb
  obtain ⟨a, rfl, ha⟩ := h
  exact ⟨a, rfl, seqTX e s ha⟩
theorem stab_box {K : PySem.W.Frag} {b : Addr} {H H1 : Hp} (hb : IsBox H b) (s : SameX b H H1) {xs : List V} {rs : List (List Int)} (h : Paired (IsRow K H) xs rs) : Paired (IsRow K H1) xs rs := Paired.imp (fun _ _ q => q.x hb s) h
/-- a comprehension whose items are drawn -/
theorem lcb {β : Type} {J : It} {n : Nat} {G : Hp → Prop} {Y : Nat → Hp → V → Hp → Prop} (w : Walk J n G Y) {g : TG} {te : TE} {vs : List Nat} {σ : L2.St} {H1 : Hp} {D : Addr} {Qd : Hp → Prop} (b : Addr)
    (R : Hp → V → β → Prop) (SD : Stab D R) (Sb : Stab b R) (Pb : β → Prop) (hn : n ≤ 1000000) (hD : H1 D = none) (hb : IsBox H1 b) (hG : ∀ H, SameX b H1 H → IsBox H b → G H)
    (hs : ∀ i x H H', i < n → SameX b H1 H → IsBox H b → Y i H x H' → ∀ k1 : V → Hp → Prop, (∀ y H4 c, SameX b H H4 → IsBox H4 b → Pb c → R H4 y c → k1 y H4) →
      g x (wipe σ vs) H' fun σ2 H2 => wipe σ2 vs = wipe σ vs ∧ te σ2 H2 k1)
    (hd : ∀ H ys cs, SameX b H1 H → IsBox H b → H D = some (.lst ys) → Paired (R H) ys cs → cs.length = n → (∀ c ∈ cs, Pb c) → Qd H) :
    ∃ W : Nat → Nat → Hp → Prop, (∃ m, W 0 m (upd H1 D (.lst []))) ∧ ∀ i m H, W i m H →
      (J.stop i H ∧ Qd H) ∨ (J.go i H ∧ ∃ Nx : Hp → Prop, (∀ H', Nx H' → ∃ m', m' < m ∧ W (i + 1) m' H') ∧ ∀ x H', J.yld i H x H' → g x (wipe σ vs) H' fun σ2 H2 => wipe σ2 vs = wipe σ vs ∧ tYes σ2 H2 fun b H3 =>
        if b = true then te σ2 H3 fun y H4 => ∃ acc, H4 D = some (.lst acc) ∧ acc.length < sizeLine ∧ Nx (upd H4 D (.lst (acc ++ [y]))) else Nx H3) := by
  have bD : D ≠ b := by
    intro e
    obtain ⟨x, y, z, q⟩ := hb
    rw [← e, hD] at q; cases q
  have keepB : ∀ {H : Hp} {o : HO}, IsBox H b → IsBox (upd H D o) b := fun {H o} ⟨x, y, z, q⟩ => ⟨x, y, z, by rw [upd_ne bD.symm]; exact q⟩
  refine lc_it w (fun i H => SameX b H1 H ∧ IsBox H b ∧ ∃ ys cs, H D = some (.lst ys) ∧ Paired (R H) ys cs ∧ cs.length = i ∧ ∀ c ∈ cs, Pb c) ⟨samex_new hD, keepB hb, [], [], upd_same, .nil, rfl, fun c h => nomatch h⟩ (fun i H _ p => hG H p.1 p.2.1) ?_ (fun H ⟨a, b, ys, cs, c, d, e, f⟩ => hd H ys cs a b c d e f)
  intro i x H H' hi ⟨s1, b1, ys, cs, hy, pr, cl, cp⟩ y
  refine hs i x H H' hi s1 b1 y (fun y H4 => ∃ acc, H4 D = some (.lst acc) ∧ acc.length < sizeLine ∧ (SameX b H1 (upd H4 D (.lst (acc ++ [y]))) ∧ IsBox (upd H4 D (.lst (acc ++ [y]))) b ∧ ∃ ys cs, (upd H4 D (.lst (acc ++ [y]))) D = some (.lst ys) ∧ Paired (R (upd H4 D (.lst (acc ++ [y])))) ys cs ∧ cs.length = i + 1 ∧ ∀ c ∈ cs, Pb c)) (fun v H4 c s4 b4 pc r => ?_)
  · refine ⟨ys, s4 _ _ bD hy, ?_, ?_, keepB b4, ys ++ [v], cs ++ [c], upd_same, ?_, ?_, ?_⟩
    · have := paired_len pr
      rw [sizeLine_eq]; omega
    · intro c o hc e
      rw [upd_ne (ne_of_none e hD)]
      exact s4 _ _ hc (s1 _ _ hc e)
    · have sx4 : SameX D H4 (upd H4 D (.lst (ys ++ [v]))) := fun b o hb e => by rw [upd_ne hb]; exact e
      obtain ⟨x, y', z, q⟩ := b1
      exact Paired.snoc (SD.st H4 _ v c ys (s4 _ _ bD hy) sx4 r) (Paired.imp (fun a b q' => SD.st H4 _ a b ys (s4 _ _ bD hy) sx4 (Sb.st H _ a b _ q s4 q')) pr)
    · rw [List.length_append, cl]; rfl
    · intro d hd'
      rcases List.mem_append.mp hd' with h | h
      · exact cp d h
      · rw [List.mem_singleton.mp h]; exact pc
/-- what holds behind the first of two statements -/
theorem seq_by {t u : TS} {D : Ends} {σ : L2.St} {H : Hp} (I : L2.St → Hp → Prop) (h1 : ∀ N : L2.St → Hp → Prop, (∀ σ' H', I σ' H' → N σ' H') → t { D with nx := N } σ H) (h2 : ∀ σ' H', I σ' H' → u D σ' H') : tSeq t u D σ H := h1 _ h2
theorem box_ne {H : Hp} {b a : Addr} (hb : IsBox H b) (h : H a = none) : a ≠ b := by
  obtain ⟨x, y, z, e⟩ := hb
  intro q
  rw [← q, h] at e; cases e
theorem box_ne' {H : Hp} {b a : Addr} {o : HO} (hb : IsBox H b) (h : H a = some o) (ho : ∀ x y z : Int, o ≠ .lst [.int x, .int y, .int z]) : a ≠ b := by
  obtain ⟨x, y, z, e⟩ := hb
  intro q
  subst q
  rw [h] at e
  exact ho x y z (Option.some.inj e)
end My
set_option maxHeartbeats 4000000
namespace My
open PySem L2
open Lat
/-! rows as data -/
def dRow (r : List Int) : PyData := .tuple (r.map .int)
def dRows (rs : List (List Int)) : List PyData := rs.map dRow
theorem dp_ints {K : PySem.W.Frag} {H : Hp} : ∀ r : List Int, DpAll K H (r.map V.int) (r.map .int)
  | [] => .nil
  | x :: r => .cons (.int x) (dp_ints r)
theorem dp_row {K : PySem.W.Frag} {H : Hp} {v : V} {r : List Int} (h : IsRow K H v r) : Dp K H v (dRow r) := by
  obtain ⟨a, rfl, ha⟩ := h
  exact .tup ha (dp_ints r)
theorem dp_rows {K : PySem.W.Frag} {H : Hp} : ∀ {xs : List V} {rs : List (List Int)}, Paired (IsRow K H) xs rs → DpAll K H xs (dRows rs)
  | _, _, .nil => .nil
  | _, _, .cons r t => .cons (dp_row r) (dp_rows t)
theorem lay_ints : ∀ r : List Int, PyData.canLayAll0 (r.map .int) = true
  | [] => rfl
  | x :: r => by show (true && PyData.canLayAll0 (r.map .int)) = true; rw [lay_ints r]; rfl
theorem depth_ints : ∀ r : List Int, PyData.depthAll (r.map .int) = 0
  | [] => rfl
  | x :: r => by show max 0 (PyData.depthAll (r.map .int)) = 0; rw [depth_ints r]; rfl
theorem lay_rows : ∀ rs : List (List Int), PyData.canLayAll0 (dRows rs) = true
  | [] => rfl
  | r :: rs => by show (PyData.canLayAll0 (r.map .int) && PyData.canLayAll0 (dRows rs)) = true; rw [lay_ints r, lay_rows rs]; rfl
theorem depth_rows : ∀ rs : List (List Int), PyData.depthAll (dRows rs) ≤ 1
  | [] => Nat.zero_le _
  | r :: rs => by
    show max (PyData.depthAll (r.map .int) + 1) (PyData.depthAll (dRows rs)) ≤ 1
    rw [depth_ints r]
    exact Nat.max_le.mpr ⟨Nat.le_refl _, depth_rows rs⟩
theorem shaped_row (r : List Int) : SeqAt.shaped (dRow r) = true := by
  unfold SeqAt.shaped
  rw [Bool.and_eq_true]
  refine ⟨lay_ints r, decide_eq_true ?_⟩
  show PyData.depthAll (r.map .int) + 1 ≤ 64
  rw [depth_ints]; decide
theorem shaped_rows (rs : List (List Int)) : SeqAt.shaped (.list (dRows rs)) = true := by
  unfold SeqAt.shaped
  rw [Bool.and_eq_true]
  refine ⟨lay_rows rs, decide_eq_true ?_⟩
  show PyData.depthAll (dRows rs) + 1 ≤ 64
  have := depth_rows rs
  omega
theorem shaped_rowsT (rs : List (List Int)) : SeqAt.shaped (.tuple (dRows rs)) = true := by
  unfold SeqAt.shaped
  rw [Bool.and_eq_true]
  refine ⟨lay_rows rs, decide_eq_true ?_⟩
  show PyData.depthAll (dRows rs) + 1 ≤ 64
  have := depth_rows rs
  omega
theorem eqv_nil (rs : List (List Int)) : PyData.eqv (.list (dRows rs)) (.list []) = rs.isEmpty := by
  cases rs with
  | nil => rfl
  | cons r rs => rfl
theorem same_x {b : Addr} {H H1 H2 : Hp} (h : Same H H1) (hb : H b = none) (s : SameX b H1 H2) : Same H H2 := fun c o e => s c o (ne_of_none e hb) (h c o e)
/-- sizes -/
theorem gcds_le {M : Nat} : ∀ (l : List Int) (g : Int), g.natAbs ≤ M → (∀ x ∈ l, x.natAbs ≤ M) → (l.foldl (fun g x => (Int.gcd g x : Int)) g).natAbs ≤ M
  | [], g, h, _ => h
  | x :: l, g, h, k => by
    refine gcds_le l _ ?_ fun y hy => k y (List.mem_cons_of_mem _ hy)
    have hx := k x (List.mem_cons_self ..)
    show (Int.gcd g x : Int).natAbs ≤ M
    rw [Int.natAbs_natCast]
    by_cases e : x = 0
    · rw [e, Int.gcd_zero_right]; exact h
    · exact Nat.le_trans (Nat.le_of_dvd (by omega) (Nat.gcd_dvd_right _ _)) hx
theorem val_le {A B : Nat} : ∀ (f r : List Int), (∀ x ∈ f, x.natAbs ≤ A) → (∀ x ∈ r, x.natAbs ≤ B) → (val f r).natAbs ≤ f.length * (A * B)
  | [], r, _, _ => by unfold val; simp
  | x :: f, [], _, _ => by unfold val; simp
  | x :: f, y :: r, h1, h2 => by
    have ih := val_le f r (fun z hz => h1 z (List.mem_cons_of_mem _ hz)) fun z hz => h2 z (List.mem_cons_of_mem _ hz)
    have e : val (x :: f) (y :: r) = x * y + val f r := by unfold val; simp
    rw [e, List.length_cons, Nat.add_mul, Nat.one_mul]
    have m : (x * y).natAbs ≤ A * B := by rw [Int.natAbs_mul]; exact Nat.mul_le_mul (h1 x (List.mem_cons_self ..)) (h2 y (List.mem_cons_self ..))
    omega
theorem val_zeroL (r : List Int) (w : Nat) : val (List.replicate w 0) r = 0 := by
  unfold val
  induction r generalizing w with
  | nil => simp
  | cons x r ih => cases w with
    | zero => simp
    | succ w => simp only [List.replicate_succ, List.zipWith_cons_cons, List.sum_cons, ih w]; simp
theorem gcds_zero {l : List Int} (h : ∀ x ∈ l, x = 0) : gcds l = 0 := Int.zero_dvd.mp (dvd_gcds fun x hx => by rw [h x hx]; exact Int.dvd_refl 0)
theorem Bd.mem {B : Nat} {S : List (List Int)} (h : Bd B S) {r : List Int} (hr : r ∈ S) {x : Int} (hx : x ∈ r) : x.natAbs ≤ B := by
  obtain ⟨i, hi, rfl⟩ := List.getElem_of_mem hx
  have := h r hr i
  unfold at' at this
  rw [List.getElem?_eq_getElem hi] at this
  exact this
end My
set_option maxHeartbeats 4000000
namespace My
open PySem L2
open Lat
def top (i : Nat) : Stmt := PySem.Challenge.pw_sumlives_k06_divisors_of_forms.main.body.getD i (.Pass ⟨0, 0, 0, 0⟩)
section
variable {P : Program} {w : World} {K : PySem.W.Frag} {mg : Str → Option Value} {base : Heap}
/-! ### common_divisor -/
abbrev sCd : Stmt := top 10
abbrev NCd : List Str := ["one", "other", "first", "second"]
theorem scCd : FnScope NCd ["one", "other"] (defScope sCd) := ⟨rfl, rfl, rfl, by decide +kernel, rfl, by decide +kernel, by decide +kernel⟩

def spCd : Sp := fun vs H Q _ => ∃ (a b : Int), vs = [.int a, .int b] ∧ Q (.int (Int.gcd a b)) H
theorem gcd_turn {x y : Int} (hx : 0 ≤ x) (hy : 0 < y) : Int.gcd y (x.fmod y) = Int.gcd x y ∧ 0 ≤ x.fmod y ∧ (x.fmod y).toNat < y.toNat := by
  rw [Int.fmod_eq_emod_of_nonneg x (by omega)]
  have h1 := Int.emod_nonneg x (show y ≠ 0 by omega)
  have h2 := Int.emod_lt_of_pos x hy
  refine ⟨?_, h1, by omega⟩
  obtain ⟨a, rfl⟩ := Int.eq_ofNat_of_zero_le hx
  obtain ⟨b, rfl⟩ := Int.eq_ofNat_of_zero_le (Int.le_of_lt hy)
  rw [← Int.natCast_emod]
  show Nat.gcd _ _ = Nat.gcd _ _
  rw [Int.natAbs_natCast, Int.natAbs_natCast, Int.natAbs_natCast, Nat.gcd_comm b, ← Nat.gcd_rec, Nat.gcd_comm]
theorem ok_Cd {f : Addr} {fd : FuncData} (F : Fun K "common_divisor" "common_divisor" sCd f fd) (Z : Bn mg) : FnOk P w K mg base CX0 1 f fd ["one", "other"] spCd := by
  refine F.ok scCd (fun vs H Q E h => ?_) (fun cdv A outer s H vs Q E hr h => ?_)
  · obtain ⟨a, b, rfl, _⟩ := h
    rfl
  · obtain ⟨a, b, rfl, k⟩ := h
    refine ⟨_, (pss_cons (ps_par (i := 2) (j := 3) (by rfl) scCd.nd rfl rfl (by decide) rfl rfl (pa_cons (pe_callB call_abs (by rfl) Z.abs (by decide +kernel) (pa_cons (pv 0) pa_nil)) (pa_cons (pe_callB call_abs (by rfl) Z.abs (by decide +kernel) (pa_cons (pv 1) pa_nil)) pa_nil)) (by rfl))
      (pss_cons (ps_while PassesOwn.never (pt_cmpR op_gt (pv 3) pe_int (nomark _)) (pss_one (ps_par (i := 2) (j := 3) (by rfl) scCd.nd rfl rfl (by decide) rfl rfl (pa_cons (pv 3) (pa_cons (pe_op op_modN (pe_callTy call_int1 (by rfl) Z.int (by decide +kernel) (pa_cons (pv 2) pa_nil)) (pv 3)) pa_nil)) (by rfl))))
      (pss_one (ps_ret (pv 2))))), ?_⟩
    refine ⟨_, rfl, a, rfl, _, rfl, b, rfl, _, _, rfl, ?_⟩
    refine while_k (fun σ H' => H' = H ∧ ∃ x y : Int, σ = [some (.int a), some (.int b), some (.int x), some (.int y)] ∧ 0 ≤ x ∧ 0 ≤ y ∧ Int.gcd x y = Int.gcd a b) (fun σ _ => match σ with | [_, _, _, some (.int y)] => y.toNat | _ => 0) ?_ ?_
    · refine ⟨rfl, _, _, rfl, ?_, ?_, ?_⟩
      · split <;> omega
      · split <;> omega
      · unfold Int.gcd
        congr 1 <;> (split <;> omega)
    · rintro σ H' ⟨rfl, x, y, rfl, hx, hy, hg⟩ KT hT
      refine ⟨_, rfl, _, _, rfl, rfl, _, rfl, ?_⟩
      refine ite2 (fun c => hT _ ?_) (fun c => ?_)
      · have c' : 0 < y := of_decide_eq_true c
        obtain ⟨g1, g2, g3⟩ := gcd_turn hx c'
        refine ⟨_, rfl, _, rfl, .inl ⟨_, rfl, _, rfl, _, _, rfl, rfl, (by show y ≠ 0; omega), _, _, rfl, ⟨rfl, _, _, rfl, hy, g2, ?_⟩, g3⟩⟩
        rw [g1]; exact hg
      · have c' : ¬ 0 < y := of_decide_eq_false (by simpa using c)
        obtain rfl : y = 0 := by omega
        refine ⟨_, rfl, ?_⟩
        have e : x = (Int.gcd a b : Int) := by
          rw [← hg, Int.gcd_zero_right]; omega
        rw [e]; exact k
/-! ### less, value_of -/
abbrev sLess : Stmt := top 11
abbrev NLess : List Str := ["one", "times", "other", "here", "there"]
theorem scLess : FnScope NLess ["one", "times", "other"] (defScope sLess) := ⟨rfl, rfl, rfl, by decide +kernel, rfl, by decide +kernel, by decide +kernel⟩

def spLess (K : PySem.W.Frag) : Sp := fun vs H Q _ => ∃ (u v : V) (t : Int) (a b : List Int), vs = [u, .int t, v] ∧ IsRow K H u a ∧ IsRow K H v b ∧ a.length = b.length ∧ a.length ≤ 1000 ∧
  (∀ x ∈ b, IntMulOk t x) ∧ ∀ H' z, Same H H' → IsRow K H' z (less a t b) → Q z H'
theorem ok_Less {f : Addr} {fd : FuncData} (F : Fun K "less" "less" sLess f fd) (Z : Bn mg) : FnOk P w K mg base CX0 1 f fd ["one", "times", "other"] (spLess K) := by
  refine F.ok scLess (fun vs H Q E h => ?_) (fun cdv A outer s H vs Q E hr h => ?_)
  · obtain ⟨u, v, t, a, b, rfl, _⟩ := h
    rfl
  · obtain ⟨u, v, t, a, b, rfl, ⟨au, rfl, ha⟩, ⟨av, rfl, hb⟩, hl, hz, hm, k⟩ := h
    refine ⟨_, (pss_one (ps_ret (pe_callTy (call_tuple_ofK (K := K) rfl) (by rfl) Z.tuple (by decide +kernel) (pa_cons (pe_lc (own := [("here", 3), ("there", 4)]) (g := gTup _ 2 (gCons (gName 3) (gCons (gName 4) gNil))) (tt := tYes) (by rfl) scLess.nd (RZ.pi_zipA (by rfl) Z.zip (pa_cons (pv 0) (pa_cons (pv 2) pa_nil))) (blkOk_by (own := [("here", 3), ("there", 4)]) (N := NLess) (sc := defScope sLess) (by decide +kernel)) (fun _ _ _ _ _ => pg_tup rfl (pgs_cons (pg_name (i := 3) scLess.nd rfl (Or.inl rfl)) (pgs_cons (pg_name (i := 4) scLess.nd rfl (Or.inl rfl)) pgs_nil))) (fun _ _ _ _ _ => pts_nil) (fun _ _ _ _ _ => (pe_op op_sub (pv 3) (pe_op op_mulOk (pv 1) (pv 4))))) pa_nil)))), ?_⟩
    refine ⟨_, rfl, _, rfl, au, av, _, _, rfl, .inr ⟨ha, hb, fun D hD => ?_⟩⟩
    refine lcp (walk_zipTI (xs := a) (ys := b) (n := a.length) (by omega)) IsInt stab_int (fun i => some (at' a i - t * at' b i)) (by omega) hD (fun H1 s1 => ⟨seqT s1 ha, seqT s1 hb⟩) ?_ ?_
    · rintro i x H1 H2 hi s1 ⟨T, rfl, hT, rfl⟩ k1 k0 g1 _
      refine ⟨T, _, rfl, SqT.of upd_same, rfl, _, _, rfl, _, _, rfl, rfl, rfl, ?_⟩
      refine ⟨_, rfl, _, rfl, _, rfl, _, _, rfl, rfl, hm _ (at_mem (by omega)), _, _, rfl, rfl, g1 _ _ _ (same_upd hT) rfl rfl⟩
    · intro H1 ys s1 hy pr
      have := paired_int pr
      subst this
      refine ⟨D, _, rfl, .inl ⟨SqL.of hy, fun l hl' => k _ _ (s1.trans (same_upd hl')) ⟨l, rfl, SqT.of ?_⟩⟩⟩
      rw [upd_same, outs_map, range_map_less hl]
abbrev sVal : Stmt := top 12
abbrev NVal : List Str := ["form", "vector", "here", "there"]
theorem scVal : FnScope NVal ["form", "vector"] (defScope sVal) := ⟨rfl, rfl, rfl, by decide +kernel, rfl, by decide +kernel, by decide +kernel⟩

def spVal (K : PySem.W.Frag) : Sp := fun vs H Q _ => ∃ (u v : V) (a b : List Int), vs = [u, v] ∧ IsRow K H u a ∧ IsRow K H v b ∧ a.length = b.length ∧ a.length ≤ 1000 ∧
  (∀ x ∈ a, IntMulSmall x) ∧ ∀ H', Same H H' → Q (.int (val a b)) H'
theorem ok_Val {f : Addr} {fd : FuncData} (F : Fun K "value_of" "value_of" sVal f fd) (Z : Bn mg) : FnOk P w K mg base CX0 1 f fd ["form", "vector"] (spVal K) := by
  refine F.ok scVal (fun vs H Q E h => ?_) (fun cdv A outer s H vs Q E hr h => ?_)
  · obtain ⟨u, v, a, b, rfl, _⟩ := h
    rfl
  · obtain ⟨u, v, a, b, rfl, ⟨au, rfl, ha⟩, ⟨av, rfl, hb⟩, hl, hz, hm, k⟩ := h
    refine ⟨_, (pss_one (ps_ret (pe_callB (cr_sumK (K := K) rfl rfl) (by rfl) Z.sum (by decide +kernel) (pa_cons (pe_lc (own := [("here", 2), ("there", 3)]) (g := gTup _ 2 (gCons (gName 2) (gCons (gName 3) gNil))) (tt := tYes) (by rfl) scVal.nd (RZ.pi_zipA (by rfl) Z.zip (pa_cons (pv 0) (pa_cons (pv 1) pa_nil))) (blkOk_by (own := [("here", 2), ("there", 3)]) (N := NVal) (sc := defScope sVal) (by decide +kernel)) (fun _ _ _ _ _ => pg_tup rfl (pgs_cons (pg_name (i := 2) scVal.nd rfl (Or.inl rfl)) (pgs_cons (pg_name (i := 3) scVal.nd rfl (Or.inl rfl)) pgs_nil))) (fun _ _ _ _ _ => pts_nil) (fun _ _ _ _ _ => (pe_op op_mulOk (pv 2) (pv 3)))) pa_nil)))), ?_⟩
    refine ⟨_, rfl, _, rfl, au, av, _, _, rfl, .inr ⟨ha, hb, fun D hD => ?_⟩⟩
    refine lcp (walk_zipTI (xs := a) (ys := b) (n := a.length) (by omega)) IsInt stab_int (fun i => some (at' a i * at' b i)) (by omega) hD (fun H1 s1 => ⟨seqT s1 ha, seqT s1 hb⟩) ?_ ?_
    · rintro i x H1 H2 hi s1 ⟨T, rfl, hT, rfl⟩ k1 k0 g1 _
      refine ⟨T, _, rfl, SqT.of upd_same, rfl, _, _, rfl, _, _, rfl, rfl, rfl, ?_⟩
      refine ⟨_, rfl, _, rfl, _, _, rfl, rfl, (hm _ (at_mem (by omega))).ok, g1 _ _ _ (same_upd hT) rfl rfl⟩
    · intro H1 ys s1 hy pr
      have := paired_int pr
      subst this
      refine ⟨D, _, rfl, SqL.of hy, ?_⟩
      rw [outs_map, range_map_val hl]
      exact k _ s1
/-! ### pivot_of -/
abbrev sPiv : Stmt := top 13
abbrev NPiv : List Str := ["vector", "place"]
theorem scPiv : FnScope NPiv ["vector"] (defScope sPiv) := ⟨rfl, rfl, rfl, by decide +kernel, rfl, by decide +kernel, by decide +kernel⟩

def spPiv (K : PySem.W.Frag) : Sp := fun vs H Q _ => ∃ (u : V) (a : List Int), vs = [u] ∧ IsRow K H u a ∧ a.length ≤ 1000 ∧ Q (.int (piv a : Nat)) H
theorem ok_Piv {f : Addr} {fd : FuncData} (F : Fun K "pivot_of" "pivot_of" sPiv f fd) (Z : Bn mg) : FnOk P w K mg base CX0 1 f fd ["vector"] (spPiv K) := by
  refine F.ok scPiv (fun vs H Q E h => ?_) (fun cdv A outer s H vs Q E hr h => ?_)
  · obtain ⟨u, a, rfl, _⟩ := h
    rfl
  · obtain ⟨u, a, rfl, ⟨au, rfl, ha⟩, hz, k⟩ := h
    refine ⟨_, (pss_cons (ps_set (i := 1) scPiv.nd rfl (Or.inl rfl) pe_int)
      (pss_cons (ps_while PassesOwn.never (PW.pt (pw_and (pt_cmpR op_lt (pv 1) (pe_callB call_len (by rfl) Z.len PySem.boot_len (pa_cons (pv 0) pa_nil)) (nomark _)) (pw_and1 (pt_cmpR op_eq (pe_ix (ix_tupK (K := K) rfl) (pv 0) (pv 1) (fun _ _ => rfl)) pe_int (nomark _))))) (pss_one (ps_set (i := 1) scPiv.nd rfl (Or.inl rfl) (pe_op op_add (pv 1) pe_int))))
      (pss_one (ps_ret (pv 1))))), ?_⟩
    refine while_k (fun σ H' => H' = H ∧ ∃ n : Nat, σ = [some (.ref au), some (.int (n : Int))] ∧ n ≤ a.length ∧ ∀ i, i < n → at' a i = 0) (fun σ _ => match σ with | [_, some (.int y)] => a.length - y.toNat | _ => 0) ⟨rfl, 0, rfl, Nat.zero_le _, fun i h => by omega⟩ ?_
    rintro σ H' ⟨rfl, n, rfl, hn, h0⟩ KT hT
    refine ⟨_, rfl, _, rfl, _, _, rfl, .inr ⟨_, ha, rfl⟩, _, _, rfl, rfl, _, rfl, ?_⟩
    rw [List.length_map]
    refine ite2 (fun c => ?_) (fun c => ?_)
    · have c' : (n : Int) < (a.length : Int) := of_decide_eq_true c
      have c2 : n < a.length := by omega
      refine ⟨_, rfl, _, rfl, au, _, _, _, rfl, rfl, ha, atI_nat (at_map c2), rfl, _, rfl, ?_⟩
      refine ite2 (fun d => hT _ ?_) (fun d => ?_)
      · have d' : V.int (at' a n) = V.int 0 := of_decide_eq_true d
        injection d' with d'
        refine ⟨_, rfl, _, _, rfl, rfl, ⟨rfl, n + 1, rfl, c2, fun i hi => ?_⟩, ?_⟩
        · by_cases e : i = n
          · rw [e]; exact d'
          · exact h0 i (by omega)
        · show a.length - ((n : Int) + 1).toNat < a.length - (n : Int).toNat
          omega
      · have d' : ¬ V.int (at' a n) = V.int 0 := of_decide_eq_false (by simpa using d)
        refine ⟨_, rfl, ?_⟩
        rw [← piv_eq hn h0 (.inr fun e => d' (by rw [e]))]
        exact k
    · have c' : ¬ (n : Int) < (a.length : Int) := of_decide_eq_false (by simpa using c)
      refine ⟨_, rfl, ?_⟩
      rw [← piv_eq hn h0 (.inl (by omega))]
      exact k
end
end My
set_option maxHeartbeats 400000
namespace My
open PySem L2
open Lat
section
variable {P : Program} {w : World} {K : PySem.W.Frag} {mg : Str → Option Value} {base : Heap}
/-! ### gathered -/
structure Gres (w p B C : Nat) (rows : List (List Int)) (o : Option (List Int)) (others : List (List Int)) : Prop where
  eqv : Eqv w rows (o.toList ++ others)
  wd : Wd w (o.toList ++ others)
  z : ∀ r ∈ others, ∀ i, i ≤ p → at' r i = 0
  pre : ∀ f, o = some f → (∀ i, i < p → at' f i = 0) ∧ 0 < at' f p
  len : o.toList.length + others.length ≤ rows.length
  bd : Bd C (o.toList ++ others)
  pb : ∀ f, o = some f → (at' f p).natAbs ≤ B
/-- None, or a row -/
def IsOpt (K : PySem.W.Frag) (H : Hp) (v : V) : Option (List Int) → Prop
  | none => v = .non
  | some f => IsRow K H v f
def spGath (K : PySem.W.Frag) : Sp := fun vs H Q _ => ∃ (a : Addr) (p w B C M N : Nat) (rs : List (List Int)), vs = [.ref a, .int (p : Nat)] ∧ IsRows K H a rs ∧ Wd w rs ∧ p < w ∧ w ≤ 1000 ∧ rs.length ≤ 1000 ∧
  (∀ r ∈ rs, ∀ i, i < p → at' r i = 0) ∧ Bd B rs ∧ 1 ≤ B ∧ B < 2 ^ M ∧ M ≤ 9000 ∧ 0 < M ∧ (1 + B) * B ^ 5 * 2 ^ rs.length ≤ C ∧ C < 2 ^ N ∧ N ≤ 60000000 ∧
  ∀ H' T v b o os, Same H H' → SqT K H' T [v, .ref b] → IsOpt K H' v o → IsRows K H' b os → Gres w p B C rs o os → Q (.ref T) H'
abbrev sGath : Stmt := top 14
abbrev NGath : List Str := ["rows", "place", "left", "others", "sizes", "at", "first", "turned", "row"]
theorem scGath : FnScope NGath ["rows", "place"] (defScope sGath) := ⟨rfl, rfl, rfl, by decide +kernel, rfl, by decide +kernel, by decide +kernel⟩

theorem ok_Gath {f : Addr} {fd : FuncData} (F : Fun K "gathered" "gathered" sGath f fd) (Z : Bn mg) (cl : Cal P w K mg base "less" 1 ["one", "times", "other"] (spLess K)) : FnOk P w K mg base CX0 2 f fd ["rows", "place"] (spGath K) := by
  obtain ⟨f_less, fd_less, g_less, k_less, b_less, G_less⟩ := cl.ex
  refine F.ok scGath (fun vs H Q E h => ?_) (fun cdv A outer s H vs Q E hr h => ?_)
  · obtain ⟨a, p, w, B, C, M, N, rs, rfl, _⟩ := h
    rfl
  · obtain ⟨a, p, w, B, C, M, N, rs, rfl, ⟨xs, hsq, pr⟩, hw, hp, hz, hn, h0, hB, hB1, hB2, hM, hM0, hC, hC2, hN, k⟩ := h
    refine ⟨_, (pss_cons (ps_setLc (i := 2) (own := [("row", 8)]) (g := gName 8) (by rfl) scGath.nd rfl rfl (sw_true rfl rfl rfl (by decide +kernel)) (pi_list (pv 0)) (blkOk_by (own := [("row", 8)]) (N := NGath) (sc := defScope sGath) (by decide +kernel)) (fun _ _ _ _ _ => pg_name (i := 8) scGath.nd rfl (Or.inl rfl)) (fun _ _ _ _ _ => (pts_one (pt_cmpR op_ne (pe_ix (ix_tupK (K := K) rfl) (pv 8) (pv 1) (fun _ _ => rfl)) pe_int (nomark _)))) (fun _ _ _ _ _ => (pv 8)))
      (pss_cons (ps_setLc (i := 3) (own := [("row", 8)]) (g := gName 8) (by rfl) scGath.nd rfl rfl (sw_true rfl rfl rfl (by decide +kernel)) (pi_list (pv 0)) (blkOk_by (own := [("row", 8)]) (N := NGath) (sc := defScope sGath) (by decide +kernel)) (fun _ _ _ _ _ => pg_name (i := 8) scGath.nd rfl (Or.inl rfl)) (fun _ _ _ _ _ => (pts_one (pt_cmpR op_eq (pe_ix (ix_tupK (K := K) rfl) (pv 8) (pv 1) (fun _ _ => rfl)) pe_int (nomark _)))) (fun _ _ _ _ _ => (pv 8)))
      (pss_cons (ps_while PassesOwn.never (pt_cmpR op_gt (pe_callB call_len (by rfl) Z.len PySem.boot_len (pa_cons (pv 2) pa_nil)) pe_int (nomark _)) (pss_cons (ps_setLc (i := 4) (own := [("row", 8)]) (g := gName 8) (tt := tYes) (by rfl) scGath.nd rfl rfl (sw_true rfl rfl rfl (by decide +kernel)) (pi_list (pv 2)) (blkOk_by (own := [("row", 8)]) (N := NGath) (sc := defScope sGath) (by decide +kernel)) (fun _ _ _ _ _ => pg_name (i := 8) scGath.nd rfl (Or.inl rfl)) (fun _ _ _ _ _ => pts_nil) (fun _ _ _ _ _ => (pe_callB call_abs (by rfl) Z.abs (by decide +kernel) (pa_cons (pe_ix (ix_tupK (K := K) rfl) (pv 8) (pv 1) (fun _ _ => rfl)) pa_nil))))
      (pss_cons (ps_set (i := 5) scGath.nd rfl (Or.inl rfl) (pe_bm PySem.F.plainAttrs_list PySem.F.slot_list_index PySem.F.type_list_index (mt_indexK (K := K) rfl) (pv 4) (pa_cons (pe_minInt rfl (by rfl) Z.min (by rfl) Z.int (pa_cons (pv 4) pa_nil)) pa_nil)))
      (pss_cons (ps_set (i := 6) scGath.nd rfl (Or.inr rfl) (pe_ix (ix_listK (K := K) rfl) (pv 2) (pv 5) (fun _ _ => rfl)))
      (pss_cons (ps_setLc (i := 7) (own := [("row", 8)]) (g := gName 8) (tt := tYes) (by rfl) scGath.nd rfl rfl (sw_true rfl rfl rfl (by decide +kernel)) (pi_list (pe_lst (StX.pa_star (pe_slice (sl_listK (K := K) rfl) (pv 2) po_none (po_some (pv 5))) (StX.pa_star (pe_slice (sl_listK (K := K) rfl) (pv 2) (po_some (pe_op op_add (pv 5) pe_int)) po_none) pa_nil)))) (blkOk_by (own := [("row", 8)]) (N := NGath) (sc := defScope sGath) (by decide +kernel)) (fun _ _ _ _ _ => pg_name (i := 8) scGath.nd rfl (Or.inl rfl)) (fun _ _ _ _ _ => pts_nil) (fun _ _ _ _ _ => (pe_call G_less (hr.mono (by decide)) (by rfl) g_less k_less b_less .nil pass0 (pa_cons (pv 8) (pa_cons (pe_op op_fdivL (pe_ix (ix_tupK (K := K) rfl) (pv 8) (pv 1) (fun _ _ => rfl)) (pe_ix (ix_tupK (K := K) rfl) (pv 6) (pv 1) (fun _ _ => rfl))) (pa_cons (pv 6) pa_nil))))))
      (pss_cons (ps_set (i := 3) scGath.nd rfl (Or.inl rfl) (pe_lst (StX.pa_star (pv 3) (StX.pa_star (pe_lc (own := [("row", 8)]) (g := gName 8) (by rfl) scGath.nd (pi_list (pv 7)) (blkOk_by (own := [("row", 8)]) (N := NGath) (sc := defScope sGath) (by decide +kernel)) (fun _ _ _ _ _ => pg_name (i := 8) scGath.nd rfl (Or.inl rfl)) (fun _ _ _ _ _ => (pts_one (pt_cmpR op_eq (pe_ix (ix_tupK (K := K) rfl) (pv 8) (pv 1) (fun _ _ => rfl)) pe_int (nomark _)))) (fun _ _ _ _ _ => (pv 8))) pa_nil))))
      (pss_one (ps_set (i := 2) scGath.nd rfl (Or.inl rfl) (pe_lst (pa_cons (pv 6) (StX.pa_star (pe_lc (own := [("row", 8)]) (g := gName 8) (by rfl) scGath.nd (pi_list (pv 7)) (blkOk_by (own := [("row", 8)]) (N := NGath) (sc := defScope sGath) (by decide +kernel)) (fun _ _ _ _ _ => pg_name (i := 8) scGath.nd rfl (Or.inl rfl)) (fun _ _ _ _ _ => (pts_one (pt_cmpR op_ne (pe_ix (ix_tupK (K := K) rfl) (pv 8) (pv 1) (fun _ _ => rfl)) pe_int (nomark _)))) (fun _ _ _ _ _ => (pv 8))) pa_nil)))))))))))
      (pss_cons (ps_if (pt_cmpR op_eq (pe_callB call_len (by rfl) Z.len PySem.boot_len (pa_cons (pv 2) pa_nil)) pe_int (nomark _)) (pss_one (ps_ret (pe_tup (pa_cons pe_non (pa_cons (pv 3) pa_nil))))) pss_nil)
      (pss_cons (ps_set (i := 6) scGath.nd rfl (Or.inr rfl) (pe_ix (ix_listK (K := K) rfl) (pv 2) pe_int (fun _ _ => rfl)))
      (pss_one (ps_ret (pe_tup (pa_cons (pe_ifExp (pt_cmpR op_gt (pe_ix (ix_tupK (K := K) rfl) (pv 6) (pv 1) (fun _ _ => rfl)) pe_int (nomark _)) (pv 6) (pe_call G_less (hr.mono (by decide)) (by rfl) g_less k_less b_less .nil pass0 (pa_cons (pe_callTy (call_tuple_ofK (K := K) rfl) (by rfl) Z.tuple (by decide +kernel) (pa_cons (pe_op op_rep (pe_lst (pa_cons pe_int pa_nil)) (pe_callB call_len (by rfl) Z.len PySem.boot_len (pa_cons (pv 6) pa_nil))) pa_nil)) (pa_cons pe_int (pa_cons (pv 6) pa_nil))))) (pa_cons (pv 3) pa_nil)))))))))), ?_⟩
    -- left, others
    refine ⟨_, rfl, a, rfl, ⟨_, hsq⟩, fun D hD => ?_⟩
    refine lcp (walk_rows pr) (IsRow K) stab_row (fun i => (rs[i]?).bind fun r => if decide (at' r p ≠ 0) = true then some r else none) (by omega) hD (fun H1 s1 => ⟨s1.seq hsq, s1⟩) ?_ ?_
    · rintro i x H1 H2 hi s1 ⟨rfl, r, er, ⟨ax, rfl, hx⟩⟩ k1 k0 g1 g0
      have hr' : r ∈ rs := List.mem_of_getElem? er
      refine ⟨rfl, _, rfl, _, rfl, ax, _, _, _, rfl, rfl, hx, atI_nat (at_map (by rw [hw r hr']; exact hp)), rfl, _, rfl, ?_⟩
      refine ite2 (fun d => ?_) (fun d => ?_)
      · refine ⟨_, rfl, g1 _ _ r (Same.refl _) ?_ ⟨ax, rfl, hx⟩⟩
        simp only [er, Option.bind_some]
        rw [if_pos]
        simpa using d
      · refine g0 _ (Same.refl _) ?_
        simp only [er, Option.bind_some]
        rw [if_neg]
        simpa using d
    intro H1 ys s1 hy pr1
    rw [outs_filter] at pr1
    have pr' : Paired (IsRow K H1) xs rs := Paired.imp (fun _ _ q => q.same s1) pr
    refine ⟨_, rfl, a, rfl, ⟨_, s1.seq hsq⟩, fun D2 hD2 => ?_⟩
    refine lcp (walk_rows pr') (IsRow K) stab_row (fun i => (rs[i]?).bind fun r => if decide (at' r p = 0) = true then some r else none) (by omega) hD2 (fun H2 s2 => ⟨s2.seq (s1.seq hsq), s2⟩) ?_ ?_
    · rintro i x H2 H3 hi s2 ⟨rfl, r, er, ⟨ax, rfl, hx⟩⟩ k1 k0 g1 g0
      have hr' : r ∈ rs := List.mem_of_getElem? er
      refine ⟨rfl, _, rfl, _, rfl, ax, _, _, _, rfl, rfl, hx, atI_nat (at_map (by rw [hw r hr']; exact hp)), rfl, _, rfl, ?_⟩
      refine ite2 (fun d => ?_) (fun d => ?_)
      · refine ⟨_, rfl, g1 _ _ r (Same.refl _) ?_ ⟨ax, rfl, hx⟩⟩
        simp only [er, Option.bind_some]
        rw [if_pos]
        simpa using d
      · refine g0 _ (Same.refl _) ?_
        simp only [er, Option.bind_some]
        rw [if_neg]
        simpa using d
    intro H2 zs s2 hz2 pr2
    rw [outs_filter] at pr2
    have hy2 : SqL K H2 D ys := SqL.of (s2 _ _ hy)
    have pry2 : Paired (IsRow K H2) ys (rs.filter fun r => decide (at' r p ≠ 0)) := Paired.imp (fun _ _ q => q.same s2) pr1
    -- the loop
    refine while_m (fun m σ H' => ∃ (l o : Addr) (left others : List (List Int)) (v4 v5 v6 v7 v8 : Option V), σ = [some (.ref a), some (.int (p : Nat)), some (.ref l), some (.ref o), v4, v5, v6, v7, v8] ∧ Same H H' ∧ IsRows K H' l left ∧ IsRows K H' o others ∧ GI w p rs left others ∧ PhX p B C left others ∧ m = siz p left) _
      ⟨D, D2, _, _, none, none, none, none, none, rfl, s1.trans s2, ⟨_, hy2, pry2⟩, ⟨_, SqL.of hz2, pr2⟩, gi_start hw h0, .inl (gb_start hB), rfl⟩ ?_
    rintro m σ H3 ⟨l, o, left, others, v4, v5, v6, v7, v8, rfl, s3, ⟨ls, hl, prl⟩, ⟨os, ho, pro⟩, G, Ph, rfl⟩ KT hT
    have lenl := paired_len prl
    have leno := paired_len pro
    have glen := G.len
    refine ⟨_, rfl, _, _, rfl, .inl ⟨_, hl, rfl⟩, _, _, rfl, rfl, _, rfl, ?_⟩
    refine ite2 (fun c => hT _ ?_) (fun c => ?_)
    · have c' : 1 < left.length := by
        have : (1 : Int) < ((ls.length : Nat) : Int) := of_decide_eq_true c
        omega
      have wl : ∀ r ∈ left, r.length = w := fun r h => G.wd r (List.mem_append_left _ h)
      -- sizes
      refine ⟨_, rfl, l, rfl, ⟨_, hl⟩, fun D4 hD4 => ?_⟩
      refine lcp (walk_rows prl) IsInt stab_int (fun i => (left[i]?).map fun r => if at' r p < 0 then -at' r p else at' r p) (by omega) hD4 (fun H4 s4 => ⟨s4.seq hl, s4⟩) ?_ ?_
      · rintro i x H4 H5 hi s4 ⟨rfl, r, er, ⟨ax, rfl, hx⟩⟩ k1 k0 g1 g0
        refine ⟨rfl, ?_⟩
        refine ⟨_, rfl, _, rfl, ax, _, _, _, rfl, rfl, hx, atI_nat (at_map (by rw [wl r (List.mem_of_getElem? er)]; exact hp)), _, rfl, ?_⟩
        exact g1 _ _ _ (Same.refl _) (by rw [er]; rfl) rfl
      intro H4 ns' s4 hn4 prn
      rw [outs_mapG] at prn
      have := paired_int prn
      subst this
      -- at
      refine ⟨_, rfl, .inl ⟨rfl, _, SqL.of hn4⟩, _, rfl, D4, _, rfl, SqL.of hn4, (by rw [List.length_map]; omega), fun m m1 m2 => ?_⟩
      obtain ⟨j, j1, j2⟩ := first_at m1
      refine ⟨D4, _, .int m, j, .int m, rfl, rfl, SqL.of hn4, rfl, ?_, ?_, ?_, ?_, ?_⟩
      · rw [List.all_eq_true]
        intro x hx
        obtain ⟨y, _, rfl⟩ := List.mem_map.mp hx
        rfl
      · rw [List.getElem?_map, j1]; rfl
      · rw [eqV_int]; simp
      · intro i z hi hz'
        rw [List.getElem?_map] at hz'
        cases e : (left.map fun r => if at' r p < 0 then -at' r p else at' r p)[i]? with
        | none => rw [e] at hz'; cases hz'
        | some y =>
          rw [e] at hz'
          cases hz'
          rw [eqV_int]
          have := j2 i hi
          rw [e] at this
          exact decide_eq_false fun q => this (by rw [q])
      -- first
      rw [List.getElem?_map] at j1
      obtain ⟨f, hf, ef⟩ : ∃ f, left[j]? = some f ∧ (if at' f p < 0 then -at' f p else at' f p) = m := by
        cases e : left[j]? with
        | none => rw [e] at j1; cases j1
        | some f => rw [e] at j1; exact ⟨f, rfl, Option.some.inj j1⟩
      have hm : ∀ r ∈ left, (at' f p).natAbs ≤ (at' r p).natAbs := fun r hr => by
        have := m2 _ (List.mem_map_of_mem (f := fun r => if at' r p < 0 then -at' r p else at' r p) hr)
        have e1 : ∀ x : Int, (if x < 0 then -x else x) = (x.natAbs : Int) := fun x => by split <;> omega
        rw [e1] at ef
        rw [e1] at this
        omega
      have fm : f ∈ left := List.mem_of_getElem? hf
      have fw := wl f fm
      have jl : j < left.length := (List.getElem?_eq_some_iff.mp hf).1
      obtain ⟨xf, hxf, rf⟩ := paired_get' prl hf
      refine ⟨_, rfl, _, rfl, l, _, _, _, rfl, rfl, s4.seq hl, atI_nat hxf, ?_⟩
      obtain ⟨af, rfl, haf⟩ := rf
      -- turned
      refine ⟨_, rfl, _, rfl, _, rfl, l, _, rfl, s4.seq hl, fun p1 hp1 => ?_⟩
      rw [cutV_take (by omega)]
      refine ⟨p1, _, rfl, .inr (SqL.of upd_same), _, rfl, _, rfl, _, _, rfl, rfl, _, rfl, l, _, rfl, (same_upd hp1).seq (s4.seq hl), fun p2 hp2 => ?_⟩
      have ej : ((j : Int) + 1) = ((j + 1 : Nat) : Int) := by omega
      rw [ej, cutV_drop (by omega)]
      refine ⟨p2, _, rfl, .inr (SqL.of upd_same), ?_⟩
      have s45 : Same H4 (upd (upd H4 p1 (.lst (ls.take j))) p2 (.lst (ls.drop (j + 1)))) := (same_upd hp1).trans (same_upd hp2)
      refine ⟨small_len (by rw [List.append_nil, List.length_append, List.length_take, List.length_drop]; omega), fun p3 hp3 => ?_⟩
      refine ⟨p3, rfl, ⟨_, SqL.of upd_same⟩, fun D7 hD7 => ?_⟩
      have s46 := s45.trans (same_upd (o := .lst (ls.take j ++ (ls.drop (j + 1) ++ []))) hp3)
      generalize hH6 : upd (upd (upd H4 p1 (.lst (ls.take j))) p2 (.lst (ls.drop (j + 1)))) p3 (.lst (ls.take j ++ (ls.drop (j + 1) ++ []))) = H6 at s46 hD7
      have h6 : H6 p3 = some (.lst (ls.take j ++ (ls.drop (j + 1) ++ []))) := by rw [← hH6]; exact upd_same
      rw [List.append_nil] at h6
      have prl6 : Paired (IsRow K H6) (ls.take j ++ ls.drop (j + 1)) (left.take j ++ left.drop (j + 1)) := paired_app (paired_take j (Paired.imp (fun _ _ q => q.same (s4.trans s46)) prl)) (paired_drop (j + 1) (Paired.imp (fun _ _ q => q.same (s4.trans s46)) prl))
      have rl : (left.take j ++ left.drop (j + 1)).length ≤ 1000 := by have := rest_len jl; omega
      have tm : ∀ r ∈ left.take j ++ left.drop (j + 1), r ∈ left := fun r h => (mem_rest hf r).2 (.inr h)
      have pb := fun r (hr : r ∈ left) => Ph.piv G hr
      have bC := Ph.bd G hB1 hC
      refine lcp (walk_rows prl6) (IsRow K) stab_row (fun i => ((left.take j ++ left.drop (j + 1))[i]?).map (turn p f)) (by omega) hD7 (fun H7 s7 => ⟨s7.seq (SqL.of h6), s7⟩) ?_ ?_
      · rintro i x H7 H8 hi s7 ⟨rfl, r, er, ⟨ax, rfl, hx⟩⟩ k1 k0 g1 g0
        have rm := tm r (List.mem_of_getElem? er)
        refine ⟨rfl, ?_⟩
        refine ⟨_, rfl, _, rfl, _, rfl, ax, _, _, _, rfl, rfl, hx, atI_nat (at_map (by rw [wl r rm]; exact hp)), _, rfl, _, rfl, af, _, _, _, rfl, rfl, seqT (s4.trans (s46.trans s7)) haf, atI_nat (at_map (by rw [fw]; exact hp)), _, _, rfl, rfl, ?_, _, rfl, ?_⟩
        · exact ⟨G.nz f fm, Nat.lt_of_lt_of_le (PySem.Flt.log2_lt_of hM0 (Nat.lt_of_le_of_lt (pb f fm) hB2)) hM⟩
        · refine ⟨.ref ax, .ref af, _, r, f, rfl, ⟨ax, rfl, hx⟩, ⟨af, rfl, seqT (s4.trans (s46.trans s7)) haf⟩, by rw [wl r rm, fw], by rw [wl r rm]; omega, fun x hxf' => ?_, fun H9 z s9 hz9 => g1 _ _ _ s9 (by rw [er]; rfl) hz9⟩
          obtain ⟨ix, hix, rfl⟩ := List.getElem_of_mem hxf'
          have e1 : at' f ix = f[ix] := by unfold at'; rw [List.getElem?_eq_getElem hix]; rfl
          exact mulOk_of (m := M) (n := N) (Nat.lt_of_le_of_lt (Nat.le_trans (fdiv_natAbs _ _) (pb r rm)) hB2) (by rw [← e1]; exact Nat.lt_of_le_of_lt (bC f (List.mem_append_left _ fm) ix) hC2) (by omega)
      intro H7 ts s7 ht prt
      rw [outs_mapG] at prt
      have s37 : Same H3 H7 := s4.trans (s46.trans s7)
      have prt' : Paired (IsRow K H7) ts (turned p j left f) := prt
      have lt' : (turned p j left f).length ≤ 1000 := by unfold turned; rw [List.length_map]; exact rl
      have wt : ∀ r ∈ turned p j left f, r.length = w := fun r hr => by
        obtain ⟨r0, h1, rfl⟩ := List.mem_map.mp hr
        exact less_len (wl _ (tm _ h1)) fw
      -- others
      refine ⟨_, rfl, o, _, rfl, .inr (s37.seq ho), _, rfl, D7, rfl, ⟨_, SqL.of ht⟩, fun D8 hD8 => ?_⟩
      refine lcp (walk_rows prt') (IsRow K) stab_row (fun i => ((turned p j left f)[i]?).bind fun r => if decide (at' r p = 0) = true then some r else none) (by omega) hD8 (fun H8 s8 => ⟨s8.seq (SqL.of ht), s8⟩) ?_ ?_
      · rintro i x H8 H9 hi s8 ⟨rfl, r, er, ⟨ax, rfl, hx⟩⟩ k1 k0 g1 g0
        refine ⟨rfl, _, rfl, _, rfl, ax, _, _, _, rfl, rfl, hx, atI_nat (at_map (by rw [wt r (List.mem_of_getElem? er)]; exact hp)), rfl, _, rfl, ?_⟩
        refine ite2 (fun d => ?_) (fun d => ?_)
        · refine ⟨_, rfl, g1 _ _ r (Same.refl _) ?_ ⟨ax, rfl, hx⟩⟩
          simp only [er, Option.bind_some]
          rw [if_pos]
          simpa using d
        · refine g0 _ (Same.refl _) ?_
          simp only [er, Option.bind_some]
          rw [if_neg]
          simpa using d
      intro H8 us s8 hu8 pru
      rw [outs_filter] at pru
      have lu := paired_len pru
      have lu2 := filter_len (turned p j left f) p
      refine ⟨D8, _, rfl, .inr (SqL.of hu8), ?_⟩
      refine ⟨small_len (by rw [List.append_nil, List.length_append]; omega), fun o2 ho2 => ?_⟩
      -- left
      have s38 := s37.trans (s8.trans (same_upd (o := .lst (os ++ (us ++ []))) ho2))
      have s78 := s8.trans (same_upd (o := .lst (os ++ (us ++ []))) ho2)
      have hO2 : (upd H8 o2 (.lst (os ++ (us ++ [])))) o2 = some (.lst (os ++ (us ++ []))) := upd_same
      have s89 := same_upd (o := .lst (os ++ (us ++ []))) ho2
      generalize upd H8 o2 (.lst (os ++ (us ++ []))) = H9 at s38 s78 hO2 s89
      have pru9 : Paired (IsRow K H9) us ((turned p j left f).filter fun r => decide (at' r p = 0)) := Paired.imp (fun _ _ q => IsRow.same s89 q) pru
      refine ⟨_, rfl, _, rfl, D7, rfl, ⟨_, s78.seq (SqL.of ht)⟩, fun D9 hD9 => ?_⟩
      refine lcp (walk_rows (Paired.imp (fun _ _ q => q.same s78) prt')) (IsRow K) stab_row (fun i => ((turned p j left f)[i]?).bind fun r => if decide (at' r p ≠ 0) = true then some r else none) (by omega) hD9 (fun H10 s10 => ⟨s10.seq (s78.seq (SqL.of ht)), s10⟩) ?_ ?_
      · rintro i x H10 H11 hi s10 ⟨rfl, r, er, ⟨ax, rfl, hx⟩⟩ k1 k0 g1 g0
        refine ⟨rfl, _, rfl, _, rfl, ax, _, _, _, rfl, rfl, hx, atI_nat (at_map (by rw [wt r (List.mem_of_getElem? er)]; exact hp)), rfl, _, rfl, ?_⟩
        refine ite2 (fun d => ?_) (fun d => ?_)
        · refine ⟨_, rfl, g1 _ _ r (Same.refl _) ?_ ⟨ax, rfl, hx⟩⟩
          simp only [er, Option.bind_some]
          rw [if_pos]
          simpa using d
        · refine g0 _ (Same.refl _) ?_
          simp only [er, Option.bind_some]
          rw [if_neg]
          simpa using d
      intro H10 ws s10 hw10 prw
      rw [outs_filter] at prw
      have lw := paired_len prw
      refine ⟨D9, _, rfl, .inr (SqL.of hw10), ?_⟩
      refine ⟨small_len (by rw [List.append_nil, List.length_cons]; omega), fun l2 hl2 => ?_⟩
      have sE := same_upd (o := .lst (.ref af :: (ws ++ []))) hl2
      refine ⟨_, siz_step G hf hm c', l2, o2, _, _, _, _, _, _, _, rfl, s3.trans (s38.trans (s10.trans sE)), ⟨_, SqL.of upd_same, ?_⟩, ⟨_, sE.seq (s10.seq (SqL.of hO2)), ?_⟩, G.step hw hf, Ph.step G hB1 hC hf hm c', rfl⟩
      · exact .cons ⟨af, rfl, seqT (s38.trans (s10.trans sE)) haf⟩ (paired_nil (Paired.imp (fun _ _ q => IsRow.same sE q) prw))
      · exact paired_app (Paired.imp (fun _ _ q => IsRow.same (s38.trans (s10.trans sE)) q) pro) (paired_nil (Paired.imp (fun _ _ q => IsRow.same (s10.trans sE) q) pru9))
    · have c' : left.length ≤ 1 := by
        have : ¬ (1 : Int) < ((ls.length : Nat) : Int) := of_decide_eq_false (by simpa using c)
        omega
      have bC := Ph.bd G hB1 hC
      have zo : ∀ r ∈ others, ∀ i, i ≤ p → at' r i = 0 := fun r hr i hi => by
        by_cases e : i = p
        · rw [e]; exact G.z r hr
        · exact G.pre r (List.mem_append_right _ hr) i (by omega)
      -- if len(left) == 0
      refine ⟨_, rfl, _, _, rfl, .inl ⟨_, hl, rfl⟩, rfl, _, rfl, ?_⟩
      refine ite2 (fun d => ?_) (fun d => ?_)
      · have d' : V.int ((ls.length : Nat) : Int) = V.int 0 := of_decide_eq_true d
        injection d' with d'
        have e0 : left = [] := List.eq_nil_of_length_eq_zero (by omega)
        subst e0
        refine ⟨_, rfl, small_len (by simp), fun T hT' => ?_⟩
        have sT := same_upd (o := .tup [V.non, .ref o]) hT'
        refine k _ T .non o none others (s3.trans sT) (SqT.of upd_same) rfl ⟨_, sT.seq ho, Paired.imp (fun _ _ q => IsRow.same sT q) pro⟩ ?_
        exact ⟨G.eqv, G.wd, zo, (fun f e => nomatch e), G.len, bC, (fun f e => nomatch e)⟩
      · have l1 : left.length = 1 := by
          have : ls.length ≠ 0 := fun e => d (decide_eq_true (by rw [e]; exact rfl))
          omega
        obtain ⟨f, ef⟩ := List.length_eq_one_iff.mp l1
        subst ef
        cases prl with
        | cons rf rn =>
          cases rn
          rename_i xf
          refine ⟨_, rfl, l, _, _, _, rfl, rfl, hl, atI_nat (j := 0) rfl, ?_⟩
          obtain ⟨af, rfl, haf⟩ := rf
          have fw : f.length = w := G.wd f (List.mem_append_left _ (List.mem_cons_self ..))
          have fz := G.nz f (List.mem_cons_self ..)
          have fpre := G.pre f (List.mem_append_left _ (List.mem_cons_self ..))
          refine ⟨_, rfl, _, rfl, af, _, _, _, rfl, rfl, haf, atI_nat (at_map (by rw [fw]; exact hp)), _, _, rfl, rfl, _, rfl, ?_⟩
          refine ite2 (fun e => ?_) (fun e => ?_)
          · have e' : 0 < at' f p := of_decide_eq_true e
            refine ⟨_, rfl, _, rfl, small_len (by simp), fun T hT' => ?_⟩
            have sT := same_upd (o := .tup [V.ref af, .ref o]) hT'
            refine k _ T (.ref af) o (some f) others (s3.trans sT) (SqT.of upd_same) ⟨af, rfl, seqT sT haf⟩ ⟨_, sT.seq ho, Paired.imp (fun _ _ q => IsRow.same sT q) pro⟩ ?_
            exact ⟨G.eqv, G.wd, zo, fun f' ef => Option.some.inj ef ▸ ⟨fpre, e'⟩, G.len, bC, fun f' ef => Option.some.inj ef ▸ Ph.piv G (List.mem_cons_self ..)⟩
          · have e' : ¬ 0 < at' f p := of_decide_eq_false (by simpa using e)
            -- less(tuple([0] * len(first)), 1, first)
            refine ⟨small_len (by simp), fun q1 hq1 => ?_⟩
            have sq1 := same_upd (o := .lst [V.int 0]) hq1
            refine ⟨_, rfl, _, _, rfl, .inr ⟨_, seqT sq1 haf, rfl⟩, q1, _, _, rfl, rfl, upd_same, ?_⟩
            rw [List.length_map, fw]
            refine ⟨by omega, by omega, by rw [Int.toNat_natCast]; exact small_len (by simp; omega), fun q2 hq2 => ?_⟩
            rw [Int.toNat_natCast, flat_rep, rep_int] at *
            have sq2 := same_upd (o := .lst ((List.replicate w (0 : Int)).map V.int)) hq2
            refine ⟨q2, _, rfl, .inl ⟨SqL.of upd_same, fun q3 hq3 => ?_⟩⟩
            have sq3 := same_upd (o := .tup ((List.replicate w (0 : Int)).map V.int)) hq3
            have sq := sq1.trans (sq2.trans sq3)
            refine ⟨_, rfl, .ref q3, .ref af, 1, List.replicate w 0, f, rfl, ⟨q3, rfl, SqT.of upd_same⟩, ⟨af, rfl, seqT sq haf⟩, by rw [List.length_replicate, fw], by rw [List.length_replicate]; omega, fun x _ => .of_left (by decide), fun H4 z s4 hz4 => ?_⟩
            refine ⟨_, rfl, small_len (by simp), fun T hT' => ?_⟩
            have sT := same_upd (o := .tup [z, .ref o]) hT'
            have sA := s3.trans (sq.trans (s4.trans sT))
            have sB := sq.trans (s4.trans sT)
            obtain ⟨n1, n2⟩ := neg_eqv G.wd
            refine k _ T z o (some (less (List.replicate w 0) 1 f)) others sA (SqT.of upd_same) (hz4.same sT) ⟨_, sB.seq ho, Paired.imp (fun _ _ q => IsRow.same sB q) pro⟩ ?_
            refine ⟨G.eqv.trans hw n2 n1, n2, zo, fun f' ef => Option.some.inj ef ▸ ⟨fun i hi => ?_, ?_⟩, G.len, neg_bd fw bC, fun f' ef => Option.some.inj ef ▸ ?_⟩
            · rw [at_neg fw, fpre i hi]; rfl
            · rw [at_neg fw]; omega
            · rw [at_neg fw, Int.natAbs_neg]; exact Ph.piv G (List.mem_cons_self ..)
end
end My
set_option maxHeartbeats 400000
namespace My
open PySem L2
open Lat
section
variable {P : Program} {w : World} {K : PySem.W.Frag} {mg : Str → Option Value} {base : Heap}
/-! ### what is asked of arguments: only where they are right -/
abbrev sIsi : Stmt := top 6
abbrev NIsi : List Str := ["value"]
theorem scIsi : FnScope NIsi ["value"] (defScope sIsi) := ⟨rfl, rfl, rfl, by decide +kernel, rfl, by decide +kernel, by decide +kernel⟩

def spIsi : Sp := fun vs H Q _ => ∃ i : Int, vs = [.int i] ∧ Q (.bl true) H
theorem ok_Isi {f : Addr} {fd : FuncData} (F : Fun K "is_integer" "is_integer" sIsi f fd) (Z : Bn mg) : FnOk P w K mg base CX0 1 f fd ["value"] spIsi := by
  refine F.ok scIsi (fun vs H Q E h => ?_) (fun cdv A outer s H vs Q E hr h => ?_)
  · obtain ⟨i, rfl, _⟩ := h
    rfl
  · obtain ⟨i, rfl, k⟩ := h
    refine ⟨_, (pss_one (ps_ret (pe_and (pe_callB (call_isiX (K := K) rfl) (by rfl) Z.isinstance (by decide +kernel) (pa_cons (pv 0) (pa_cons (pe_bltn (v := .ty "int") (by rfl) Z.int (by decide +kernel) rfl) pa_nil))) (pe_one (pe_not (pe_callB (call_isiX (K := K) rfl) (by rfl) Z.isinstance (by decide +kernel) (pa_cons (pv 0) (pa_cons (pe_bltn (v := .ty "bool") (by rfl) Z.bool (by decide +kernel) rfl) pa_nil)))))))), ?_⟩
    refine ⟨_, rfl, _, _, _, _, true, rfl, .ty "int", .base (.int i), kit_ty (by decide +kernel), _, rfl, iteT ?_⟩
    exact ⟨_, rfl, _, _, _, _, false, rfl, .ty "bool", .base (.int i), kit_ty (by decide +kernel), _, rfl, k⟩
abbrev sIss : Stmt := top 7
abbrev NIss : List Str := ["value"]
theorem scIss : FnScope NIss ["value"] (defScope sIss) := ⟨rfl, rfl, rfl, by decide +kernel, rfl, by decide +kernel, by decide +kernel⟩

def spIss (K : PySem.W.Frag) : Sp := fun vs H Q _ => ∃ a rs, vs = [.ref a] ∧ IsRowsS K H a rs ∧ ∀ H', Same H H' → Q (.bl true) H'
theorem ok_Iss {f : Addr} {fd : FuncData} (F : Fun K "is_sequence" "is_sequence" sIss f fd) (Z : Bn mg) : FnOk P w K mg base CX0 1 f fd ["value"] (spIss K) := by
  refine F.ok scIss (fun vs H Q E h => ?_) (fun cdv A outer s H vs Q E hr h => ?_)
  · obtain ⟨i, _, rfl, _⟩ := h
    rfl
  · obtain ⟨a, rs, rfl, hr', k⟩ := h
    refine ⟨_, (pss_one (ps_ret (pe_callB (call_isiTX (K := K) rfl) (by rfl) Z.isinstance (by decide +kernel) (pa_cons (pv 0) (pa_cons (pe_tup (pa_cons (pe_bltn (v := .ty "list") (by rfl) Z.list (by decide +kernel) rfl) (pa_cons (pe_bltn (v := .ty "tuple") (by rfl) Z.tuple (by decide +kernel) rfl) pa_nil))) pa_nil))))), ?_⟩
    refine ⟨_, rfl, small_len (by simp), fun t ht => ?_⟩
    have st := same_upd (o := .tup [V.ty "list", V.ty "tuple"]) ht
    rcases hr' with ⟨xs, h1, _⟩ | ⟨xs, h1, _⟩
    · exact ⟨_, t, _, _, _, true, rfl, upd_same, .cons (.ty "list") (.cons (.ty "tuple") .nil), ty_list (st.seq h1), kitAny_cons (b := true) (kit_ty (by decide +kernel)) (fun h => nomatch h) (fun _ => rfl), k _ st⟩
    · exact ⟨_, t, _, _, _, true, rfl, upd_same, .cons (.ty "list") (.cons (.ty "tuple") .nil), ty_tup (seqT st h1), kitAny_cons (b := false) (kit_ty (by decide +kernel)) (fun _ => kitAny_cons (b := true) (kit_ty (by decide +kernel)) (fun h => nomatch h) (fun _ => rfl)) (fun h => nomatch h), k _ st⟩
abbrev sIsv : Stmt := top 8
abbrev NIsv : List Str := ["value", "width", "number"]
theorem scIsv : FnScope NIsv ["value", "width"] (defScope sIsv) := ⟨rfl, rfl, rfl, by decide +kernel, rfl, by decide +kernel, by decide +kernel⟩

def spIsv (K : PySem.W.Frag) : Sp := fun vs H Q _ => ∃ v r, vs = [v, .int (r.length : Nat)] ∧ IsRow K H v r ∧ r.length ≤ 1000 ∧ ∀ H', Same H H' → Q (.bl true) H'
theorem ok_Isv {f : Addr} {fd : FuncData} (F : Fun K "is_vector" "is_vector" sIsv f fd) (Z : Bn mg) (ci : Cal P w K mg base "is_integer" 1 ["value"] spIsi) : FnOk P w K mg base CX0 2 f fd ["value", "width"] (spIsv K) := by
  obtain ⟨f_is_integer, fd_is_integer, g_is_integer, k_is_integer, b_is_integer, G_is_integer⟩ := ci.ex
  refine F.ok scIsv (fun vs H Q E h => ?_) (fun cdv A outer s H vs Q E hr h => ?_)
  · obtain ⟨v, r, rfl, _⟩ := h
    rfl
  · obtain ⟨v, r, rfl, ⟨a, rfl, ha⟩, hl, k⟩ := h
    refine ⟨_, (pss_one (ps_ret (pe_and (pe_callB (call_isiX (K := K) rfl) (by rfl) Z.isinstance (by decide +kernel) (pa_cons (pv 0) (pa_cons (pe_bltn (v := .ty "tuple") (by rfl) Z.tuple (by decide +kernel) rfl) pa_nil))) (pe_and (pe_cmpR op_eq (pe_callB call_len (by rfl) Z.len PySem.boot_len (pa_cons (pv 0) pa_nil)) (pv 1) (nomark _)) (pe_one (pe_callB (cr_allK (K := K) rfl rfl) (by rfl) Z.all (by decide +kernel) (pa_cons (pe_lc (own := [("number", 2)]) (g := gName 2) (tt := tYes) (by rfl) scIsv.nd (pi_tup (pv 0)) (blkOk_by (own := [("number", 2)]) (N := NIsv) (sc := defScope sIsv) (by decide +kernel)) (fun _ _ _ _ _ => pg_name (i := 2) scIsv.nd rfl (Or.inl rfl)) (fun _ _ _ _ _ => pts_nil) (fun _ _ _ _ _ => (pe_call G_is_integer (hr.mono (by decide)) (by rfl) g_is_integer k_is_integer b_is_integer .nil pass0 (pa_cons (pv 2) pa_nil)))) pa_nil))))))), ?_⟩
    refine ⟨_, rfl, _, _, _, _, true, rfl, .ty "tuple", ty_tup ha, kit_ty (by decide +kernel), _, rfl, iteT ?_⟩
    refine ⟨_, rfl, _, _, rfl, .inr ⟨_, ha, rfl⟩, _, rfl, rfl, ?_⟩
    rw [List.length_map, decide_eq_true rfl]
    refine ⟨_, rfl, iteT ?_⟩
    refine ⟨_, rfl, a, rfl, ⟨_, ha⟩, fun D hD => ?_⟩
    refine lcp walk_tupI IsBl stab_bl (fun i => some true) (by omega) hD (fun H1 s1 => seqT s1 ha) ?_ ?_
    · rintro i x H1 H2 hi s1 ⟨rfl, rfl⟩ k1 k0 g1 _
      exact ⟨rfl, _, rfl, _, rfl, g1 _ _ _ (Same.refl _) rfl rfl⟩
    · intro H1 ys s1 hy pr
      have := paired_isbl pr
      subst this
      refine ⟨D, _, rfl, SqL.of hy, ?_⟩
      rw [outs_map]
      have e : ((List.range r.length).map fun _ => true).all id = true := by
        rw [List.all_eq_true]; intro x hx; obtain ⟨_, _, rfl⟩ := List.mem_map.mp hx; rfl
      rw [e]
      exact k _ s1
abbrev sNeed : Stmt := top 20
abbrev NNeed : List Str := ["width", "rows", "row"]
theorem scNeed : FnScope NNeed ["width", "rows"] (defScope sNeed) := ⟨rfl, rfl, rfl, by decide +kernel, rfl, by decide +kernel, by decide +kernel⟩

def spNeed (K : PySem.W.Frag) : Sp := fun vs H Q _ => ∃ a w rs, vs = [.int (w : Nat), .ref a] ∧ IsRowsS K H a rs ∧ Wd w rs ∧ 1 ≤ w ∧ w ≤ 1000 ∧ rs.length ≤ 1000 ∧ ∀ H', Same H H' → Q .non H'
theorem ok_Need {f : Addr} {fd : FuncData} (F : Fun K "need_vectors" "need_vectors" sNeed f fd) (Z : Bn mg) (ci : Cal P w K mg base "is_integer" 1 ["value"] spIsi) (cs : Cal P w K mg base "is_sequence" 1 ["value"] (spIss K)) (cv : Cal P w K mg base "is_vector" 2 ["value", "width"] (spIsv K)) : FnOk P w K mg base CX0 3 f fd ["width", "rows"] (spNeed K) := by
  obtain ⟨f_is_integer, fd_is_integer, g_is_integer, k_is_integer, b_is_integer, G_is_integer⟩ := ci.ex
  obtain ⟨f_is_sequence, fd_is_sequence, g_is_sequence, k_is_sequence, b_is_sequence, G_is_sequence⟩ := cs.ex
  obtain ⟨f_is_vector, fd_is_vector, g_is_vector, k_is_vector, b_is_vector, G_is_vector⟩ := cv.ex
  refine F.ok scNeed (fun vs H Q E h => ?_) (fun cdv A outer s H vs Q E hr h => ?_)
  · obtain ⟨a, w, rs, rfl, _⟩ := h
    rfl
  · obtain ⟨a, w, rs, rfl, hs, hw, h1, hz, hn, k⟩ := h
    refine ⟨_, (pss_cons (ps_if (PW.pt (pw_or (pt_not (pt_val (pe_call G_is_integer (hr.mono (by decide)) (by rfl) g_is_integer k_is_integer b_is_integer .nil pass0 (pa_cons (pv 0) pa_nil)))) (pw_or (pt_cmpR op_lt (pv 0) pe_int (nomark _)) (pw_or1 (pt_not (pt_val (pe_call G_is_sequence (hr.mono (by decide)) (by rfl) g_is_sequence k_is_sequence b_is_sequence .nil pass0 (pa_cons (pv 1) pa_nil)))))))) (pss_one ps_never) pss_nil)
      (pss_one (ps_if (pt_cmpR (op_neDK (K := K) rfl hr.units) (pe_lc (own := [("row", 2)]) (g := gName 2) (by rfl) scNeed.nd (pi_seq (pv 1)) (blkOk_by (own := [("row", 2)]) (N := NNeed) (sc := defScope sNeed) (by decide +kernel)) (fun _ _ _ _ _ => pg_name (i := 2) scNeed.nd rfl (Or.inl rfl)) (fun _ _ _ _ _ => (pts_one (pt_not (pt_val (pe_call G_is_vector (hr.mono (by decide)) (by rfl) g_is_vector k_is_vector b_is_vector .nil pass0 (pa_cons (pv 2) (pa_cons (pv 0) pa_nil))))))) (fun _ _ _ _ _ => (pv 2))) (pe_lst pa_nil) (nomark _)) (pss_one ps_never) pss_nil))), ?_⟩
    refine ⟨_, rfl, _, rfl, _, rfl, iteF ?_⟩
    refine ⟨_, rfl, _, _, rfl, rfl, _, rfl, ?_⟩
    rw [decide_eq_false (by omega : ¬ ((w : Nat) : Int) < 1)]
    refine iteF ⟨_, rfl, a, rs, rfl, hs, fun H1 s1 => ⟨_, rfl, iteF ?_⟩⟩
    obtain ⟨J, G, W, hG, hJ⟩ := seq_walk (hs.same s1)
    refine ⟨_, rfl, a, rfl, ?_⟩
    refine hJ _ ?_
    intro D hD
    refine lcp W IsInt stab_int (fun i => none) (by omega) hD hG ?_ ?_
    · rintro i x H2 H3 hi s2 ⟨rfl, r, er, hx⟩ k1 k0 g1 g0
      have rw' := hw r (List.mem_of_getElem? er)
      refine ⟨rfl, _, rfl, _, rfl, x, r, by rw [rw']; rfl, hx, by omega, fun H4 s4 => ⟨_, rfl, iteF (g0 _ s4 rfl)⟩⟩
    · intro H2 ys s2 hy pr
      rw [outs_none] at pr
      cases pr
      refine ⟨small_len (by simp), fun q hq => ?_⟩
      have sq := same_upd (o := .lst []) hq
      refine ⟨_, _, .lst (SqL.of (sq _ _ hy)) .nil, .lst (SqL.of upd_same) .nil, rfl, rfl, _, rfl, ?_⟩
      exact iteF (k _ (s1.trans (s2.trans sq)))
end
end My
set_option maxHeartbeats 400000
namespace My
open PySem L2
open Lat
section
variable {P : Program} {w : World} {K : PySem.W.Frag} {mg : Str → Option Value} {base : Heap}
/-! ### settled -/
abbrev sSett : Stmt := top 15
abbrev NSett : List Str := ["basis", "found", "row", "place", "elder"]
theorem scSett : FnScope NSett ["basis"] (defScope sSett) := ⟨rfl, rfl, rfl, by decide +kernel, rfl, by decide +kernel, by decide +kernel⟩

def spSett (K : PySem.W.Frag) : Sp := fun vs H Q _ => ∃ (a : Addr) (w R M N : Nat) (B : List (List Int)), vs = [.ref a] ∧ IsRows K H a B ∧ Ech w B ∧ Bd R B ∧ 1 ≤ R ∧ R < 2 ^ N ∧ N * (B.length + 2) ≤ 60000000 ∧ (∀ r ∈ B, (at' r (piv r)).natAbs < 2 ^ M) ∧ 0 < M ∧ M ≤ 9000 ∧ w ≤ 1000 ∧ B.length ≤ 1000 ∧
  ∀ H' T, Same H H' → IsRowsT K H' T (settled B) → Q (.ref T) H'
theorem settled_snoc {B : List (List Int)} {i : Nat} {r : List Int} (h : B[i]? = some r) : settled (B.take (i + 1)) = settle (settled (B.take i)) r := by
  rw [List.take_add_one, h]
  unfold settled
  rw [List.foldl_append]; rfl
theorem pow_bits {R N i : Nat} (h : R < 2 ^ N) : R * (1 + R) ^ i < 2 ^ (N * (i + 1)) := by
  have h1 : (1 + R) ^ i ≤ (2 ^ N) ^ i := Nat.pow_le_pow_left (by omega) i
  rw [← Nat.pow_mul] at h1
  rw [Nat.mul_add, Nat.mul_one, Nat.pow_add, Nat.mul_comm (2 ^ (N * i))]
  exact Nat.lt_of_le_of_lt (Nat.mul_le_mul_left R h1) (Nat.mul_lt_mul_of_pos_right h (Nat.pow_pos (by decide)))
theorem mem_at {f : List Int} {x : Int} (h : x ∈ f) : ∃ i, x = at' f i := by
  obtain ⟨i, hi, rfl⟩ := List.getElem_of_mem h
  exact ⟨i, by unfold at'; rw [List.getElem?_eq_getElem hi]; rfl⟩
theorem ok_Sett {f : Addr} {fd : FuncData} (F : Fun K "settled" "settled" sSett f fd) (Z : Bn mg) (cl : Cal P w K mg base "less" 1 ["one", "times", "other"] (spLess K)) (cp : Cal P w K mg base "pivot_of" 1 ["vector"] (spPiv K)) : FnOk P w K mg base CX0 2 f fd ["basis"] (spSett K) := by
  obtain ⟨f_less, fd_less, g_less, k_less, b_less, G_less⟩ := cl.ex
  obtain ⟨f_pivot_of, fd_pivot_of, g_pivot_of, k_pivot_of, b_pivot_of, G_pivot_of⟩ := cp.ex
  refine F.ok scSett (fun vs H Q E h => ?_) (fun cdv A outer s H vs Q E hr h => ?_)
  · obtain ⟨a, w, R, M, N, B, rfl, _⟩ := h
    rfl
  · obtain ⟨a, w, R, M, N, B, rfl, ⟨xs, hsq, pr⟩, hE, hR, hR1, hR2, hN, hM, hM0, hM9, hw, hn, k⟩ := h
    refine ⟨_, (pss_cons (ps_set (i := 1) scSett.nd rfl (Or.inl rfl) (pe_lst pa_nil))
      (pss_cons (ps_for PassesOwn.never rfl (pi_list (pv 0)) (pg_name (i := 2) scSett.nd rfl (Or.inr rfl)) (pss_cons (ps_set (i := 3) scSett.nd rfl (Or.inr rfl) (pe_call G_pivot_of (hr.mono (by decide)) (by rfl) g_pivot_of k_pivot_of b_pivot_of .nil pass0 (pa_cons (pv 2) pa_nil)))
      (pss_one (ps_set (i := 1) scSett.nd rfl (Or.inl rfl) (pe_lst (StX.pa_star (pe_lc (own := [("elder", 4)]) (g := gName 4) (tt := tYes) (by rfl) scSett.nd (pi_list (pv 1)) (blkOk_by (own := [("elder", 4)]) (N := NSett) (sc := defScope sSett) (by decide +kernel)) (fun _ _ _ _ _ => pg_name (i := 4) scSett.nd rfl (Or.inl rfl)) (fun _ _ _ _ _ => pts_nil) (fun _ _ _ _ _ => (pe_call G_less (hr.mono (by decide)) (by rfl) g_less k_less b_less .nil pass0 (pa_cons (pv 4) (pa_cons (pe_op op_fdivL (pe_ix (ix_tupK (K := K) rfl) (pv 4) (pv 3) (fun _ _ => rfl)) (pe_ix (ix_tupK (K := K) rfl) (pv 2) (pv 3) (fun _ _ => rfl))) (pa_cons (pv 2) pa_nil)))))) (pa_cons (pv 2) pa_nil)))))))
      (pss_one (ps_ret (pe_callTy (call_tuple_ofK (K := K) rfl) (by rfl) Z.tuple (by decide +kernel) (pa_cons (pv 1) pa_nil)))))), ?_⟩
    refine ⟨small_len (by simp), fun l0 hl0 => ?_⟩
    have s0 := same_upd (o := .lst []) hl0
    refine ⟨_, rfl, a, rfl, ⟨_, s0.seq hsq⟩, ?_⟩
    refine for_it (walk_rows pr) (fun i σ H' => ∃ (l : Addr) (v2 v3 v4 : Option V), σ = [some (.ref a), some (.ref l), v2, v3, v4] ∧ Same H H' ∧ IsRows K H' l (settled (B.take i))) ⟨l0, none, none, none, rfl, s0, [], SqL.of upd_same, .nil⟩ (fun i σ H' _ ⟨_, _, _, _, _, s1, _⟩ => ⟨s1.seq hsq, s1⟩) ?_ ?_
    · rintro i x σ H1 H2 hi ⟨l, v2, v3, v4, rfl, s1, ⟨ls, hl, prl⟩⟩ ⟨rfl, r, er, ⟨ax, rfl, hx⟩⟩
      have rm : r ∈ B := List.mem_of_getElem? er
      have pr' := hE.row r rm
      obtain ⟨u1, u2, u3, u4, u5⟩ := settled_upto hE hR hR1 i (by omega)
      refine ⟨_, rfl, .ref ax, r, rfl, ⟨ax, rfl, hx⟩, by rw [pr'.len]; exact hw, ?_⟩
      refine ⟨_, rfl, l, rfl, ⟨_, hl⟩, fun D hD => ?_⟩
      refine lcp (walk_rows prl) (IsRow K) stab_row (fun j => ((settled (B.take i))[j]?).map (turn (piv r) r)) (by rw [u4]; omega) hD (fun H2 s2 => ⟨s2.seq hl, s2⟩) ?_ ?_
      · rintro j y H2 H3 hj s2 ⟨rfl, e, ee, ⟨ae, rfl, he⟩⟩ k1 k0 g1 _
        have em := List.mem_of_getElem? ee
        have ew : e.length = w := u1.wd e em
        refine ⟨rfl, _, rfl, _, rfl, _, rfl, ae, _, _, _, rfl, rfl, he, atI_nat (at_map (by rw [ew]; exact pr'.lt)), _, rfl, _, rfl, ax, _, _, _, rfl, rfl, seqT s2 hx, atI_nat (at_map (by rw [pr'.len]; exact pr'.lt)), _, _, rfl, rfl, ⟨by have := pr'.pos; omega, Nat.lt_of_lt_of_le (PySem.Flt.log2_lt_of hM0 (hM r rm)) hM9⟩, _, rfl, ?_⟩
        refine ⟨.ref ae, .ref ax, _, e, r, rfl, ⟨ae, rfl, he⟩, ⟨ax, rfl, seqT s2 hx⟩, by rw [ew, pr'.len], by rw [ew]; exact hw, fun x hxm => ?_, fun H4 z s4 hz => g1 _ _ _ s4 (by rw [ee]; rfl) hz⟩
        obtain ⟨ix, rfl⟩ := mem_at hxm
        have hi' : i < B.length := hi
        refine mulOk_of (m := N * (i + 1)) (n := N) (Nat.lt_of_le_of_lt (Nat.le_trans (fdiv_natAbs _ _) (u3 e em _)) (pow_bits hR2)) (Nat.lt_of_le_of_lt (hR r rm ix) hR2) ?_
        have : N * (i + 1) + N ≤ N * (B.length + 2) := by rw [← Nat.mul_succ]; exact Nat.mul_le_mul_left N (by omega)
        omega
      intro H2 ts s2 ht prt
      rw [outs_mapG] at prt
      have lt := paired_len prt
      rw [List.length_map, u4] at lt
      refine ⟨D, _, rfl, .inr (SqL.of ht), _, rfl, ?_⟩
      refine ⟨small_len (by simp; omega), fun l2 hl2 => ?_⟩
      have s3 := same_upd (o := .lst (ts ++ [.ref ax])) hl2
      refine ⟨l2, _, _, _, rfl, s1.trans (s2.trans s3), _, SqL.of upd_same, ?_⟩
      rw [settled_snoc er]
      exact paired_app (Paired.imp (fun _ _ q => IsRow.same s3 q) prt) (.cons ⟨ax, rfl, seqT (s2.trans s3) hx⟩ .nil)
    · rintro σ H1 ⟨l, v2, v3, v4, rfl, s1, ⟨ls, hl, prl⟩⟩
      rw [List.take_length] at prl
      refine ⟨_, rfl, l, _, rfl, .inl ⟨hl, fun T hT => ?_⟩⟩
      have sT := same_upd (o := .tup ls) hT
      exact k _ T (s1.trans sT) ⟨_, SqT.of upd_same, Paired.imp (fun _ _ q => IsRow.same sT q) prl⟩
/-! ### basis_of -/
abbrev sBas : Stmt := top 16
abbrev NBas : List Str := ["width", "rows", "found", "left", "place", "first", "row"]
theorem scBas : FnScope NBas ["width", "rows"] (defScope sBas) := ⟨rfl, rfl, rfl, by decide +kernel, rfl, by decide +kernel, by decide +kernel⟩

/-- the basis of rows -/
structure Bas (w : Nat) (rs S : List (List Int)) : Prop where
  hnf : Hnf w S
  eqv : Eqv w rs S
  len : S.length ≤ w
def spBas (K : PySem.W.Frag) : Sp := fun vs H Q _ => ∃ (a : Addr) (w n B b : Nat) (rs : List (List Int)), vs = [.int (w : Nat), .ref a] ∧ IsRowsS K H a rs ∧ Wd w rs ∧ 1 ≤ w ∧ w ≤ 1000 ∧ rs.length ≤ n ∧ n ≤ 1000 ∧ Bd B rs ∧ 1 ≤ B ∧ B < 2 ^ b ∧ 0 < b ∧
  (∀ p, p < w → bits n b p ≤ 9000) ∧ bits n b w * (w + 2) ≤ 60000000 ∧
  ∀ H' T S, Same H H' → IsRowsT K H' T S → Bas w rs S → Q (.ref T) H'
theorem bits_pos {n b : Nat} (h : 0 < b) : ∀ p, 0 < bits n b p
  | 0 => h
  | p + 1 => by have := bits_pos (n := n) h p; show 0 < 6 * bits n b p + n; omega
theorem bits_le {n b p : Nat} : bits n b p ≤ bits n b (p + 1) := by show _ ≤ 6 * bits n b p + n; omega
theorem bits_mono {n b p q : Nat} (h : p ≤ q) : bits n b p ≤ bits n b q := by
  induction h with
  | refl => exact Nat.le_refl _
  | step _ ih => exact Nat.le_trans ih bits_le
theorem ok_Bas {f : Addr} {fd : FuncData} (F : Fun K "basis_of" "basis_of" sBas f fd) (Z : Bn mg) (cg : Cal P w K mg base "gathered" 2 ["rows", "place"] (spGath K)) (cs : Cal P w K mg base "settled" 2 ["basis"] (spSett K)) : FnOk P w K mg base CX0 3 f fd ["width", "rows"] (spBas K) := by
  obtain ⟨f_gathered, fd_gathered, g_gathered, k_gathered, b_gathered, G_gathered⟩ := cg.ex
  obtain ⟨f_settled, fd_settled, g_settled, k_settled, b_settled, G_settled⟩ := cs.ex
  refine F.ok scBas (fun vs H Q E h => ?_) (fun cdv A outer s H vs Q E hr h => ?_)
  · obtain ⟨a, w, n, B, b, rs, rfl, _⟩ := h
    rfl
  · obtain ⟨a, w, n, B, b, rs, rfl, hs, hw, hw1, hw2, hn, hn2, hB, hB1, hB2, hb, h9, h6, k⟩ := h
    refine ⟨_, (pss_cons (ps_par (i := 2) (j := 3) (by rfl) scBas.nd rfl rfl (by decide) rfl rfl (pa_cons (pe_lst pa_nil) (pa_cons (pe_lc (own := [("row", 6)]) (g := gName 6) (tt := tYes) (by rfl) scBas.nd (pi_seq (pv 1)) (blkOk_by (own := [("row", 6)]) (N := NBas) (sc := defScope sBas) (by decide +kernel)) (fun _ _ _ _ _ => pg_name (i := 6) scBas.nd rfl (Or.inl rfl)) (fun _ _ _ _ _ => pts_nil) (fun _ _ _ _ _ => (pe_callTy (call_tuple_ofK (K := K) rfl) (by rfl) Z.tuple (by decide +kernel) (pa_cons (pv 6) pa_nil)))) pa_nil)) (by rfl))
      (pss_cons (ps_for PassesOwn.never rfl (pi_range1 (by rfl) Z.range (pa_cons (pv 0) pa_nil)) (pg_name (i := 4) scBas.nd rfl (Or.inl rfl)) (pss_cons (ps_asg (pe_call G_gathered (hr.mono (by decide)) (by rfl) g_gathered k_gathered b_gathered .nil pass0 (pa_cons (pv 3) (pa_cons (pv 4) pa_nil))) (pg_tup rfl (pgs_cons (pg_name (i := 5) scBas.nd rfl (Or.inl rfl)) (pgs_cons (pg_name (i := 3) scBas.nd rfl (Or.inl rfl)) pgs_nil))))
      (pss_one (ps_set (i := 2) scBas.nd rfl (Or.inl rfl) (pe_ifExp (pt_cmpR op_isN (pv 5) pe_non (nomark _)) (pv 2) (pe_lst (StX.pa_star (pv 2) (pa_cons (pv 5) pa_nil))))))))
      (pss_one (ps_ret (pe_call G_settled (hr.mono (by decide)) (by rfl) g_settled k_settled b_settled .nil pass0 (pa_cons (pv 2) pa_nil)))))), ?_⟩
    refine ⟨small_len (by simp), fun l0 hl0 => ?_⟩
    have s0 := same_upd (o := .lst []) hl0
    obtain ⟨J, G, W, hG, hJ⟩ := seq_walk (hs.same s0)
    refine ⟨_, rfl, a, rfl, ?_⟩
    refine hJ _ ?_
    intro D hD
    refine lcp W (IsRow K) stab_row (fun i => rs[i]?) (by omega) hD hG ?_ ?_
    · rintro i x H2 H3 hi s2 ⟨rfl, r, er, ⟨ax, rfl, hx⟩⟩ k1 k0 g1 _
      exact ⟨rfl, _, rfl, ax, _, rfl, .inr ⟨hx, g1 _ _ _ (Same.refl _) er ⟨ax, rfl, hx⟩⟩⟩
    intro H1 ys s1 hy pr1
    have eo : outs (fun i => rs[i]?) rs.length = rs := by
      have := outs_mapG id rs
      simpa using this
    rw [eo] at pr1
    refine ⟨_, _, rfl, ?_⟩
    -- the places
    refine ⟨_, rfl, _, rfl, by omega, by omega, ?_⟩
    refine for_it (walk_range (lo := 0) (n := w)) (fun p σ H' => ∃ (l o : Addr) (found left : List (List Int)) (v4 v5 v6 : Option V), σ = [some (.int (w : Nat)), some (.ref a), some (.ref l), some (.ref o), v4, v5, v6] ∧ Same H H' ∧ IsRows K H' l found ∧ IsRows K H' o left ∧ BI w n B p rs found left)
      ⟨l0, D, [], rs, none, none, none, rfl, s0.trans s1, ⟨[], s1.seq (SqL.of upd_same), .nil⟩, ⟨_, SqL.of hy, pr1⟩, bi_start hw hB hn⟩ (fun _ _ _ _ _ => trivial) ?_ ?_
    · rintro p x σ H2 H3 hp ⟨l, o, found, left, v4, v5, v6, rfl, s2, hl, ho, I⟩ ⟨rfl, rfl⟩
      have ll := I.ll
      have fl := I.fl
      have hC : grow n B (p + 1) < 2 ^ bits n b (p + 1) := grow_bits hB2 _
      have hbw : bits n b (p + 1) ≤ bits n b w := bits_mono (by omega)
      have hbw2 : bits n b w ≤ bits n b w * (w + 2) := Nat.le_mul_of_pos_right _ (by omega)
      refine ⟨_, rfl, _, rfl, o, p, w, grow n B p, grow n B (p + 1), bits n b p, bits n b (p + 1), left, ?_, ho, I.wd, hp, hw2, by omega, I.z, I.bd.sub (fun r hr => List.mem_append_right _ hr), grow_pos hB1 p, grow_bits hB2 p, h9 p hp, bits_pos hb p, ?_, hC, by omega, ?_⟩
      · show [V.ref o, V.int (0 + (p : Nat))] ++ [] = [V.ref o, V.int ((p : Nat) : Int)]
        rw [Int.zero_add]; rfl
      · show _ ≤ (1 + grow n B p) * grow n B p ^ 5 * 2 ^ n
        exact Nat.mul_le_mul_left _ (Nat.pow_le_pow_right (by decide) ll)
      · intro H3 T v c oo os s3 hT hv hc gr
        refine ⟨T, _, rfl, hT, rfl, _, _, rfl, _, _, rfl, rfl, ?_⟩
        have I' := bi_step hw I hB1 hp rfl gr.eqv gr.wd gr.z gr.pre gr.len gr.bd gr.pb
        -- found
        refine ⟨_, rfl, rfl, _, rfl, ?_⟩
        cases oo with
        | none =>
          obtain rfl : v = .non := hv
          refine iteT ?_
          refine ⟨_, rfl, l, c, _, _, _, _, _, rfl, s2.trans s3, ?_, hc, I'⟩
          have : found ++ (none : Option (List Int)).toList = found := List.append_nil _
          rw [this]; exact hl.same s3
        | some g =>
          obtain ⟨ag, rfl, hg⟩ : IsRow K H3 v g := hv
          refine iteF ?_
          obtain ⟨ls, hl1, prl⟩ := hl.same s3
          have := paired_len prl
          refine ⟨_, rfl, l, _, rfl, .inr hl1, _, rfl, small_len (by simp; omega), fun l2 hl2 => ?_⟩
          have s4 := same_upd (o := .lst (ls ++ [.ref ag])) hl2
          refine ⟨l2, c, _, _, _, _, _, rfl, s2.trans (s3.trans s4), ⟨_, SqL.of upd_same, ?_⟩, hc.same s4, I'⟩
          exact paired_app (Paired.imp (fun _ _ q => IsRow.same s4 q) prl) (.cons ⟨ag, rfl, seqT s4 hg⟩ .nil)
    · rintro σ H2 ⟨l, o, found, left, v4, v5, v6, rfl, s2, hl, ho, I⟩
      have fl := I.fl
      have e1 := bi_end hw I
      have bw : bits n b w * (found.length + 2) ≤ bits n b w * (w + 2) := Nat.mul_le_mul_left _ (by omega)
      obtain ⟨u1, u2, u3, u4, u5⟩ := settled_upto I.ech (I.bd.sub fun r hr => List.mem_append_left _ hr) (grow_pos hB1 w) found.length (Nat.le_refl _)
      rw [List.take_length] at u1 u2 u4
      refine ⟨_, rfl, l, w, grow n B w, bits n b (w - 1), bits n b w, found, rfl, hl, I.ech, I.bd.sub (fun r hr => List.mem_append_left _ hr), grow_pos hB1 w, grow_bits hB2 w, by omega, fun r hr => ?_, bits_pos hb _, h9 _ (by omega), hw2, by omega, fun H3 T s3 hT => k _ T _ (s2.trans s3) hT ⟨u1, e1.trans hw u1.wd u2, by omega⟩⟩
      obtain ⟨q, q1, q2⟩ := I.pb r hr
      exact Nat.lt_of_le_of_lt q2 (Nat.lt_of_lt_of_le (grow_bits hB2 q) (Nat.pow_le_pow_right (by decide) (bits_mono (by omega))))
end
end My
set_option maxHeartbeats 400000
namespace My
open PySem L2
open Lat
section
variable {P : Program} {w : World} {K : PySem.W.Frag} {mg : Str → Option Value} {base : Heap}
/-! ### draws -/
abbrev sTake : Stmt := top 25
abbrev NTake : List Str := ["_law_box_here", "_law_many", "_law_digit", "_law_raw", "_law_wide"]
theorem scTake : FnScope NTake ["_law_box_here", "_law_many"] (defScope sTake) := ⟨rfl, rfl, rfl, by decide +kernel, rfl, by decide +kernel, by decide +kernel⟩

def spTake : Sp := fun vs H Q _ => ∃ (b : Addr) (m : Int), vs = [.ref b, .int m] ∧ IsBox H b ∧ 0 < m ∧ m.natAbs.log2 < 9000 ∧ ∀ H' d, SameX b H H' → IsBox H' b → 0 ≤ d → d < m → Q (.int d) H'
theorem fmod_in (x : Int) {m : Int} (h : 0 < m) : 0 ≤ x.fmod m ∧ x.fmod m < m := ⟨Int.fmod_nonneg_of_pos x h, Int.fmod_lt_of_pos x h⟩
theorem take_bits (a c : Int) : -(2 ^ 64) < a.fmod 2147483647 * 2147483647 + (c.fmod 2147483629 + 1) ∧ a.fmod 2147483647 * 2147483647 + (c.fmod 2147483629 + 1) < 2 ^ 64 := by
  have := fmod_in a (m := 2147483647) (by decide)
  have := fmod_in c (m := 2147483629) (by decide)
  omega
theorem y_small (c : Int) : (c.fmod 2147483629 + 1).natAbs < 2 ^ 64 := by
  have := fmod_in c (m := 2147483629) (by decide)
  omega
theorem ok_Take {f : Addr} {fd : FuncData} (F : Fun K "_law_take" "_law_take" sTake f fd) (Z : Bn mg) : FnOk P w K mg base CX0 1 f fd ["_law_box_here", "_law_many"] spTake := by
  refine F.ok scTake (fun vs H Q E h => ?_) (fun cdv A outer s H vs Q E hr h => ?_)
  · obtain ⟨b, m, rfl, _⟩ := h
    rfl
  · obtain ⟨b, m, rfl, ⟨x, y, z, hb⟩, hm, hl, k⟩ := h
    refine ⟨_, (pss_cons (ps_if (pt_cmpR op_gt (pe_ix (ix_listK (K := K) rfl) (pv 0) pe_int (fun _ _ => rfl)) pe_int (nomark _)) (pss_cons (ps_set (i := 2) scTake.nd rfl (Or.inl rfl) (pe_op op_modN (pe_callTy call_int1 (by rfl) Z.int (by decide +kernel) (pa_cons (pe_ix (ix_listK (K := K) rfl) (pv 0) pe_int (fun _ _ => rfl)) pa_nil)) (pv 1)))
      (pss_cons (ps_asg (pe_op op_fdivL (pe_ix (ix_listK (K := K) rfl) (pv 0) pe_int (fun _ _ => rfl)) (pv 1)) (pg_sub (pv 0) pe_int set_list))
      (pss_one (ps_ret (pv 2))))) pss_nil)
      (pss_cons (ps_asg (pe_op op_add (pe_ix (ix_listK (K := K) rfl) (pv 0) pe_int (fun _ _ => rfl)) pe_int) (pg_sub (pv 0) pe_int set_list))
      (pss_cons (ps_set (i := 3) scTake.nd rfl (Or.inl rfl) (pe_op op_modN (pe_callTy call_int1 (by rfl) Z.int (by decide +kernel) (pa_cons (pe_op op_mulOk (pe_op op_add (pe_ix (ix_listK (K := K) rfl) (pv 0) pe_int (fun _ _ => rfl)) (pe_op op_mulOk pe_int (pe_ix (ix_listK (K := K) rfl) (pv 0) pe_int (fun _ _ => rfl)))) pe_int) pa_nil)) pe_int))
      (pss_cons (ps_asg (pe_op op_add (pe_op op_modN (pe_callTy call_int1 (by rfl) Z.int (by decide +kernel) (pa_cons (pe_op op_add (pe_op op_mulOk (pv 3) pe_int) pe_int) pa_nil)) pe_int) pe_int) (pg_sub (pv 0) pe_int set_list))
      (pss_cons (ps_if (pt_cmpR op_lt (pv 1) (pe_op op_pow pe_int pe_int) (nomark _)) (pss_one (ps_ret (pe_op op_modN (pe_callTy call_int1 (by rfl) Z.int (by decide +kernel) (pa_cons (pe_op op_fdivL (pe_op op_add (pe_op op_mulOk (pv 3) pe_int) (pe_ix (ix_listK (K := K) rfl) (pv 0) pe_int (fun _ _ => rfl))) pe_int) pa_nil)) (pv 1)))) pss_nil)
      (pss_cons (ps_set (i := 4) scTake.nd rfl (Or.inl rfl) (pe_op op_mulOk (pe_op op_add (pe_op op_mulOk (pv 3) pe_int) (pe_ix (ix_listK (K := K) rfl) (pv 0) pe_int (fun _ _ => rfl))) (pe_op op_pow pe_int pe_int)))
      (pss_one (ps_ret (pe_op op_modN (pe_callTy call_int1 (by rfl) Z.int (by decide +kernel) (pa_cons (pe_op op_add (pe_op op_add (pv 4) (pe_op op_mulOk (pe_op op_pow (pe_ix (ix_listK (K := K) rfl) (pv 0) pe_int (fun _ _ => rfl)) pe_int) pe_int)) (pv 3)) pa_nil)) (pv 1)))))))))), ?_⟩
    refine ⟨_, rfl, b, _, _, _, rfl, rfl, SqL.of hb, atI_nat (j := 0) rfl, _, _, rfl, rfl, _, rfl, ?_⟩
    refine ite2 (fun c => ?_) (fun c => ?_)
    · refine ⟨_, rfl, b, _, _, _, rfl, rfl, SqL.of hb, atI_nat (j := 0) rfl, .inl ⟨_, rfl, _, rfl, _, _, rfl, rfl, (by show m ≠ 0; omega), ?_⟩⟩
      refine ⟨_, rfl, b, _, _, _, rfl, rfl, SqL.of hb, atI_nat (j := 0) rfl, _, rfl, _, _, rfl, rfl, ⟨by omega, hl⟩, ?_⟩
      refine ⟨_, rfl, b, _, _, 0, rfl, rfl, hb, rfl, ?_⟩
      refine ⟨_, rfl, ?_⟩
      exact k _ _ samex_upd ⟨_, _, _, upd_same⟩ (fmod_in _ hm).1 (fmod_in _ hm).2
    · refine ⟨_, rfl, b, _, _, _, rfl, rfl, SqL.of hb, atI_nat (j := 2) rfl, _, _, rfl, rfl, _, rfl, b, _, _, 2, rfl, rfl, hb, rfl, ?_⟩
      have hb1 : (upd H b (.lst ([V.int x, V.int y, V.int z].set 2 (.int (z + 1))))) b = some (.lst [.int x, .int y, .int (z + 1)]) := upd_same
      have s1 : SameX b H (upd H b (.lst ([V.int x, V.int y, V.int z].set 2 (.int (z + 1))))) := samex_upd
      generalize upd H b (.lst ([V.int x, V.int y, V.int z].set 2 (.int (z + 1)))) = H1 at hb1 s1
      refine ⟨_, rfl, b, _, _, _, rfl, rfl, SqL.of hb1, atI_nat (j := 1) rfl, _, rfl, b, _, _, _, rfl, rfl, SqL.of hb1, atI_nat (j := 2) rfl, _, _, rfl, rfl, .of_left (by decide), _, _, rfl, rfl, _, _, rfl, rfl, .of_right (by decide), .inl ⟨_, rfl, _, _, rfl, rfl, (by show (2147483647 : Int) ≠ 0; decide), ?_⟩⟩
      refine ⟨_, rfl, _, _, rfl, rfl, .of_right (by decide), _, _, rfl, rfl, .inl ⟨_, rfl, _, _, rfl, rfl, (by show (2147483629 : Int) ≠ 0; decide), _, _, rfl, rfl, ?_⟩⟩
      refine ⟨_, rfl, b, _, _, 1, rfl, rfl, hb1, rfl, ?_⟩
      refine ⟨_, rfl, _, _, rfl, rfl, ⟨by decide, by decide, by decide⟩, _, _, rfl, rfl, _, rfl, ?_⟩
      refine ite2 (fun c2 => ?_) (fun c2 => ?_)
      · refine ⟨_, rfl, _, _, rfl, rfl, .of_right (by decide), _, rfl, b, _, _, _, rfl, rfl, SqL.of upd_same, atI_nat (j := 1) rfl, _, _, rfl, rfl, _, _, rfl, rfl, ⟨by decide, by decide +kernel⟩, .inl ⟨_, rfl, _, rfl, _, _, rfl, rfl, (by show m ≠ 0; omega), ?_⟩⟩
        exact k _ _ (s1.trans samex_upd) ⟨_, _, _, upd_same⟩ (fmod_in _ hm).1 (fmod_in _ hm).2
      · refine ⟨_, rfl, _, _, rfl, rfl, .of_right (by decide), _, rfl, b, _, _, _, rfl, rfl, SqL.of upd_same, atI_nat (j := 1) rfl, _, _, rfl, rfl, _, _, rfl, rfl, ⟨by decide, by decide, by decide⟩, _, _, rfl, rfl, .of_left (intBits_le_64 (take_bits _ _).1 (take_bits _ _).2), ?_⟩
        refine ⟨_, rfl, _, rfl, b, _, _, _, rfl, rfl, SqL.of upd_same, atI_nat (j := 1) rfl, _, _, rfl, rfl, ⟨by decide, by decide, y_small _⟩, _, _, rfl, rfl, .of_right (by decide), _, _, rfl, rfl, _, rfl, _, _, rfl, rfl, .inl ⟨_, rfl, _, rfl, _, _, rfl, rfl, (by show m ≠ 0; omega), ?_⟩⟩
        exact k _ _ (s1.trans samex_upd) ⟨_, _, _, upd_same⟩ (fmod_in _ hm).1 (fmod_in _ hm).2
abbrev sBox : Stmt := top 24
abbrev NBox : List Str := ["_law_script", "_law_k", "_law_own", "_law_cell", "_law_seed"]
theorem scBox : FnScope NBox ["_law_script", "_law_k", "_law_own"] (defScope sBox) := ⟨rfl, rfl, rfl, by decide +kernel, rfl, by decide +kernel, by decide +kernel⟩

def spBox (K : PySem.W.Frag) : Sp := fun vs H Q _ => ∃ (a : Addr) (ns : List Int) (k own : Nat), vs = [.ref a, .int (k : Nat), .int (own : Nat)] ∧ SqL K H a (ns.map V.int) ∧ ns.length ≤ 1000 ∧ ∀ H' b, Same H H' → H b = none → IsBox H' b → Q (.ref b) H'
theorem at_modI {ns : List Int} {k : Nat} (h : decide ((0 : Int) < (((ns.map V.int).length : Nat) : Int)) = true) : (((ns.map V.int).length : Nat) : Int) ≠ 0 ∧ atI (ns.map V.int) (Int.fmod ((k : Nat) : Int) (((ns.map V.int).length : Nat) : Int)) = some (V.int (at' ns (k % ns.length))) := by
  have h' : (0 : Int) < (((ns.map V.int).length : Nat) : Int) := of_decide_eq_true h
  rw [List.length_map] at h'
  have hp : 0 < ns.length := by omega
  rw [List.length_map, Int.fmod_eq_emod_of_nonneg _ (by omega), ← Int.natCast_emod]
  exact ⟨by omega, atI_nat (at_map (Nat.mod_lt k hp))⟩
theorem box_item {c : Int} {q : Prop} [Decidable q] : atI [V.int 0, V.int c] (if decide q = true then 1 else 0) = some (V.int (if q then c else 0)) := by
  by_cases h : q
  · simp only [h, decide_true, if_true]; exact atI_nat (j := 1) rfl
  · simp only [h, decide_false, if_false, Bool.false_eq_true]; exact atI_nat (j := 0) rfl
theorem ok_Box {f : Addr} {fd : FuncData} (F : Fun K "_law_box" "_law_box" sBox f fd) (Z : Bn mg) : FnOk P w K mg base CX0 1 f fd ["_law_script", "_law_k", "_law_own"] (spBox K) := by
  refine F.ok scBox (fun vs H Q E h => ?_) (fun cdv A outer s H vs Q E hr h => ?_)
  · obtain ⟨a, ns, k, own, rfl, _⟩ := h
    rfl
  · obtain ⟨a, ns, k, own, rfl, hs, hn, kk⟩ := h
    refine ⟨_, (pss_cons (ps_set (i := 3) scBox.nd rfl (Or.inl rfl) (pe_op op_add (pe_op op_add (pe_op op_mulOk pe_int (pv 1)) (pe_op op_mulOk pe_int (pv 2))) pe_int))
      (pss_cons (ps_if (pt_cmpR op_lt (pv 1) (pe_callB call_len (by rfl) Z.len PySem.boot_len (pa_cons (pv 0) pa_nil)) (nomark _)) (pss_one (ps_set (i := 3) scBox.nd rfl (Or.inl rfl) (pe_callB call_abs (by rfl) Z.abs (by decide +kernel) (pa_cons (pe_ix (ix_listK (K := K) rfl) (pv 0) (pv 1) (fun _ _ => rfl)) pa_nil)))) (pss_one (ps_if (pt_cmpR op_gt (pe_callB call_len (by rfl) Z.len PySem.boot_len (pa_cons (pv 0) pa_nil)) pe_int (nomark _)) (pss_one (ps_set (i := 3) scBox.nd rfl (Or.inl rfl) (pe_op op_add (pv 3) (pe_op op_mulOk (pe_op op_modN (pe_callTy call_int1 (by rfl) Z.int (by decide +kernel) (pa_cons (pe_callB call_abs (by rfl) Z.abs (by decide +kernel) (pa_cons (pe_ix (ix_listK (K := K) rfl) (pv 0) (pe_op op_modN (pe_callTy call_int1 (by rfl) Z.int (by decide +kernel) (pa_cons (pv 1) pa_nil)) (pe_callB call_len (by rfl) Z.len PySem.boot_len (pa_cons (pv 0) pa_nil))) (fun _ _ => rfl)) pa_nil)) pa_nil)) pe_int) pe_int)))) pss_nil)))
      (pss_cons (ps_set (i := 4) scBox.nd rfl (Or.inl rfl) (pe_op op_add (pe_op op_modN (pe_callTy call_int1 (by rfl) Z.int (by decide +kernel) (pa_cons (pe_op op_add (pe_op op_mulOk (pe_op op_modN (pe_callTy call_int1 (by rfl) Z.int (by decide +kernel) (pa_cons (pv 3) pa_nil)) pe_int) pe_int) (pe_op op_mulOk pe_int (pe_op op_add (pv 1) (pe_op op_mulOk pe_int (pv 2))))) pa_nil)) pe_int) pe_int))
      (pss_one (ps_ret (pe_lst (pa_cons (pe_ix (ix_listK (K := K) rfl) (pe_lst (pa_cons pe_int (pa_cons (pv 3) pa_nil))) (pe_callTy call_int1 (by rfl) Z.int (by decide +kernel) (pa_cons (pe_cmpR op_ge (pv 3) (pe_op op_pow pe_int pe_int) (nomark _)) pa_nil)) (fun _ _ => rfl)) (pa_cons (pv 4) (pa_cons pe_int pa_nil))))))))), ?_⟩
    refine ⟨_, rfl, _, _, rfl, rfl, .of_left (by decide), _, rfl, _, _, rfl, rfl, .of_left (by decide), _, _, rfl, rfl, _, _, rfl, rfl, ?_⟩
    refine ⟨_, rfl, _, rfl, _, _, rfl, .inl ⟨_, hs, rfl⟩, _, _, rfl, rfl, _, rfl, ?_⟩
    refine ite2 (fun c1 => ⟨_, rfl, _, rfl, a, _, _, _, rfl, rfl, hs, atI_nat (at_map (i := k) ?_), _, rfl, ?_⟩) (fun c1 => ⟨_, rfl, _, _, rfl, .inl ⟨_, hs, rfl⟩, _, _, rfl, rfl, _, rfl, ite2 (fun c2 => ⟨_, rfl, _, rfl, _, rfl, .inl ⟨_, rfl, _, rfl, _, _, rfl, .inl ⟨_, hs, rfl⟩, _, _, rfl, rfl, (at_modI (k := k) c2).1, a, _, _, _, rfl, rfl, hs, (at_modI (k := k) c2).2, _, rfl, .inl ⟨_, rfl, _, _, rfl, rfl, (by show (2147483629 : Int) ≠ 0; decide), _, _, rfl, rfl, .of_right (by decide), _, _, rfl, rfl, ?_⟩⟩⟩) (fun c2 => ?_)⟩)
    · have : ((k : Nat) : Int) < (((ns.map V.int).length : Nat) : Int) := of_decide_eq_true c1
      rw [List.length_map] at this
      omega
    all_goals
      refine ⟨_, rfl, .inl ⟨_, rfl, _, _, rfl, rfl, (by show (2147483629 : Int) ≠ 0; decide), _, _, rfl, rfl, .of_right (by decide), _, rfl, _, rfl, _, _, rfl, rfl, .of_left (by decide), _, _, rfl, rfl, _, _, rfl, rfl, .of_left (by decide), _, _, rfl, rfl, .inl ⟨_, rfl, _, _, rfl, rfl, (by show (2147483629 : Int) ≠ 0; decide), _, _, rfl, rfl, ?_⟩⟩⟩
      refine ⟨_, rfl, small_len (by simp), fun q hq => ?_⟩
      refine ⟨_, rfl, _, _, rfl, rfl, ⟨by decide, by decide, by decide⟩, _, _, rfl, rfl, .inr ⟨_, rfl, q, _, _, _, rfl, rfl, SqL.of upd_same, box_item, _, rfl, small_len (by simp), fun b hb => ?_⟩⟩
      have hbH : H b = none := (same_upd hq).free hb
      exact kk _ b ((same_upd hq).trans (same_upd hb)) hbH ⟨_, _, _, upd_same⟩
abbrev sSmall : Stmt := top 28
abbrev NSmall : List Str := ["_law_box_here"]
theorem scSmall : FnScope NSmall ["_law_box_here"] (defScope sSmall) := ⟨rfl, rfl, rfl, by decide +kernel, rfl, by decide +kernel, by decide +kernel⟩

def spSmall : Sp := fun vs H Q _ => ∃ b : Addr, vs = [.ref b] ∧ IsBox H b ∧ ∀ H' d, SameX b H H' → IsBox H' b → -4 ≤ d → d ≤ 4 → Q (.int d) H'
theorem ok_Small {f : Addr} {fd : FuncData} (F : Fun K "_law_small" "_law_small" sSmall f fd) (ct : Cal P w K mg base "_law_take" 1 ["_law_box_here", "_law_many"] spTake) : FnOk P w K mg base CX0 2 f fd ["_law_box_here"] spSmall := by
  obtain ⟨f_law_take, fd_law_take, g_law_take, k_law_take, b_law_take, G_law_take⟩ := ct.ex
  refine F.ok scSmall (fun vs H Q E h => ?_) (fun cdv A outer s H vs Q E hr h => ?_)
  · obtain ⟨b, rfl, _⟩ := h
    rfl
  · obtain ⟨b, rfl, hb, k⟩ := h
    refine ⟨_, (pss_one (ps_ret (pe_op op_sub (pe_call G_law_take (hr.mono (by decide)) (by rfl) g_law_take k_law_take b_law_take .nil pass0 (pa_cons (pv 0) (pa_cons pe_int pa_nil))) pe_int))), ?_⟩
    refine ⟨_, rfl, b, 9, rfl, hb, by decide, by decide +kernel, fun H1 d s1 b1 d0 d1 => ?_⟩
    exact ⟨_, _, rfl, rfl, k _ _ s1 b1 (by omega) (by omega)⟩
abbrev sNum : Stmt := top 27
abbrev NNum : List Str := ["_law_box_here", "_law_most"]
theorem scNum : FnScope NNum ["_law_box_here"] (defScope sNum) := ⟨rfl, rfl, rfl, by decide +kernel, rfl, by decide +kernel, by decide +kernel⟩

def spNum : Sp := fun vs H Q _ => ∃ b : Addr, vs = [.ref b] ∧ IsBox H b ∧ ∀ H' d, SameX b H H' → IsBox H' b → -999999999 ≤ d → d ≤ 999999999 → Q (.int d) H'
theorem ok_Num {f : Addr} {fd : FuncData} (F : Fun K "_law_number" "_law_number" sNum f fd) (ct : Cal P w K mg base "_law_take" 1 ["_law_box_here", "_law_many"] spTake) : FnOk P w K mg base CX0 2 f fd ["_law_box_here"] spNum := by
  obtain ⟨f_law_take, fd_law_take, g_law_take, k_law_take, b_law_take, G_law_take⟩ := ct.ex
  refine F.ok scNum (fun vs H Q E h => ?_) (fun cdv A outer s H vs Q E hr h => ?_)
  · obtain ⟨b, rfl, _⟩ := h
    rfl
  · obtain ⟨b, rfl, hb, k⟩ := h
    refine ⟨_, (pss_cons (ps_set (i := 1) scNum.nd rfl (Or.inl rfl) (pe_ix (ix_listK (K := K) rfl) (pe_lst (pa_cons pe_int (pa_cons pe_int (pa_cons pe_int (pa_cons pe_int (pa_cons pe_int (pa_cons pe_int pa_nil))))))) (pe_call G_law_take (hr.mono (by decide)) (by rfl) g_law_take k_law_take b_law_take .nil pass0 (pa_cons (pv 0) (pa_cons pe_int pa_nil))) (fun _ _ => rfl)))
      (pss_one (ps_ret (pe_op op_sub (pe_call G_law_take (hr.mono (by decide)) (by rfl) g_law_take k_law_take b_law_take .nil pass0 (pa_cons (pv 0) (pa_cons (pe_op op_add (pe_op op_mulOk pe_int (pv 1)) pe_int) pa_nil))) (pv 1))))), ?_⟩
    refine ⟨small_len (by simp), fun q hq => ?_⟩
    have sq := same_upd (o := .lst [V.int 3, V.int 3, V.int 9, V.int 9, V.int 40, V.int 999999999]) hq
    refine ⟨_, rfl, b, 6, rfl, hb.same sq, by decide, by decide +kernel, fun H1 d s1 b1 d0 d1 => ?_⟩
    have qb : q ≠ b := by obtain ⟨x, y, z, e⟩ := hb; exact fun z' => by rw [← z', hq] at e; cases e
    have hq1 : H1 q = some (.lst [V.int 3, V.int 3, V.int 9, V.int 9, V.int 40, V.int 999999999]) := s1 _ _ qb upd_same
    obtain ⟨m, hm, m0, m1⟩ : ∃ m : Int, atI [V.int 3, V.int 3, V.int 9, V.int 9, V.int 40, V.int 999999999] d = some (.int m) ∧ 1 ≤ m ∧ m ≤ 999999999 := by
      have : d = 0 ∨ d = 1 ∨ d = 2 ∨ d = 3 ∨ d = 4 ∨ d = 5 := by omega
      rcases this with rfl | rfl | rfl | rfl | rfl | rfl
      · exact ⟨3, atI_nat (j := 0) rfl, by omega, by omega⟩
      · exact ⟨3, atI_nat (j := 1) rfl, by omega, by omega⟩
      · exact ⟨9, atI_nat (j := 2) rfl, by omega, by omega⟩
      · exact ⟨9, atI_nat (j := 3) rfl, by omega, by omega⟩
      · exact ⟨40, atI_nat (j := 4) rfl, by omega, by omega⟩
      · exact ⟨999999999, atI_nat (j := 5) rfl, by omega, by omega⟩
    refine ⟨q, _, _, _, rfl, rfl, SqL.of hq1, hm, ?_⟩
    refine ⟨_, rfl, _, rfl, _, _, rfl, rfl, .of_left (by decide), _, _, rfl, rfl, b, 2 * m + 1, rfl, b1, by omega, Nat.lt_of_lt_of_le (PySem.Flt.log2_lt_of (k := 40) (by decide) (by omega)) (by decide), fun H2 e s2 b2 e0 e1 => ?_⟩
    refine ⟨_, rfl, _, _, rfl, rfl, k _ _ (SameX.trans (fun c o _ e => sq c o e) (s1.trans s2)) b2 (by omega) (by omega)⟩
end
end My
set_option maxHeartbeats 400000
namespace My
open PySem L2
open Lat
section
variable {P : Program} {w : World} {K : PySem.W.Frag} {mg : Str → Option Value} {base : Heap}
abbrev sRows : Stmt := top 29
abbrev NRows : List Str := ["_law_box_here", "_law_width", "_law_many", "_law_is_great", "_law_found", "_law_turn", "_law_row", "_law_first", "_law_last", "_law_at", "_law_here", "_law_there", "_law_number_here"]
theorem scRows : FnScope NRows ["_law_box_here", "_law_width", "_law_many", "_law_is_great"] (defScope sRows) := ⟨rfl, rfl, rfl, by decide +kernel, rfl, by decide +kernel, by decide +kernel⟩

def spRows (K : PySem.W.Frag) : Sp := fun vs H Q _ => ∃ (b : Addr) (w m : Nat), vs = [.ref b, .int (w : Nat), .int (m : Nat), .bl false] ∧ IsBox H b ∧ 1 ≤ w ∧ w ≤ 1000 ∧ m ≤ 100 ∧
  ∀ H' l xs rs, SameX b H H' → IsBox H' b → H l = none → H' l = some (.lst xs) → Paired (IsRow K H') xs rs → rs.length = m → Wd w rs → Bd (4 + 8 * (m - 2)) rs → Q (.ref l) H'
theorem ok_Rows {f : Addr} {fd : FuncData} (F : Fun K "_law_rows" "_law_rows" sRows f fd) (Z : Bn mg) (ct : Cal P w K mg base "_law_take" 1 ["_law_box_here", "_law_many"] spTake) (cn : Cal P w K mg base "_law_number" 2 ["_law_box_here"] spNum) (cs : Cal P w K mg base "_law_small" 2 ["_law_box_here"] spSmall) :
    FnOk P w K mg base CX0 3 f fd ["_law_box_here", "_law_width", "_law_many", "_law_is_great"] (spRows K) := by
  obtain ⟨f_law_take, fd_law_take, g_law_take, k_law_take, b_law_take, G_law_take⟩ := ct.ex
  obtain ⟨f_law_number, fd_law_number, g_law_number, k_law_number, b_law_number, G_law_number⟩ := cn.ex
  obtain ⟨f_law_small, fd_law_small, g_law_small, k_law_small, b_law_small, G_law_small⟩ := cs.ex
  refine F.ok scRows (fun vs H Q E h => ?_) (fun cdv A outer s H vs Q E hr h => ?_)
  · obtain ⟨b, w, m, rfl, _⟩ := h
    rfl
  · obtain ⟨b, w, m, rfl, hb, hw1, hw2, hm, k⟩ := h
    refine ⟨_, (pss_cons (ps_set (i := 4) scRows.nd rfl (Or.inl rfl) (pe_lst pa_nil))
      (pss_cons (ps_for PassesOwn.never rfl (pi_range1 (by rfl) Z.range (pa_cons (pv 2) pa_nil)) (pg_name (i := 5) scRows.nd rfl (Or.inl rfl)) (pss_cons (ps_setLc (i := 6) (own := [("_law_at", 9)]) (g := gName 9) (tt := tYes) (by rfl) scRows.nd rfl rfl (sw_true rfl rfl rfl (by decide +kernel)) (pi_range1 (by rfl) Z.range (pa_cons (pv 1) pa_nil)) (blkOk_by (own := [("_law_at", 9)]) (N := NRows) (sc := defScope sRows) (by decide +kernel)) (fun _ _ _ _ _ => pg_name (i := 9) scRows.nd rfl (Or.inl rfl)) (fun _ _ _ _ _ => pts_nil) (fun _ _ _ _ _ => (pe_ifExp (pt_val (pv 3)) (pe_call G_law_number (hr.mono (by decide)) (by rfl) g_law_number k_law_number b_law_number .nil pass0 (pa_cons (pv 0) pa_nil)) (pe_call G_law_small (hr.mono (by decide)) (by rfl) g_law_small k_law_small b_law_small .nil pass0 (pa_cons (pv 0) pa_nil)))))
      (pss_cons (ps_if (PW.pt (pw_and (pt_cmpR op_gt (pe_callB call_len (by rfl) Z.len PySem.boot_len (pa_cons (pv 4) pa_nil)) pe_int (nomark _)) (pw_and1 (pt_cmpR op_eq (pe_call G_law_take (hr.mono (by decide)) (by rfl) g_law_take k_law_take b_law_take .nil pass0 (pa_cons (pv 0) (pa_cons pe_int pa_nil))) pe_int (nomark _))))) (pss_cons (ps_par (i := 7) (j := 8) (by rfl) scRows.nd rfl rfl (by decide) rfl rfl (pa_cons (pe_ix (ix_listK (K := K) rfl) (pv 4) pe_int (fun _ _ => rfl)) (pa_cons (pe_ix (ix_listK (K := K) rfl) (pv 4) (pe_op op_sub (pe_callB call_len (by rfl) Z.len PySem.boot_len (pa_cons (pv 4) pa_nil)) pe_int) (fun _ _ => rfl)) pa_nil)) (by rfl))
      (pss_one (ps_setLc (i := 6) (own := [("_law_here", 10), ("_law_there", 11)]) (g := gTup _ 2 (gCons (gName 10) (gCons (gName 11) gNil))) (tt := tYes) (by rfl) scRows.nd rfl rfl (sw_true rfl rfl rfl (by decide +kernel)) (RZ.pi_zipA (by rfl) Z.zip (pa_cons (pv 7) (pa_cons (pv 8) pa_nil))) (blkOk_by (own := [("_law_here", 10), ("_law_there", 11)]) (N := NRows) (sc := defScope sRows) (by decide +kernel)) (fun _ _ _ _ _ => pg_tup rfl (pgs_cons (pg_name (i := 10) scRows.nd rfl (Or.inl rfl)) (pgs_cons (pg_name (i := 11) scRows.nd rfl (Or.inl rfl)) pgs_nil))) (fun _ _ _ _ _ => pts_nil) (fun _ _ _ _ _ => (pe_op op_sub (pe_op op_mulOk pe_int (pv 10)) (pv 11)))))) pss_nil)
      (pss_cons (ps_if (pt_cmpR op_eq (pe_call G_law_take (hr.mono (by decide)) (by rfl) g_law_take k_law_take b_law_take .nil pass0 (pa_cons (pv 0) (pa_cons pe_int pa_nil))) pe_int (nomark _)) (pss_one (ps_set (i := 6) scRows.nd rfl (Or.inl rfl) (pe_op op_rep (pe_lst (pa_cons pe_int pa_nil)) (pv 1)))) pss_nil)
      (pss_cons (ps_if (pt_cmpR (op_neDK (K := K) rfl hr.units) (pe_lc (own := [("_law_number_here", 12)]) (g := gName 12) (by rfl) scRows.nd (pi_list (pv 6)) (blkOk_by (own := [("_law_number_here", 12)]) (N := NRows) (sc := defScope sRows) (by decide +kernel)) (fun _ _ _ _ _ => pg_name (i := 12) scRows.nd rfl (Or.inl rfl)) (fun _ _ _ _ _ => (pts_one (pt_cmpR op_gt (pe_callB call_abs (by rfl) Z.abs (by decide +kernel) (pa_cons (pv 12) pa_nil)) pe_int (nomark _)))) (fun _ _ _ _ _ => (pv 12))) (pe_lst pa_nil) (nomark _)) (pss_one (ps_setLc (i := 6) (own := [("_law_at", 9)]) (g := gName 9) (tt := tYes) (by rfl) scRows.nd rfl rfl (sw_true rfl rfl rfl (by decide +kernel)) (pi_range1 (by rfl) Z.range (pa_cons (pv 1) pa_nil)) (blkOk_by (own := [("_law_at", 9)]) (N := NRows) (sc := defScope sRows) (by decide +kernel)) (fun _ _ _ _ _ => pg_name (i := 9) scRows.nd rfl (Or.inl rfl)) (fun _ _ _ _ _ => pts_nil) (fun _ _ _ _ _ => (pe_call G_law_small (hr.mono (by decide)) (by rfl) g_law_small k_law_small b_law_small .nil pass0 (pa_cons (pv 0) pa_nil))))) pss_nil)
      (pss_one (ps_expr (pe_bm PySem.F.plainAttrs_list PySem.F.slot_list_append PySem.F.type_list_append mt_append (pv 4) (pa_cons (pe_callTy (call_tuple_ofK (K := K) rfl) (by rfl) Z.tuple (by decide +kernel) (pa_cons (pv 6) pa_nil)) pa_nil)))))))))
      (pss_one (ps_ret (pv 4))))), ?_⟩
    refine ⟨small_len (by simp), fun l hl => ?_⟩
    have lb : l ≠ b := box_ne hb hl
    have s0 := same_upd (o := .lst []) hl
    refine ⟨_, rfl, _, rfl, by omega, by omega, ?_⟩
    refine for_it (walk_range (lo := 0) (n := m)) (fun i σ H' => ∃ (xs : List V) (rs : List (List Int)) (v5 v6 v7 v8 v9 v10 v11 v12 : Option V), σ = [some (.ref b), some (.int (w : Nat)), some (.int (m : Nat)), some (.bl false), some (.ref l), v5, v6, v7, v8, v9, v10, v11, v12] ∧ SameX b H H' ∧ IsBox H' b ∧ H' l = some (.lst xs) ∧ Paired (IsRow K H') xs rs ∧ rs.length = i ∧ Wd w rs ∧ (∀ r, rs[0]? = some r → ∀ j, (at' r j).natAbs ≤ 4) ∧ Bd (4 + 8 * (i - 2)) rs)
      ⟨[], [], none, none, none, none, none, none, none, none, rfl, samex_new hl, hb.same s0, upd_same, .nil, rfl, (fun r h => nomatch h), (fun r h => nomatch h), fun r h => nomatch h⟩ (fun _ _ _ _ _ => trivial) ?_ ?_
    · rintro i x σ H0 H1 hi ⟨xs, rs, v5, v6, v7, v8, v9, v10, v11, v12, rfl, s1, b1, h1, pr, rl, rw', r0, rb⟩ ⟨rfl, rfl⟩
      have xl := paired_len pr
      -- a drawn row
      refine ⟨_, rfl, _, rfl, by omega, by omega, fun D hD => ?_⟩
      refine lcb (walk_range (lo := 0) (n := ((w : Nat) : Int).toNat)) b IsInt stab_int stab_int (fun c => c.natAbs ≤ 4) (by omega) hD b1 (fun _ _ _ => trivial) ?_ ?_
      · rintro j y H2 H3 hj s2 b2 ⟨rfl, rfl⟩ k1 g1
        refine ⟨rfl, _, rfl, _, rfl, iteF ?_⟩
        exact ⟨_, rfl, b, rfl, b2, fun H4 d s4 b4 d0 d1 => g1 _ _ d s4 b4 (by omega) rfl⟩
      intro H2 ys cs s2 b2 hy prc cl cb
      have := paired_int prc
      subst this
      rw [Int.toNat_natCast] at cl
      have Db : D ≠ b := box_ne b1 hD
      have lD : l ≠ D := ne_of_none h1 hD
      -- perhaps a sum
      dsimp only [gName]
      refine seq_by (fun σ' H' => ∃ (D : Addr) (cs : List Int) (v7 v8 v9 v10 v11 v12 : Option V), σ' = [some (.ref b), some (.int (w : Nat)), some (.int (m : Nat)), some (.bl false), some (.ref l), some (.int (0 + (i : Nat))), some (.ref D), v7, v8, v9, v10, v11, v12] ∧ D ≠ b ∧ SameX b H1 H' ∧ IsBox H' b ∧ H' D = some (.lst (cs.map V.int)) ∧ cs.length = w ∧ (∀ c ∈ cs, c.natAbs ≤ 4 + 8 * (i + 1 - 2)) ∧ (i ≤ 1 → ∀ c ∈ cs, c.natAbs ≤ 4)) (fun Nx hN => ?_) ?_
      · refine ⟨_, rfl, _, _, rfl, .inl ⟨_, SqL.of (s2 _ _ lb h1), rfl⟩, _, _, rfl, rfl, _, rfl, ?_⟩
        refine ite2 (fun c => ?_) (fun c => ?_)
        · have c' : (1 : Int) < ((xs.length : Nat) : Int) := of_decide_eq_true c
          refine ⟨_, rfl, b, 4, rfl, b2, by decide, by decide +kernel, fun H3 d s3 b3 d0 d1 => ?_⟩
          have s13 := s2.trans s3
          have h3 := s13 _ _ lb h1
          have hy3 := s3 _ _ Db hy
          refine ⟨rfl, _, rfl, ?_⟩
          refine ite2 (fun c2 => ?_) (fun c2 => ?_)
          · obtain ⟨r, hr0⟩ : ∃ r, rs[0]? = some r := ⟨_, List.getElem?_eq_getElem (by omega)⟩
            obtain ⟨q, hq0⟩ : ∃ q, rs[rs.length - 1]? = some q := ⟨_, List.getElem?_eq_getElem (by omega)⟩
            have pr3 := stab_box b1 s13 pr
            obtain ⟨xr, hxr, ⟨ar, rfl, har⟩⟩ := paired_get' pr3 hr0
            obtain ⟨xq, hxq, ⟨aq, rfl, haq⟩⟩ := paired_get' pr3 hq0
            have ei : ((xs.length : Nat) : Int) - 1 = ((rs.length - 1 : Nat) : Int) := by omega
            refine ⟨_, rfl, l, _, _, _, rfl, rfl, SqL.of h3, atI_nat (j := 0) hxr, _, rfl, _, rfl, _, _, rfl, .inl ⟨_, SqL.of h3, rfl⟩, _, _, rfl, rfl, l, _, _, _, rfl, rfl, SqL.of h3, (by rw [ei]; exact atI_nat hxq), _, _, rfl, ?_⟩
            have rm := List.mem_of_getElem? hr0
            have qm := List.mem_of_getElem? hq0
            refine ⟨_, rfl, _, rfl, ar, aq, _, _, rfl, .inr ⟨har, haq, fun D2 hD2 => ?_⟩⟩
            refine lcp (walk_zipTI (xs := r) (ys := q) (n := w) (by rw [rw' r rm, rw' q qm]; omega)) IsInt stab_int (fun j => some (2 * at' r j - at' q j)) (by omega) hD2 (fun H4 s4 => ⟨seqT s4 har, seqT s4 haq⟩) ?_ ?_
            · rintro j x H4 H5 hj s4 ⟨T, rfl, hT, rfl⟩ k1 k0 g1 _
              refine ⟨T, _, rfl, SqT.of upd_same, rfl, _, _, rfl, _, _, rfl, rfl, rfl, ?_⟩
              exact ⟨_, rfl, _, _, rfl, rfl, .of_left (by decide), _, rfl, _, _, rfl, rfl, g1 _ _ _ (same_upd hT) rfl rfl⟩
            intro H4 zs s4 hz prz
            have := paired_int prz
            subst this
            rw [outs_map] at hz
            refine hN _ _ ⟨D2, _, _, _, _, _, _, _, rfl, box_ne b3 hD2, s13.trans (fun c o _ e => s4 c o e), b3.same s4, hz, by simp, fun c hc => ?_, fun h => by omega⟩
            obtain ⟨j, _, rfl⟩ := List.mem_map.mp hc
            have z1 := r0 r hr0 j
            have z2 := rb q qm j
            omega
          · exact hN _ _ ⟨D, cs, _, _, _, _, _, _, rfl, Db, s13, b3, hy3, cl, fun c hc => by have := cb c hc; omega, fun _ => cb⟩
        · exact hN _ _ ⟨D, cs, _, _, _, _, _, _, rfl, Db, s2, b2, hy, cl, fun c hc => by have := cb c hc; omega, fun _ => cb⟩
      · rintro σ' H3 ⟨D3, cs3, w7, w8, w9, w10, w11, w12, rfl, D3b, s3, b3, hD3, cl3, cb3, cd3⟩
        -- perhaps zeros
        refine seq_by (fun σ' H' => ∃ (D : Addr) (cs : List Int) (v7 v8 v9 v10 v11 v12 : Option V), σ' = [some (.ref b), some (.int (w : Nat)), some (.int (m : Nat)), some (.bl false), some (.ref l), some (.int (0 + (i : Nat))), some (.ref D), v7, v8, v9, v10, v11, v12] ∧ D ≠ b ∧ SameX b H1 H' ∧ IsBox H' b ∧ H' D = some (.lst (cs.map V.int)) ∧ cs.length = w ∧ (∀ c ∈ cs, c.natAbs ≤ 4 + 8 * (i + 1 - 2)) ∧ (i ≤ 1 → ∀ c ∈ cs, c.natAbs ≤ 4)) (fun Nx hN => ?_) ?_
        · refine ⟨_, rfl, b, 8, rfl, b3, by decide, by decide +kernel, fun H4 d s4 b4 d0 d1 => ?_⟩
          refine ⟨rfl, _, rfl, ?_⟩
          refine ite2 (fun c2 => ?_) (fun c2 => ?_)
          · refine ⟨small_len (by simp), fun q hq => ?_⟩
            refine ⟨_, rfl, q, _, _, rfl, rfl, upd_same, by omega, by omega, by rw [Int.toNat_natCast]; exact small_len (by simp; omega), fun q2 hq2 => ?_⟩
            rw [Int.toNat_natCast, flat_rep, rep_int]
            refine hN _ _ ⟨q2, List.replicate w 0, _, _, _, _, _, _, rfl, box_ne (b4.same (same_upd hq)) hq2, s3.trans (s4.trans (SameX.trans (samex_new hq) (samex_new hq2))), (b4.same (same_upd hq)).same (same_upd hq2), upd_same, List.length_replicate, fun c hc => ?_, fun _ c hc => ?_⟩
            · rw [List.eq_of_mem_replicate hc]; exact Nat.zero_le _
            · rw [List.eq_of_mem_replicate hc]; exact Nat.zero_le _
          · exact hN _ _ ⟨D3, cs3, _, _, _, _, _, _, rfl, D3b, s3.trans s4, b4, s4 _ _ D3b hD3, cl3, cb3, cd3⟩
        · rintro σ' H4 ⟨D4, cs4, w7, w8, w9, w10, w11, w12, rfl, D4b, s4, b4, hD4, cl4, cb4, cd4⟩
          -- no number is too great
          refine ⟨_, rfl, D4, rfl, ⟨_, SqL.of hD4⟩, fun D5 hD5 => ?_⟩
          refine lcp (walk_listI (r := cs4)) IsInt stab_int (fun _ => none) (by omega) hD5 (fun H5 s5 => s5.seq (SqL.of hD4)) ?_ ?_
          · rintro j x H5 H6 hj s5 ⟨rfl, rfl⟩ k1 k0 _ g0
            refine ⟨rfl, _, rfl, _, rfl, _, _, rfl, rfl, _, rfl, ?_⟩
            have c := cb4 _ (at_mem hj)
            refine ite2 (fun c2 => ?_) (fun c2 => g0 _ (Same.refl _) rfl)
            have c2' : (999999999 : Int) < (if at' cs4 j < 0 then -at' cs4 j else at' cs4 j) := of_decide_eq_true c2
            exfalso
            split at c2' <;> omega
          intro H5 zs s5 hz prz
          rw [outs_none] at prz
          cases prz
          refine ⟨small_len (by simp), fun q hq => ?_⟩
          have sq := same_upd (o := .lst []) hq
          refine ⟨_, _, .lst (SqL.of (sq _ _ hz)) .nil, .lst (SqL.of upd_same) .nil, rfl, rfl, _, rfl, iteF ?_⟩
          -- found.append(tuple(row))
          have s45 := s5.trans sq
          generalize upd H5 q (.lst []) = H6 at s45
          have h6 := s45 _ _ (s4 _ _ lb h1)
          refine ⟨_, rfl, .inl ⟨rfl, _, SqL.of h6⟩, _, rfl, D4, _, rfl, .inl ⟨SqL.of (s45 _ _ hD4), fun t ht => ?_⟩⟩
          have st := same_upd (o := .tup (cs4.map V.int)) ht
          refine ⟨l, _, _, rfl, rfl, st _ _ h6, by rw [sizeLine_eq]; omega, ?_⟩
          have b6 := (b4.same s45).same st
          have sx6 : SameX b H1 (upd H6 t (.tup (cs4.map V.int))) := s4.trans (fun c o _ e => st _ _ (s45 _ _ e))
          have tl : t ≠ l := fun e => by rw [e, h6] at ht; cases ht
          have keep : ∀ {c : Addr} {o : HO}, c ≠ l → (upd H6 t (.tup (cs4.map V.int))) c = some o → (upd (upd H6 t (.tup (cs4.map V.int))) l (.lst (xs ++ [.ref t]))) c = some o := fun h e => by rw [upd_ne h]; exact e
          have sl : SameX l (upd H6 t (.tup (cs4.map V.int))) (upd (upd H6 t (.tup (cs4.map V.int))) l (.lst (xs ++ [.ref t]))) := fun c o h e => keep h e
          refine ⟨xs ++ [.ref t], rs ++ [cs4], _, _, _, _, _, _, _, _, rfl, ?_, ?_, upd_same, ?_, ?_, ?_, ?_, ?_⟩
          · intro c o hc e
            have e1 := s1 c o hc e
            exact keep (fun q => by rw [q, hl] at e; cases e) (sx6 c o hc e1)
          · obtain ⟨x, y, z, e⟩ := b6
            exact ⟨x, y, z, keep lb.symm e⟩
          · exact Paired.snoc ⟨t, rfl, SqT.of (keep tl upd_same)⟩ (Paired.imp (fun v r q => stab_row.st _ _ v r _ (st _ _ h6) sl q) (stab_box b1 sx6 pr))
          · rw [List.length_append, rl]; rfl
          · intro r hr'
            rcases List.mem_append.mp hr' with h | h
            · exact rw' r h
            · rw [List.mem_singleton.mp h]; exact cl4
          · intro r hr' j
            by_cases hi0 : rs = []
            · subst hi0
              have : r = cs4 := (Option.some.inj hr').symm
              rw [this]
              have i0 : i = 0 := by simpa using rl.symm
              by_cases hj : j < cs4.length
              · exact cd4 (by omega) _ (at_mem hj)
              · unfold at'; rw [List.getElem?_eq_none (by omega)]; exact Nat.zero_le _
            · have : rs[0]? = some r := by
                rw [List.getElem?_append_left (List.length_pos_iff.mpr hi0)] at hr'
                exact hr'
              exact r0 r this j
          · intro r hr' j
            rcases List.mem_append.mp hr' with h | h
            · have := rb r h j; omega
            · rw [List.mem_singleton.mp h]
              by_cases hj : j < cs4.length
              · exact cb4 _ (at_mem hj)
              · unfold at'; rw [List.getElem?_eq_none (by omega)]; exact Nat.zero_le _
    · rintro σ H1 ⟨xs, rs, v5, v6, v7, v8, v9, v10, v11, v12, rfl, s1, b1, h1, pr, rl, rw', r0, rb⟩
      exact ⟨_, rfl, k _ l xs rs s1 b1 hl h1 pr rl rw' rb⟩
end
end My
set_option maxHeartbeats 400000
namespace My
open PySem L2
open Lat
section
variable {P : Program} {w : World} {K : PySem.W.Frag} {mg : Str → Option Value} {base : Heap}
abbrev sCom : Stmt := top 35
abbrev NCom : List Str := ["_law_numbers", "_law_found", "_law_number_here", "_law_one", "_law_two"]
theorem scCom : FnScope NCom ["_law_numbers"] (defScope sCom) := ⟨rfl, rfl, rfl, by decide +kernel, rfl, by decide +kernel, by decide +kernel⟩

def spCom (K : PySem.W.Frag) : Sp := fun vs H Q _ => ∃ (a : Addr) (ns : List Int), vs = [.ref a] ∧ SqL K H a (ns.map V.int) ∧ Q (.int (gcds ns)) H
theorem gcds_snoc {ns : List Int} {i : Nat} (h : i < ns.length) : gcds (ns.take (i + 1)) = (Int.gcd (gcds (ns.take i)) (at' ns i) : Int) := by
  rw [List.take_add_one, List.getElem?_eq_getElem h]
  unfold gcds at'
  rw [List.foldl_append, List.getElem?_eq_getElem h]; rfl
theorem ok_Com {f : Addr} {fd : FuncData} (F : Fun K "_law_common" "_law_common" sCom f fd) (Z : Bn mg) : FnOk P w K mg base CX0 1 f fd ["_law_numbers"] (spCom K) := by
  refine F.ok scCom (fun vs H Q E h => ?_) (fun cdv A outer s H vs Q E hr h => ?_)
  · obtain ⟨a, ns, rfl, _⟩ := h
    rfl
  · obtain ⟨a, ns, rfl, hs, k⟩ := h
    refine ⟨_, (pss_cons (ps_set (i := 1) scCom.nd rfl (Or.inl rfl) pe_int)
      (pss_cons (ps_for PassesOwn.never rfl (pi_list (pv 0)) (pg_name (i := 2) scCom.nd rfl (Or.inl rfl)) (pss_cons (ps_par (i := 3) (j := 4) (by rfl) scCom.nd rfl rfl (by decide) rfl rfl (pa_cons (pv 1) (pa_cons (pe_callB call_abs (by rfl) Z.abs (by decide +kernel) (pa_cons (pv 2) pa_nil)) pa_nil)) (by rfl))
      (pss_cons (ps_while PassesOwn.never (pt_cmpR op_gt (pv 4) pe_int (nomark _)) (pss_one (ps_par (i := 3) (j := 4) (by rfl) scCom.nd rfl rfl (by decide) rfl rfl (pa_cons (pv 4) (pa_cons (pe_op op_modN (pe_callTy call_int1 (by rfl) Z.int (by decide +kernel) (pa_cons (pv 3) pa_nil)) (pv 4)) pa_nil)) (by rfl))))
      (pss_one (ps_set (i := 1) scCom.nd rfl (Or.inl rfl) (pv 3))))))
      (pss_one (ps_ret (pv 1))))), ?_⟩
    refine ⟨_, rfl, a, rfl, ⟨_, hs⟩, ?_⟩
    refine for_it (walk_listI (r := ns)) (fun i σ H' => ∃ v2 v3 v4 : Option V, σ = [some (.ref a), some (.int (gcds (ns.take i))), v2, v3, v4] ∧ H' = H) ⟨none, none, none, rfl, rfl⟩ (fun i σ H' _ ⟨_, _, _, _, e⟩ => by rw [e]; exact hs) ?_ ?_
    · rintro i x σ H0 H1 hi ⟨v2, v3, v4, rfl, rfl⟩ ⟨rfl, rfl⟩
      refine ⟨_, rfl, _, rfl, _, rfl, _, _, rfl, ?_⟩
      refine while_k (fun σ H' => H' = H1 ∧ ∃ x y : Int, σ = [some (.ref a), some (.int (gcds (ns.take i))), some (.int (at' ns i)), some (.int x), some (.int y)] ∧ 0 ≤ x ∧ 0 ≤ y ∧ Int.gcd x y = Int.gcd (gcds (ns.take i)) (at' ns i)) (fun σ _ => match σ with | [_, _, _, _, some (.int y)] => y.toNat | _ => 0) ?_ ?_
      · refine ⟨rfl, _, _, rfl, gcds_nonneg _, ?_, ?_⟩
        · split <;> omega
        · unfold Int.gcd
          congr 1
          split <;> omega
      · rintro σ H' ⟨rfl, x, y, rfl, hx, hy, hg⟩ KT hT
        refine ⟨_, rfl, _, _, rfl, rfl, _, rfl, ?_⟩
        refine ite2 (fun c => hT _ ?_) (fun c => ?_)
        · have c' : 0 < y := of_decide_eq_true c
          obtain ⟨g1, g2, g3⟩ := gcd_turn hx c'
          refine ⟨_, rfl, _, rfl, .inl ⟨_, rfl, _, rfl, _, _, rfl, rfl, (by show y ≠ 0; omega), _, _, rfl, ⟨rfl, _, _, rfl, hy, g2, ?_⟩, g3⟩⟩
          rw [g1]; exact hg
        · have c' : ¬ 0 < y := of_decide_eq_false (by simpa using c)
          obtain rfl : y = 0 := by omega
          have e : x = gcds (ns.take (i + 1)) := by
            rw [gcds_snoc hi, ← hg, Int.gcd_zero_right]; omega
          subst e
          exact ⟨_, rfl, _, _, _, rfl, rfl⟩
    · rintro σ H1 ⟨v2, v3, v4, rfl, rfl⟩
      rw [List.take_length]
      exact ⟨_, rfl, k⟩
abbrev sLVal : Stmt := top 36
abbrev NLVal : List Str := ["_law_form", "_law_row", "_law_here", "_law_there"]
theorem scLVal : FnScope NLVal ["_law_form", "_law_row"] (defScope sLVal) := ⟨rfl, rfl, rfl, by decide +kernel, rfl, by decide +kernel, by decide +kernel⟩

theorem ok_LVal {f : Addr} {fd : FuncData} (F : Fun K "_law_value" "_law_value" sLVal f fd) (Z : Bn mg) : FnOk P w K mg base CX0 1 f fd ["_law_form", "_law_row"] (spVal K) := by
  refine F.ok scLVal (fun vs H Q E h => ?_) (fun cdv A outer s H vs Q E hr h => ?_)
  · obtain ⟨u, v, a, b, rfl, _⟩ := h
    rfl
  · obtain ⟨u, v, a, b, rfl, ⟨au, rfl, ha⟩, ⟨av, rfl, hb⟩, hl, hz, hm, k⟩ := h
    refine ⟨_, (pss_one (ps_ret (pe_callB (cr_sumK (K := K) rfl rfl) (by rfl) Z.sum (by decide +kernel) (pa_cons (pe_lc (own := [("_law_here", 2), ("_law_there", 3)]) (g := gTup _ 2 (gCons (gName 2) (gCons (gName 3) gNil))) (tt := tYes) (by rfl) scLVal.nd (RZ.pi_zipA (by rfl) Z.zip (pa_cons (pv 0) (pa_cons (pv 1) pa_nil))) (blkOk_by (own := [("_law_here", 2), ("_law_there", 3)]) (N := NLVal) (sc := defScope sLVal) (by decide +kernel)) (fun _ _ _ _ _ => pg_tup rfl (pgs_cons (pg_name (i := 2) scLVal.nd rfl (Or.inl rfl)) (pgs_cons (pg_name (i := 3) scLVal.nd rfl (Or.inl rfl)) pgs_nil))) (fun _ _ _ _ _ => pts_nil) (fun _ _ _ _ _ => (pe_op op_mulOk (pv 2) (pv 3)))) pa_nil)))), ?_⟩
    refine ⟨_, rfl, _, rfl, au, av, _, _, rfl, .inr ⟨ha, hb, fun D hD => ?_⟩⟩
    refine lcp (walk_zipTI (xs := a) (ys := b) (n := a.length) (by omega)) IsInt stab_int (fun i => some (at' a i * at' b i)) (by omega) hD (fun H1 s1 => ⟨seqT s1 ha, seqT s1 hb⟩) ?_ ?_
    · rintro i x H1 H2 hi s1 ⟨T, rfl, hT, rfl⟩ k1 k0 g1 _
      refine ⟨T, _, rfl, SqT.of upd_same, rfl, _, _, rfl, _, _, rfl, rfl, rfl, ?_⟩
      refine ⟨_, rfl, _, rfl, _, _, rfl, rfl, (hm _ (at_mem (by omega))).ok, g1 _ _ _ (same_upd hT) rfl rfl⟩
    · intro H1 ys s1 hy pr
      have := paired_int pr
      subst this
      refine ⟨D, _, rfl, SqL.of hy, ?_⟩
      rw [outs_map, range_map_val hl]
      exact k _ s1
/-! ### the class -/
/-- what the text says of Lattice, its class at C -/
structure LTxt (K : PySem.W.Frag) (mg : Str → Option Value) (C : Addr) : Prop where
  cl : Cls K C
  nW : NoAttr K C "width"
  nB : NoAttr K C "basis"
  mgC : mg "Lattice" = some (.ref C)
def lflds (w : Nat) (T : Addr) : List (Str × V) := [("width", V.int (w : Nat)), ("basis", V.ref T)]
theorem wb : ¬ (("width" : Str) = "basis") := by decide +kernel
theorem lflds_eq {w : Nat} {T : Addr} : putF "basis" (.ref T) (putF "width" (.int (w : Nat)) []) = lflds w T := by
  show (if ("width" : Str) = "basis" then [(("width" : Str), V.ref T)] else (("width" : Str), V.int (w : Nat)) :: putF "basis" (V.ref T) []) = _
  rw [if_neg wb]; rfl
theorem lflds_basis {w : Nat} {T : Addr} : (lflds w T).lookup ("basis" : Str) = some (.ref T) := by
  rw [← lflds_eq, lookup_putF, if_pos rfl]
theorem lflds_width {w : Nat} {T : Addr} : (lflds w T).lookup ("width" : Str) = some (.int (w : Nat)) := by
  rw [← lflds_eq, lookup_putF, if_neg wb, lookup_putF, if_pos rfl]
theorem lflds_no {w : Nat} {T : Addr} {m : Str} (h1 : ¬ m = "width") (h2 : ¬ m = "basis") : (lflds w T).lookup m = none := by
  rw [← lflds_eq, lookup_putF, if_neg h2, lookup_putF, if_neg h1]; rfl
theorem rowT_at {H H' : Hp} {p a : Addr} {o : HO} {xs : List V} (h : SqT K H a xs) (hp : H p = some o) (n : ∀ xs, o ≠ .tup xs) (n2 : ∀ ob u, o ≠ .frz ob u) (kp : ∀ c u, c ≠ p → H c = some u → H' c = some u) : SqT K H' a xs := by
  rcases h with (h | ⟨ob, h⟩) | h
  · exact .inl (.inl (kp _ _ (fun q => by subst q; rw [hp] at h; exact n _ (Option.some.inj h)) h))
  · exact .inl (.inr ⟨ob, kp _ _ (fun q => by subst q; rw [hp] at h; exact n2 _ _ (Option.some.inj h)) h⟩)
  · exact .inr h
theorem rowL_at {H H' : Hp} {p a : Addr} {o : HO} {xs : List V} (h : SqL K H a xs) (hp : H p = some o) (n : ∀ xs, o ≠ .lst xs) (n2 : ∀ ob u, o ≠ .frz ob u) (kp : ∀ c u, c ≠ p → H c = some u → H' c = some u) : SqL K H' a xs := by
  rcases h with (h | ⟨ob, h⟩) | h
  · exact .inl (.inl (kp _ _ (fun q => by subst q; rw [hp] at h; exact n _ (Option.some.inj h)) h))
  · exact .inl (.inr ⟨ob, kp _ _ (fun q => by subst q; rw [hp] at h; exact n2 _ _ (Option.some.inj h)) h⟩)
  · exact .inr h
theorem rowsT_at {H H' : Hp} {p a C dx : Addr} {fs : List (Str × V)} {rs : List (List Int)} (h : IsRowsT K H a rs) (hp : H p = some (.ins C dx fs)) (n : ∀ xs, HO.ins C dx fs ≠ .tup xs) (kp : ∀ c u, c ≠ p → H c = some u → H' c = some u) : IsRowsT K H' a rs := by
  obtain ⟨xs, h1, pr⟩ := h
  exact ⟨xs, rowT_at h1 hp n (fun _ _ => nofun) kp, Paired.imp (fun v r ⟨q, e, hq⟩ => ⟨q, e, rowT_at hq hp n (fun _ _ => nofun) kp⟩) pr⟩
theorem rowsS_at {H H' : Hp} {p a C dx : Addr} {fs : List (Str × V)} {rs : List (List Int)} (h : IsRowsS K H a rs) (hp : H p = some (.ins C dx fs)) (n : ∀ xs, HO.ins C dx fs ≠ .tup xs) (n1 : ∀ xs, HO.ins C dx fs ≠ .lst xs) (kp : ∀ c u, c ≠ p → H c = some u → H' c = some u) : IsRowsS K H' a rs := by
  rcases h with h | h
  · obtain ⟨xs, h1, pr⟩ := h
    exact .inl ⟨xs, rowL_at h1 hp n1 (fun _ _ => nofun) kp, Paired.imp (fun v r ⟨q, e, hq⟩ => ⟨q, e, rowT_at hq hp n (fun _ _ => nofun) kp⟩) pr⟩
  · exact .inr (rowsT_at h hp n kp)
/-- a lattice of a width and a basis -/
def IsLat (K : PySem.W.Frag) (C : Addr) (H : Hp) (p : Addr) (w : Nat) (S : List (List Int)) : Prop := ∃ dx T, H p = some (.ins C dx (lflds w T)) ∧ IsRowsT K H T S
abbrev sLInit : Stmt := inClass (top 22) 0
abbrev NLInit : List Str := ["self", "width", "rows"]
theorem scLInit : FnScope NLInit ["self", "width", "rows"] (defScope sLInit) := ⟨rfl, rfl, rfl, by decide +kernel, rfl, by decide +kernel, by decide +kernel⟩
def spLInit (K : PySem.W.Frag) (C : Addr) : Sp := fun vs H Q _ => ∃ (p dx a : Addr) (w n B b : Nat) (rs : List (List Int)), vs = [.ref p, .int (w : Nat), .ref a] ∧ H p = some (.ins C dx []) ∧ IsRowsS K H a rs ∧ Wd w rs ∧ 1 ≤ w ∧ w ≤ 1000 ∧ rs.length ≤ n ∧ n ≤ 1000 ∧ Bd B rs ∧ 1 ≤ B ∧ B < 2 ^ b ∧ 0 < b ∧
  (∀ p, p < w → bits n b p ≤ 9000) ∧ bits n b w * (w + 2) ≤ 60000000 ∧
  ∀ H' S, (∀ c o, c ≠ p → H c = some o → H' c = some o) → IsLat K C H' p w S → Bas w rs S → Q .non H'
theorem ok_LInit {f C : Addr} {fd : FuncData} {dvs : List V} (F : FunD K "__init__" "Lattice.__init__" (defArgs sLInit) (defBody sLInit) (defScope sLInit) dvs [] f fd) (T : LTxt K mg C) (cn : Cal P w K mg base "need_vectors" 3 ["width", "rows"] (spNeed K)) (cb : Cal P w K mg base "basis_of" 3 ["width", "rows"] (spBas K)) :
    FnOk P w K mg base CX0 4 f fd ["self", "width", "rows"] (spLInit K C) := by
  obtain ⟨f_need_vectors, fd_need_vectors, g_need_vectors, k_need_vectors, b_need_vectors, G_need_vectors⟩ := cn.ex
  obtain ⟨f_basis_of, fd_basis_of, g_basis_of, k_basis_of, b_basis_of, G_basis_of⟩ := cb.ex
  refine F.ok scLInit (fun vs H Q E h => ?_) (fun cdv A outer s H vs Q E hr h => ?_)
  · obtain ⟨p, dx, a, w, n, B, b, rs, rfl, _⟩ := h
    rfl
  · obtain ⟨p, dx, a, w, n, B, b, rs, rfl, hp, hs, hw, hw1, hw2, hn, hn2, hB, hB1, hB2, hb, h9, h6, k⟩ := h
    refine ⟨_, PSs.nox (pss_cons (ps_expr (pe_call G_need_vectors (hr.mono (by decide)) (by rfl) g_need_vectors k_need_vectors b_need_vectors .nil pass0 (pa_cons (pv 1) (pa_cons (pv 2) pa_nil))))
      (pss_cons (ps_fld (pv 0) (pv 1) rfl)
      (pss_one (ps_fld (pv 0) (pe_call G_basis_of (hr.mono (by decide)) (by rfl) g_basis_of k_basis_of b_basis_of .nil pass0 (pa_cons (pv 1) (pa_cons (pv 2) pa_nil))) rfl)))), ?_⟩
    refine ⟨_, rfl, _, rfl, a, w, rs, rfl, hs, hw, hw1, hw2, by omega, fun H1 s1 => ?_⟩
    have p1 := s1 _ _ hp
    refine ⟨_, rfl, _, rfl, p, C, dx, [], rfl, p1, T.cl, T.nW, (by show 0 < 1000; decide), ?_⟩
    have keep1 : ∀ c o, c ≠ p → H c = some o → (upd H1 p (.ins C dx (putF "width" (.int (w : Nat)) []))) c = some o := fun c o hc e => by rw [upd_ne hc]; exact s1 _ _ e
    have hs2 : IsRowsS K (upd H1 p (.ins C dx (putF "width" (.int (w : Nat)) []))) a rs := rowsS_at (hs.same s1) p1 (fun xs => nofun) (fun xs => nofun) fun c o hc e => by rw [upd_ne hc]; exact e
    refine ⟨_, rfl, _, rfl, a, w, n, B, b, rs, rfl, hs2, hw, hw1, hw2, hn, hn2, hB, hB1, hB2, hb, h9, h6, fun H2 T2 S s2 hT bS => ?_⟩
    have p2 : H2 p = some (.ins C dx (putF "width" (.int (w : Nat)) [])) := s2 _ _ upd_same
    refine ⟨_, rfl, p, C, dx, _, rfl, p2, T.cl, T.nB, (by show 1 < 1000; decide), ?_⟩
    refine k _ S (fun c o hc e => by rw [upd_ne hc]; exact s2 _ _ (keep1 c o hc e)) ⟨dx, T2, ?_, rowsT_at hT p2 (fun xs => nofun) fun c o hc e => by rw [upd_ne hc]; exact e⟩ bS
    rw [upd_same, lflds_eq]
abbrev sLDiv : Stmt := inClass (top 22) 3
abbrev NLDiv : List Str := ["self", "form", "found", "row"]
theorem scLDiv : FnScope NLDiv ["self", "form"] (defScope sLDiv) := ⟨rfl, rfl, rfl, by decide +kernel, rfl, by decide +kernel, by decide +kernel⟩

def spLDiv (K : PySem.W.Frag) (C : Addr) : Sp := fun vs H Q _ => ∃ (p : Addr) (v : V) (w : Nat) (S : List (List Int)) (fm : List Int), vs = [.ref p, v] ∧ IsLat K C H p w S ∧ IsRow K H v fm ∧ fm.length = w ∧ Wd w S ∧ w ≤ 1000 ∧ (∀ x ∈ fm, IntMulSmall x) ∧ ∀ H', Same H H' → Q (.int (gcds (S.map (val fm)))) H'
theorem gcds_snocM {S : List (List Int)} {i : Nat} {r fm : List Int} (h : S[i]? = some r) : gcds ((S.take (i + 1)).map (val fm)) = (Int.gcd (gcds ((S.take i).map (val fm))) (val fm r) : Int) := by
  rw [List.take_add_one, h]
  unfold gcds
  rw [List.map_append, List.foldl_append]; rfl
theorem ok_LDiv {f C : Addr} {fd : FuncData} (F : Fun K "divisor" "Lattice.divisor" sLDiv f fd) (T : LTxt K mg C) (cc : Cal P w K mg base "common_divisor" 1 ["one", "other"] spCd) (cv : Cal P w K mg base "value_of" 1 ["form", "vector"] (spVal K)) :
    FnOk P w K mg base CX0 2 f fd ["self", "form"] (spLDiv K C) := by
  obtain ⟨f_common_divisor, fd_common_divisor, g_common_divisor, k_common_divisor, b_common_divisor, G_common_divisor⟩ := cc.ex
  obtain ⟨f_value_of, fd_value_of, g_value_of, k_value_of, b_value_of, G_value_of⟩ := cv.ex
  refine F.ok scLDiv (fun vs H Q E h => ?_) (fun cdv A outer s H vs Q E hr h => ?_)
  · obtain ⟨p, v, w, S, fm, rfl, _⟩ := h
    rfl
  · obtain ⟨p, v, w, S, fm, rfl, ⟨dx, T2, hp, xs, hT, pr⟩, hv, fl, hw, hw2, hm, k⟩ := h
    refine ⟨_, (pss_cons (ps_set (i := 2) scLDiv.nd rfl (Or.inl rfl) pe_int)
      (pss_cons (ps_for PassesOwn.never rfl (pi_tup (pe_fld (pv 0) rfl)) (pg_name (i := 3) scLDiv.nd rfl (Or.inl rfl)) (pss_one (ps_set (i := 2) scLDiv.nd rfl (Or.inl rfl) (pe_call G_common_divisor (hr.mono (by decide)) (by rfl) g_common_divisor k_common_divisor b_common_divisor .nil pass0 (pa_cons (pv 2) (pa_cons (pe_call G_value_of (hr.mono (by decide)) (by rfl) g_value_of k_value_of b_value_of .nil pass0 (pa_cons (pv 1) (pa_cons (pv 3) pa_nil))) pa_nil))))))
      (pss_one (ps_ret (pv 2))))), ?_⟩
    refine ⟨_, rfl, p, C, dx, _, _, rfl, hp, T.cl, T.nB, lflds_basis, T2, rfl, ⟨_, hT⟩, ?_⟩
    refine for_it (walk_rowsT pr) (fun i σ H' => ∃ v3 : Option V, σ = [some (.ref p), some v, some (.int (gcds ((S.take i).map (val fm)))), v3] ∧ Same H H') ⟨none, rfl, Same.refl _⟩ (fun i σ H' _ ⟨_, _, s1⟩ => ⟨seqT s1 hT, s1⟩) ?_ ?_
    · rintro i x σ H0 H1 hi ⟨v3, rfl, s1⟩ ⟨rfl, r, er, hx⟩
      refine ⟨_, rfl, _, rfl, _, rfl, v, x, fm, r, rfl, hv.same s1, hx, by rw [fl, hw r (List.mem_of_getElem? er)], by omega, hm, fun H2 s2 => ?_⟩
      refine ⟨_, _, rfl, some x, ?_, s1.trans s2⟩
      rw [gcds_snocM er]; rfl
    · rintro σ H1 ⟨v3, rfl, s1⟩
      rw [List.take_length]
      exact ⟨_, rfl, k _ s1⟩
end
end My
set_option maxHeartbeats 400000
namespace My
open PySem L2
open Lat
section
variable {P : Program} {w : World} {K : PySem.W.Frag} {mg : Str → Option Value} {base : Heap}
theorem IsLat.same {C : Addr} {H H' : Hp} {p : Addr} {w : Nat} {S : List (List Int)} (h : IsLat K C H p w S) (s : Same H H') : IsLat K C H' p w S :=
  let ⟨dx, T, e, hT⟩ := h; ⟨dx, T, s _ _ e, hT.same s⟩
theorem IsLat.x {C : Addr} {H H' : Hp} {p b : Addr} {w : Nat} {S : List (List Int)} (h : IsLat K C H p w S) (hb : IsBox H b) (s : SameX b H H') : IsLat K C H' p w S := by
  obtain ⟨dx, T, e, xs, hT, pr⟩ := h
  have pb : p ≠ b := box_ne' hb e (fun x y z => nofun)
  obtain ⟨x, y, z, eb⟩ := id hb
  exact ⟨dx, T, s _ _ pb e, xs, seqTX eb s hT, stab_box hb s pr⟩
abbrev sLaw : Stmt := top 37
abbrev NLaw : List Str := ["_law_script", "_law_k", "_law_box_here", "_law_turn", "_law_width", "_law_rows_here", "_law_made", "_law_again", "_law_shape", "_law_due", "_law_both", "_law_value_here", "_law_at", "_law_row", "_law_here", "_law_there"]
theorem scLaw : FnScope NLaw ["_law_script"] (defScope sLaw) := ⟨rfl, rfl, rfl, by decide +kernel, rfl, by decide +kernel, by decide +kernel⟩

def spLaw (K : PySem.W.Frag) : Sp := fun vs H Q _ => ∃ (a : Addr) (ns : List Int), vs = [.ref a] ∧ SqL K H a (ns.map V.int) ∧ ns.length ≤ 63 ∧ ∀ H', Q (.bl true) H'
theorem bits55 : ∀ p, p < 5 → bits 5 5 p ≤ 9000 := by decide
theorem ok_Law {f C : Addr} {fd fdI fdD : FuncData} {fI fD : Addr} {dvs : List V} {ds : List Value} (F : Fun K "law" "law" sLaw f fd) (Z : Bn mg) (T : LTxt K mg C) (mk_Lattice : Mk K C fI)
    (G_Lattice : FnOk P w K mg base CX0 4 fI fdI ["self", "width", "rows"] (spLInit K C)) (bN_Lattice : Binds K fdI ["self", "width", "rows"] []) (b1_Lattice : Binds K fdI ["self", "width", "rows"] ds) (v1_Lattice : Vals dvs ds) (hdv : ∃ e, dvs = [.ref e] ∧ ∀ H, SqT K H e [])
    (G_divisor : FnOk P w K mg base CX0 2 fD fdD ["self", "form"] (spLDiv K C)) (b_divisor : Binds K fdD ["self", "form"] []) (m_divisor : Meth K C "divisor" fD)
    (cb : Cal P w K mg base "_law_box" 1 ["_law_script", "_law_k", "_law_own"] (spBox K)) (ct : Cal P w K mg base "_law_take" 1 ["_law_box_here", "_law_many"] spTake) (cr : Cal P w K mg base "_law_rows" 3 ["_law_box_here", "_law_width", "_law_many", "_law_is_great"] (spRows K))
    (cn : Cal P w K mg base "_law_number" 2 ["_law_box_here"] spNum) (cc : Cal P w K mg base "_law_common" 1 ["_law_numbers"] (spCom K)) (cv : Cal P w K mg base "_law_value" 1 ["_law_form", "_law_row"] (spVal K)) :
    FnOk P w K mg base CX0 6 f fd ["_law_script"] (spLaw K) := by
  obtain ⟨f_law_box, fd_law_box, g_law_box, k_law_box, b_law_box, G_law_box⟩ := cb.ex
  obtain ⟨f_law_take, fd_law_take, g_law_take, k_law_take, b_law_take, G_law_take⟩ := ct.ex
  obtain ⟨f_law_rows, fd_law_rows, g_law_rows, k_law_rows, b_law_rows, G_law_rows⟩ := cr.ex
  obtain ⟨f_law_number, fd_law_number, g_law_number, k_law_number, b_law_number, G_law_number⟩ := cn.ex
  obtain ⟨f_law_common, fd_law_common, g_law_common, k_law_common, b_law_common, G_law_common⟩ := cc.ex
  obtain ⟨f_law_value, fd_law_value, g_law_value, k_law_value, b_law_value, G_law_value⟩ := cv.ex
  have g_Lattice := T.mgC
  refine F.ok scLaw (fun vs H Q E h => ?_) (fun cdv A outer s H vs Q E hr h => ?_)
  · obtain ⟨a, ns, rfl, _⟩ := h
    rfl
  · obtain ⟨a, ns, rfl, hs, hn, k⟩ := h
    refine ⟨_, (pss_cons (ps_for PassesOwn.never rfl (pi_range1 (by rfl) Z.range (pa_cons (pe_callB (call_max2 rfl) (by rfl) Z.max (by decide +kernel) (pa_cons pe_int (pa_cons (pe_callB (call_min2 rfl) (by rfl) Z.min (by decide +kernel) (pa_cons pe_int (pa_cons (pe_callB call_len (by rfl) Z.len PySem.boot_len (pa_cons (pv 0) pa_nil)) pa_nil))) pa_nil))) pa_nil)) (pg_name (i := 1) scLaw.nd rfl (Or.inl rfl)) (pss_cons (ps_set (i := 2) scLaw.nd rfl (Or.inr rfl) (pe_call G_law_box (hr.mono (by decide)) (by rfl) g_law_box k_law_box b_law_box .nil pass0 (pa_cons (pv 0) (pa_cons (pv 1) (pa_cons pe_int pa_nil)))))
      (pss_one (ps_for PassesOwn.never rfl (pi_range1 (by rfl) Z.range (pa_cons pe_int pa_nil)) (pg_name (i := 3) scLaw.nd rfl (Or.inl rfl)) (pss_cons (ps_set (i := 4) scLaw.nd rfl (Or.inl rfl) (pe_op op_add pe_int (pe_call G_law_take (hr.mono (by decide)) (by rfl) g_law_take k_law_take b_law_take .nil pass0 (pa_cons (pv 2) (pa_cons pe_int pa_nil)))))
      (pss_cons (ps_set (i := 5) scLaw.nd rfl (Or.inl rfl) (pe_call G_law_rows (hr.mono (by decide)) (by rfl) g_law_rows k_law_rows b_law_rows .nil pass0 (pa_cons (pv 2) (pa_cons (pv 4) (pa_cons (pe_call G_law_take (hr.mono (by decide)) (by rfl) g_law_take k_law_take b_law_take .nil pass0 (pa_cons (pv 2) (pa_cons pe_int pa_nil))) (pa_cons pe_bl pa_nil))))))
      (pss_cons (ps_set (i := 6) scLaw.nd rfl (Or.inl rfl) (pe_make mk_Lattice G_Lattice (hr.mono (by decide)) (by rfl) g_Lattice bN_Lattice .nil pass0 (pa_cons (pv 4) (pa_cons (pv 5) pa_nil))))
      (pss_cons (ps_for PassesOwn.never rfl (pi_range1 (by rfl) Z.range (pa_cons pe_int pa_nil)) (pg_name (i := 7) scLaw.nd rfl (Or.inl rfl)) (pss_cons (ps_set (i := 8) scLaw.nd rfl (Or.inr rfl) (pe_callTy (call_tuple_ofK (K := K) rfl) (by rfl) Z.tuple (by decide +kernel) (pa_cons (pe_lc (own := [("_law_at", 12)]) (g := gName 12) (tt := tYes) (by rfl) scLaw.nd (pi_range1 (by rfl) Z.range (pa_cons (pv 4) pa_nil)) (blkOk_by (own := [("_law_at", 12)]) (N := NLaw) (sc := defScope sLaw) (by decide +kernel)) (fun _ _ _ _ _ => pg_name (i := 12) scLaw.nd rfl (Or.inl rfl)) (fun _ _ _ _ _ => pts_nil) (fun _ _ _ _ _ => (pe_call G_law_number (hr.mono (by decide)) (by rfl) g_law_number k_law_number b_law_number .nil pass0 (pa_cons (pv 2) pa_nil)))) pa_nil)))
      (pss_cons (ps_set (i := 9) scLaw.nd rfl (Or.inl rfl) (pe_call G_law_common (hr.mono (by decide)) (by rfl) g_law_common k_law_common b_law_common .nil pass0 (pa_cons (pe_lc (own := [("_law_row", 13)]) (g := gName 13) (tt := tYes) (by rfl) scLaw.nd (pi_list (pv 5)) (blkOk_by (own := [("_law_row", 13)]) (N := NLaw) (sc := defScope sLaw) (by decide +kernel)) (fun _ _ _ _ _ => pg_name (i := 13) scLaw.nd rfl (Or.inl rfl)) (fun _ _ _ _ _ => pts_nil) (fun _ _ _ _ _ => (pe_call G_law_value (hr.mono (by decide)) (by rfl) g_law_value k_law_value b_law_value .nil pass0 (pa_cons (pv 8) (pa_cons (pv 13) pa_nil))))) pa_nil)))
      (pss_cons (ps_if (pt_cmpR op_ne (pe_callB SkE.call_repr_int (by rfl) Z.repr (by decide +kernel) (pa_cons (pe_meth (pv 6) T.cl m_divisor G_divisor (hr.mono (by decide)) b_divisor .nil pass0 (pa_cons (pv 8) pa_nil)) pa_nil)) (pe_callB SkE.call_repr_int (by rfl) Z.repr (by decide +kernel) (pa_cons (pv 9) pa_nil)) (nomark _)) (pss_one (ps_ret pe_bl)) pss_nil)
      (pss_one (ps_if (pt_cmpR (op_neDK (K := K) rfl hr.units) (pv 5) (pe_lst pa_nil) (nomark _)) (pss_cons (ps_set (i := 10) scLaw.nd rfl (Or.inl rfl) (pe_callTy (call_tuple_ofK (K := K) rfl) (by rfl) Z.tuple (by decide +kernel) (pa_cons (pe_lc (own := [("_law_here", 14), ("_law_there", 15)]) (g := gTup _ 2 (gCons (gName 14) (gCons (gName 15) gNil))) (tt := tYes) (by rfl) scLaw.nd (RZ.pi_zipA (by rfl) Z.zip (pa_cons (pe_ix (ix_listK (K := K) rfl) (pv 5) pe_int (fun _ _ => rfl)) (pa_cons (pe_ix (ix_listK (K := K) rfl) (pv 5) (pe_op op_sub (pe_callB call_len (by rfl) Z.len PySem.boot_len (pa_cons (pv 5) pa_nil)) pe_int) (fun _ _ => rfl)) pa_nil))) (blkOk_by (own := [("_law_here", 14), ("_law_there", 15)]) (N := NLaw) (sc := defScope sLaw) (by decide +kernel)) (fun _ _ _ _ _ => pg_tup rfl (pgs_cons (pg_name (i := 14) scLaw.nd rfl (Or.inl rfl)) (pgs_cons (pg_name (i := 15) scLaw.nd rfl (Or.inl rfl)) pgs_nil))) (fun _ _ _ _ _ => pts_nil) (fun _ _ _ _ _ => (pe_op op_sub (pe_op op_mulOk pe_int (pv 14)) (pe_op op_mulOk pe_int (pv 15))))) pa_nil)))
      (pss_cons (ps_set (i := 11) scLaw.nd rfl (Or.inl rfl) (pe_call G_law_value (hr.mono (by decide)) (by rfl) g_law_value k_law_value b_law_value .nil pass0 (pa_cons (pv 8) (pa_cons (pv 10) pa_nil))))
      (pss_one (ps_if (PW.pt (pw_or (PW.pt (pw_and (pt_cmpR op_eq (pv 9) pe_int (nomark _)) (pw_and1 (pt_cmpR op_ne (pv 11) pe_int (nomark _))))) (pw_or1 (PW.pt (pw_and (pt_cmpR op_ne (pv 9) pe_int (nomark _)) (pw_and1 (pt_cmpR op_ne (pe_op op_modN (pe_callTy call_int1 (by rfl) Z.int (by decide +kernel) (pa_cons (pv 11) pa_nil)) (pv 9)) pe_int (nomark _)))))))) (pss_one (ps_ret pe_bl)) pss_nil)))) pss_nil))))))
      (pss_one (ps_if (pt_cmpR op_ne (pe_meth (pv 6) T.cl m_divisor G_divisor (hr.mono (by decide)) b_divisor .nil pass0 (pa_cons (pe_callTy (call_tuple_ofK (K := K) rfl) (by rfl) Z.tuple (by decide +kernel) (pa_cons (pe_op op_rep (pe_lst (pa_cons pe_int pa_nil)) (pv 4)) pa_nil)) pa_nil)) pe_int (nomark _)) (pss_one (ps_ret pe_bl)) pss_nil))))))))))
      (pss_one (ps_ret (pe_cmpR op_eq (pe_meth (pe_make mk_Lattice G_Lattice (hr.mono (by decide)) (by rfl) g_Lattice b1_Lattice v1_Lattice pass0 (pa_cons pe_int pa_nil)) T.cl m_divisor G_divisor (hr.mono (by decide)) b_divisor .nil pass0 (pa_cons (pe_tup (pa_cons pe_int (pa_cons pe_int pa_nil))) pa_nil)) pe_int (nomark _))))), ?_⟩
    refine ⟨_, rfl, _, _, rfl, .inl ⟨_, hs, rfl⟩, _, _, rfl, _, _, rfl, _, rfl, ?_, ?_, ?_⟩
    · rw [List.length_map]; split <;> split <;> omega
    · rw [List.length_map]; split <;> split <;> omega
    refine for_it (walk_range (lo := 0)) (fun i σ H' => ∃ v1 v2 v3 v4 v5 v6 v7 v8 v9 v10 v11 v12 v13 v14 v15 : Option V, σ = [some (.ref a), v1, v2, v3, v4, v5, v6, v7, v8, v9, v10, v11, v12, v13, v14, v15] ∧ Same H H') ⟨none, none, none, none, none, none, none, none, none, none, none, none, none, none, none, rfl, Same.refl _⟩ (fun _ _ _ _ _ => trivial) ?_ ?_
    · rintro i x σ H0 H1 hi ⟨v1, v2, v3, v4, v5, v6, v7, v8, v9, v10, v11, v12, v13, v14, v15, rfl, s1⟩ ⟨rfl, rfl⟩
      refine ⟨_, rfl, _, rfl, a, ns, i, 6, (by show [V.ref a, V.int (0 + (i : Nat)), V.int 6] ++ [] = [V.ref a, V.int (i : Nat), V.int (6 : Nat)]; rw [Int.zero_add]; rfl), s1.seq hs, by omega, fun H2 b s2 hb b2 => ?_⟩
      have hbH : H b = none := s1.free hb
      -- four turns
      refine ⟨_, rfl, by decide, by decide, ?_⟩
      refine for_it (walk_range (lo := 0)) (fun i2 σ H' => ∃ v1 v3 v4 v5 v6 v7 v8 v9 v10 v11 v12 v13 v14 v15 : Option V, σ = [some (.ref a), v1, some (.ref b), v3, v4, v5, v6, v7, v8, v9, v10, v11, v12, v13, v14, v15] ∧ Same H H' ∧ IsBox H' b) ⟨_, _, _, _, _, _, _, _, _, _, _, _, _, _, rfl, s1.trans s2, b2⟩ (fun _ _ _ _ _ => trivial) ?_ ?_
      · rintro i2 x σ H0 H3 hi2 ⟨v1, v3, v4, v5, v6, v7, v8, v9, v10, v11, v12, v13, v14, v15, rfl, s3, b3⟩ ⟨rfl, rfl⟩
        -- width
        refine ⟨_, rfl, b, 5, rfl, b3, by decide, by decide +kernel, fun H4 d s4 b4 d0 d1 => ?_⟩
        obtain ⟨w, rfl, w1, w5⟩ : ∃ w : Nat, d = (w : Int) - 1 ∧ 1 ≤ w ∧ w ≤ 5 := ⟨(d + 1).toNat, by omega, by omega, by omega⟩
        have ew : (1 : Int) + ((w : Int) - 1) = (w : Nat) := by omega
        refine ⟨_, _, rfl, rfl, ?_⟩
        dsimp only
        rw [ew]
        -- rows
        refine ⟨_, rfl, _, rfl, _, rfl, b, 6, rfl, b4, by decide, by decide +kernel, fun H5 d s5 b5 d0 d1 => ?_⟩
        obtain ⟨m, rfl, m5⟩ : ∃ m : Nat, d = (m : Int) ∧ m ≤ 5 := ⟨d.toNat, by omega, by omega⟩
        refine ⟨b, w, m, rfl, b5, w1, by omega, by omega, fun H6 l xs rs s6 b6 hl hl6 pr6 rl rw' rb => ?_⟩
        have lb : l ≠ b := box_ne b5 hl
        have s06 : Same H H6 := same_x (same_x (same_x s3 hbH s4) hbH s5) hbH s6
        have rb28 : Bd 28 rs := rb.mono (by omega)
        -- the lattice
        refine ⟨_, rfl, _, rfl, fun p dx hp hdx ndx => ?_⟩
        have sp1 : Same H6 (upd (upd H6 dx (.own p)) p (.ins C dx [])) := fun c o e => by rw [upd_ne (ne_of_none e hp), upd_ne (ne_of_none e hdx)]; exact e
        refine ⟨p, dx, l, w, 5, 28, 5, rs, rfl, upd_same, .inl ⟨xs, sp1.seq (SqL.of hl6), Paired.imp (fun _ _ q => IsRow.same sp1 q) pr6⟩, rw', w1, by omega, by omega, by omega, rb28, by decide, by decide, by decide, fun p hp => bits55 p (by omega), ?_, fun H7 S kp7 hL bS => ⟨rfl, ?_⟩⟩
        · have : bits 5 5 w ≤ bits 5 5 5 := bits_mono w5
          have e : bits 5 5 5 = 46655 := rfl
          have : bits 5 5 w * (w + 2) ≤ 46655 * 7 := Nat.mul_le_mul (by omega) (by omega)
          omega
        have s67 : Same H6 H7 := fun c o e => kp7 c o (ne_of_none e hp) (sp1 c o e)
        have Sw := bS.hnf.wd
        have geq : ∀ fm : List Int, gcds (S.map (val fm)) = gcds (rs.map (val fm)) := fun fm => (gcds_eqv rw' Sw bS.eqv fm).symm
        -- five forms
        dsimp only [gName]
        refine seq_by (fun σ' H' => ∃ v1 v3 v7 v8 v9 v10 v11 v12 v13 v14 v15 : Option V, σ' = [some (.ref a), v1, some (.ref b), v3, some (.int (w : Nat)), some (.ref l), some (.ref p), v7, v8, v9, v10, v11, v12, v13, v14, v15] ∧ Same H H' ∧ IsBox H' b ∧ H' l = some (.lst xs) ∧ Paired (IsRow K H') xs rs ∧ IsLat K C H' p w S) (fun Nx hN => ?_) ?_
        · refine ⟨_, rfl, by decide, by decide, ?_⟩
          refine for_it (walk_range (lo := 0)) (fun i3 σ' H' => ∃ v1 v3 v7 v8 v9 v10 v11 v12 v13 v14 v15 : Option V, σ' = [some (.ref a), v1, some (.ref b), v3, some (.int (w : Nat)), some (.ref l), some (.ref p), v7, v8, v9, v10, v11, v12, v13, v14, v15] ∧ Same H H' ∧ IsBox H' b ∧ H' l = some (.lst xs) ∧ Paired (IsRow K H') xs rs ∧ IsLat K C H' p w S) ⟨_, _, _, _, _, _, _, _, _, _, _, rfl, s06.trans s67, b6.same s67, s67 _ _ hl6, Paired.imp (fun _ _ q => IsRow.same s67 q) pr6, hL⟩ (fun _ _ _ _ _ => trivial) ?_ (fun σ H' h => hN σ H' h)
          rintro i3 x σ H0 H8 hi3 ⟨v1, v3, v7, v8, v9, v10, v11, v12, v13, v14, v15, rfl, s8, b8, hl8, pr8, hL8⟩ ⟨rfl, rfl⟩
          -- a form
          refine ⟨_, rfl, _, rfl, by omega, by omega, fun D hD => ?_⟩
          refine lcb (walk_range (lo := 0) (n := ((w : Nat) : Int).toNat)) b IsInt stab_int stab_int (fun c => c.natAbs ≤ 999999999) (by omega) hD b8 (fun _ _ _ => trivial) ?_ ?_
          · rintro j y H9 H10 hj s9 b9 ⟨rfl, rfl⟩ k1 g1
            exact ⟨rfl, _, rfl, b, rfl, b9, fun H4 d s4 b4 d0 d1 => g1 _ _ d s4 b4 (by omega) rfl⟩
          intro H9 ys cs s9 b9 hy prc cl cbd
          have := paired_int prc
          subst this
          rw [Int.toNat_natCast] at cl
          refine ⟨D, _, rfl, .inl ⟨SqL.of hy, fun t ht => ?_⟩⟩
          have st := same_upd (o := .tup (cs.map V.int)) ht
          have ht10 : (upd H9 t (.tup (cs.map V.int))) t = some (.tup (cs.map V.int)) := upd_same
          have s0A := same_x s8 hbH s9 |>.trans st
          have bA := b9.same st
          have hlA := st _ _ (s9 _ _ lb hl8)
          have prA : Paired (IsRow K (upd H9 t (.tup (cs.map V.int)))) xs rs := Paired.imp (fun _ _ q => IsRow.same st q) (stab_box b8 s9 pr8)
          have hLA := (hL8.x b8 s9).same st
          generalize upd H9 t (.tup (cs.map V.int)) = HA at ht10 s0A bA hlA prA hLA
          have rowt : IsRow K HA (.ref t) cs := ⟨t, rfl, SqT.of ht10⟩
          have sm : ∀ x ∈ cs, IntMulSmall x := fun x hx => by
            have := cbd x hx
            exact small_of (by omega) (by omega)
          -- due
          refine ⟨_, rfl, l, rfl, ⟨_, SqL.of hlA⟩, fun D2 hD2 => ?_⟩
          refine lcp (walk_rows prA) IsInt stab_int (fun j => (rs[j]?).map (val cs)) (by omega) hD2 (fun H4 s4 => ⟨s4.seq (SqL.of hlA), s4⟩) ?_ ?_
          · rintro j y H4 H5 hj s4 ⟨rfl, r, er, hx⟩ k1 k0 g1 _
            exact ⟨rfl, _, rfl, _, rfl, .ref t, y, cs, r, rfl, rowt.same s4, hx, by rw [cl, rw' r (List.mem_of_getElem? er)], by omega, sm, fun H6 s6 => g1 _ _ _ s6 (by rw [er]; rfl) rfl⟩
          intro HB zs sB hz prz
          rw [outs_mapG] at prz
          have := paired_int prz
          subst this
          refine ⟨D2, _, rfl, SqL.of hz, ?_⟩
          have hLB := hLA.same sB
          obtain ⟨dxB, TB, hpB, hTB⟩ := id hLB
          have dle : ∀ fm, (∀ x ∈ fm, x.natAbs ≤ 999999999) → fm.length = w → (gcds (rs.map (val fm))).natAbs.log2 < 1920 := fun fm hfm hfl => by
            have h1 : (gcds (rs.map (val fm))).natAbs ≤ 5 * (999999999 * 28) := by
              refine gcds_le _ 0 (Nat.zero_le _) fun x hx => ?_
              obtain ⟨r, hr, rfl⟩ := List.mem_map.mp hx
              refine Nat.le_trans (val_le fm r hfm fun y hy => Bd.mem rb28 hr hy) ?_
              exact Nat.mul_le_mul_right _ (by omega)
            exact Nat.lt_of_lt_of_le (PySem.Flt.log2_lt_of (k := 60) (by decide) (Nat.lt_of_le_of_lt h1 (by decide))) (by decide)
          -- the divisor
          refine ⟨_, rfl, p, dxB, _, rfl, hpB, lflds_no (by decide +kernel) (by decide +kernel), _, rfl, p, .ref t, w, S, cs, rfl, hLB, rowt.same sB, cl, Sw, by omega, sm, fun HC sC => ?_⟩
          refine ⟨_, rfl, (by rw [geq]; exact dle cs cbd cl), _, rfl, _, rfl, dle cs cbd cl, rfl, _, rfl, iteNS (by rw [geq]) ?_⟩
          -- sums of the first and the last row
          have s0C := s0A.trans (sB.trans sC)
          have sAC := sB.trans sC
          have hlC := sAC _ _ hlA
          have prC : Paired (IsRow K HC) xs rs := Paired.imp (fun _ _ q => IsRow.same sAC q) prA
          have hLC := hLA.same sAC
          have bC := bA.same sAC
          refine ⟨_, rfl, small_len (by simp), fun q hq => ?_⟩
          have sq := same_upd (o := .lst []) hq
          refine ⟨_, _, .lst (SqL.of (sq _ _ hlC)) (dp_rows (Paired.imp (fun _ _ q => IsRow.same sq q) prC)), .lst (SqL.of upd_same) .nil, shaped_rows rs, rfl, _, rfl, ?_⟩
          rw [eqv_nil]
          have s0D := s0C.trans sq
          have hlD := sq _ _ hlC
          have prD : Paired (IsRow K (upd HC q (.lst []))) xs rs := Paired.imp (fun _ _ q => IsRow.same sq q) prC
          have hLD := hLC.same sq
          have bD := bC.same sq
          have rowD := rowt.same (sAC.trans sq)
          generalize upd HC q (.lst []) = HD at s0D hlD prD hLD bD rowD
          by_cases re : rs = []
          · subst re
            exact iteF ⟨_, _, _, _, _, _, _, _, _, _, _, rfl, s0D, bD, hlD, prD, hLD⟩
          · have re' : rs.isEmpty = false := by simpa using re
            rw [re']
            refine iteT ?_
            have rp : 0 < rs.length := List.length_pos_iff.mpr re
            have xl := paired_len prD
            obtain ⟨r, hr0⟩ : ∃ r, rs[0]? = some r := ⟨_, List.getElem?_eq_getElem rp⟩
            obtain ⟨q', hq0⟩ : ∃ q, rs[rs.length - 1]? = some q := ⟨_, List.getElem?_eq_getElem (by omega)⟩
            obtain ⟨xr, hxr, ⟨ar, rfl, har⟩⟩ := paired_get' prD hr0
            obtain ⟨xq, hxq, ⟨aq, rfl, haq⟩⟩ := paired_get' prD hq0
            have ei : ((xs.length : Nat) : Int) - 1 = ((rs.length - 1 : Nat) : Int) := by omega
            have rm := List.mem_of_getElem? hr0
            have qm := List.mem_of_getElem? hq0
            refine ⟨_, rfl, l, _, _, _, rfl, rfl, SqL.of hlD, atI_nat (j := 0) hxr, _, rfl, _, rfl, _, _, rfl, .inl ⟨_, SqL.of hlD, rfl⟩, _, _, rfl, rfl, l, _, _, _, rfl, rfl, SqL.of hlD, (by rw [ei]; exact atI_nat hxq), ar, aq, _, _, rfl, .inr ⟨har, haq, fun D3 hD3 => ?_⟩⟩
            refine lcp (walk_zipTI (xs := r) (ys := q') (n := w) (by rw [rw' r rm, rw' q' qm]; omega)) IsInt stab_int (fun j => some (3 * at' r j - 5 * at' q' j)) (by omega) hD3 (fun H4 s4 => ⟨seqT s4 har, seqT s4 haq⟩) ?_ ?_
            · rintro j x H4 H5 hj s4 ⟨T', rfl, hT', rfl⟩ k1 k0 g1 _
              refine ⟨T', _, rfl, SqT.of upd_same, rfl, _, _, rfl, _, _, rfl, rfl, rfl, ?_⟩
              exact ⟨_, rfl, _, _, rfl, rfl, .of_left (by decide), _, rfl, _, _, rfl, rfl, .of_left (by decide), _, _, rfl, rfl, g1 _ _ _ (same_upd hT') rfl rfl⟩
            intro HE zs sE hz prz
            have := paired_int prz
            subst this
            rw [outs_map] at hz
            have ez : (List.range w).map (fun j => 3 * at' r j - 5 * at' q' j) = less (less (List.replicate w 0) (-3) r) 5 q' := by
              have l1 := rw' r rm
              have l2 := rw' q' qm
              have l3 : (less (List.replicate w 0) (-3) r).length = w := less_len List.length_replicate l1
              apply ext_at
              · rw [List.length_map, List.length_range, less_len l3 l2]
              · intro j
                rw [at_less (by rw [l3, l2]), at_less (by rw [List.length_replicate, l1]), at_zero]
                by_cases hj : j < w
                · show ((List.range w).map _)[j]?.getD 0 = _
                  rw [List.getElem?_map, List.getElem?_range hj]
                  show 3 * at' r j - 5 * at' q' j = _
                  omega
                · show ((List.range w).map _)[j]?.getD 0 = _
                  rw [List.getElem?_eq_none (by simpa using hj)]
                  unfold at'
                  rw [List.getElem?_eq_none (by omega), List.getElem?_eq_none (by omega)]; rfl
            rw [ez] at hz
            have spz : Sp w rs (less (less (List.replicate w 0) (-3) r) 5 q') := .step qm (.step rm .zero)
            have dv : gcds (rs.map (val cs)) ∣ val cs (less (less (List.replicate w 0) (-3) r) 5 q') := spz.dvd rw' fun s hs' => gcds_dvd (List.mem_map_of_mem hs')
            refine ⟨D3, _, rfl, .inl ⟨SqL.of hz, fun t2 ht2 => ?_⟩⟩
            have sF := same_upd (o := .tup ((less (less (List.replicate w 0) (-3) r) 5 q').map V.int)) ht2
            refine ⟨_, rfl, _, rfl, .ref t, .ref t2, cs, _, rfl, rowD.same (sE.trans sF), ⟨t2, rfl, SqT.of upd_same⟩, by rw [cl, less_len (less_len List.length_replicate (rw' r rm)) (rw' q' qm)], by omega, sm, fun HG sG => ?_⟩
            have sDG := sE.trans (sF.trans sG)
            have fin : ∀ (H' : Hp) (σ' : L2.St) (u1 u3 u7 u8 u9 u10 u11 u12 u13 u14 u15 : Option V), H' = HG → σ' = [some (.ref a), u1, some (.ref b), u3, some (.int (w : Nat)), some (.ref l), some (.ref p), u7, u8, u9, u10, u11, u12, u13, u14, u15] → ∃ v1 v3 v7 v8 v9 v10 v11 v12 v13 v14 v15 : Option V, σ' = [some (.ref a), v1, some (.ref b), v3, some (.int (w : Nat)), some (.ref l), some (.ref p), v7, v8, v9, v10, v11, v12, v13, v14, v15] ∧ Same H H' ∧ IsBox H' b ∧ H' l = some (.lst xs) ∧ Paired (IsRow K H') xs rs ∧ IsLat K C H' p w S := by
              intro H' σ' u1 u3 u7 u8 u9 u10 u11 u12 u13 u14 u15 e1 e2
              subst e1
              exact ⟨u1, u3, u7, u8, u9, u10, u11, u12, u13, u14, u15, e2, s0D.trans sDG, bD.same sDG, sDG _ _ hlD, Paired.imp (fun _ _ q => IsRow.same sDG q) prD, hLD.same sDG⟩
            generalize gcds (rs.map (val cs)) = due at dv
            generalize val cs (less (less (List.replicate w 0) (-3) r) 5 q') = vlu at dv
            refine ⟨_, rfl, rfl, _, rfl, ?_⟩
            refine ite2 (fun c => ?_) (fun c => ?_)
            · have c' : V.int due = V.int 0 := of_decide_eq_true c
              injection c' with c'
              have v0 : vlu = 0 := Int.zero_dvd.mp (c' ▸ dv)
              refine ⟨_, rfl, rfl, _, rfl, iteNS (by rw [v0]) ?_⟩
              exact ⟨_, rfl, rfl, _, rfl, iteNS (by rw [c']) (iteF (fin _ _ _ _ _ _ _ _ _ _ _ _ _ rfl rfl))⟩
            · have c' : ¬ V.int due = V.int 0 := fun e => c (decide_eq_true e)
              have d0 : due ≠ 0 := fun e => c' (by rw [e])
              refine iteF ⟨_, rfl, rfl, _, rfl, ?_⟩
              rw [decide_eq_false c']
              refine iteT ⟨_, rfl, .inl ⟨_, rfl, _, rfl, _, _, rfl, rfl, d0, rfl, _, rfl, ?_⟩⟩
              have m0 : vlu.fmod due = 0 := by
                obtain ⟨z, rfl⟩ := dv
                exact Int.mul_fmod_right due z
              exact iteNS (show V.int (vlu.fmod due) = V.int 0 by rw [m0]) (fin _ _ _ _ _ _ _ _ _ _ _ _ _ rfl rfl)
        · rintro σ' H8 ⟨v1, v3, v7, v8, v9, v10, v11, v12, v13, v14, v15, rfl, s8, b8, hl8, pr8, hL8⟩
          obtain ⟨dx8, T8, hp8, hT8⟩ := id hL8
          refine ⟨_, rfl, p, dx8, _, rfl, hp8, lflds_no (by decide +kernel) (by decide +kernel), small_len (by simp), fun q1 hq1 => ?_⟩
          have sq1 := same_upd (o := .lst [V.int 0]) hq1
          refine ⟨_, rfl, q1, _, _, rfl, rfl, upd_same, by omega, by omega, by rw [Int.toNat_natCast]; exact small_len (by simp; omega), fun q2 hq2 => ?_⟩
          rw [Int.toNat_natCast, flat_rep, rep_int] at *
          have sq2 := same_upd (o := .lst ((List.replicate w (0 : Int)).map V.int)) hq2
          refine ⟨q2, _, rfl, .inl ⟨SqL.of upd_same, fun q3 hq3 => ?_⟩⟩
          have sq3 := same_upd (o := .tup ((List.replicate w (0 : Int)).map V.int)) hq3
          have sq := sq1.trans (sq2.trans sq3)
          refine ⟨p, .ref q3, w, S, List.replicate w 0, rfl, hL8.same sq, ⟨q3, rfl, SqT.of upd_same⟩, List.length_replicate, Sw, by omega, fun x hx => by rw [List.eq_of_mem_replicate hx]; exact small_of (by decide) (by decide), fun H9 s9 => ?_⟩
          have g0 : gcds (S.map (val (List.replicate w 0))) = 0 := gcds_zero fun x hx => by
            obtain ⟨r, _, rfl⟩ := List.mem_map.mp hx
            exact val_zeroL r w
          refine ⟨rfl, _, rfl, iteNS (by rw [g0]) ?_⟩
          exact ⟨_, _, _, _, _, _, _, _, _, _, _, _, _, _, rfl, s8.trans (sq.trans s9), (b8.same sq).same s9⟩
      · rintro σ H3 ⟨v1, v3, v4, v5, v6, v7, v8, v9, v10, v11, v12, v13, v14, v15, rfl, s3, b3⟩
        exact ⟨_, _, _, _, _, _, _, _, _, _, _, _, _, _, _, rfl, s3⟩
    · rintro σ H1 ⟨v1, v2, v3, v4, v5, v6, v7, v8, v9, v10, v11, v12, v13, v14, v15, rfl, s1⟩
      obtain ⟨e, rfl, he⟩ := hdv
      -- Lattice(2).divisor((3, 4)) == 0
      refine fun p dx hp hdx ndx => ?_
      refine ⟨p, dx, e, 2, 1, 1, 1, [], rfl, upd_same, .inr ⟨[], he _, .nil⟩, (fun r h => nomatch h), by decide, by decide, by decide, by decide, (fun r h => nomatch h), by decide, by decide, by decide, by decide, by decide, fun H2 S kp hL bS => ⟨rfl, ?_⟩⟩
      obtain ⟨dx2, T2, hp2, hT2⟩ := id hL
      refine ⟨p, dx2, _, rfl, hp2, lflds_no (by decide +kernel) (by decide +kernel), small_len (by simp), fun t ht => ?_⟩
      have st := same_upd (o := .tup [V.int 3, V.int 4]) ht
      refine ⟨p, .ref t, 2, S, [3, 4], rfl, hL.same st, ⟨t, rfl, SqT.of upd_same⟩, rfl, bS.hnf.wd, by decide, ?_, fun H3 s3 => ?_⟩
      · intro x hx
        have : x = 3 ∨ x = 4 := by simpa using hx
        rcases this with rfl | rfl
        · exact small_of (by decide) (by decide)
        · exact small_of (by decide) (by decide)
      · have g0 : gcds (S.map (val [3, 4])) = 0 := by
          have wn : Wd 2 [] := fun r h => nomatch h
          rw [← gcds_eqv wn bS.hnf.wd bS.eqv]; rfl
        refine ⟨rfl, ?_⟩
        rw [decide_eq_true (by rw [g0])]
        exact k _
end
end My
set_option maxHeartbeats 4000000
namespace My
open PySem L2
open Lat
theorem all_mk {l : PySem.W.OpenLaw} {w : World} {K : PySem.W.Frag} {h : Heap} {mg : Str → Option Value} {fa : Addr} (X : K.In h) (G : h.Ns mainGlobals mg) (hfa : mg "law" = some (.ref fa))
    {oc1 kV1 dc1 pm1 cd1 ct1 : Value} {od1 an1 : Option Addr} {sl1 : Array (Option Value)} {f1 : Addr}
    {oc2 kV2 dc2 pm2 cd2 ct2 : Value} {od2 an2 : Option Addr} {sl2 : Array (Option Value)} {f2 : Addr}
    {oc3 kV3 dc3 pm3 cd3 ct3 : Value} {od3 an3 : Option Addr} {sl3 : Array (Option Value)} {f3 : Addr}
    {oc4 kV4 dc4 pm4 cd4 ct4 : Value} {od4 an4 : Option Addr} {sl4 : Array (Option Value)} {f4 : Addr}
    {oc5 kV5 dc5 pm5 cd5 ct5 : Value} {od5 an5 : Option Addr} {sl5 : Array (Option Value)} {f5 : Addr}
    {oc6 kV6 dc6 pm6 cd6 ct6 : Value} {od6 an6 : Option Addr} {sl6 : Array (Option Value)} {f6 : Addr}
    {oc7 kV7 dc7 pm7 cd7 ct7 : Value} {od7 an7 : Option Addr} {sl7 : Array (Option Value)} {f7 : Addr}
    {oc8 kV8 dc8 pm8 cd8 ct8 : Value} {od8 an8 : Option Addr} {sl8 : Array (Option Value)} {f8 : Addr}
    {oc9 kV9 dc9 pm9 cd9 ct9 : Value} {od9 an9 : Option Addr} {sl9 : Array (Option Value)} {f9 : Addr}
    {oc10 kV10 dc10 pm10 cd10 ct10 : Value} {od10 an10 : Option Addr} {sl10 : Array (Option Value)} {f10 : Addr}
    {oc11 kV11 dc11 pm11 cd11 ct11 : Value} {od11 an11 : Option Addr} {sl11 : Array (Option Value)} {f11 : Addr}
    {oc12 kV12 dc12 pm12 cd12 ct12 : Value} {od12 an12 : Option Addr} {sl12 : Array (Option Value)} {f12 : Addr}
    {oc13 kV13 dc13 pm13 cd13 ct13 : Value} {od13 an13 : Option Addr} {sl13 : Array (Option Value)} {f13 : Addr}
    {oc14 kV14 dc14 pm14 cd14 ct14 : Value} {od14 an14 : Option Addr} {sl14 : Array (Option Value)} {f14 : Addr}
    {oc15 kV15 dc15 pm15 cd15 ct15 : Value} {od15 an15 : Option Addr} {sl15 : Array (Option Value)} {f15 : Addr}
    {oc16 kV16 dc16 pm16 cd16 ct16 : Value} {od16 an16 : Option Addr} {sl16 : Array (Option Value)} {f16 : Addr}
    {oc17 kV17 dc17 pm17 cd17 ct17 : Value} {od17 an17 : Option Addr} {sl17 : Array (Option Value)} {f17 : Addr}
    {oc18 kV18 dc18 pm18 cd18 ct18 : Value} {od18 an18 : Option Addr} {sl18 : Array (Option Value)} {f18 : Addr}
    {C : Addr}
    {TT EE : Addr} {ocT : Value} {odT odE : Option Addr} {nT nE : Nat} {slT slE : Array (Option Value)}
    {ocI kVI dcI pmI cdI ctI : Value} {odI anI : Option Addr} {slI : Array (Option Value)} {fI : Addr}
    {ocM0 kVM0 dcM0 pmM0 cdM0 ctM0 : Value} {odM0 anM0 : Option Addr} {slM0 : Array (Option Value)} {fM0 : Addr}
    {ocL kVL dcL pmL cdL ctL : Value} {odL anL : Option Addr} {slL : Array (Option Value)} {fL : Addr}
    (a1 : PySem.W.nsIn K mainGlobals "is_integer" = some (some (.ref f1)))
    (l1 : K.lookup f1 = some ⟨oc1, od1, .func (PySem.W.fnOf "is_integer" "is_integer" (defArgs sIsi) (defBody sIsi) (defScope sIsi) .none kV1 dc1 pm1 an1 cd1 ct1), sl1⟩)
    (c1 : PySem.W.codeIn K cd1 "is_integer" = true)
    (k1 : PySem.W.keepIn K (.ref f1) = true)
    (a2 : PySem.W.nsIn K mainGlobals "is_sequence" = some (some (.ref f2)))
    (l2 : K.lookup f2 = some ⟨oc2, od2, .func (PySem.W.fnOf "is_sequence" "is_sequence" (defArgs sIss) (defBody sIss) (defScope sIss) .none kV2 dc2 pm2 an2 cd2 ct2), sl2⟩)
    (c2 : PySem.W.codeIn K cd2 "is_sequence" = true)
    (k2 : PySem.W.keepIn K (.ref f2) = true)
    (a3 : PySem.W.nsIn K mainGlobals "is_vector" = some (some (.ref f3)))
    (l3 : K.lookup f3 = some ⟨oc3, od3, .func (PySem.W.fnOf "is_vector" "is_vector" (defArgs sIsv) (defBody sIsv) (defScope sIsv) .none kV3 dc3 pm3 an3 cd3 ct3), sl3⟩)
    (c3 : PySem.W.codeIn K cd3 "is_vector" = true)
    (k3 : PySem.W.keepIn K (.ref f3) = true)
    (a4 : PySem.W.nsIn K mainGlobals "common_divisor" = some (some (.ref f4)))
    (l4 : K.lookup f4 = some ⟨oc4, od4, .func (PySem.W.fnOf "common_divisor" "common_divisor" (defArgs sCd) (defBody sCd) (defScope sCd) .none kV4 dc4 pm4 an4 cd4 ct4), sl4⟩)
    (c4 : PySem.W.codeIn K cd4 "common_divisor" = true)
    (k4 : PySem.W.keepIn K (.ref f4) = true)
    (a5 : PySem.W.nsIn K mainGlobals "less" = some (some (.ref f5)))
    (l5 : K.lookup f5 = some ⟨oc5, od5, .func (PySem.W.fnOf "less" "less" (defArgs sLess) (defBody sLess) (defScope sLess) .none kV5 dc5 pm5 an5 cd5 ct5), sl5⟩)
    (c5 : PySem.W.codeIn K cd5 "less" = true)
    (k5 : PySem.W.keepIn K (.ref f5) = true)
    (a6 : PySem.W.nsIn K mainGlobals "value_of" = some (some (.ref f6)))
    (l6 : K.lookup f6 = some ⟨oc6, od6, .func (PySem.W.fnOf "value_of" "value_of" (defArgs sVal) (defBody sVal) (defScope sVal) .none kV6 dc6 pm6 an6 cd6 ct6), sl6⟩)
    (c6 : PySem.W.codeIn K cd6 "value_of" = true)
    (k6 : PySem.W.keepIn K (.ref f6) = true)
    (a7 : PySem.W.nsIn K mainGlobals "pivot_of" = some (some (.ref f7)))
    (l7 : K.lookup f7 = some ⟨oc7, od7, .func (PySem.W.fnOf "pivot_of" "pivot_of" (defArgs sPiv) (defBody sPiv) (defScope sPiv) .none kV7 dc7 pm7 an7 cd7 ct7), sl7⟩)
    (c7 : PySem.W.codeIn K cd7 "pivot_of" = true)
    (k7 : PySem.W.keepIn K (.ref f7) = true)
    (a8 : PySem.W.nsIn K mainGlobals "gathered" = some (some (.ref f8)))
    (l8 : K.lookup f8 = some ⟨oc8, od8, .func (PySem.W.fnOf "gathered" "gathered" (defArgs sGath) (defBody sGath) (defScope sGath) .none kV8 dc8 pm8 an8 cd8 ct8), sl8⟩)
    (c8 : PySem.W.codeIn K cd8 "gathered" = true)
    (k8 : PySem.W.keepIn K (.ref f8) = true)
    (a9 : PySem.W.nsIn K mainGlobals "settled" = some (some (.ref f9)))
    (l9 : K.lookup f9 = some ⟨oc9, od9, .func (PySem.W.fnOf "settled" "settled" (defArgs sSett) (defBody sSett) (defScope sSett) .none kV9 dc9 pm9 an9 cd9 ct9), sl9⟩)
    (c9 : PySem.W.codeIn K cd9 "settled" = true)
    (k9 : PySem.W.keepIn K (.ref f9) = true)
    (a10 : PySem.W.nsIn K mainGlobals "basis_of" = some (some (.ref f10)))
    (l10 : K.lookup f10 = some ⟨oc10, od10, .func (PySem.W.fnOf "basis_of" "basis_of" (defArgs sBas) (defBody sBas) (defScope sBas) .none kV10 dc10 pm10 an10 cd10 ct10), sl10⟩)
    (c10 : PySem.W.codeIn K cd10 "basis_of" = true)
    (k10 : PySem.W.keepIn K (.ref f10) = true)
    (a11 : PySem.W.nsIn K mainGlobals "need_vectors" = some (some (.ref f11)))
    (l11 : K.lookup f11 = some ⟨oc11, od11, .func (PySem.W.fnOf "need_vectors" "need_vectors" (defArgs sNeed) (defBody sNeed) (defScope sNeed) .none kV11 dc11 pm11 an11 cd11 ct11), sl11⟩)
    (c11 : PySem.W.codeIn K cd11 "need_vectors" = true)
    (k11 : PySem.W.keepIn K (.ref f11) = true)
    (a12 : PySem.W.nsIn K mainGlobals "_law_box" = some (some (.ref f12)))
    (l12 : K.lookup f12 = some ⟨oc12, od12, .func (PySem.W.fnOf "_law_box" "_law_box" (defArgs sBox) (defBody sBox) (defScope sBox) .none kV12 dc12 pm12 an12 cd12 ct12), sl12⟩)
    (c12 : PySem.W.codeIn K cd12 "_law_box" = true)
    (k12 : PySem.W.keepIn K (.ref f12) = true)
    (a13 : PySem.W.nsIn K mainGlobals "_law_take" = some (some (.ref f13)))
    (l13 : K.lookup f13 = some ⟨oc13, od13, .func (PySem.W.fnOf "_law_take" "_law_take" (defArgs sTake) (defBody sTake) (defScope sTake) .none kV13 dc13 pm13 an13 cd13 ct13), sl13⟩)
    (c13 : PySem.W.codeIn K cd13 "_law_take" = true)
    (k13 : PySem.W.keepIn K (.ref f13) = true)
    (a14 : PySem.W.nsIn K mainGlobals "_law_number" = some (some (.ref f14)))
    (l14 : K.lookup f14 = some ⟨oc14, od14, .func (PySem.W.fnOf "_law_number" "_law_number" (defArgs sNum) (defBody sNum) (defScope sNum) .none kV14 dc14 pm14 an14 cd14 ct14), sl14⟩)
    (c14 : PySem.W.codeIn K cd14 "_law_number" = true)
    (k14 : PySem.W.keepIn K (.ref f14) = true)
    (a15 : PySem.W.nsIn K mainGlobals "_law_small" = some (some (.ref f15)))
    (l15 : K.lookup f15 = some ⟨oc15, od15, .func (PySem.W.fnOf "_law_small" "_law_small" (defArgs sSmall) (defBody sSmall) (defScope sSmall) .none kV15 dc15 pm15 an15 cd15 ct15), sl15⟩)
    (c15 : PySem.W.codeIn K cd15 "_law_small" = true)
    (k15 : PySem.W.keepIn K (.ref f15) = true)
    (a16 : PySem.W.nsIn K mainGlobals "_law_rows" = some (some (.ref f16)))
    (l16 : K.lookup f16 = some ⟨oc16, od16, .func (PySem.W.fnOf "_law_rows" "_law_rows" (defArgs sRows) (defBody sRows) (defScope sRows) .none kV16 dc16 pm16 an16 cd16 ct16), sl16⟩)
    (c16 : PySem.W.codeIn K cd16 "_law_rows" = true)
    (k16 : PySem.W.keepIn K (.ref f16) = true)
    (a17 : PySem.W.nsIn K mainGlobals "_law_common" = some (some (.ref f17)))
    (l17 : K.lookup f17 = some ⟨oc17, od17, .func (PySem.W.fnOf "_law_common" "_law_common" (defArgs sCom) (defBody sCom) (defScope sCom) .none kV17 dc17 pm17 an17 cd17 ct17), sl17⟩)
    (c17 : PySem.W.codeIn K cd17 "_law_common" = true)
    (k17 : PySem.W.keepIn K (.ref f17) = true)
    (a18 : PySem.W.nsIn K mainGlobals "_law_value" = some (some (.ref f18)))
    (l18 : K.lookup f18 = some ⟨oc18, od18, .func (PySem.W.fnOf "_law_value" "_law_value" (defArgs sLVal) (defBody sLVal) (defScope sLVal) .none kV18 dc18 pm18 an18 cd18 ct18), sl18⟩)
    (c18 : PySem.W.codeIn K cd18 "_law_value" = true)
    (k18 : PySem.W.keepIn K (.ref f18) = true)
    (aC : PySem.W.nsIn K mainGlobals "Lattice" = some (some (.ref C)))
    (aI : PySem.W.findIn K (.ref C) "__init__" = some (some (.ref fI)))
    (iI : PySem.W.isFn K (.ref fI) = true)
    (lI : K.lookup fI = some ⟨ocI, odI, .func (PySem.W.fnOf "__init__" "Lattice.__init__" (defArgs sLInit) (defBody sLInit) (defScope sLInit) (.ref TT) kVI dcI pmI anI cdI ctI), slI⟩)
    (cI : PySem.W.codeIn K cdI "Lattice.__init__" = true)
    (kI : PySem.W.keepIn K (.ref fI) = true)
    (lT : K.lookup TT = some ⟨ocT, odT, .seq #[.ref EE] nT, slT⟩)
    (lE : K.lookup EE = some ⟨.type "tuple", odE, .seq #[] nE, slE⟩)
    (pg : PySem.W.plainGet K C Str.empty = true)
    (hd : PySem.W.hasDictIn K C = true)
    (po : PySem.W.plainOver K C = true)
    (sa : PySem.W.findIn K (.ref C) "__setattr__" = some (some (.builtin "object.__setattr__")))
    (mk : PySem.W.makesIn K C = true)
    (kc : PySem.W.keepIn K (.ref C) = true)
    (nW : PySem.W.findIn K (.ref C) "width" = some none)
    (nB : PySem.W.findIn K (.ref C) "basis" = some none)
    (aM0 : PySem.W.findIn K (.ref C) "divisor" = some (some (.ref fM0)))
    (iM0 : PySem.W.isFn K (.ref fM0) = true)
    (lM0 : K.lookup fM0 = some ⟨ocM0, odM0, .func (PySem.W.fnOf "divisor" "Lattice.divisor" (defArgs sLDiv) (defBody sLDiv) (defScope sLDiv) .none kVM0 dcM0 pmM0 anM0 cdM0 ctM0), slM0⟩)
    (cM0 : PySem.W.codeIn K cdM0 "Lattice.divisor" = true)
    (kM0 : PySem.W.keepIn K (.ref fM0) = true)
    (aL : PySem.W.nsIn K mainGlobals "law" = some (some (.ref fL)))
    (lL : K.lookup fL = some ⟨ocL, odL, .func (PySem.W.fnOf "law" "law" (defArgs sLaw) (defBody sLaw) (defScope sLaw) .none kVL dcL pmL anL cdL ctL), slL⟩)
    (cL : PySem.W.codeIn K cdL "law" = true)
    (kL : PySem.W.keepIn K (.ref fL) = true)
    (z_zip : PySem.W.nsIn K mainGlobals "zip" = some none)
    (z_tuple : PySem.W.nsIn K mainGlobals "tuple" = some none)
    (z_list : PySem.W.nsIn K mainGlobals "list" = some none)
    (z_dict : PySem.W.nsIn K mainGlobals "dict" = some none)
    (z_abs : PySem.W.nsIn K mainGlobals "abs" = some none)
    (z_int : PySem.W.nsIn K mainGlobals "int" = some none)
    (z_bool : PySem.W.nsIn K mainGlobals "bool" = some none)
    (z_str : PySem.W.nsIn K mainGlobals "str" = some none)
    (z_sum : PySem.W.nsIn K mainGlobals "sum" = some none)
    (z_len : PySem.W.nsIn K mainGlobals "len" = some none)
    (z_min : PySem.W.nsIn K mainGlobals "min" = some none)
    (z_max : PySem.W.nsIn K mainGlobals "max" = some none)
    (z_all : PySem.W.nsIn K mainGlobals "all" = some none)
    (z_any : PySem.W.nsIn K mainGlobals "any" = some none)
    (z_isinstance : PySem.W.nsIn K mainGlobals "isinstance" = some none)
    (z_range : PySem.W.nsIn K mainGlobals "range" = some none)
    (z_repr : PySem.W.nsIn K mainGlobals "repr" = some none)
    (z_enumerate : PySem.W.nsIn K mainGlobals "enumerate" = some none)
    (z_sorted : PySem.W.nsIn K mainGlobals "sorted" = some none) :
    ∃ fd : FuncData, (∀ (s : Shared) (v : Value), BindsTo s fd ⟨[v], []⟩ [("_law_script", v)]) ∧ ∀ base : Heap, K.In base → base.Ns mainGlobals mg → FnOk l.prog w K mg base CX0 6 fa fd ["_law_script"] (spLaw K) := by
  have e := hfa.symm.trans (PySem.W.mg_of X G aL)
  cases e
  have Z : Bn mg := ⟨PySem.W.mg_none_of X G z_zip, PySem.W.mg_none_of X G z_tuple, PySem.W.mg_none_of X G z_list, PySem.W.mg_none_of X G z_dict, PySem.W.mg_none_of X G z_abs, PySem.W.mg_none_of X G z_int, PySem.W.mg_none_of X G z_bool, PySem.W.mg_none_of X G z_str, PySem.W.mg_none_of X G z_sum, PySem.W.mg_none_of X G z_len, PySem.W.mg_none_of X G z_min, PySem.W.mg_none_of X G z_max, PySem.W.mg_none_of X G z_all, PySem.W.mg_none_of X G z_any, PySem.W.mg_none_of X G z_isinstance, PySem.W.mg_none_of X G z_range, PySem.W.mg_none_of X G z_repr, PySem.W.mg_none_of X G z_enumerate, PySem.W.mg_none_of X G z_sorted⟩
  have T : LTxt K mg C := ⟨⟨pg, hd, po, sa⟩, nW, nB, PySem.W.mg_of X G aC⟩
  have F1 := fun_mk (st := sIsi) l1 c1 k1
  have b1 := F1.binds (ps := ["value"]) fun _ _ _ _ _ _ us hl => match us, hl with | [_], _ => rfl
  have F2 := fun_mk (st := sIss) l2 c2 k2
  have b2 := F2.binds (ps := ["value"]) fun _ _ _ _ _ _ us hl => match us, hl with | [_], _ => rfl
  have F3 := fun_mk (st := sIsv) l3 c3 k3
  have b3 := F3.binds (ps := ["value", "width"]) fun _ _ _ _ _ _ us hl => match us, hl with | [_, _], _ => rfl
  have F4 := fun_mk (st := sCd) l4 c4 k4
  have b4 := F4.binds (ps := ["one", "other"]) fun _ _ _ _ _ _ us hl => match us, hl with | [_, _], _ => rfl
  have F5 := fun_mk (st := sLess) l5 c5 k5
  have b5 := F5.binds (ps := ["one", "times", "other"]) fun _ _ _ _ _ _ us hl => match us, hl with | [_, _, _], _ => rfl
  have F6 := fun_mk (st := sVal) l6 c6 k6
  have b6 := F6.binds (ps := ["form", "vector"]) fun _ _ _ _ _ _ us hl => match us, hl with | [_, _], _ => rfl
  have F7 := fun_mk (st := sPiv) l7 c7 k7
  have b7 := F7.binds (ps := ["vector"]) fun _ _ _ _ _ _ us hl => match us, hl with | [_], _ => rfl
  have F8 := fun_mk (st := sGath) l8 c8 k8
  have b8 := F8.binds (ps := ["rows", "place"]) fun _ _ _ _ _ _ us hl => match us, hl with | [_, _], _ => rfl
  have F9 := fun_mk (st := sSett) l9 c9 k9
  have b9 := F9.binds (ps := ["basis"]) fun _ _ _ _ _ _ us hl => match us, hl with | [_], _ => rfl
  have F10 := fun_mk (st := sBas) l10 c10 k10
  have b10 := F10.binds (ps := ["width", "rows"]) fun _ _ _ _ _ _ us hl => match us, hl with | [_, _], _ => rfl
  have F11 := fun_mk (st := sNeed) l11 c11 k11
  have b11 := F11.binds (ps := ["width", "rows"]) fun _ _ _ _ _ _ us hl => match us, hl with | [_, _], _ => rfl
  have F12 := fun_mk (st := sBox) l12 c12 k12
  have b12 := F12.binds (ps := ["_law_script", "_law_k", "_law_own"]) fun _ _ _ _ _ _ us hl => match us, hl with | [_, _, _], _ => rfl
  have F13 := fun_mk (st := sTake) l13 c13 k13
  have b13 := F13.binds (ps := ["_law_box_here", "_law_many"]) fun _ _ _ _ _ _ us hl => match us, hl with | [_, _], _ => rfl
  have F14 := fun_mk (st := sNum) l14 c14 k14
  have b14 := F14.binds (ps := ["_law_box_here"]) fun _ _ _ _ _ _ us hl => match us, hl with | [_], _ => rfl
  have F15 := fun_mk (st := sSmall) l15 c15 k15
  have b15 := F15.binds (ps := ["_law_box_here"]) fun _ _ _ _ _ _ us hl => match us, hl with | [_], _ => rfl
  have F16 := fun_mk (st := sRows) l16 c16 k16
  have b16 := F16.binds (ps := ["_law_box_here", "_law_width", "_law_many", "_law_is_great"]) fun _ _ _ _ _ _ us hl => match us, hl with | [_, _, _, _], _ => rfl
  have F17 := fun_mk (st := sCom) l17 c17 k17
  have b17 := F17.binds (ps := ["_law_numbers"]) fun _ _ _ _ _ _ us hl => match us, hl with | [_], _ => rfl
  have F18 := fun_mk (st := sLVal) l18 c18 k18
  have b18 := F18.binds (ps := ["_law_form", "_law_row"]) fun _ _ _ _ _ _ us hl => match us, hl with | [_, _], _ => rfl
  have C1 : ∀ base, Cal l.prog w K mg base "is_integer" 1 ["value"] spIsi := fun base => ⟨f1, _, PySem.W.mg_of X G a1, k1, b1, ok_Isi F1 Z⟩
  have C2 : ∀ base, Cal l.prog w K mg base "is_sequence" 1 ["value"] (spIss K) := fun base => ⟨f2, _, PySem.W.mg_of X G a2, k2, b2, ok_Iss F2 Z⟩
  have C3 : ∀ base, Cal l.prog w K mg base "is_vector" 2 ["value", "width"] (spIsv K) := fun base => ⟨f3, _, PySem.W.mg_of X G a3, k3, b3, ok_Isv F3 Z (C1 base)⟩
  have C4 : ∀ base, Cal l.prog w K mg base "common_divisor" 1 ["one", "other"] spCd := fun base => ⟨f4, _, PySem.W.mg_of X G a4, k4, b4, ok_Cd F4 Z⟩
  have C5 : ∀ base, Cal l.prog w K mg base "less" 1 ["one", "times", "other"] (spLess K) := fun base => ⟨f5, _, PySem.W.mg_of X G a5, k5, b5, ok_Less F5 Z⟩
  have C6 : ∀ base, Cal l.prog w K mg base "value_of" 1 ["form", "vector"] (spVal K) := fun base => ⟨f6, _, PySem.W.mg_of X G a6, k6, b6, ok_Val F6 Z⟩
  have C7 : ∀ base, Cal l.prog w K mg base "pivot_of" 1 ["vector"] (spPiv K) := fun base => ⟨f7, _, PySem.W.mg_of X G a7, k7, b7, ok_Piv F7 Z⟩
  have C8 : ∀ base, Cal l.prog w K mg base "gathered" 2 ["rows", "place"] (spGath K) := fun base => ⟨f8, _, PySem.W.mg_of X G a8, k8, b8, ok_Gath F8 Z (C5 base)⟩
  have C9 : ∀ base, Cal l.prog w K mg base "settled" 2 ["basis"] (spSett K) := fun base => ⟨f9, _, PySem.W.mg_of X G a9, k9, b9, ok_Sett F9 Z (C5 base) (C7 base)⟩
  have C10 : ∀ base, Cal l.prog w K mg base "basis_of" 3 ["width", "rows"] (spBas K) := fun base => ⟨f10, _, PySem.W.mg_of X G a10, k10, b10, ok_Bas F10 Z (C8 base) (C9 base)⟩
  have C11 : ∀ base, Cal l.prog w K mg base "need_vectors" 3 ["width", "rows"] (spNeed K) := fun base => ⟨f11, _, PySem.W.mg_of X G a11, k11, b11, ok_Need F11 Z (C1 base) (C2 base) (C3 base)⟩
  have C12 : ∀ base, Cal l.prog w K mg base "_law_box" 1 ["_law_script", "_law_k", "_law_own"] (spBox K) := fun base => ⟨f12, _, PySem.W.mg_of X G a12, k12, b12, ok_Box F12 Z⟩
  have C13 : ∀ base, Cal l.prog w K mg base "_law_take" 1 ["_law_box_here", "_law_many"] spTake := fun base => ⟨f13, _, PySem.W.mg_of X G a13, k13, b13, ok_Take F13 Z⟩
  have C14 : ∀ base, Cal l.prog w K mg base "_law_number" 2 ["_law_box_here"] spNum := fun base => ⟨f14, _, PySem.W.mg_of X G a14, k14, b14, ok_Num F14 (C13 base)⟩
  have C15 : ∀ base, Cal l.prog w K mg base "_law_small" 2 ["_law_box_here"] spSmall := fun base => ⟨f15, _, PySem.W.mg_of X G a15, k15, b15, ok_Small F15 (C13 base)⟩
  have C16 : ∀ base, Cal l.prog w K mg base "_law_rows" 3 ["_law_box_here", "_law_width", "_law_many", "_law_is_great"] (spRows K) := fun base => ⟨f16, _, PySem.W.mg_of X G a16, k16, b16, ok_Rows F16 Z (C13 base) (C14 base) (C15 base)⟩
  have C17 : ∀ base, Cal l.prog w K mg base "_law_common" 1 ["_law_numbers"] (spCom K) := fun base => ⟨f17, _, PySem.W.mg_of X G a17, k17, b17, ok_Com F17 Z⟩
  have C18 : ∀ base, Cal l.prog w K mg base "_law_value" 1 ["_law_form", "_law_row"] (spVal K) := fun base => ⟨f18, _, PySem.W.mg_of X G a18, k18, b18, ok_LVal F18 Z⟩
  have FI : FunD K "__init__" "Lattice.__init__" (defArgs sLInit) (defBody sLInit) (defScope sLInit) [.ref EE] [] fI _ := ⟨⟨_, _, _, _, _, _, _, _, _, _, rfl, lI, cI, .inr ⟨by simp, TT, _, [.ref EE], _, rfl, lT, rfl, .cons rfl .nil⟩, .inl rfl⟩, kI⟩
  obtain ⟨ds0, v0, bI0⟩ := FI.binds1 (ps := ["self", "width", "rows"]) 3 1 (by simp) rfl fun T' kV doc pm an cdv ct us its h1 h2 => match us, its, h1, h2 with | [_, _, _], [_], _, _ => ⟨_, rfl, rfl⟩
  cases v0
  obtain ⟨ds1, v1, bI1⟩ := FI.binds1 (ps := ["self", "width", "rows"]) 2 0 (by simp) rfl fun T' kV doc pm an cdv ct us its h1 h2 => match us, its, h1, h2 with | [_, _], [_], _, _ => ⟨_, rfl, rfl⟩
  have hdv : ∃ e, ([V.ref EE].drop 0) = [V.ref e] ∧ ∀ H, SqT K H e [] := ⟨EE, rfl, fun H => .inr ⟨_, #[], nE, lE, rfl, rfl, Nat.zero_le _, .nil⟩⟩
  have GI : ∀ base, FnOk l.prog w K mg base CX0 4 fI _ ["self", "width", "rows"] (spLInit K C) := fun base => ok_LInit FI T (C11 base) (C10 base)
  have FM0 := fun_mk (st := sLDiv) lM0 cM0 kM0
  have bM0 := FM0.binds (ps := ["self", "form"]) fun _ _ _ _ _ _ us hl => match us, hl with | [_, _], _ => rfl
  have GM0 : ∀ base, FnOk l.prog w K mg base CX0 2 fM0 _ ["self", "form"] (spLDiv K C) := fun base => ok_LDiv FM0 T (C4 base) (C6 base)
  have FL := fun_mk (st := sLaw) lL cL kL
  exact ⟨PySem.W.fnOf "law" "law" (defArgs sLaw) (defBody sLaw) (defScope sLaw) .none kVL dcL pmL anL cdL ctL, fun s v => .of_eq rfl, fun base _ _ => ok_Law FL Z T ⟨mk, aI, iI, kc⟩ (GI base) bI0 bI1 v1 hdv (GM0 base) bM0 ⟨aM0, iM0, kM0⟩ (C12 base) (C13 base) (C16 base) (C14 base) (C17 base) (C18 base)⟩
theorem walk {l : PySem.W.OpenLaw} {q : Program} {loose : List Str} {XP : (Str → Option Value) → Heap → Prop} {YP : World → Heap → Prop} {d : DefRec} {K : Params → PySem.W.Frag} (hn : l.most = some 63) (hdf : d.params.defaults = [])
    (hY : ∀ (w : World) (h : Heap), YP w h → (K w.params).In h)
    (F : ∀ (w : World) (mg : Str → Option Value) (fa : Addr) (h : Heap), (K w.params).In h → h.Ns mainGlobals mg → mg d.name = some (.ref fa) →
      ∃ fd : FuncData, (∀ (s : Shared) (u : Value), BindsTo s fd ⟨[u], []⟩ [("_law_script", u)]) ∧ ∀ base : Heap, (K w.params).In base → base.Ns mainGlobals mg → FnOk l.prog w (K w.params) mg base CX0 6 fa fd ["_law_script"] (spLaw (K w.params))) :
    PySem.W.WalkO q loose XP YP l.row.toRowW d [] (fun f vs => PySem.call f vs) :=
  L2.walk_of (n := 63) (k := 6) (x := "_law_script") (CX := fun _ => CX0) (sp := fun w => spLaw (K w.params)) hn (by decide) hdf ⟨rfl, by decide, by decide⟩ hY F (fun _ _ a ns hl _ hS => ⟨a, ns, rfl, hS, hl, fun _ => rfl⟩) fun _ _ _ _ _ z => z
end My
open PySem PySem.W PyProof.Rows
set_option maxRecDepth 100000 in
set_option maxHeartbeats 0 in
theorem PySem.Challenge.cw_sumlives_k06_divisors_of_forms_holds : PySem.Challenge.rw_sumlives_k06_divisors_of_forms.Holds := by
  w_on; o_law; k_head; (case hw => w_witness2)
  k_fill
  refine My.walk (l := PySem.Challenge.rw_sumlives_k06_divisors_of_forms) rfl rfl (fun w h Y => PySem.W.kIn_of Y) ?F
  case F =>
    intro w mg fa h KX G hmg
    refine' My.all_mk KX G hmg ?a1 ?l1 ?c1 ?k1 ?a2 ?l2 ?c2 ?k2 ?a3 ?l3 ?c3 ?k3 ?a4 ?l4 ?c4 ?k4 ?a5 ?l5 ?c5 ?k5 ?a6 ?l6 ?c6 ?k6 ?a7 ?l7 ?c7 ?k7 ?a8 ?l8 ?c8 ?k8 ?a9 ?l9 ?c9 ?k9 ?a10 ?l10 ?c10 ?k10 ?a11 ?l11 ?c11 ?k11 ?a12 ?l12 ?c12 ?k12 ?a13 ?l13 ?c13 ?k13 ?a14 ?l14 ?c14 ?k14 ?a15 ?l15 ?c15 ?k15 ?a16 ?l16 ?c16 ?k16 ?a17 ?l17 ?c17 ?k17 ?a18 ?l18 ?c18 ?k18 ?aC ?aI ?iI ?lI ?cI ?kI ?lT ?lE ?pg ?hd ?po ?sa ?mk ?kc ?nW ?nB ?aM0 ?iM0 ?lM0 ?cM0 ?kM0 ?aL ?lL ?cL ?kL ?z_zip ?z_tuple ?z_list ?z_dict ?z_abs ?z_int ?z_bool ?z_str ?z_sum ?z_len ?z_min ?z_max ?z_all ?z_any ?z_isinstance ?z_range ?z_repr ?z_enumerate ?z_sorted
    (case a1 => k_is)
    (case l1 => k_is)
    (case c1 => k_is)
    (case k1 => k_is)
    (case a2 => k_is)
    (case l2 => k_is)
    (case c2 => k_is)
    (case k2 => k_is)
    (case a3 => k_is)
    (case l3 => k_is)
    (case c3 => k_is)
    (case k3 => k_is)
    (case a4 => k_is)
    (case l4 => k_is)
    (case c4 => k_is)
    (case k4 => k_is)
    (case a5 => k_is)
    (case l5 => k_is)
    (case c5 => k_is)
    (case k5 => k_is)
    (case a6 => k_is)
    (case l6 => k_is)
    (case c6 => k_is)
    (case k6 => k_is)
    (case a7 => k_is)
    (case l7 => k_is)
    (case c7 => k_is)
    (case k7 => k_is)
    (case a8 => k_is)
    (case l8 => k_is)
    (case c8 => k_is)
    (case k8 => k_is)
    (case a9 => k_is)
    (case l9 => k_is)
    (case c9 => k_is)
    (case k9 => k_is)
    (case a10 => k_is)
    (case l10 => k_is)
    (case c10 => k_is)
    (case k10 => k_is)
    (case a11 => k_is)
    (case l11 => k_is)
    (case c11 => k_is)
    (case k11 => k_is)
    (case a12 => k_is)
    (case l12 => k_is)
    (case c12 => k_is)
    (case k12 => k_is)
    (case a13 => k_is)
    (case l13 => k_is)
    (case c13 => k_is)
    (case k13 => k_is)
    (case a14 => k_is)
    (case l14 => k_is)
    (case c14 => k_is)
    (case k14 => k_is)
    (case a15 => k_is)
    (case l15 => k_is)
    (case c15 => k_is)
    (case k15 => k_is)
    (case a16 => k_is)
    (case l16 => k_is)
    (case c16 => k_is)
    (case k16 => k_is)
    (case a17 => k_is)
    (case l17 => k_is)
    (case c17 => k_is)
    (case k17 => k_is)
    (case a18 => k_is)
    (case l18 => k_is)
    (case c18 => k_is)
    (case k18 => k_is)
    (case aC => k_is)
    (case aI => k_is)
    (case iI => k_is)
    (case lI => k_is)
    (case cI => k_is)
    (case kI => k_is)
    (case lT => k_is)
    (case lE => k_is)
    (case pg => k_is)
    (case hd => k_is)
    (case po => k_is)
    (case sa => k_is)
    (case mk => k_is)
    (case kc => k_is)
    (case nW => k_is)
    (case nB => k_is)
    (case aM0 => k_is)
    (case iM0 => k_is)
    (case lM0 => k_is)
    (case cM0 => k_is)
    (case kM0 => k_is)
    (case aL => k_is)
    (case lL => k_is)
    (case cL => k_is)
    (case kL => k_is)
    (case z_zip => k_is)
    (case z_tuple => k_is)
    (case z_list => k_is)
    (case z_dict => k_is)
    (case z_abs => k_is)
    (case z_int => k_is)
    (case z_bool => k_is)
    (case z_str => k_is)
    (case z_sum => k_is)
    (case z_len => k_is)
    (case z_min => k_is)
    (case z_max => k_is)
    (case z_all => k_is)
    (case z_any => k_is)
    (case z_isinstance => k_is)
    (case z_range => k_is)
    (case z_repr => k_is)
    (case z_enumerate => k_is)
    (case z_sorted => k_is)
