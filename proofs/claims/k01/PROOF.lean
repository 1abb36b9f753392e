import PyProof.Rows.All
import Wide.All
import OpenK.AllK
import Wide.FinOn
import HandS.ForMost
import HandS.ForExc
import HandS.Walk
import HandS.Zip
import HandS.Star
import HandS.IsInst
import HandS.Wide
import HandS.Defaults
import HandS.RaiseMore
import HandS.Conv
import HandS.Property
import HandS.Lambda
import HandS.EndTab
import HandS.Deep
import HandS.Style
import HandS.CallSlots
import HandS.WordsExc
import HandS.ExcInit
import HandS.ExcIs
import HandS.TryOnly
import HandS.Sort
import PyProof.Rows.CallKwBuiltin
import KE.KMinBuiltin
import HandS.ClsMeth
import HandS.ExcField
import HandS.HeadNt
import HandS.Head2
import PyProof.InstEq
import PyProof.ReprRoads
import HandS.MakeKw
import HandS.ExcValue
import PyProof.ReprLen
import HandS.HeadEnd
import PySem.Challenge.RW_sumlives_k01_errors
set_option Elab.async false
set_option linter.all false
set_option maxRecDepth 100000
set_option maxHeartbeats 4000000
namespace Pu
open PySem L2
/-! values as trees, choice trees, the state of what can change -/
inductive PV where
  | non | bl (b : Bool) | int (i : Int) | str (s : Str) | ty (n : String) | box | cls (c : Nat)
  | tup (xs : List PV) | lst (xs : List PV) | dct (kvs : List (Key × PV)) | obj (c : Nat) (fs : List (Nat × PV)) | fn (xs : List PV)
instance : Inhabited PV := ⟨.non⟩
inductive RV where
  | pv (p : PV) | loc (i : Nat) | exc (c : Nat) (fs : List (Nat × PV))
inductive MO where
  | lst (xs : List RV) | dct (kvs : List (Key × RV)) | ins (c : Nat) (fs : List (Nat × RV)) | gone
abbrev S := List MO
abbrev Sl := List (Option RV)
inductive XC where
  | own (c : Nat) | blt (n : String)
structure PExc where
  c : XC
  fs : List (Nat × PV)
inductive T (ε α : Type) where
  | ret (a : α) | exc (e : ε) | ch (n : Nat) (k : Nat → T ε α) | bad
namespace T
variable {ε ε' α β : Type}
def bind : T ε α → (α → T ε β) → T ε β
  | ret a, f => f a
  | exc e, _ => exc e
  | ch n k, f => ch n fun i => bind (k i) f
  | bad, _ => bad
def mapE (g : ε → ε') : T ε α → T ε' α
  | ret a => ret a
  | exc e => exc (g e)
  | ch n k => ch n fun i => mapE g (k i)
  | bad => bad
def wp : T ε α → (α → Prop) → (ε → Prop) → Prop
  | ret a, Q, _ => Q a
  | exc e, _, E => E e
  | ch n k, Q, E => ∀ i, i < n → wp (k i) Q E
  | bad, _, _ => False
theorem wp_mono {Q Q' : α → Prop} {E E' : ε → Prop} (hQ : ∀ a, Q a → Q' a) (hE : ∀ e, E e → E' e) : ∀ {t : T ε α}, t.wp Q E → t.wp Q' E'
  | ret a, h => hQ a h
  | exc e, h => hE e h
  | ch n k, h => fun i hi => wp_mono hQ hE (h i hi)
  | bad, h => h
theorem wp_bind {Q : β → Prop} {E : ε → Prop} {f : α → T ε β} : ∀ {t : T ε α}, (t.bind f).wp Q E ↔ t.wp (fun a => (f a).wp Q E) E
  | ret a => Iff.rfl
  | exc e => Iff.rfl
  | ch n k => ⟨fun h i hi => wp_bind.mp (h i hi), fun h i hi => wp_bind.mpr (h i hi)⟩
  | bad => Iff.rfl
theorem wp_mapE {Q : α → Prop} {E : ε' → Prop} {g : ε → ε'} : ∀ {t : T ε α}, (t.mapE g).wp Q E ↔ t.wp Q (fun e => E (g e))
  | ret a => Iff.rfl
  | exc e => Iff.rfl
  | ch n k => ⟨fun h i hi => wp_mapE.mp (h i hi), fun h i hi => wp_mapE.mpr (h i hi)⟩
  | bad => Iff.rfl
@[simp] theorem bind_ret {a : α} {f : α → T ε β} : (ret a).bind f = f a := rfl
@[simp] theorem bind_exc {e : ε} {f : α → T ε β} : (exc e : T ε α).bind f = exc e := rfl
@[simp] theorem bind_bad {f : α → T ε β} : (bad : T ε α).bind f = bad := rfl
end T
abbrev XS := PExc × S
/-- an expression, a test, a row of arguments -/
abbrev EM := Sl → S → T XS (RV × S)
abbrev BM := Sl → S → T XS (Bool × S)
abbrev AM := Sl → S → T XS (List RV × S)
/-! ### the world of a law -/
structure Wd where
  K : PySem.W.Frag
  mg : Str → Option Value
  an : List Str
  cn : List Str
  xi : Option (Addr × Addr × Option Addr) := none
  tb : List (Addr × Str) := []
  lam : Option (Addr × Addr × Str × List V) := none
/-- which addresses can change: known ones, boxes of draws, those of others -/
structure Mx where
  ρ : List (Option Addr)
  β : List Addr
  φ : List Addr
  ξ : Option (Addr × Addr × Option Addr) := none
/-- without the exception at hand -/
def Mx.noX (M : Mx) : Mx := { M with ξ := none }
def Mx.out (M : Mx) (a : Addr) : Prop := some a ∉ M.ρ ∧ a ∉ M.β ∧ a ∉ M.φ
def KL (K : PySem.W.Frag) (a : Addr) (xs : List V) : Prop := ∃ (o : Obj) (its : Array Value) (n : Nat), K.lookup a = some o ∧ o.cls = .type "list" ∧ o.dict = none ∧ o.data = .seq its n ∧ its.size ≤ sizeLine ∧ Vals xs its.toList
def KT (K : PySem.W.Frag) (a : Addr) (xs : List V) : Prop := ∃ (o : Obj) (its : Array Value) (n : Nat), K.lookup a = some o ∧ o.cls = .type "tuple" ∧ o.data = .seq its n ∧ its.size ≤ sizeLine ∧ Vals xs its.toList
/-- a list, a tuple, a thing that nobody changes any more -/
def FL (D : Wd) (M : Mx) (H : Hp) (a : Addr) (vs : List V) : Prop := (M.out a ∧ Rd H a (.lst vs)) ∨ KL D.K a vs
def FT (D : Wd) (M : Mx) (H : Hp) (a : Addr) (vs : List V) : Prop := (M.out a ∧ Rd H a (.tup vs)) ∨ KT D.K a vs
theorem FL.sq {D : Wd} {M : Mx} {H : Hp} {a : Addr} {vs : List V} (h : FL D M H a vs) : SqL D.K H a vs := h.elim (fun h => .inl h.2) .inr
theorem FT.sq {D : Wd} {M : Mx} {H : Hp} {a : Addr} {vs : List V} (h : FT D M H a vs) : SqT D.K H a vs := h.elim (fun h => .inl h.2) .inr
mutual
inductive Rep (D : Wd) (M : Mx) (H : Hp) : V → PV → Prop
  | non : Rep D M H .non .non
  | bl (b : Bool) : Rep D M H (.bl b) (.bl b)
  | int (i : Int) : Rep D M H (.int i) (.int i)
  | str (s : Str) : Rep D M H (.str s) (.str s)
  | ty (n : String) : Rep D M H (.ty n) (.ty n)
  | box {b : Addr} : b ∈ M.β → (∀ q, (b, q) ∉ D.tb) → Rep D M H (.ref b) .box
  | cls {c : Nat} {nm : Str} {C : Addr} : D.cn[c]? = some nm → D.mg nm = some (.ref C) → Rep D M H (.ref C) (.cls c)
  | tup {a : Addr} {vs : List V} {xs : List PV} : FT D M H a vs → Reps D M H vs xs → Rep D M H (.ref a) (.tup xs)
  | lst {a : Addr} {vs : List V} {xs : List PV} : FL D M H a vs → Reps D M H vs xs → Rep D M H (.ref a) (.lst xs)
  | dct {a : Addr} {vs : List (Key × V)} {xs : List (Key × PV)} : M.out a → Rd H a (.dK vs) → Repd D M H vs xs → Rep D M H (.ref a) (.dct xs)
  | obj {a C dx : Addr} {c : Nat} {nm : Str} {vs : List (Str × V)} {fs : List (Nat × PV)} : M.out a → H a = some (.ins C dx vs) → D.cn[c]? = some nm → D.mg nm = some (.ref C) → Repf D M H vs fs → Rep D M H (.ref a) (.obj c fs)
  | fn {f c : Addr} {q : Str} {vs : List V} {xs : List PV} : D.lam = some (f, c, q, vs) → M.out c → H c = some (LamX.CodeO c q) → Reps D M H vs xs → Rep D M H (.ref f) (.fn xs)
inductive Reps (D : Wd) (M : Mx) (H : Hp) : List V → List PV → Prop
  | nil : Reps D M H [] []
  | cons {v : V} {p : PV} {vs : List V} {ps : List PV} : Rep D M H v p → Reps D M H vs ps → Reps D M H (v :: vs) (p :: ps)
inductive Repd (D : Wd) (M : Mx) (H : Hp) : List (Key × V) → List (Key × PV) → Prop
  | nil : Repd D M H [] []
  | cons {k : Key} {v : V} {p : PV} {vs : List (Key × V)} {ps : List (Key × PV)} : Rep D M H v p → Repd D M H vs ps → Repd D M H ((k, v) :: vs) ((k, p) :: ps)
inductive Repf (D : Wd) (M : Mx) (H : Hp) : List (Str × V) → List (Nat × PV) → Prop
  | nil : Repf D M H [] []
  | cons {n : Nat} {x : Str} {v : V} {p : PV} {vs : List (Str × V)} {ps : List (Nat × PV)} : D.an[n]? = some x → Rep D M H v p → Repf D M H vs ps → Repf D M H ((x, v) :: vs) ((n, p) :: ps)
end
/-- one step of the run: what could not change is as it was -/
structure Step (M : Mx) (H : Hp) (M' : Mx) (H' : Hp) : Prop where
  ρ : ∃ n, M'.ρ = M.ρ ++ n ∧ ∀ a, some a ∈ n → H a = none
  β : ∃ n, M'.β = M.β ++ n ∧ ∀ a ∈ n, H a = none
  φ : (∀ a ∈ M.φ, a ∈ M'.φ) ∧ ∀ a ∈ M'.φ, a ∈ M.φ ∨ H a = none
  keep : ∀ a o, H a = some o → some a ∉ M.ρ → a ∉ M.β → H' a = some o
  there : ∀ a o, H a = some o → ∃ o', H' a = some o'
  ξ : M'.ξ = M.ξ := by rfl
theorem Step.refl {M : Mx} {H : Hp} : Step M H M H := ⟨⟨[], by simp, by simp⟩, ⟨[], by simp, by simp⟩, ⟨fun _ h => h, fun _ h => .inl h⟩, fun _ _ h _ _ => h, fun _ o h => ⟨o, h⟩, rfl⟩
theorem Step.trans {M M1 M2 : Mx} {H H1 H2 : Hp} (a : Step M H M1 H1) (b : Step M1 H1 M2 H2) : Step M H M2 H2 := by
  obtain ⟨⟨n1, e1, f1⟩, ⟨m1, g1, k1⟩, p1, c1, t1, x1⟩ := a
  obtain ⟨⟨n2, e2, f2⟩, ⟨m2, g2, k2⟩, p2, c2, t2, x2⟩ := b
  have un : ∀ a, H1 a = none → H a = none := fun a h => by
    cases e : H a with
    | none => rfl
    | some o => obtain ⟨o', e'⟩ := t1 a o e; rw [h] at e'; cases e'
  refine ⟨⟨n1 ++ n2, by rw [e2, e1, List.append_assoc], fun a ha => ?_⟩, ⟨m1 ++ m2, by rw [g2, g1, List.append_assoc], fun a ha => ?_⟩, ⟨fun a h => p2.1 a (p1.1 a h), fun a h => ?_⟩, fun a o h h1 h2 => ?_, fun a o h => ?_, x2.trans x1⟩
  · rcases List.mem_append.mp ha with h | h
    · exact f1 a h
    · exact un a (f2 a h)
  · rcases List.mem_append.mp ha with h | h
    · exact k1 a h
    · exact un a (k2 a h)
  · rcases p2.2 a h with q | q
    · exact p1.2 a q
    · exact .inr (un a q)
  · refine c2 a o (c1 a o h h1 h2) ?_ ?_
    · rw [e1]; intro q
      rcases List.mem_append.mp q with q | q
      · exact h1 q
      · rw [f1 a q] at h; cases h
    · rw [g1]; intro q
      rcases List.mem_append.mp q with q | q
      · exact h2 q
      · rw [k1 a q] at h; cases h
  · obtain ⟨o', h'⟩ := t1 a o h
    exact t2 a o' h'
theorem Step.out {M M' : Mx} {H H' : Hp} (s : Step M H M' H') {a : Addr} {o : HO} (h : H a = some o) (q : M.out a) : M'.out a := by
  obtain ⟨⟨n1, e1, f1⟩, ⟨m1, g1, k1⟩, p1, c1, t1, _⟩ := s
  refine ⟨?_, ?_, fun z => (p1.2 a z).elim q.2.2 fun w => by rw [w] at h; cases h⟩
  · rw [e1]; intro z
    rcases List.mem_append.mp z with z | z
    · exact q.1 z
    · rw [f1 a z] at h; cases h
  · rw [g1]; intro z
    rcases List.mem_append.mp z with z | z
    · exact q.2.1 z
    · rw [k1 a z] at h; cases h
theorem Step.rd {M M' : Mx} {H H' : Hp} (s : Step M H M' H') {a : Addr} {u : HO} (q : M.out a) (h : Rd H a u) : M'.out a ∧ Rd H' a u := by
  rcases h with h | ⟨o, h⟩
  · exact ⟨s.out h q, .inl (s.keep a _ h q.1 q.2.1)⟩
  · exact ⟨s.out h q, .inr ⟨o, s.keep a _ h q.1 q.2.1⟩⟩
theorem FL.step {D : Wd} {M M' : Mx} {H H' : Hp} {a : Addr} {vs : List V} (s : Step M H M' H') (h : FL D M H a vs) : FL D M' H' a vs := h.elim (fun h => .inl (s.rd h.1 h.2)) .inr
theorem FT.step {D : Wd} {M M' : Mx} {H H' : Hp} {a : Addr} {vs : List V} (s : Step M H M' H') (h : FT D M H a vs) : FT D M' H' a vs := h.elim (fun h => .inl (s.rd h.1 h.2)) .inr
section
variable {D : Wd} {M M' : Mx} {H H' : Hp} (s : Step M H M' H')
include s
mutual
theorem Rep.step : ∀ {v : V} {p : PV}, Rep D M H v p → Rep D M' H' v p
  | _, _, .non => .non
  | _, _, .bl b => .bl b
  | _, _, .int i => .int i
  | _, _, .str x => .str x
  | _, _, .ty n => .ty n
  | _, _, .box h t => .box (by obtain ⟨n, e, _⟩ := s.β; rw [e]; exact List.mem_append_left _ h) t
  | _, _, .cls a b => .cls a b
  | _, _, .tup a b => .tup (a.step s) (Reps.step b)
  | _, _, .lst a b => .lst (a.step s) (Reps.step b)
  | _, _, .dct a b c => .dct (s.rd a b).1 (s.rd a b).2 (Repd.step c)
  | _, _, .obj a b c d e => .obj (s.out b a) (s.keep _ _ b a.1 a.2.1) c d (Repf.step e)
  | _, _, .fn a b c d => .fn a (s.out c b) (s.keep _ _ c b.1 b.2.1) (Reps.step d)
theorem Reps.step : ∀ {v : List V} {p : List PV}, Reps D M H v p → Reps D M' H' v p
  | _, _, .nil => .nil
  | _, _, .cons a b => .cons (Rep.step a) (Reps.step b)
theorem Repd.step : ∀ {v : List (Key × V)} {p : List (Key × PV)}, Repd D M H v p → Repd D M' H' v p
  | _, _, .nil => .nil
  | _, _, .cons a b => .cons (Rep.step a) (Repd.step b)
theorem Repf.step : ∀ {v : List (Str × V)} {p : List (Nat × PV)}, Repf D M H v p → Repf D M' H' v p
  | _, _, .nil => .nil
  | _, _, .cons a b c => .cons a (Rep.step b) (Repf.step c)
end
end
section
variable {D : Wd} {M M' : Mx} {H : Hp} (o : ∀ a, M.out a → M'.out a) (b : ∀ a ∈ M.β, a ∈ M'.β)
include o b
mutual
theorem Rep.wide : ∀ {v : V} {p : PV}, Rep D M H v p → Rep D M' H v p
  | _, _, .non => .non
  | _, _, .bl b => .bl b
  | _, _, .int i => .int i
  | _, _, .str x => .str x
  | _, _, .ty n => .ty n
  | _, _, .box h t => .box (b _ h) t
  | _, _, .cls a b => .cls a b
  | _, _, .tup a r => .tup (a.elim (fun h => .inl ⟨o _ h.1, h.2⟩) .inr) (Reps.wide r)
  | _, _, .lst a r => .lst (a.elim (fun h => .inl ⟨o _ h.1, h.2⟩) .inr) (Reps.wide r)
  | _, _, .dct a c r => .dct (o _ a) c (Repd.wide r)
  | _, _, .obj a c d e r => .obj (o _ a) c d e (Repf.wide r)
  | _, _, .fn a c d r => .fn a (o _ c) d (Reps.wide r)
theorem Reps.wide : ∀ {v : List V} {p : List PV}, Reps D M H v p → Reps D M' H v p
  | _, _, .nil => .nil
  | _, _, .cons a r => .cons (Rep.wide a) (Reps.wide r)
theorem Repd.wide : ∀ {v : List (Key × V)} {p : List (Key × PV)}, Repd D M H v p → Repd D M' H v p
  | _, _, .nil => .nil
  | _, _, .cons a r => .cons (Rep.wide a) (Repd.wide r)
theorem Repf.wide : ∀ {v : List (Str × V)} {p : List (Nat × PV)}, Repf D M H v p → Repf D M' H v p
  | _, _, .nil => .nil
  | _, _, .cons a c r => .cons a (Rep.wide c) (Repf.wide r)
end
end
def RRep (D : Wd) (M : Mx) (H : Hp) (v : V) : RV → Prop
  | .pv p => Rep D M H v p
  | .loc i => ∃ a, M.ρ[i]? = some (some a) ∧ v = .ref a
  | .exc c fs => ∃ a C nm d, v = .ref a ∧ M.ξ = some (a, C, d) ∧ D.cn[c]? = some nm ∧ D.mg nm = some (.ref C) ∧ match d with
    | none => fs = []
    | some dx => ∃ vs, H dx = some (.xd vs) ∧ M.out dx ∧ Repf D M H vs fs
theorem Step.noX {M M' : Mx} {H H' : Hp} (s : Step M H M' H') : Step M.noX H M'.noX H' := ⟨s.ρ, s.β, s.φ, s.keep, s.there, rfl⟩
theorem RRep.step {D : Wd} {M M' : Mx} {H H' : Hp} (s : Step M H M' H') {v : V} : ∀ {r : RV}, RRep D M H v r → RRep D M' H' v r
  | .pv p, h => Rep.step s h
  | .loc i, ⟨a, h, e⟩ => ⟨a, by obtain ⟨n, e, _⟩ := s.ρ; rw [e]; exact (List.getElem?_append_left (List.getElem?_eq_some_iff.mp h).1).trans h, e⟩
  | .exc c fs, ⟨a, C, nm, d, e1, e2, e3, e4, e5⟩ => ⟨a, C, nm, d, e1, s.ξ.trans e2, e3, e4, match d, e5 with
    | none, e5 => e5
    | some dx, ⟨vs, k1, k2, k3⟩ => ⟨vs, s.keep _ _ k1 k2.1 k2.2.1, s.out k1 k2, k3.step s⟩⟩
/-- a value that may be kept in a thing that changes -/
theorem RRep.noX {D : Wd} {M : Mx} {H : Hp} {v : V} : ∀ {r : RV}, RRep D M.noX H v r → RRep D M H v r
  | .pv p, h => Rep.wide (M := M.noX) (M' := M) (fun _ h => h) (fun _ h => h) h
  | .loc i, h => h
  | .exc c fs, ⟨a, C, nm, d, e1, e2, _⟩ => by cases e2
def RV.isX : RV → Bool
  | .exc _ _ => true
  | _ => false
theorem RRep.toNoX {D : Wd} {M : Mx} {H : Hp} {v : V} : ∀ {r : RV}, r.isX = false → RRep D M H v r → RRep D M.noX H v r
  | .pv p, _, h => Rep.wide (M := M) (M' := M.noX) (fun _ h => h) (fun _ h => h) h
  | .loc i, _, h => h
  | .exc c fs, e, _ => by cases e
abbrev RReps (D : Wd) (M : Mx) (H : Hp) : List V → List RV → Prop := Paired (RRep D M H)
theorem RReps.step {D : Wd} {M M' : Mx} {H H' : Hp} (s : Step M H M' H') : ∀ {vs : List V} {rs : List RV}, RReps D M H vs rs → RReps D M' H' vs rs
  | _, _, .nil => .nil
  | _, _, .cons a b => .cons (RRep.step s a) (RReps.step s b)
/-- the fields of a thing that changes -/
def RFs (D : Wd) (M : Mx) (H : Hp) : List (Str × V) → List (Nat × RV) → Prop := Paired fun x y => D.an[y.1]? = some x.1 ∧ RRep D M H x.2 y.2
def RKs (D : Wd) (M : Mx) (H : Hp) : List (Key × V) → List (Key × RV) → Prop := Paired fun x y => x.1 = y.1 ∧ RRep D M H x.2 y.2
theorem paired_imp {α β : Type} {F G : α → β → Prop} (f : ∀ a b, F a b → G a b) : ∀ {l₁ : List α} {l₂ : List β}, Paired F l₁ l₂ → Paired G l₁ l₂
  | _, _, .nil => .nil
  | _, _, .cons r t => .cons (f _ _ r) (paired_imp f t)
def OR (D : Wd) (M : Mx) (H : Hp) (a : Addr) : MO → Prop
  | .lst xs => ∃ vs, H a = some (.lst vs) ∧ RReps D M.noX H vs xs
  | .dct xs => ∃ vs, H a = some (.dK vs) ∧ RKs D M.noX H vs xs
  | .ins c fs => ∃ C dx vs nm, H a = some (.ins C dx vs) ∧ D.cn[c]? = some nm ∧ D.mg nm = some (.ref C) ∧ RFs D M.noX H vs fs
  | .gone => ∃ u, H a = some u
theorem RRep.wide {D : Wd} {M M' : Mx} {H : Hp} (o : ∀ a, M.out a → M'.out a) (b : ∀ a ∈ M.β, a ∈ M'.β) (hρ : ∀ (i : Nat) (a : Addr), M.ρ[i]? = some (some a) → M'.ρ[i]? = some (some a)) (hξ : M'.ξ = M.ξ) {v : V} : ∀ {r : RV}, RRep D M H v r → RRep D M' H v r
  | .pv p, h => Rep.wide o b h
  | .loc i, ⟨a, h, e⟩ => ⟨a, hρ i a h, e⟩
  | .exc c fs, ⟨a, C, nm, d, e1, e2, e3, e4, e5⟩ => ⟨a, C, nm, d, e1, hξ.trans e2, e3, e4, match d, e5 with
    | none, e5 => e5
    | some dx, ⟨vs, k1, k2, k3⟩ => ⟨vs, k1, o _ k2, k3.wide o b⟩⟩
theorem OR.imp {D : Wd} {M M' : Mx} {H H' : Hp} {a : Addr} {o : MO} (rr : ∀ v r, RRep D M.noX H v r → RRep D M'.noX H' v r) (k : ∀ u, H a = some u → H' a = some u) (h : OR D M H a o) : OR D M' H' a o := by
  cases o with
  | lst xs => obtain ⟨vs, e, r⟩ := h; exact ⟨vs, k _ e, paired_imp rr r⟩
  | dct xs => obtain ⟨vs, e, r⟩ := h; exact ⟨vs, k _ e, paired_imp (fun _ _ q => ⟨q.1, rr _ _ q.2⟩) r⟩
  | ins c fs => obtain ⟨C, dx, vs, nm, e, h1, h2, r⟩ := h; exact ⟨C, dx, vs, nm, k _ e, h1, h2, paired_imp (fun _ _ q => ⟨q.1, rr _ _ q.2⟩) r⟩
  | gone => obtain ⟨u, e⟩ := h; exact ⟨u, k _ e⟩
/-- a table of code objects: each that it tells bears the name q -/
def TabO (M : Mx) (H : Hp) (P : Addr) (q : Str) : Prop := ∃ ps : Array Value, H P = some (.tbl ps) ∧ TriplesOk ps.toList ∧ ∀ (pos : Pos) (cv : Value), codeAmong pos ps.toList = some cv → ∃ c, cv = .ref c ∧ M.out c ∧ H c = some (LamX.CodeO c q)
/-- what changes by itself: a box of draws, its three numbers; a table of code objects -/
def BoxAt (D : Wd) (M : Mx) (H : Hp) (b : Addr) : Prop := ((∀ q, (b, q) ∉ D.tb) ∧ ∃ x y z : Int, H b = some (.lst [.int x, .int y, .int z])) ∨ (∃ q, (b, q) ∈ D.tb) ∧ ∀ q, (b, q) ∈ D.tb → TabO M H b q
theorem BoxAt.is {D : Wd} {M : Mx} {H : Hp} {b : Addr} (h : BoxAt D M H b) : ∃ u, H b = some u := by
  rcases h with ⟨_, x, y, z, e⟩ | ⟨⟨q, m⟩, f⟩
  · exact ⟨_, e⟩
  · obtain ⟨ps, e, _⟩ := f q m; exact ⟨_, e⟩
theorem BoxAt.step {D : Wd} {M M' : Mx} {H H' : Hp} (s : Step M H M' H') {b : Addr} (k : ∀ u, H b = some u → H' b = some u) (h : BoxAt D M H b) : BoxAt D M' H' b := by
  rcases h with ⟨n, x, y, z, e⟩ | ⟨m, g⟩
  · exact .inl ⟨n, x, y, z, k _ e⟩
  · refine .inr ⟨m, fun q hq => ?_⟩
    obtain ⟨ps, e, t, f⟩ := g q hq
    refine ⟨ps, k _ e, t, fun pos cv hc => ?_⟩
    obtain ⟨c, e1, e2, e3⟩ := f pos cv hc
    exact ⟨c, e1, s.out e3 e2, s.keep _ _ e3 e2.1 e2.2.1⟩
theorem BoxAt.wide {D : Wd} {M M' : Mx} {H : Hp} (o : ∀ a, M.out a → M'.out a) {b : Addr} (h : BoxAt D M H b) : BoxAt D M' H b := by
  rcases h with h | ⟨m, g⟩
  · exact .inl h
  · refine .inr ⟨m, fun q hq => ?_⟩
    obtain ⟨ps, e, t, f⟩ := g q hq
    refine ⟨ps, e, t, fun pos cv hc => ?_⟩
    obtain ⟨c, e1, e2, e3⟩ := f pos cv hc
    exact ⟨c, e1, o _ e2, e3⟩
theorem BoxAt.draws {D : Wd} {M : Mx} {H : Hp} {b : Addr} (n : ∀ q, (b, q) ∉ D.tb) (h : BoxAt D M H b) : ∃ x y z : Int, H b = some (.lst [.int x, .int y, .int z]) := h.elim (·.2) fun ⟨⟨q, m⟩, _⟩ => absurd m (n q)
structure Rel (D : Wd) (M : Mx) (st : S) (H : Hp) : Prop where
  nd : ∀ (i j : Nat) (a : Addr), M.ρ[i]? = some (some a) → M.ρ[j]? = some (some a) → i = j
  dj : ∀ a, some a ∈ M.ρ → a ∉ M.β
  len : M.ρ.length = st.length
  ob : ∀ (i : Nat) (a : Addr) (o : MO), M.ρ[i]? = some (some a) → st[i]? = some o → OR D M H a o
  bx : ∀ b ∈ M.β, BoxAt D M H b
  fr : ∀ a ∈ M.φ, ∃ o, H a = some o
  fd : ∀ a ∈ M.φ, some a ∉ M.ρ ∧ a ∉ M.β
  hx : M.ξ = none ∨ M.ξ = D.xi
  tb : ∀ p ∈ D.tb, p.1 ∈ M.β
theorem OR.is {D : Wd} {M : Mx} {H : Hp} {a : Addr} {o : MO} (h : OR D M H a o) : ∃ u, H a = some u := by
  cases o with
  | lst xs => obtain ⟨vs, e, _⟩ := h; exact ⟨_, e⟩
  | dct xs => obtain ⟨vs, e, _⟩ := h; exact ⟨_, e⟩
  | ins c fs => obtain ⟨_, _, vs, _, e, _⟩ := h; exact ⟨_, e⟩
  | gone => exact h
theorem OR.step {D : Wd} {M M' : Mx} {H H' : Hp} (s : Step M H M' H') {a : Addr} {o : MO} (k : ∀ u, H a = some u → H' a = some u) (h : OR D M H a o) : OR D M' H' a o := by
  cases o with
  | lst xs => obtain ⟨vs, e, r⟩ := h; exact ⟨vs, k _ e, r.step s.noX⟩
  | dct xs => obtain ⟨vs, e, r⟩ := h; exact ⟨vs, k _ e, paired_imp (fun _ _ q => ⟨q.1, q.2.step s.noX⟩) r⟩
  | ins c fs => obtain ⟨C, dx, vs, nm, e, h1, h2, r⟩ := h; exact ⟨C, dx, vs, nm, k _ e, h1, h2, paired_imp (fun _ _ q => ⟨q.1, q.2.step s.noX⟩) r⟩
  | gone => obtain ⟨u, e⟩ := h; exact ⟨u, k _ e⟩
theorem Rel.mem {D : Wd} {M : Mx} {st : S} {H : Hp} (R : Rel D M st H) {a : Addr} (h : some a ∈ M.ρ) : ∃ u, H a = some u := by
  obtain ⟨i, hi, e⟩ := List.getElem_of_mem h
  have hs : i < st.length := by rw [← R.len]; exact hi
  exact (R.ob i a st[i] (by simp [hi, e]) (by simp [hs])).is
theorem Rel.free {D : Wd} {M : Mx} {st : S} {H : Hp} (R : Rel D M st H) {p : Addr} (h : H p = none) : M.out p := by
  refine ⟨fun q => ?_, fun q => ?_, fun q => ?_⟩
  · obtain ⟨u, e⟩ := R.mem q; rw [h] at e; cases e
  · obtain ⟨u, e⟩ := (R.bx p q).is; rw [h] at e; cases e
  · obtain ⟨u, e⟩ := R.fr p q; rw [h] at e; cases e
/-- a new thing that nobody will change -/
theorem Step.laid {D : Wd} {M : Mx} {st : S} {H : Hp} (R : Rel D M st H) {p : Addr} {o : HO} (h : H p = none) : Step M H M (upd H p o) :=
  ⟨⟨[], by simp, by simp⟩, ⟨[], by simp, by simp⟩, ⟨fun _ h => h, fun _ h => .inl h⟩, fun a u e _ _ => by rw [upd_ne (ne_of_none e h)]; exact e, fun a u e => ⟨u, by rw [upd_ne (ne_of_none e h)]; exact e⟩, rfl⟩
/-- nothing that is known changes -/
theorem Rel.step {D : Wd} {M : Mx} {st : S} {H H' : Hp} (R : Rel D M st H) (k : ∀ a u, H a = some u → H' a = some u) : Step M H M H' ∧ Rel D M st H' := by
  have s : Step M H M H' := ⟨⟨[], by simp, by simp⟩, ⟨[], by simp, by simp⟩, ⟨fun _ h => h, fun _ h => .inl h⟩, fun a u e _ _ => k a u e, fun a u e => ⟨u, k a u e⟩, rfl⟩
  refine ⟨s, ⟨R.nd, R.dj, R.len, fun i a o h1 h2 => (R.ob i a o h1 h2).step s (k a), fun b hb => (R.bx b hb).step s (k b), fun a ha => ?_, R.fd, R.hx, R.tb⟩⟩
  · obtain ⟨o, e⟩ := R.fr a ha; exact ⟨o, k _ _ e⟩
theorem Rel.laid {D : Wd} {M : Mx} {st : S} {H : Hp} (R : Rel D M st H) {p : Addr} {o : HO} (h : H p = none) : Step M H M (upd H p o) ∧ Rel D M st (upd H p o) :=
  R.step fun a u e => by rw [upd_ne (ne_of_none e h)]; exact e
/-! ### slots, exceptions -/
def Slots (D : Wd) (M : Mx) (H : Hp) (σV : L2.St) (σ : Sl) : Prop := σV.length = σ.length ∧ ∀ (i : Nat) (r : RV), σ[i]? = some (some r) → ∃ v, σV[i]? = some (some v) ∧ RRep D M H v r
theorem Slots.step {D : Wd} {M M' : Mx} {H H' : Hp} (s : Step M H M' H') {σV : L2.St} {σ : Sl} (h : Slots D M H σV σ) : Slots D M' H' σV σ :=
  ⟨h.1, fun i r e => let ⟨v, a, b⟩ := h.2 i r e; ⟨v, a, b.step s⟩⟩
theorem Slots.set {D : Wd} {M : Mx} {H : Hp} {σV : L2.St} {σ : Sl} (h : Slots D M H σV σ) (i : Nat) {v : V} {r : RV} (q : RRep D M H v r) : Slots D M H (σV.set i (some v)) (σ.set i (some r)) := by
  refine ⟨by simp [h.1], fun j r' e => ?_⟩
  by_cases hj : i = j
  · subst hj
    by_cases hi : i < σ.length
    · rw [List.getElem?_set_self hi] at e; cases e
      exact ⟨v, List.getElem?_set_self (by rw [h.1]; exact hi), q⟩
    · rw [List.getElem?_eq_none (by simpa using hi)] at e; cases e
  · rw [List.getElem?_set_ne hj] at e ⊢
    exact h.2 j r' e
theorem Slots.del {D : Wd} {M : Mx} {H : Hp} {σV : L2.St} {σ : Sl} (h : Slots D M H σV σ) (i : Nat) (o : Option V) : Slots D M H (σV.set i o) (σ.set i none) := by
  refine ⟨by simp [h.1], fun j r' e => ?_⟩
  by_cases hj : i = j
  · subst hj
    by_cases hi : i < σ.length
    · rw [List.getElem?_set_self hi] at e; cases e
    · rw [List.getElem?_eq_none (by simpa using hi)] at e; cases e
  · rw [List.getElem?_set_ne hj] at e ⊢
    exact h.2 j r' e
def XRep (D : Wd) (M : Mx) (H : Hp) (cls : Value) (d : Option Addr) (e : PExc) : Prop :=
  match e.c with
  | .blt n => cls = .type n ∧ d = none ∧ e.fs = []
  | .own c => ∃ nm C, D.cn[c]? = some nm ∧ D.mg nm = some (.ref C) ∧ cls = .ref C ∧ match d with
    | none => e.fs = []
    | some dx => ∃ vs, H dx = some (.xd vs) ∧ M.out dx ∧ Repf D M H vs e.fs
/-! ### lifting -/
/-- a run of a choice tree, seen over the heap -/
def Wp {α : Type} (D : Wd) (W : WX) (M : Mx) (H : Hp) (σV : L2.St) (t : T XS (α × S)) (R : α → S → Mx → Hp → Prop) : Prop :=
  t.wp (fun r => ∀ H' M', Step M H M' H' → Rel D M' r.2 H' → R r.1 r.2 M' H') (fun e => ∀ c d H' M', Step M H M' H' → Rel D M' e.2 H' → XRep D M' H' c d e.1 → W c d σV H')
theorem Wp.mono {α : Type} {D : Wd} {W : WX} {M : Mx} {H : Hp} {σV : L2.St} {t : T XS (α × S)} {R R' : α → S → Mx → Hp → Prop} (h : Wp D W M H σV t R) (f : ∀ a st M' H', Step M H M' H' → Rel D M' st H' → R a st M' H' → R' a st M' H') : Wp D W M H σV t R' :=
  T.wp_mono (fun r q H' M' s l => f _ _ _ _ s l (q H' M' s l)) (fun _ q => q) h
theorem Wp.from {α : Type} {D : Wd} {W : WX} {M M0 : Mx} {H H0 : Hp} {σV : L2.St} {t : T XS (α × S)} {R : α → S → Mx → Hp → Prop} (s0 : Step M0 H0 M H) (h : Wp D W M0 H0 σV t R) : Wp D W M H σV t R :=
  T.wp_mono (fun r q H' M' s l => q H' M' (s0.trans s) l) (fun e q c d H' M' s l x => q c d H' M' (s0.trans s) l x) h
theorem Wp.bind {α β : Type} {D : Wd} {W : WX} {M : Mx} {H : Hp} {σV : L2.St} {t : T XS (α × S)} {f : α × S → T XS (β × S)} {R : β → S → Mx → Hp → Prop} (h : Wp D W M H σV (t.bind f) R) :
    Wp D W M H σV t (fun a st M1 H1 => Wp D W M1 H1 σV (f (a, st)) R) :=
  T.wp_mono (fun r q H' M' s l => Wp.from s q) (fun _ q => q) (T.wp_bind.mp h)
def lift (D : Wd) (W : WX) (m : EM) : TE := fun σV H Q => ∃ M σ st, Rel D M st H ∧ Slots D M H σV σ ∧ Wp D W M H σV (m σ st) fun r _ M' H' => ∀ v, RRep D M' H' v r → Q v H'
def liftB (D : Wd) (W : WX) (m : BM) : TT := fun σV H Q => ∃ M σ st, Rel D M st H ∧ Slots D M H σV σ ∧ Wp D W M H σV (m σ st) fun b _ M' H' => Q b H'
def liftA (D : Wd) (W : WX) (m : AM) : TA := fun σV H Q => ∃ M σ st, Rel D M st H ∧ Slots D M H σV σ ∧ Wp D W M H σV (m σ st) fun rs _ M' H' => ∀ vs, RReps D M' H' vs rs → Q vs H'
/-! weaker readings -/
theorem pe_imp {X : Cx} {e : Expr} {t t' : TE} (h : PE X e t) (f : ∀ σ H Q, t' σ H Q → t σ H Q) : PE X e t' := ⟨fun pins s σ H Q I q => h.run pins s σ H Q I (f σ H Q q)⟩
theorem pt_imp {X : Cx} {e : Expr} {t t' : TT} (h : PT X e t) (f : ∀ σ H Q, t' σ H Q → t σ H Q) : PT X e t' := ⟨fun pins s σ H Q I q => h.run pins s σ H Q I (f σ H Q q)⟩
theorem pw_imp {X : Cx} {e : Expr} {t t' : TT} (h : PW X e t) (f : ∀ σ H Q, t' σ H Q → t σ H Q) : PW X e t' := ⟨fun wh pins s σ H Q I q => h.run wh pins s σ H Q I (f σ H Q q)⟩
theorem pa_imp {X : Cx} {e : List Expr} {t t' : TA} (h : PA X e t) (f : ∀ σ H Q, t' σ H Q → t σ H Q) : PA X e t' := ⟨fun pos pins s σ H Q I q => h.run pos pins s σ H Q I (f σ H Q q)⟩
theorem ps_imp {X : Cx} {e : Stmt} {t t' : TS} (h : PS X e t) (f : ∀ D σ H, t' D σ H → t D σ H) : PS X e t' := ⟨fun pins s σ H D I q => h.run pins s σ H D I (f D σ H q)⟩
theorem pss_imp {X : Cx} {e : List Stmt} {t t' : TS} (h : PSs X e t) (f : ∀ D σ H, t' D σ H → t D σ H) : PSs X e t' := ⟨fun pins s σ H D I q => h.run pins s σ H D I (f D σ H q)⟩
/-- two readings of one thing -/
theorem pe_or2 {X : Cx} {e : Expr} {t t' : TE} (h : PE X e t) (h' : PE X e t') : PE X e (fun σ H Q => t σ H Q ∨ t' σ H Q) := ⟨fun pins s σ H Q I q => q.elim (h.run pins s σ H Q I) (h'.run pins s σ H Q I)⟩
theorem lift_mono {D : Wd} {W : WX} {m : EM} {σ : L2.St} {H : Hp} {Q Q' : VK} (h : lift D W m σ H Q) (f : ∀ v H, Q v H → Q' v H) : lift D W m σ H Q' :=
  let ⟨M, s, st, a, b, c⟩ := h; ⟨M, s, st, a, b, c.mono fun _ _ _ _ _ _ q v r => f v _ (q v r)⟩
end Pu
set_option maxHeartbeats 4000000
namespace Pu
open PySem L2
/-! ### looking at values -/
def pvs : List RV → Option (List PV)
  | [] => some []
  | .pv p :: r => (pvs r).map (p :: ·)
  | _ :: _ => none
def pfs : List (Nat × RV) → Option (List (Nat × PV))
  | [] => some []
  | (n, .pv p) :: r => (pfs r).map ((n, p) :: ·)
  | _ :: _ => none
def pks : List (Key × RV) → Option (List (Key × PV))
  | [] => some []
  | (n, .pv p) :: r => (pks r).map ((n, p) :: ·)
  | _ :: _ => none
def vw (st : S) : RV → Option PV
  | .pv p => some p
  | .loc i => match st[i]? with
    | some (.lst xs) => (pvs xs).map .lst
    | some (.dct xs) => (pks xs).map .dct
    | some (.ins c fs) => (pfs fs).map (.obj c)
    | _ => none
  | .exc _ _ => none
@[simp] theorem vw_pv {st : S} {p : PV} : vw st (.pv p) = some p := rfl
@[simp] theorem pvs_map {xs : List PV} : pvs (xs.map RV.pv) = some xs := by
  induction xs with
  | nil => rfl
  | cons x xs ih => simp [pvs, ih]
/-- what is seen at a value, whether it can change or not -/
inductive Sh (D : Wd) (M : Mx) (H : Hp) : V → PV → Prop
  | rep {v : V} {p : PV} : Rep D M H v p → Sh D M H v p
  | lst {a : Addr} {vs : List V} {xs : List PV} : H a = some (.lst vs) → Reps D M H vs xs → Sh D M H (.ref a) (.lst xs)
  | dct {a : Addr} {vs : List (Key × V)} {xs : List (Key × PV)} : H a = some (.dK vs) → Repd D M H vs xs → Sh D M H (.ref a) (.dct xs)
  | obj {a C dx : Addr} {c : Nat} {nm : Str} {vs : List (Str × V)} {fs : List (Nat × PV)} : H a = some (.ins C dx vs) → D.cn[c]? = some nm → D.mg nm = some (.ref C) → Repf D M H vs fs → Sh D M H (.ref a) (.obj c fs)
section
variable {D : Wd} {M : Mx} {H : Hp} {st : S}
theorem reps_of : ∀ {vs : List V} {rs : List RV} {ps : List PV}, RReps D M H vs rs → pvs rs = some ps → Reps D M H vs ps
  | _, [], _, .nil, e => by cases e; exact .nil
  | _, .pv p :: r, ps, .cons a b, e => by
    unfold pvs at e
    cases h : pvs r with
    | none => rw [h] at e; cases e
    | some q => rw [h] at e; cases e; exact .cons a (reps_of b h)
  | _, .loc _ :: _, _, .cons _ _, e => by cases e
  | _, .exc _ _ :: _, _, .cons _ _, e => by cases e
theorem repf_of : ∀ {vs : List (Str × V)} {rs : List (Nat × RV)} {ps : List (Nat × PV)}, RFs D M H vs rs → pfs rs = some ps → Repf D M H vs ps
  | _, [], _, .nil, e => by cases e; exact .nil
  | _, (n, .pv p) :: r, ps, .cons a b, e => by
    unfold pfs at e
    cases h : pfs r with
    | none => rw [h] at e; cases e
    | some q => rw [h] at e; cases e; exact .cons a.1 a.2 (repf_of b h)
  | _, (_, .loc _) :: _, _, .cons _ _, e => by cases e
  | _, (_, .exc _ _) :: _, _, .cons _ _, e => by cases e
theorem repd_of : ∀ {vs : List (Key × V)} {rs : List (Key × RV)} {ps : List (Key × PV)}, RKs D M H vs rs → pks rs = some ps → Repd D M H vs ps
  | _, [], _, .nil, e => by cases e; exact .nil
  | (k, v) :: _, (n, .pv p) :: r, ps, .cons a b, e => by
    unfold pks at e
    cases h : pks r with
    | none => rw [h] at e; cases e
    | some q =>
      rw [h] at e; cases e
      obtain ⟨e1, a⟩ := a
      cases e1
      exact .cons a (repd_of b h)
  | _, (_, .loc _) :: _, _, .cons _ _, e => by cases e
  | _, (_, .exc _ _) :: _, _, .cons _ _, e => by cases e
theorem noX_s {vs : List V} {ps : List PV} (h : Reps D M.noX H vs ps) : Reps D M H vs ps := h.wide (M := M.noX) (M' := M) (fun _ h => h) (fun _ h => h)
theorem noX_d {vs : List (Key × V)} {ps : List (Key × PV)} (h : Repd D M.noX H vs ps) : Repd D M H vs ps := h.wide (M := M.noX) (M' := M) (fun _ h => h) (fun _ h => h)
theorem noX_f {vs : List (Str × V)} {ps : List (Nat × PV)} (h : Repf D M.noX H vs ps) : Repf D M H vs ps := h.wide (M := M.noX) (M' := M) (fun _ h => h) (fun _ h => h)
theorem vw_sh (R : Rel D M st H) {v : V} {p : PV} : ∀ {r : RV}, RRep D M H v r → vw st r = some p → Sh D M H v p
  | .pv q, h, e => by cases e; exact .rep h
  | .exc _ _, _, e => by cases e
  | .loc i, ⟨a, ha, ev⟩, e => by
    subst ev
    simp only [vw] at e
    cases hs : st[i]? with
    | none => rw [hs] at e; cases e
    | some o =>
      rw [hs] at e
      have ob := R.ob i a o ha hs
      cases o with
      | lst xs =>
        obtain ⟨vs, h1, h2⟩ := ob
        cases h : pvs xs with
        | none => simp [h] at e
        | some q => simp only [h, Option.map_some, Option.some.injEq] at e; subst e; exact .lst h1 (noX_s (reps_of h2 h))
      | dct xs =>
        obtain ⟨vs, h1, h2⟩ := ob
        cases h : pks xs with
        | none => simp [h] at e
        | some q => simp only [h, Option.map_some, Option.some.injEq] at e; subst e; exact .dct h1 (noX_d (repd_of h2 h))
      | ins c fs =>
        obtain ⟨C, dx, vs, nm, h1, h2, h3, h4⟩ := ob
        cases h : pfs fs with
        | none => simp [h] at e
        | some q => simp only [h, Option.map_some, Option.some.injEq] at e; subst e; exact .obj h1 h2 h3 (noX_f (repf_of h4 h))
      | gone => cases e
theorem Sh.sqL {v : V} {xs : List PV} (h : Sh D M H v (.lst xs)) : ∃ a vs, v = .ref a ∧ SqL D.K H a vs ∧ Reps D M H vs xs := by
  cases h with
  | rep h => cases h with | lst a b => exact ⟨_, _, rfl, a.sq, b⟩
  | lst a b => exact ⟨_, _, rfl, SqL.of a, b⟩
theorem Sh.sqT {v : V} {xs : List PV} (h : Sh D M H v (.tup xs)) : ∃ a vs, v = .ref a ∧ SqT D.K H a vs ∧ Reps D M H vs xs := by
  cases h with
  | rep h => cases h with | tup a b => exact ⟨_, _, rfl, a.sq, b⟩
theorem Sh.int {v : V} {i : Int} (h : Sh D M H v (.int i)) : v = .int i := by cases h with | rep h => cases h; rfl
theorem Sh.bl {v : V} {i : Bool} (h : Sh D M H v (.bl i)) : v = .bl i := by cases h with | rep h => cases h; rfl
theorem Sh.str {v : V} {i : Str} (h : Sh D M H v (.str i)) : v = .str i := by cases h with | rep h => cases h; rfl
theorem Sh.non {v : V} (h : Sh D M H v .non) : v = .non := by cases h with | rep h => cases h; rfl
theorem Reps.len : ∀ {vs : List V} {ps : List PV}, Reps D M H vs ps → vs.length = ps.length
  | _, _, .nil => rfl
  | _, _, .cons _ b => congrArg Nat.succ b.len
theorem Reps.get : ∀ {vs : List V} {ps : List PV} {i : Nat} {p : PV}, Reps D M H vs ps → ps[i]? = some p → ∃ v, vs[i]? = some v ∧ Rep D M H v p
  | _, _, _, _, .nil, e => by simp at e
  | _, _, 0, _, .cons a _, e => by simp at e; subst e; exact ⟨_, rfl, a⟩
  | _, _, i + 1, p, .cons _ b, e => by
    obtain ⟨v, h1, h2⟩ := Reps.get (i := i) b (by simpa using e)
    exact ⟨v, by simpa using h1, h2⟩
theorem Reps.get' : ∀ {vs : List V} {ps : List PV} {i : Nat} {v : V}, Reps D M H vs ps → vs[i]? = some v → ∃ p, ps[i]? = some p ∧ Rep D M H v p
  | _, _, _, _, .nil, e => by simp at e
  | _, _, 0, _, .cons a _, e => by simp at e; subst e; exact ⟨_, rfl, a⟩
  | _, _, i + 1, p, .cons _ b, e => by
    obtain ⟨v, h1, h2⟩ := Reps.get' (i := i) b (by simpa using e)
    exact ⟨v, by simpa using h1, h2⟩
theorem Reps.app : ∀ {vs us : List V} {ps qs : List PV}, Reps D M H vs ps → Reps D M H us qs → Reps D M H (vs ++ us) (ps ++ qs)
  | _, _, _, _, .nil, r => r
  | _, _, _, _, .cons a b, r => .cons a (b.app r)
theorem Reps.take : ∀ {vs : List V} {ps : List PV} (n : Nat), Reps D M H vs ps → Reps D M H (vs.take n) (ps.take n)
  | _, _, 0, _ => .nil
  | _, _, _ + 1, .nil => .nil
  | _, _, n + 1, .cons a b => .cons a (b.take n)
theorem Reps.drop : ∀ {vs : List V} {ps : List PV} (n : Nat), Reps D M H vs ps → Reps D M H (vs.drop n) (ps.drop n)
  | _, _, 0, r => r
  | _, _, _ + 1, .nil => .nil
  | _, _, n + 1, .cons _ b => b.drop n
theorem Reps.rep : ∀ {vs : List V} {ps : List PV} (n : Nat), Reps D M H vs ps → Reps D M H (List.replicate n vs).flatten (List.replicate n ps).flatten
  | _, _, 0, _ => .nil
  | _, _, n + 1, r => by rw [List.replicate_succ, List.replicate_succ, List.flatten_cons, List.flatten_cons]; exact r.app (Reps.rep n r)
theorem Reps.isInts : ∀ {vs : List V} {ns : List Int}, Reps D M H vs (ns.map PV.int) → vs = ns.map V.int
  | _, [], .nil => rfl
  | _, n :: ns, .cons a b => by cases a; rw [Reps.isInts b]; rfl
theorem Reps.isBls : ∀ {vs : List V} {ns : List Bool}, Reps D M H vs (ns.map PV.bl) → vs = ns.map V.bl
  | _, [], .nil => rfl
  | _, n :: ns, .cons a b => by cases a; rw [Reps.isBls b]; rfl
theorem Reps.isStrs : ∀ {vs : List V} {ns : List Str}, Reps D M H vs (ns.map PV.str) → vs = ns.map V.str
  | _, [], .nil => rfl
  | _, n :: ns, .cons a b => by cases a; rw [Reps.isStrs b]; rfl
end
/-! ### lists of one kind -/
def intsOf : List PV → Option (List Int)
  | [] => some []
  | .int i :: r => (intsOf r).map (i :: ·)
  | _ => none
def blsOf : List PV → Option (List Bool)
  | [] => some []
  | .bl i :: r => (blsOf r).map (i :: ·)
  | _ => none
def strsOf : List PV → Option (List Str)
  | [] => some []
  | .str i :: r => (strsOf r).map (i :: ·)
  | _ => none
theorem ints_eq : ∀ {ps : List PV} {ns : List Int}, intsOf ps = some ns → ps = ns.map PV.int
  | [], ns, e => by cases e; rfl
  | .int i :: r, ns, e => by
    unfold intsOf at e
    cases h : intsOf r with
    | none => rw [h] at e; cases e
    | some q => rw [h] at e; cases e; rw [ints_eq h]; rfl
  | .non :: _, _, e => by cases e
  | .bl _ :: _, _, e => by cases e
  | .str _ :: _, _, e => by cases e
  | .ty _ :: _, _, e => by cases e
  | .box :: _, _, e => by cases e
  | .cls _ :: _, _, e => by cases e
  | .tup _ :: _, _, e => by cases e
  | .lst _ :: _, _, e => by cases e
  | .dct _ :: _, _, e => by cases e
  | .obj _ _ :: _, _, e => by cases e
  | .fn _ :: _, _, e => by cases e
theorem bls_eq : ∀ {ps : List PV} {ns : List Bool}, blsOf ps = some ns → ps = ns.map PV.bl
  | [], ns, e => by cases e; rfl
  | .bl i :: r, ns, e => by
    unfold blsOf at e
    cases h : blsOf r with
    | none => rw [h] at e; cases e
    | some q => rw [h] at e; cases e; rw [bls_eq h]; rfl
  | .non :: _, _, e => by cases e
  | .int _ :: _, _, e => by cases e
  | .str _ :: _, _, e => by cases e
  | .ty _ :: _, _, e => by cases e
  | .box :: _, _, e => by cases e
  | .cls _ :: _, _, e => by cases e
  | .tup _ :: _, _, e => by cases e
  | .lst _ :: _, _, e => by cases e
  | .dct _ :: _, _, e => by cases e
  | .obj _ _ :: _, _, e => by cases e
  | .fn _ :: _, _, e => by cases e
theorem strs_eq : ∀ {ps : List PV} {ns : List Str}, strsOf ps = some ns → ps = ns.map PV.str
  | [], ns, e => by cases e; rfl
  | .str i :: r, ns, e => by
    unfold strsOf at e
    cases h : strsOf r with
    | none => rw [h] at e; cases e
    | some q => rw [h] at e; cases e; rw [strs_eq h]; rfl
  | .non :: _, _, e => by cases e
  | .int _ :: _, _, e => by cases e
  | .bl _ :: _, _, e => by cases e
  | .ty _ :: _, _, e => by cases e
  | .box :: _, _, e => by cases e
  | .cls _ :: _, _, e => by cases e
  | .tup _ :: _, _, e => by cases e
  | .lst _ :: _, _, e => by cases e
  | .dct _ :: _, _, e => by cases e
  | .obj _ _ :: _, _, e => by cases e
  | .fn _ :: _, _, e => by cases e
@[simp] theorem ints_map (ns : List Int) : intsOf (ns.map PV.int) = some ns := by
  induction ns with
  | nil => rfl
  | cons n ns ih => simp [intsOf, ih]
@[simp] theorem bls_map (ns : List Bool) : blsOf (ns.map PV.bl) = some ns := by
  induction ns with
  | nil => rfl
  | cons n ns ih => simp [blsOf, ih]
@[simp] theorem strs_map (ns : List Str) : strsOf (ns.map PV.str) = some ns := by
  induction ns with
  | nil => rfl
  | cons n ns ih => simp [strsOf, ih]
/-! ### data, for == and in -/
mutual
def toD : PV → Option PyData
  | .non => some .none
  | .bl b => some (.bool b)
  | .int i => some (.int i)
  | .str s => some (.str s)
  | .tup xs => (toDs xs).map .tuple
  | .lst xs => (toDs xs).map .list
  | _ => none
def toDs : List PV → Option (List PyData)
  | [] => some []
  | x :: xs => match toD x, toDs xs with
    | some d, some ds => some (d :: ds)
    | _, _ => none
end
section
variable {D : Wd} {M : Mx} {H : Hp}
mutual
theorem Rep.dp : ∀ {v : V} {p : PV} {d : PyData}, Rep D M H v p → toD p = some d → Dp D.K H v d
  | _, .non, d, h, e => by cases h; cases e; exact .non
  | _, .bl _, d, h, e => by cases h; cases e; exact .bl _
  | _, .int _, d, h, e => by cases h; cases e; exact .int _
  | _, .str _, d, h, e => by cases h; cases e; exact .str _
  | _, .tup xs, d, h, e => by
    cases h with
    | tup a b =>
      unfold toD at e
      cases h : toDs xs with
      | none => rw [h] at e; cases e
      | some q => rw [h] at e; cases e; exact .tup a.sq (Reps.dp b h)
  | _, .lst xs, d, h, e => by
    cases h with
    | lst a b =>
      unfold toD at e
      cases h : toDs xs with
      | none => rw [h] at e; cases e
      | some q => rw [h] at e; cases e; exact .lst a.sq (Reps.dp b h)
  | _, .ty _, _, _, e => by cases e
  | _, .box, _, _, e => by cases e
  | _, .cls _, _, _, e => by cases e
  | _, .dct _, _, _, e => by cases e
  | _, .obj _ _, _, _, e => by cases e
  | _, .fn _, _, _, e => by cases e
theorem Reps.dp : ∀ {v : List V} {p : List PV} {d : List PyData}, Reps D M H v p → toDs p = some d → DpAll D.K H v d
  | _, [], d, .nil, e => by cases e; exact .nil
  | _, x :: xs, d, .cons a b, e => by
    unfold toDs at e
    cases h1 : toD x with
    | none => rw [h1] at e; cases e
    | some q =>
      cases h2 : toDs xs with
      | none => rw [h1, h2] at e; cases e
      | some r => rw [h1, h2] at e; cases e; exact .cons (Rep.dp a h1) (Reps.dp b h2)
end
theorem Sh.dp {v : V} {p : PV} {d : PyData} (h : Sh D M H v p) (e : toD p = some d) : Dp D.K H v d := by
  cases h with
  | rep h => exact h.dp e
  | lst a b =>
    unfold toD at e
    rename_i xs
    cases h : toDs xs with
    | none => rw [h] at e; cases e
    | some q => rw [h] at e; cases e; exact .lst (SqL.of a) (b.dp h)
  | dct a b => cases e
  | obj a b c d => cases e
end
end Pu
set_option maxHeartbeats 4000000
namespace Pu
open PySem L2
def lineN : Nat := 16777216
theorem line_eq : lineN = sizeLine := by rw [sizeLine_eq]; rfl
def opt (st : S) : Option PV → T XS (RV × S)
  | some z => .ret (.pv z, st)
  | none => .bad
@[simp] theorem opt_some {st : S} {z : PV} : opt st (some z) = .ret (.pv z, st) := rfl
@[simp] theorem opt_none {st : S} : opt st none = .bad := rfl
/-! ### expressions -/
def eVar (i : Nat) : EM := fun σ st => match σ[i]? with
  | some (some r) => .ret (r, st)
  | _ => .bad
def eC (p : PV) : EM := fun _ st => .ret (.pv p, st)
def op2 (g : PV → PV → Option PV) (r q : RV) (st : S) : T XS (RV × S) := match vw st r, vw st q with
  | some x, some y => opt st (g x y)
  | _, _ => .bad
@[simp] theorem op2_pv {g : PV → PV → Option PV} {p q : PV} {st : S} : op2 g (.pv p) (.pv q) st = opt st (g p q) := rfl
def op1 (g : PV → Option PV) (r : RV) (st : S) : T XS (RV × S) := match vw st r with
  | some x => opt st (g x)
  | _ => .bad
@[simp] theorem op1_pv {g : PV → Option PV} {p : PV} {st : S} : op1 g (.pv p) st = opt st (g p) := rfl
def vws (st : S) : List RV → Option (List PV)
  | [] => some []
  | r :: rs => match vw st r, vws st rs with
    | some p, some ps => some (p :: ps)
    | _, _ => none
def opN (g : List PV → Option PV) (rs : List RV) (st : S) : T XS (RV × S) := match vws st rs with
  | some x => opt st (g x)
  | _ => .bad
def eOp (g : PV → PV → Option PV) (a b : EM) : EM := fun σ st => (a σ st).bind fun r => (b σ r.2).bind fun q => op2 g r.1 q.1 q.2
def eUn (g : PV → Option PV) (a : EM) : EM := fun σ st => (a σ st).bind fun r => op1 g r.1 r.2
def aNil : AM := fun _ st => .ret ([], st)
def aCons (a : EM) (as : AM) : AM := fun σ st => (a σ st).bind fun r => (as σ r.2).bind fun q => .ret (r.1 :: q.1, q.2)
def aStar (a : EM) (as : AM) : AM := fun σ st => (a σ st).bind fun r => match vw r.2 r.1 with
  | some (.lst xs) => (as σ r.2).bind fun q => .ret (xs.map RV.pv ++ q.1, q.2)
  | some (.tup xs) => (as σ r.2).bind fun q => .ret (xs.map RV.pv ++ q.1, q.2)
  | _ => .bad
def eCall (g : List PV → Option PV) (as : AM) : EM := fun σ st => (as σ st).bind fun r => opN g r.1 r.2
def eTup (as : AM) : EM := fun σ st => (as σ st).bind fun r => match pvs r.1 with
  | some ps => if ps.length ≤ lineN then .ret (.pv (.tup ps), r.2) else .bad
  | none => .bad
def eLst (as : AM) : EM := fun σ st => (as σ st).bind fun r => match pvs r.1 with
  | some ps => if ps.length ≤ lineN then .ret (.pv (.lst ps), r.2) else .bad
  | none => .bad
/-- a new list that will change -/
def eLstM (as : AM) : EM := fun σ st => (as σ st).bind fun r => if r.1.length ≤ lineN ∧ r.1.all (fun q => !q.isX) = true then .ret (.loc r.2.length, r.2 ++ [.lst r.1]) else .bad
def bVal (a : EM) : BM := fun σ st => (a σ st).bind fun r => match r.1 with
  | .pv (.bl b) => .ret (b, r.2)
  | _ => .bad
def bAnd (a b : BM) : BM := fun σ st => (a σ st).bind fun r => if r.1 = true then b σ r.2 else .ret (false, r.2)
def bOr (a b : BM) : BM := fun σ st => (a σ st).bind fun r => if r.1 = true then .ret (true, r.2) else b σ r.2
def bNot (a : BM) : BM := fun σ st => (a σ st).bind fun r => .ret (!r.1, r.2)
def eAnd (a b : EM) : EM := fun σ st => (a σ st).bind fun r => match r.1 with
  | .pv (.bl c) => if c = true then b σ r.2 else .ret (.pv (.bl false), r.2)
  | _ => .bad
def eOr (a b : EM) : EM := fun σ st => (a σ st).bind fun r => match r.1 with
  | .pv (.bl c) => if c = true then .ret (.pv (.bl true), r.2) else b σ r.2
  | _ => .bad
def eNot (a : EM) : EM := fun σ st => (a σ st).bind fun r => match r.1 with
  | .pv (.bl c) => .ret (.pv (.bl (!c)), r.2)
  | _ => .bad
def eIf (c : BM) (a b : EM) : EM := fun σ st => (c σ st).bind fun r => if r.1 = true then a σ r.2 else b σ r.2
def eChain (g g' : PV → PV → Option PV) (a b c : EM) : EM := fun σ st => (a σ st).bind fun r => (b σ r.2).bind fun q => (op2 g r.1 q.1 q.2).bind fun z => match z.1 with
  | .pv (.bl k) => if k = true then (c σ z.2).bind fun w => op2 g' q.1 w.1 w.2 else .ret (.pv (.bl false), z.2)
  | _ => .bad
/-! what operators do -/
def Gr (H H' : Hp) : Prop := ∀ a u, H a = some u → H' a = some u
theorem Gr.refl {H : Hp} : Gr H H := fun _ _ h => h
theorem Gr.laid {H : Hp} {p : Addr} {o : HO} (h : H p = none) : Gr H (upd H p o) := fun a u e => by rw [upd_ne (ne_of_none e h)]; exact e
/-- an operator's reading follows from what it does to trees -/
def OpP (D : Wd) (r : R2) (g : PV → PV → Option PV) : Prop := ∀ (M : Mx) (st : S) (H : Hp) (x y : V) (p q z : PV) (Q : VK), Rel D M st H → Sh D M H x p → Sh D M H y q → g p q = some z → (∀ v H', Gr H H' → Rep D M H' v z → Q v H') → r x y H Q
def UnP (D : Wd) (r : V → Hp → VK → Prop) (g : PV → Option PV) : Prop := ∀ (M : Mx) (st : S) (H : Hp) (x : V) (p z : PV) (Q : VK), Rel D M st H → Sh D M H x p → g p = some z → (∀ v H', Gr H H' → Rep D M H' v z → Q v H') → r x H Q
def CallP (D : Wd) (r : List V → Hp → VK → Prop) (g : List PV → Option PV) : Prop := ∀ (M : Mx) (st : S) (H : Hp) (xs : List V) (ps : List PV) (z : PV) (Q : VK), Rel D M st H → Paired (Sh D M H) xs ps → g ps = some z → (∀ v H', Gr H H' → Rep D M H' v z → Q v H') → r xs H Q
section
variable {D : Wd} {W : WX} {σ : L2.St} {H : Hp} {Q : VK}
theorem OpP.or {r r' : R2} {g g' : PV → PV → Option PV} (h : OpP D r g) (h' : OpP D r' g') : OpP D (fun x y H Q => r x y H Q ∨ r' x y H Q) (fun p q => match g p q with | some z => some z | none => g' p q) := by
  intro M st H x y p q z Q R hp hq e k
  dsimp only at e
  cases c : g p q with
  | some z' => rw [c] at e; cases e; exact .inl (h M st H x y p q _ Q R hp hq c k)
  | none => rw [c] at e; exact .inr (h' M st H x y p q _ Q R hp hq e k)
theorem CallP.or {r r' : List V → Hp → VK → Prop} {g g' : List PV → Option PV} (h : CallP D r g) (h' : CallP D r' g') : CallP D (fun x H Q => r x H Q ∨ r' x H Q) (fun p => match g p with | some z => some z | none => g' p) := by
  intro M st H x p z Q R hp e k
  dsimp only at e
  cases c : g p with
  | some z' => rw [c] at e; cases e; exact .inl (h M st H x p _ Q R hp c k)
  | none => rw [c] at e; exact .inr (h' M st H x p _ Q R hp e k)
theorem vws_sh {M : Mx} {st : S} (R : Rel D M st H) : ∀ {vs : List V} {rs : List RV} {ps : List PV}, RReps D M H vs rs → vws st rs = some ps → Paired (Sh D M H) vs ps
  | _, _, _, .nil, e => by cases e; exact .nil
  | _, r :: rs, ps, .cons a b, e => by
    unfold vws at e
    cases h1 : vw st r with
    | none => rw [h1] at e; cases e
    | some p =>
      cases h2 : vws st rs with
      | none => rw [h1, h2] at e; cases e
      | some q => rw [h1, h2] at e; cases e; exact .cons (vw_sh R a h1) (vws_sh R b h2)
theorem lift_var {i : Nat} (h : lift D W (eVar i) σ H Q) : tVar i σ H Q := by
  obtain ⟨M, s, st, R, S, h⟩ := h
  unfold eVar at h
  split at h
  · rename_i r e
    obtain ⟨v, h1, h2⟩ := S.2 i r e
    exact ⟨v, h1, h H M .refl R v h2⟩
  · exact h.elim
theorem lift_c {v : V} {p : PV} (r : ∀ M H, Rep D M H v p) (h : lift D W (eC p) σ H Q) : tC v σ H Q := by
  obtain ⟨M, s, st, R, S, h⟩ := h
  exact h H M .refl R v (r M H)
/-- the end of an operator -/
theorem opt_end {M : Mx} {st : S} {z : Option PV} {r : VK → Prop} (R : Rel D M st H) (h : Wp D W M H σ (opt st z) fun r _ M' H' => ∀ v, RRep D M' H' v r → Q v H')
    (f : ∀ z', z = some z' → (∀ v H', Gr H H' → Rep D M H' v z' → Q v H') → r Q) : r Q := by
  cases z with
  | none => exact h.elim
  | some z' => exact f z' rfl fun v H' g q => h H' M (R.step g).1 (R.step g).2 v q
theorem op2_end {r : R2} {g : PV → PV → Option PV} (ho : OpP D r g) {M : Mx} {st : S} {a b : RV} {x y : V} (R : Rel D M st H) (h1 : RRep D M H x a) (h2 : RRep D M H y b) (h : Wp D W M H σ (op2 g a b st) fun r _ M' H' => ∀ v, RRep D M' H' v r → Q v H') : r x y H Q := by
  unfold op2 at h
  cases e1 : vw st a with
  | none => rw [e1] at h; exact h.elim
  | some p =>
    cases e2 : vw st b with
    | none => rw [e1, e2] at h; exact h.elim
    | some q =>
      rw [e1, e2] at h
      exact opt_end (r := r x y H) R h fun z e k => ho M st H x y p q z Q R (vw_sh R h1 e1) (vw_sh R h2 e2) e k
theorem op1_end {r : V → Hp → VK → Prop} {g : PV → Option PV} (ho : UnP D r g) {M : Mx} {st : S} {a : RV} {x : V} (R : Rel D M st H) (h1 : RRep D M H x a) (h : Wp D W M H σ (op1 g a st) fun r _ M' H' => ∀ v, RRep D M' H' v r → Q v H') : r x H Q := by
  unfold op1 at h
  cases e1 : vw st a with
  | none => rw [e1] at h; exact h.elim
  | some p =>
    rw [e1] at h
    exact opt_end (r := r x H) R h fun z e k => ho M st H x p z Q R (vw_sh R h1 e1) e k
theorem opN_end {r : List V → Hp → VK → Prop} {g : List PV → Option PV} (ho : CallP D r g) {M : Mx} {st : S} {a : List RV} {x : List V} (R : Rel D M st H) (h1 : RReps D M H x a) (h : Wp D W M H σ (opN g a st) fun r _ M' H' => ∀ v, RRep D M' H' v r → Q v H') : r x H Q := by
  unfold opN at h
  cases e1 : vws st a with
  | none => rw [e1] at h; exact h.elim
  | some p =>
    rw [e1] at h
    exact opt_end (r := r x H) R h fun z e k => ho M st H x p z Q R (vws_sh R h1 e1) e k
theorem lift_op {r : R2} {g : PV → PV → Option PV} {a b : EM} (ho : OpP D r g) (h : lift D W (eOp g a b) σ H Q) : tOp r (lift D W a) (lift D W b) σ H Q := by
  obtain ⟨M, s, st, R, S, h⟩ := h
  refine ⟨M, s, st, R, S, (Wp.bind h).mono fun ra st1 M1 H1 s1 R1 h1 v hv => ⟨M1, s, st1, R1, S.step s1, (Wp.bind h1).mono fun rb st2 M2 H2 s2 R2 h2 u hu => op2_end ho R2 (hv.step s2) hu h2⟩⟩
theorem lift_un {r : V → Hp → VK → Prop} {g : PV → Option PV} {a : EM} (ho : UnP D r g) (h : lift D W (eUn g a) σ H Q) : tUn r (lift D W a) σ H Q := by
  obtain ⟨M, s, st, R, S, h⟩ := h
  exact ⟨M, s, st, R, S, (Wp.bind h).mono fun ra st1 M1 H1 s1 R1 h1 v hv => op1_end ho R1 hv h1⟩
theorem lift_call {r : List V → Hp → VK → Prop} {g : List PV → Option PV} {as : AM} (ho : CallP D r g) (h : lift D W (eCall g as) σ H Q) : tCB r (liftA D W as) σ H Q := by
  obtain ⟨M, s, st, R, S, h⟩ := h
  exact ⟨M, s, st, R, S, (Wp.bind h).mono fun ra st1 M1 H1 s1 R1 h1 v hv => opN_end ho R1 hv h1⟩
theorem lift_anil {Q : List V → Hp → Prop} (h : liftA D W aNil σ H Q) : tNil σ H Q := by
  obtain ⟨M, s, st, R, S, h⟩ := h
  exact h H M .refl R [] .nil
theorem lift_acons {Q : List V → Hp → Prop} {a : EM} {as : AM} (h : liftA D W (aCons a as) σ H Q) : tCons (lift D W a) (liftA D W as) σ H Q := by
  obtain ⟨M, s, st, R, S, h⟩ := h
  refine ⟨M, s, st, R, S, (Wp.bind h).mono fun ra st1 M1 H1 s1 R1 h1 v hv => ⟨M1, s, st1, R1, S.step s1, (Wp.bind h1).mono fun rb st2 M2 H2 s2 R2 h2 u hu => ?_⟩⟩
  exact h2 H2 M2 .refl R2 (v :: u) (.cons (hv.step s2) hu)
theorem rreps_map {M : Mx} : ∀ {vs : List V} {ps : List PV}, Reps D M H vs ps → RReps D M H vs (ps.map RV.pv)
  | _, _, .nil => .nil
  | _, _, .cons a b => .cons a (rreps_map b)
theorem rreps_app {M : Mx} : ∀ {vs us : List V} {ps qs : List RV}, RReps D M H vs ps → RReps D M H us qs → RReps D M H (vs ++ us) (ps ++ qs)
  | _, _, _, _, .nil, r => r
  | _, _, _, _, .cons a b, r => .cons a (rreps_app b r)
theorem lift_astar {Q : List V → Hp → Prop} {a : EM} {as : AM} (h : liftA D W (aStar a as) σ H Q) : StX.tStar D.K (lift D W a) (liftA D W as) σ H Q := by
  obtain ⟨M, s, st, R, S, h⟩ := h
  refine ⟨M, s, st, R, S, (Wp.bind h).mono fun ra st1 M1 H1 s1 R1 h1 v hv => ?_⟩
  dsimp only at h1
  split at h1
  · rename_i xs e
    obtain ⟨a, vs, rfl, hq, hr⟩ := (vw_sh R1 hv e).sqL
    refine ⟨a, vs, rfl, .inr hq, M1, s, st1, R1, S.step s1, (Wp.bind h1).mono fun rb st2 M2 H2 s2 R2 h2 u hu => ?_⟩
    exact h2 H2 M2 .refl R2 (vs ++ u) (rreps_app (rreps_map (hr.step s2)) hu)
  · rename_i xs e
    obtain ⟨a, vs, rfl, hq, hr⟩ := (vw_sh R1 hv e).sqT
    refine ⟨a, vs, rfl, .inl hq, M1, s, st1, R1, S.step s1, (Wp.bind h1).mono fun rb st2 M2 H2 s2 R2 h2 u hu => ?_⟩
    exact h2 H2 M2 .refl R2 (vs ++ u) (rreps_app (rreps_map (hr.step s2)) hu)
  · exact h1.elim
theorem out_laid {M : Mx} {st : S} (R : Rel D M st H) {p : Addr} (h : H p = none) : M.out p := R.free h
theorem rep_tup {M : Mx} {st : S} (R : Rel D M st H) {p : Addr} (h : H p = none) {vs : List V} {ps : List PV} (r : Reps D M H vs ps) : Rep D M (upd H p (.tup vs)) (.ref p) (.tup ps) :=
  .tup (.inl ⟨R.free h, .inl upd_same⟩) (r.step (R.laid h).1)
theorem rep_lst {M : Mx} {st : S} (R : Rel D M st H) {p : Addr} (h : H p = none) {vs : List V} {ps : List PV} (r : Reps D M H vs ps) : Rep D M (upd H p (.lst vs)) (.ref p) (.lst ps) :=
  .lst (.inl ⟨R.free h, .inl upd_same⟩) (r.step (R.laid h).1)
theorem lift_tup {as : AM} (h : lift D W (eTup as) σ H Q) : tTup (liftA D W as) σ H Q := by
  obtain ⟨M, s, st, R, S, h⟩ := h
  refine ⟨M, s, st, R, S, (Wp.bind h).mono fun ra st1 M1 H1 s1 R1 h1 vs hv => ?_⟩
  dsimp only at h1
  cases e : pvs ra with
  | none => rw [e] at h1; exact h1.elim
  | some ps =>
    rw [e] at h1
    have hr := reps_of hv e
    dsimp only at h1
    split at h1
    · rename_i hl
      refine ⟨by rw [hr.len, ← line_eq]; exact hl, fun p hp => ?_⟩
      exact h1 _ M1 (R1.laid hp).1 (R1.laid hp).2 _ (rep_tup R1 hp hr)
    · exact h1.elim
theorem lift_lst {as : AM} (h : lift D W (eLst as) σ H Q) : tLst (liftA D W as) σ H Q := by
  obtain ⟨M, s, st, R, S, h⟩ := h
  refine ⟨M, s, st, R, S, (Wp.bind h).mono fun ra st1 M1 H1 s1 R1 h1 vs hv => ?_⟩
  dsimp only at h1
  cases e : pvs ra with
  | none => rw [e] at h1; exact h1.elim
  | some ps =>
    rw [e] at h1
    have hr := reps_of hv e
    dsimp only at h1
    split at h1
    · rename_i hl
      refine ⟨by rw [hr.len, ← line_eq]; exact hl, fun p hp => ?_⟩
      exact h1 _ M1 (R1.laid hp).1 (R1.laid hp).2 _ (rep_lst R1 hp hr)
    · exact h1.elim
theorem paired_length {α β : Type} {F : α → β → Prop} : ∀ {l₁ : List α} {l₂ : List β}, Paired F l₁ l₂ → l₁.length = l₂.length
  | _, _, .nil => rfl
  | _, _, .cons _ t => congrArg Nat.succ (paired_length t)
/-- a new thing that will change -/
theorem Rel.alloc {M : Mx} {st : S} (R : Rel D M st H) {p : Addr} {o : HO} {u : MO} (hp : H p = none) (k : ∀ M' , Step M H M' (upd H p o) → OR D M' (upd H p o) p u) :
    Step M H { M with ρ := M.ρ ++ [some p] } (upd H p o) ∧ Rel D { M with ρ := M.ρ ++ [some p] } (st ++ [u]) (upd H p o) ∧ RRep D { M with ρ := M.ρ ++ [some p] } (upd H p o) (.ref p) (.loc st.length) := by
  have out := R.free hp
  have keep : ∀ a u, H a = some u → upd H p o a = some u := fun a u e => by rw [upd_ne (ne_of_none e hp)]; exact e
  have s : Step M H { M with ρ := M.ρ ++ [some p] } (upd H p o) := ⟨⟨[some p], rfl, fun a h => by rw [Option.some.inj (List.mem_singleton.mp h)]; exact hp⟩, ⟨[], by simp, by simp⟩, ⟨fun _ h => h, fun _ h => .inl h⟩, fun a u e _ _ => keep a u e, fun a u e => ⟨u, keep a u e⟩, rfl⟩
  refine ⟨s, ⟨?_, ?_, ?_, ?_, ?_, ?_, ?_, R.hx, R.tb⟩, p, by rw [← R.len]; simp, rfl⟩
  · intro i j a h1 h2
    have key : ∀ i : Nat, (M.ρ ++ [some p])[i]? = some (some a) → (M.ρ[i]? = some (some a) ∧ a ≠ p) ∨ (i = M.ρ.length ∧ a = p) := fun i h => by
      by_cases hi : i < M.ρ.length
      · rw [List.getElem?_append_left hi] at h
        exact .inl ⟨h, fun q => out.1 (by rw [← q]; exact List.mem_of_getElem? h)⟩
      · rw [List.getElem?_append_right (by omega), List.getElem?_singleton] at h
        split at h
        · cases h; exact .inr ⟨by omega, rfl⟩
        · cases h
    rcases key i h1 with ⟨k1, k2⟩ | ⟨k1, k2⟩
    · rcases key j h2 with ⟨k3, k4⟩ | ⟨k3, k4⟩
      · exact R.nd i j a k1 k3
      · exact absurd k4 k2
    · rcases key j h2 with ⟨k3, k4⟩ | ⟨k3, k4⟩
      · exact absurd k2 k4
      · rw [k1, k3]
  · intro a ha
    rcases List.mem_append.mp ha with h | h
    · exact R.dj a h
    · rw [Option.some.inj (List.mem_singleton.mp h)]; exact out.2.1
  · simp [R.len]
  · intro i a ob h1 h2
    by_cases hi : i < M.ρ.length
    · rw [List.getElem?_append_left hi] at h1
      rw [List.getElem?_append_left (by rw [← R.len]; exact hi)] at h2
      exact (R.ob i a ob h1 h2).step s (keep a)
    · rw [List.getElem?_append_right (by omega)] at h1
      rw [List.getElem?_append_right (by rw [← R.len]; omega)] at h2
      rw [R.len] at h1
      rw [List.getElem?_singleton] at h1 h2
      split at h1
      · cases h1
        rename_i hz
        rw [if_pos hz] at h2
        cases h2
        exact k _ s
      · cases h1
  · intro b hb
    exact (R.bx b hb).step s (keep b)
  · intro a ha
    obtain ⟨u, e⟩ := R.fr a ha
    exact ⟨u, keep _ _ e⟩
  · intro a ha
    obtain ⟨h1, h2⟩ := R.fd a ha
    refine ⟨fun q => ?_, h2⟩
    rcases List.mem_append.mp q with q | q
    · exact h1 q
    · rw [Option.some.inj (List.mem_singleton.mp q)] at ha; exact out.2.2 ha
theorem rreps_noX {M : Mx} : ∀ {vs : List V} {rs : List RV}, rs.all (fun q => !q.isX) = true → RReps D M H vs rs → RReps D M.noX H vs rs
  | _, _, _, .nil => .nil
  | _, r :: rs, e, .cons a b => by
    rw [List.all_cons, Bool.and_eq_true] at e
    exact .cons (a.toNoX (by simpa using e.1)) (rreps_noX e.2 b)
theorem lift_lstM {as : AM} (h : lift D W (eLstM as) σ H Q) : tLst (liftA D W as) σ H Q := by
  obtain ⟨M, s, st, R, S, h⟩ := h
  refine ⟨M, s, st, R, S, (Wp.bind h).mono fun ra st1 M1 H1 s1 R1 h1 vs hv => ?_⟩
  dsimp only at h1
  split at h1
  · rename_i hl
    refine ⟨by rw [paired_length hv, ← line_eq]; exact hl.1, fun p hp => ?_⟩
    obtain ⟨q1, q2, q3⟩ := R1.alloc (o := .lst vs) (u := .lst ra) hp fun M' sM => ⟨vs, upd_same, (rreps_noX hl.2 hv).step sM.noX⟩
    exact h1 _ _ q1 q2 _ q3
  · exact h1.elim
theorem lift_bval {Q : Bool → Hp → Prop} {a : EM} (h : liftB D W (bVal a) σ H Q) : tB (lift D W a) σ H Q := by
  obtain ⟨M, s, st, R, S, h⟩ := h
  refine ⟨M, s, st, R, S, (Wp.bind h).mono fun ra st1 M1 H1 s1 R1 h1 v hv => ?_⟩
  dsimp only at h1
  split at h1
  · cases hv
    exact ⟨_, rfl, h1 H1 M1 .refl R1⟩
  · exact h1.elim
theorem lift_band {Q : Bool → Hp → Prop} {a b : BM} (h : liftB D W (bAnd a b) σ H Q) : tAnd (liftB D W a) (liftB D W b) σ H Q := by
  obtain ⟨M, s, st, R, S, h⟩ := h
  refine ⟨M, s, st, R, S, (Wp.bind h).mono fun c st1 M1 H1 s1 R1 h1 => ?_⟩
  dsimp only at h1
  split at h1
  · rename_i e
    rw [if_pos e]
    exact ⟨M1, s, st1, R1, S.step s1, h1⟩
  · rename_i e
    rw [if_neg e]
    exact h1 H1 M1 .refl R1
theorem lift_bor {Q : Bool → Hp → Prop} {a b : BM} (h : liftB D W (bOr a b) σ H Q) : tOr (liftB D W a) (liftB D W b) σ H Q := by
  obtain ⟨M, s, st, R, S, h⟩ := h
  refine ⟨M, s, st, R, S, (Wp.bind h).mono fun c st1 M1 H1 s1 R1 h1 => ?_⟩
  dsimp only at h1
  split at h1
  · rename_i e
    rw [if_pos e]
    exact h1 H1 M1 .refl R1
  · rename_i e
    rw [if_neg e]
    exact ⟨M1, s, st1, R1, S.step s1, h1⟩
theorem lift_bnot {Q : Bool → Hp → Prop} {a : BM} (h : liftB D W (bNot a) σ H Q) : tNot (liftB D W a) σ H Q := by
  obtain ⟨M, s, st, R, S, h⟩ := h
  exact ⟨M, s, st, R, S, (Wp.bind h).mono fun c st1 M1 H1 s1 R1 h1 => h1 H1 M1 .refl R1⟩
theorem lift_and {a b : EM} (h : lift D W (eAnd a b) σ H Q) : tAndV (lift D W a) (lift D W b) σ H Q := by
  obtain ⟨M, s, st, R, S, h⟩ := h
  refine ⟨M, s, st, R, S, (Wp.bind h).mono fun ra st1 M1 H1 s1 R1 h1 v hv => ?_⟩
  dsimp only at h1
  split at h1
  · cases hv
    refine ⟨_, rfl, ?_⟩
    split at h1
    · rename_i e; rw [if_pos e]; exact ⟨M1, s, st1, R1, S.step s1, h1⟩
    · rename_i e; rw [if_neg e]; exact h1 H1 M1 .refl R1 _ (.bl false)
  · exact h1.elim
theorem lift_or {a b : EM} (h : lift D W (eOr a b) σ H Q) : tOrV (lift D W a) (lift D W b) σ H Q := by
  obtain ⟨M, s, st, R, S, h⟩ := h
  refine ⟨M, s, st, R, S, (Wp.bind h).mono fun ra st1 M1 H1 s1 R1 h1 v hv => ?_⟩
  dsimp only at h1
  split at h1
  · cases hv
    refine ⟨_, rfl, ?_⟩
    split at h1
    · rename_i e; rw [if_pos e]; exact h1 H1 M1 .refl R1 _ (.bl true)
    · rename_i e; rw [if_neg e]; exact ⟨M1, s, st1, R1, S.step s1, h1⟩
  · exact h1.elim
theorem lift_not {a : EM} (h : lift D W (eNot a) σ H Q) : tNotV (lift D W a) σ H Q := by
  obtain ⟨M, s, st, R, S, h⟩ := h
  refine ⟨M, s, st, R, S, (Wp.bind h).mono fun ra st1 M1 H1 s1 R1 h1 v hv => ?_⟩
  dsimp only at h1
  split at h1
  · cases hv
    exact ⟨_, rfl, h1 H1 M1 .refl R1 _ (.bl _)⟩
  · exact h1.elim
theorem lift_if {c : BM} {a b : EM} (h : lift D W (eIf c a b) σ H Q) : tIf (liftB D W c) (lift D W a) (lift D W b) σ H Q := by
  obtain ⟨M, s, st, R, S, h⟩ := h
  refine ⟨M, s, st, R, S, (Wp.bind h).mono fun k st1 M1 H1 s1 R1 h1 => ?_⟩
  dsimp only at h1
  split at h1
  · rename_i e; rw [if_pos e]; exact ⟨M1, s, st1, R1, S.step s1, h1⟩
  · rename_i e; rw [if_neg e]; exact ⟨M1, s, st1, R1, S.step s1, h1⟩
end
end Pu
set_option maxHeartbeats 4000000
namespace Pu
open PySem L2
/-! ### the operators on trees -/
def mulB (i j : Int) : Bool := !((decide (Builtin.Int.intBits i > shortFactorBits) && decide (Builtin.Int.intBits j > shortFactorBits) && Builtin.Int.intTooBig (Builtin.Int.intBits i + Builtin.Int.intBits j)))
theorem mulB_ok {i j : Int} (h : mulB i j = true) : IntMulOk i j := by
  unfold mulB at h
  unfold IntMulOk
  intro q
  rw [q] at h
  cases h
def gAdd : PV → PV → Option PV
  | .int i, .int j => some (.int (i + j))
  | .str s, .str t => if s.length + t.length ≤ lineN then some (.str (s ++ t)) else none
  | .tup xs, .tup ys => if xs.length + ys.length ≤ lineN then some (.tup (xs ++ ys)) else none
  | .lst xs, .lst ys => if xs.length + ys.length ≤ lineN then some (.lst (xs ++ ys)) else none
  | _, _ => none
def gSub : PV → PV → Option PV
  | .int i, .int j => some (.int (i - j))
  | _, _ => none
def gMul : PV → PV → Option PV
  | .int i, .int j => if mulB i j = true then some (.int (i * j)) else none
  | _, _ => none
def gDiv : PV → PV → Option PV
  | .int i, .int j => if j ≠ 0 ∧ j.natAbs.log2 < 9000 then some (.int (i.fdiv j)) else none
  | _, _ => none
def gMod : PV → PV → Option PV
  | .int i, .int j => if j ≠ 0 then some (.int (i.fmod j)) else none
  | _, _ => none
def gPow : PV → PV → Option PV
  | .int i, .int j => if 0 ≤ j ∧ j ≤ 1000000 ∧ i.natAbs < 2 ^ 64 then some (.int (i ^ j.toNat)) else none
  | _, _ => none
def gNeg : PV → Option PV
  | .int i => some (.int (-i))
  | _ => none
def gLt : PV → PV → Option PV
  | .int i, .int j => some (.bl (decide (i < j)))
  | _, _ => none
def gLe : PV → PV → Option PV
  | .int i, .int j => some (.bl (decide (i ≤ j)))
  | _, _ => none
def gGt : PV → PV → Option PV
  | .int i, .int j => some (.bl (decide (j < i)))
  | _, _ => none
def gGe : PV → PV → Option PV
  | .int i, .int j => some (.bl (decide (j ≤ i)))
  | _, _ => none
def peq (p q : PV) : Option Bool := match toD p, toD q with
  | some d, some e => if SeqAt.shaped d = true ∧ SeqAt.shaped e = true then some (PyData.eqv d e) else none
  | _, _ => none
def gEq (p q : PV) : Option PV := (peq p q).map .bl
def gNe (p q : PV) : Option PV := (peq p q).map fun b => .bl (!b)
def pin (p q : PV) : Option Bool := match toD p, toD q with
  | some d, some (.list ds) => if SeqAt.shaped d = true ∧ SeqAt.shaped (.list ds) = true then some (ds.any fun z => PyData.eqv z d) else none
  | some d, some (.tuple ds) => if SeqAt.shaped d = true ∧ SeqAt.shaped (.list ds) = true then some (ds.any fun z => PyData.eqv z d) else none
  | _, _ => none
def sin (p q : PV) : Option Bool := match p, q with
  | .str c, .str z => match c.cps.toList with
    | [n] => some (z.cps.toList.any fun m => m == n)
    | _ => none
  | .str c, .dct kvs => some (kvs.any fun kv => kv.1 == Sum.inr c)
  | .int c, .dct kvs => some (kvs.any fun kv => kv.1 == Sum.inl c)
  | _, _ => none
def isIn (p q : PV) : Option Bool := match q with
  | .lst _ => pin p q
  | .tup _ => pin p q
  | .str _ => sin p q
  | _ => none
def gIn (p q : PV) : Option PV := (isIn p q).map .bl
def gNotIn (p q : PV) : Option PV := (isIn p q).map fun b => .bl (!b)
def isNon : PV → Bool
  | .non => true
  | _ => false
def gIs (p q : PV) : Option PV := if isNon q = true then some (.bl (isNon p)) else none
def gIsNot (p q : PV) : Option PV := if isNon q = true then some (.bl (!isNon p)) else none
def gIx : PV → PV → Option PV
  | .lst xs, .int i => atI xs i
  | .tup xs, .int i => atI xs i
  | .str z, .int i => if z.length ≤ lineN then (atI z.cps.toList i).map fun c => .str ⟨#[c]⟩ else none
  | _, _ => none
section
variable {D : Wd}
abbrev rStrAdd : R2 := fun x y H Q => ∃ i j, x = .str i ∧ y = .str j ∧ i.length + j.length ≤ sizeLine ∧ Q (.str (i ++ j)) H
/-- two tuples put together, whichever is empty -/
def rCatTT (K : PySem.W.Frag) : R2 := fun x y H Q => ∃ a b xs ys, x = .ref a ∧ y = .ref b ∧ SqT K H a xs ∧ SqT K H b ys ∧ xs.length + ys.length ≤ sizeLine ∧
  (xs = [] → Q (.ref b) H) ∧ (ys = [] → Q (.ref a) H) ∧ ∀ p, H p = none → Q (.ref p) (upd H p (.tup (xs ++ ys)))
/-- two lists put together -/
def rCatLL (K : PySem.W.Frag) : R2 := fun x y H Q => ∃ a b xs ys, x = .ref a ∧ y = .ref b ∧ SqL K H a xs ∧ SqL K H b ys ∧ xs.length + ys.length ≤ sizeLine ∧ ∀ p, H p = none → Q (.ref p) (upd H p (.lst (xs ++ ys)))
def rAddP (K : PySem.W.Frag) : R2 := fun x y H Q => ((rI0 fun i j => .int (i + j)) x y H Q ∨ rStrAdd x y H Q) ∨ (rCatTT K x y H Q ∨ rCatLL K x y H Q)
theorem lift2 {o : Option Bool} {f : Bool → PV} {z : PV} (h : o.map f = some z) : ∃ b, o = some b ∧ f b = z := by
  cases o with
  | none => cases h
  | some b => exact ⟨b, rfl, Option.some.inj h⟩
theorem p_add : OpP D (rAddP D.K) gAdd := by
  intro M st H x y p q z Q R hp hq e k
  unfold gAdd at e
  split at e
  · cases e
    rw [hp.int, hq.int]
    exact .inl (.inl ⟨_, _, rfl, rfl, k _ _ .refl (.int _)⟩)
  · rw [hp.str, hq.str]
    split at e
    · rename_i hl
      cases e
      exact .inl (.inr ⟨_, _, rfl, rfl, by rw [← line_eq]; exact hl, k _ _ .refl (.str _)⟩)
    · cases e
  · split at e
    · rename_i hl
      cases e
      obtain ⟨a, vs, rfl, ha, ra⟩ := hp.sqT
      obtain ⟨b, us, rfl, hb, rb⟩ := hq.sqT
      refine .inr (.inl ⟨a, b, vs, us, rfl, rfl, ha, hb, by rw [ra.len, rb.len, ← line_eq]; exact hl, fun e => ?_, fun e => ?_, fun p hn => k _ _ (Gr.laid hn) (rep_tup R hn (ra.app rb))⟩)
      · subst e
        cases ra
        cases hq with
        | rep h => exact k _ _ .refl h
      · subst e
        cases rb
        rw [List.append_nil] at k
        cases hp with
        | rep h => exact k _ _ .refl h
    · cases e
  · split at e
    · rename_i hl
      cases e
      obtain ⟨a, vs, rfl, ha, ra⟩ := hp.sqL
      obtain ⟨b, us, rfl, hb, rb⟩ := hq.sqL
      exact .inr (.inr ⟨a, b, vs, us, rfl, rfl, ha, hb, by rw [ra.len, rb.len, ← line_eq]; exact hl, fun p hn => k _ _ (Gr.laid hn) (rep_lst R hn (ra.app rb))⟩)
    · cases e
  · cases e
theorem p_int2 {f : Int → Int → V} {g : PV → PV → Option PV} (hg : ∀ p q z, g p q = some z → ∃ i j, p = .int i ∧ q = .int j ∧ ∀ M H, Rep D M H (f i j) z) : OpP D (rI0 f) g := by
  intro M st H x y p q z Q R hp hq e k
  obtain ⟨i, j, rfl, rfl, r⟩ := hg p q z e
  exact ⟨i, j, hp.int, hq.int, k _ _ .refl (r M H)⟩
theorem p_int2C {C : Int → Int → Prop} {f : Int → Int → V} {g : PV → PV → Option PV} (hg : ∀ p q z, g p q = some z → ∃ i j, p = .int i ∧ q = .int j ∧ C i j ∧ ∀ M H, Rep D M H (f i j) z) : OpP D (rI C f) g := by
  intro M st H x y p q z Q R hp hq e k
  obtain ⟨i, j, rfl, rfl, c, r⟩ := hg p q z e
  exact ⟨i, j, hp.int, hq.int, c, k _ _ .refl (r M H)⟩
theorem p_sub : OpP D (rI0 fun i j => .int (i - j)) gSub := p_int2 fun p q z e => by
  unfold gSub at e; split at e
  · cases e; exact ⟨_, _, rfl, rfl, fun _ _ => .int _⟩
  · cases e
theorem p_lt : OpP D (rI0 fun i j => .bl (decide (i < j))) gLt := p_int2 fun p q z e => by
  unfold gLt at e; split at e
  · cases e; exact ⟨_, _, rfl, rfl, fun _ _ => .bl _⟩
  · cases e
theorem p_le : OpP D (rI0 fun i j => .bl (decide (i ≤ j))) gLe := p_int2 fun p q z e => by
  unfold gLe at e; split at e
  · cases e; exact ⟨_, _, rfl, rfl, fun _ _ => .bl _⟩
  · cases e
theorem p_gt : OpP D (rI0 fun i j => .bl (decide (j < i))) gGt := p_int2 fun p q z e => by
  unfold gGt at e; split at e
  · cases e; exact ⟨_, _, rfl, rfl, fun _ _ => .bl _⟩
  · cases e
theorem p_ge : OpP D (rI0 fun i j => .bl (decide (j ≤ i))) gGe := p_int2 fun p q z e => by
  unfold gGe at e; split at e
  · cases e; exact ⟨_, _, rfl, rfl, fun _ _ => .bl _⟩
  · cases e
def CDivL (_ j : Int) : Prop := j ≠ 0 ∧ j.natAbs.log2 < 9000
theorem p_div : OpP D (rI CDivL fun i j => .int (i.fdiv j)) gDiv := p_int2C fun p q z e => by
  unfold gDiv at e; split at e
  · split at e
    · rename_i c; cases e; exact ⟨_, _, rfl, rfl, c, fun _ _ => .int _⟩
    · cases e
  · cases e
theorem p_mod : OpP D (rI (fun _ j => j ≠ 0) fun i j => .int (i.fmod j)) gMod := p_int2C fun p q z e => by
  unfold gMod at e; split at e
  · split at e
    · rename_i c; cases e; exact ⟨_, _, rfl, rfl, c, fun _ _ => .int _⟩
    · cases e
  · cases e
theorem p_pow : OpP D (rI CPow fun i j => .int (i ^ j.toNat)) gPow := p_int2C fun p q z e => by
  unfold gPow at e; split at e
  · split at e
    · rename_i c; cases e; exact ⟨_, _, rfl, rfl, c, fun _ _ => .int _⟩
    · cases e
  · cases e
theorem p_neg : UnP D (rU fun i => .int (-i)) gNeg := by
  intro M st H x p z Q R hp e k
  unfold gNeg at e
  split at e
  · cases e; exact ⟨_, hp.int, k _ _ .refl (.int _)⟩
  · cases e
theorem p_mul : OpP D (rI IntMulOk fun i j => .int (i * j)) gMul := p_int2C fun p q z e => by
  unfold gMul at e; split at e
  · split at e
    · rename_i c; cases e; exact ⟨_, _, rfl, rfl, mulB_ok c, fun _ _ => .int _⟩
    · cases e
  · cases e
theorem peq_dp {M : Mx} {H : Hp} {x y : V} {p q : PV} {b : Bool} (hp : Sh D M H x p) (hq : Sh D M H y q) (e : peq p q = some b) : ∃ d e, Dp D.K H x d ∧ Dp D.K H y e ∧ SeqAt.shaped d = true ∧ SeqAt.shaped e = true ∧ PyData.eqv d e = b := by
  unfold peq at e
  split at e
  · rename_i d e' h1 h2
    split at e
    · rename_i c
      cases e
      exact ⟨d, e', hp.dp h1, hq.dp h2, c.1, c.2, rfl⟩
    · cases e
  · cases e
theorem p_eq : OpP D (rEqD D.K) gEq := by
  intro M st H x y p q z Q R hp hq e k
  obtain ⟨b, e1, rfl⟩ := lift2 e
  obtain ⟨d, f, h1, h2, h3, h4, rfl⟩ := peq_dp hp hq e1
  exact ⟨d, f, h1, h2, h3, h4, k _ _ .refl (.bl _)⟩
theorem p_ne : OpP D (rNeD D.K) gNe := by
  intro M st H x y p q z Q R hp hq e k
  obtain ⟨b, e1, rfl⟩ := lift2 e
  obtain ⟨d, f, h1, h2, h3, h4, rfl⟩ := peq_dp hp hq e1
  exact ⟨d, f, h1, h2, h3, h4, k _ _ .refl (.bl _)⟩
/-- x in a tuple of data -/
def rInT (K : PySem.W.Frag) (n : Bool) : R2 := fun x y H Q => ∃ d ds, Dp K H x d ∧ Dp K H y (.tuple ds) ∧ SeqAt.shaped d = true ∧ SeqAt.shaped (.list ds) = true ∧ Q (.bl (if n then !(ds.any fun z => PyData.eqv z d) else ds.any fun z => PyData.eqv z d)) H
abbrev rInC (n : Bool) : R2 := fun x y H Q => ∃ (c : Nat) (z : Str), x = .str ⟨#[c]⟩ ∧ y = .str z ∧ Q (.bl (if n then !decide (c ∈ z.cps.toList) else decide (c ∈ z.cps.toList))) H
def rInP (K : PySem.W.Frag) : R2 := fun x y H Q => rInD K x y H Q ∨ rInT K false x y H Q ∨ rInC false x y H Q
def rNotInP (K : PySem.W.Frag) : R2 := fun x y H Q => rNotInD K x y H Q ∨ rInT K true x y H Q ∨ rInC true x y H Q
theorem any_mem (l : List Nat) (n : Nat) : (l.any fun m => m == n) = decide (n ∈ l) := by
  rw [Bool.eq_iff_iff]
  simp
theorem toD_lst {xs : List PV} {d : PyData} (h : toD (.lst xs) = some d) : ∃ ds, d = .list ds := by
  unfold toD at h
  cases e : toDs xs with
  | none => rw [e] at h; cases h
  | some ds => rw [e] at h; exact ⟨ds, (Option.some.inj h).symm⟩
theorem toD_tup {xs : List PV} {d : PyData} (h : toD (.tup xs) = some d) : ∃ ds, d = .tuple ds := by
  unfold toD at h
  cases e : toDs xs with
  | none => rw [e] at h; cases h
  | some ds => rw [e] at h; exact ⟨ds, (Option.some.inj h).symm⟩
theorem in_cases {M : Mx} {H : Hp} {x y : V} {p q : PV} {b : Bool} (hp : Sh D M H x p) (hq : Sh D M H y q) (e : isIn p q = some b) :
    (∃ d ds, Dp D.K H x d ∧ Dp D.K H y (.list ds) ∧ SeqAt.shaped d = true ∧ SeqAt.shaped (.list ds) = true ∧ (ds.any fun z => PyData.eqv z d) = b) ∨
    (∃ d ds, Dp D.K H x d ∧ Dp D.K H y (.tuple ds) ∧ SeqAt.shaped d = true ∧ SeqAt.shaped (.list ds) = true ∧ (ds.any fun z => PyData.eqv z d) = b) ∨
    ∃ (c : Nat) (z : Str), x = .str ⟨#[c]⟩ ∧ y = .str z ∧ decide (c ∈ z.cps.toList) = b := by
  unfold isIn at e
  split at e
  · unfold pin at e
    split at e
    · rename_i h1 h2
      split at e
      · rename_i c
        cases e
        exact .inl ⟨_, _, hp.dp h1, hq.dp h2, c.1, c.2, rfl⟩
      · cases e
    · rename_i h1 h2
      obtain ⟨_, q⟩ := toD_lst h2
      cases q
    · cases e
  · unfold pin at e
    split at e
    · rename_i h1 h2
      obtain ⟨_, q⟩ := toD_tup h2
      cases q
    · rename_i h1 h2
      split at e
      · rename_i c
        cases e
        exact .inr (.inl ⟨_, _, hp.dp h1, hq.dp h2, c.1, c.2, rfl⟩)
      · cases e
    · cases e
  · rename_i z
    unfold sin at e
    split at e
    · rename_i c z' hz
      cases hz
      split at e
      · rename_i n hn
        cases e
        refine .inr (.inr ⟨n, z, ?_, hq.str, (any_mem _ _).symm⟩)
        rw [hp.str]
        congr 1
        obtain ⟨⟨l⟩⟩ := c
        have : l = [n] := hn
        rw [this]
      · cases e
    · rename_i h; cases h
    · rename_i h; cases h
    · cases e
  · cases e
theorem p_in : OpP D (rInP D.K) gIn := by
  intro M st H x y p q z Q R hp hq e k
  obtain ⟨b, e1, rfl⟩ := lift2 e
  rcases in_cases hp hq e1 with ⟨d, ds, h1, h2, h3, h4, rfl⟩ | ⟨d, ds, h1, h2, h3, h4, rfl⟩ | ⟨c, z, rfl, rfl, rfl⟩
  · exact .inl ⟨d, ds, h1, h2, h3, h4, k _ _ .refl (.bl _)⟩
  · exact .inr (.inl ⟨d, ds, h1, h2, h3, h4, k _ _ .refl (.bl _)⟩)
  · exact .inr (.inr ⟨c, z, rfl, rfl, k _ _ .refl (.bl _)⟩)
theorem p_notIn : OpP D (rNotInP D.K) gNotIn := by
  intro M st H x y p q z Q R hp hq e k
  obtain ⟨b, e1, rfl⟩ := lift2 e
  rcases in_cases hp hq e1 with ⟨d, ds, h1, h2, h3, h4, rfl⟩ | ⟨d, ds, h1, h2, h3, h4, rfl⟩ | ⟨c, z, rfl, rfl, rfl⟩
  · exact .inl ⟨d, ds, h1, h2, h3, h4, k _ _ .refl (.bl _)⟩
  · exact .inr (.inl ⟨d, ds, h1, h2, h3, h4, k _ _ .refl (.bl _)⟩)
  · exact .inr (.inr ⟨c, z, rfl, rfl, k _ _ .refl (.bl _)⟩)
theorem Sh.isNon {M : Mx} {H : Hp} {x : V} {p : PV} (h : Sh D M H x p) : decide (x = .non) = isNon p := by
  cases h with
  | rep h => cases h <;> rfl
  | lst a b => rfl
  | dct a b => rfl
  | obj a b c d => rfl
theorem p_is : OpP D (fun x y H Q => y = .non ∧ Q (.bl (decide (x = .non))) H) gIs := by
  intro M st H x y p q z Q R hp hq e k
  unfold gIs at e
  split at e
  · rename_i c
    cases e
    rw [← hq.isNon] at c
    exact ⟨of_decide_eq_true c, by rw [hp.isNon]; exact k _ _ .refl (.bl _)⟩
  · cases e
theorem p_isNot : OpP D (fun x y H Q => y = .non ∧ Q (.bl (!decide (x = .non))) H) gIsNot := by
  intro M st H x y p q z Q R hp hq e k
  unfold gIsNot at e
  split at e
  · rename_i c
    cases e
    rw [← hq.isNon] at c
    exact ⟨of_decide_eq_true c, by rw [hp.isNon]; exact k _ _ .refl (.bl _)⟩
  · cases e
theorem atI_reps {M : Mx} {H : Hp} {vs : List V} {ps : List PV} {i : Int} {p : PV} (r : Reps D M H vs ps) (h : atI ps i = some p) : ∃ v, atI vs i = some v ∧ Rep D M H v p := by
  unfold atI at h ⊢
  rw [← r.len] at h
  cases e : ixN vs.length i with
  | none => rw [e] at h; cases h
  | some j =>
    rw [e] at h
    obtain ⟨v, h1, h2⟩ := r.get (i := j) h
    exact ⟨v, h1, h2⟩
def rIxP (K : PySem.W.Frag) : R2 := fun x y H Q => rIxL K x y H Q ∨ rIxT K x y H Q ∨ rIxS x y H Q
theorem p_ix : OpP D (rIxP D.K) gIx := by
  intro M st H x y p q z Q R hp hq e k
  unfold gIx at e
  split at e
  · obtain ⟨a, vs, rfl, ha, ra⟩ := hp.sqL
    obtain ⟨v, h1, h2⟩ := atI_reps ra e
    exact .inl ⟨a, vs, _, v, rfl, hq.int, ha, h1, k _ _ .refl h2⟩
  · obtain ⟨a, vs, rfl, ha, ra⟩ := hp.sqT
    obtain ⟨v, h1, h2⟩ := atI_reps ra e
    exact .inr (.inl ⟨a, vs, _, v, rfl, hq.int, ha, h1, k _ _ .refl h2⟩)
  · split at e
    · rename_i s' i hl
      cases c : atI s'.cps.toList i with
      | none => rw [c] at e; cases e
      | some n =>
        rw [c] at e
        cases e
        exact .inr (.inr ⟨_, _, n, hp.str, hq.int, by rw [← line_eq]; exact hl, c, k _ _ .refl (.str _)⟩)
    · cases e
  · cases e
end
/-! ### the machine's side of the new readings -/
section
variable {X : Cx}
theorem OpR.or3 {f : Value → Value → Sem Value} {r r' r'' : R2} (h : OpR X f r) (h' : OpR X f r') (h'' : OpR X f r'') : OpR X f (fun x y H Q => r x y H Q ∨ r' x y H Q ∨ r'' x y H Q) := by
  intro pins s σ H x y v u Q I rx ry q
  rcases q with q | q | q
  · exact h pins s σ H x y v u Q I rx ry q
  · exact h' pins s σ H x y v u Q I rx ry q
  · exact h'' pins s σ H x y v u Q I rx ry q
theorem o_catTT : OpR X (binaryOp .Add) (rCatTT X.K) := by
  intro pins s σ H x y v u Q I rx ry h
  obtain ⟨a, b, xs, ys, rfl, rfl, ha, hb, hz, q0, q1, q2⟩ := h
  by_cases hx : xs = []
  · subst hx
    cases rx
    cases ry
    obtain ⟨its, r1, p1, _⟩ := I.tuple ha
    obtain ⟨its2, r2, p2, _⟩ := I.tuple hb
    cases r1
    obtain ⟨⟨c1, d1, e1, f1⟩, ho, hc, n, hd⟩ := id p1
    obtain ⟨⟨c2, d2, e2, f2⟩, ho2, hc2, n2, hd2⟩ := id p2
    simp only at hc hd hc2 hd2
    subst hc hd hc2 hd2
    refine concat_meets ⟨_, ho, rfl⟩ ⟨_, ho2, rfl⟩ noFill_tuple_add seq_tuple_add PySem.F.slot_tuple_add PySem.F.entry_tuple_add (PySem.F.args_tuple_add_2 _ _) (PyProof.Rows.tuple_addW0 a b _ _ n n2 d1 d2 f1 f2 rfl) ⟨ho, ho2, ?_⟩
    exact ⟨.ref b, H, I, rfl, q0 rfl⟩
  · exact op_catT pins s σ H _ _ v u Q I rx ry ⟨a, b, xs, ys, rfl, rfl, ha, hb, hx, hz, q1, fun _ => q2⟩
theorem o_catLL : OpR X (binaryOp .Add) (rCatLL X.K) := by
  intro pins s σ H x y v u Q I rx ry h
  obtain ⟨a, b, xs, ys, rfl, rfl, ha, hb, hz, q2⟩ := h
  cases rx
  cases ry
  obtain ⟨its, r1, p1, _⟩ := I.list ha
  obtain ⟨its2, r2, p2, _⟩ := I.list hb
  obtain ⟨⟨c1, d1, e1, f1⟩, n, ho, hc, hdn, hd⟩ := id p1
  obtain ⟨⟨c2, d2, e2, f2⟩, n2, ho2, hc2, hdn2, hd2⟩ := id p2
  simp only at hc hd hc2 hd2
  subst hc hd hc2 hd2
  have hl : its.toArray.size + its2.toArray.size ≤ sizeLine := by rw [List.size_toArray, List.size_toArray, ← r1.length, ← r2.length]; exact hz
  refine concat_meets ⟨_, ho, rfl⟩ ⟨_, ho2, rfl⟩ noFill_list_add seq_list_add PySem.F.slot_list_add PySem.F.entry_list_add (PySem.F.args_list_add_2 _ _) (PyProof.Rows.list_addW a b _ _ n n2 d1 d2 f1 f2 hl) ⟨ho, ho2, ?_⟩
  have r := r1.append r2
  rw [show its.toArray ++ its2.toArray = (its ++ its2).toArray by simp]
  exact ⟨.ref _, _, I.lnew (t' := s.toks) r (by rw [List.length_append]; exact hz), rfl, q2 _ I.fresh⟩
theorem o_add : OpR X (binaryOp .Add) (rAddP X.K) := (op_add.or op_add_str).or (o_catTT.or o_catLL)
theorem o_sub : OpR X (binaryOp .Sub) (rI0 fun i j => .int (i - j)) := op_sub
theorem o_mul : OpR X (binaryOp .Mult) (rI IntMulOk fun i j => .int (i * j)) := opI fun _ _ _ _ _ _ _ hc q => PyProof.Rows.mul_int q hc
theorem o_div : OpR X (binaryOp .FloorDiv) (rI CDivL fun i j => .int (i.fdiv j)) := opI fun _ _ _ _ _ _ _ hc q => PyProof.Rows.floordiv_int hc.1 q (.inl (PyProof.noPylong_of_log2 hc.2))
theorem o_inT (hu : X.A.units + 65 < cLine) : OpR X (compareOp .In) (rInT X.K false) := by
  intro pins s σ H x y v u Q I rx ry h
  obtain ⟨d, ds, hd, he, sd, se, q⟩ := h
  obtain ⟨as, r1⟩ := Dp.reads I d x v hd rx
  obtain ⟨bs, r2⟩ := Dp.reads I (.tuple ds) y u he ry
  exact SeqAt.in_tuple_reads r2 r1 (SeqAt.canLay_of_shaped se) (SeqAt.canLay_of_shaped sd) (PyProof.Rows.room_in_shaped sd hu) ⟨.bl _, H, I, rfl, q⟩
theorem o_notInT (hu : X.A.units + 65 < cLine) : OpR X (compareOp .NotIn) (rInT X.K true) := by
  intro pins s σ H x y v u Q I rx ry h
  obtain ⟨d, ds, hd, he, sd, se, q⟩ := h
  obtain ⟨as, r1⟩ := Dp.reads I d x v hd rx
  obtain ⟨bs, r2⟩ := Dp.reads I (.tuple ds) y u he ry
  exact SeqAt.notIn_tuple_reads r2 r1 (SeqAt.canLay_of_shaped se) (SeqAt.canLay_of_shaped sd) (PyProof.Rows.room_in_shaped sd hu) ⟨.bl _, H, I, rfl, q⟩
theorem o_in (hu : X.A.units + 65 < cLine) : OpR X (compareOp .In) (rInP X.K) := OpR.or3 (op_inD hu) (o_inT hu) op_in_sign
theorem o_notIn (hu : X.A.units + 65 < cLine) : OpR X (compareOp .NotIn) (rNotInP X.K) := OpR.or3 (op_notInD hu) (o_notInT hu) op_notIn_sign
theorem IxR.or3 {r r' r'' : R2} (h : IxR X r) (h' : IxR X r') (h'' : IxR X r'') : IxR X (fun x y H Q => r x y H Q ∨ r' x y H Q ∨ r'' x y H Q) := by
  intro value slice pins s σ H x y v u Q I rx ry q hs
  rcases q with q | q | q
  · exact h value slice pins s σ H x y v u Q I rx ry q hs
  · exact h' value slice pins s σ H x y v u Q I rx ry q hs
  · exact h'' value slice pins s σ H x y v u Q I rx ry q hs
theorem o_ix : IxR X (rIxP X.K) := IxR.or3 ix_list ix_tup ix_str
end
end Pu
set_option maxHeartbeats 4000000
namespace Pu
open PySem L2
/-! ### statements -/
inductive Fl where
  | nx (σ : Sl) | rt (r : RV) | bk (σ : Sl) | ct (σ : Sl)
abbrev XL := (PExc × Sl) × S
abbrev SM := Sl → S → T XL (Fl × S)
def inS {α : Type} (σ : Sl) (t : T XS α) : T XL α := t.mapE fun e => ((e.1, σ), e.2)
@[simp] theorem inS_ret {α : Type} {σ : Sl} {a : α} : inS σ (.ret a) = .ret a := rfl
def WpL {α : Type} (D : Wd) (W : WX) (M : Mx) (H : Hp) (t : T XL (α × S)) (R : α → S → Mx → Hp → Prop) : Prop :=
  t.wp (fun r => ∀ H' M', Step M H M' H' → Rel D M' r.2 H' → R r.1 r.2 M' H') (fun e => ∀ c d σV H' M', Step M H M' H' → Rel D M' e.2 H' → Slots D M' H' σV e.1.2 → XRep D M' H' c d e.1.1 → W c d σV H')
section
variable {α β : Type} {D : Wd} {W : WX} {M M0 : Mx} {H H0 : Hp}
theorem WpL.mono {t : T XL (α × S)} {R R' : α → S → Mx → Hp → Prop} (h : WpL D W M H t R) (f : ∀ a st M' H', Step M H M' H' → Rel D M' st H' → R a st M' H' → R' a st M' H') : WpL D W M H t R' :=
  T.wp_mono (fun r q H' M' s l => f _ _ _ _ s l (q H' M' s l)) (fun _ q => q) h
theorem WpL.from {t : T XL (α × S)} {R : α → S → Mx → Hp → Prop} (s0 : Step M0 H0 M H) (h : WpL D W M0 H0 t R) : WpL D W M H t R :=
  T.wp_mono (fun r q H' M' s l => q H' M' (s0.trans s) l) (fun e q c d σV H' M' s l z x => q c d σV H' M' (s0.trans s) l z x) h
theorem WpL.bind {t : T XL (α × S)} {f : α × S → T XL (β × S)} {R : β → S → Mx → Hp → Prop} (h : WpL D W M H (t.bind f) R) : WpL D W M H t (fun a st M1 H1 => WpL D W M1 H1 (f (a, st)) R) :=
  T.wp_mono (fun r q H' M' s l => WpL.from s q) (fun _ q => q) (T.wp_bind.mp h)
theorem WpL.out {t : T XS (α × S)} {σ : Sl} {σV : L2.St} {R : α → S → Mx → Hp → Prop} (S : Slots D M H σV σ) (h : WpL D W M H (inS σ t) R) : Wp D W M H σV t R :=
  T.wp_mono (fun _ q => q) (fun e q c d H' M' s l x => q c d σV H' M' s l (S.step s) x) (T.wp_mapE.mp h)
end
def endsR (D : Wd) (En : Ends) (M : Mx) (H : Hp) : Fl → Prop
  | .nx σ => ∀ σV, Slots D M H σV σ → En.nx σV H
  | .rt r => ∀ v, RRep D M H v r → En.rt v H
  | .bk σ => ∀ σV, Slots D M H σV σ → En.bk σV H
  | .ct σ => ∀ σV, Slots D M H σV σ → En.ct σV H
def liftS (D : Wd) (W : WX) (m : SM) : TS := fun En σV H => ∃ M σ st, Rel D M st H ∧ Slots D M H σV σ ∧ WpL D W M H (m σ st) fun f _ M' H' => endsR D En M' H' f
def sNext : SM := fun σ st => .ret (.nx σ, st)
def sExpr (a : EM) : SM := fun σ st => (inS σ (a σ st)).bind fun r => .ret (.nx σ, r.2)
def sSet (i : Nat) (a : EM) : SM := fun σ st => (inS σ (a σ st)).bind fun r => .ret (.nx (σ.set i (some r.1)), r.2)
def sRet (a : EM) : SM := fun σ st => (inS σ (a σ st)).bind fun r => .ret (.rt r.1, r.2)
def sRetN : SM := fun _ st => .ret (.rt (.pv .non), st)
def sBreak : SM := fun σ st => .ret (.bk σ, st)
def sCont : SM := fun σ st => .ret (.ct σ, st)
def sNever : SM := fun _ _ => .bad
def sSeq (a b : SM) : SM := fun σ st => (a σ st).bind fun f => match f.1 with
  | .nx σ' => b σ' f.2
  | o => .ret (o, f.2)
def sIf (c : BM) (a b : SM) : SM := fun σ st => (inS σ (c σ st)).bind fun r => if r.1 = true then a σ r.2 else b σ r.2
def sPar (i j : Nat) (as : AM) : SM := fun σ st => (inS σ (as σ st)).bind fun r => match r.1 with
  | [u, v] => .ret (.nx ((σ.set i (some u)).set j (some v)), r.2)
  | _ => .bad
def sPar3 (i j l : Nat) (as : AM) : SM := fun σ st => (inS σ (as σ st)).bind fun r => match r.1 with
  | [u, v, w] => .ret (.nx (((σ.set i (some u)).set j (some v)).set l (some w)), r.2)
  | _ => .bad
def whileM (c : BM) (body : SM) : Nat → Sl → S → T XL (Fl × S)
  | 0, _, _ => .bad
  | n + 1, σ, st => (inS σ (c σ st)).bind fun r => if r.1 = true then (body σ r.2).bind fun f => match f.1 with
      | .nx σ' => whileM c body n σ' f.2
      | .ct σ' => whileM c body n σ' f.2
      | .bk σ' => .ret (.nx σ', f.2)
      | .rt v => .ret (.rt v, f.2)
    else .ret (.nx σ, r.2)
def sWhile (n : Nat) (c : BM) (body : SM) : SM := fun σ st => whileM c body n σ st
/-! targets -/
abbrev GM := RV → Sl → S → T XL (Sl × S)
abbrev GMs := List RV → Sl → S → T XL (Sl × S)
def gN (i : Nat) : GM := fun r σ st => .ret (σ.set i (some r), st)
def gT (n : Nat) (gs : GMs) : GM := fun r σ st => match vw st r with
  | some (.tup xs) => if xs.length = n then gs (xs.map RV.pv) σ st else .bad
  | _ => .bad
def gsNil : GMs := fun rs σ st => match rs with
  | [] => .ret (σ, st)
  | _ => .bad
def gsCons (g : GM) (gs : GMs) : GMs := fun rs σ st => match rs with
  | r :: rs => (g r σ st).bind fun q => gs rs q.1 q.2
  | [] => .bad
def liftG (D : Wd) (W : WX) (g : GM) : TG := fun v σV H Q => ∃ M r σ st, Rel D M st H ∧ Slots D M H σV σ ∧ RRep D M H v r ∧ WpL D W M H (g r σ st) fun σ' _ M' H' => ∀ σV', Slots D M' H' σV' σ' → Q σV' H'
def liftGs (D : Wd) (W : WX) (g : GMs) : TGs := fun vs σV H Q => ∃ M rs σ st, Rel D M st H ∧ Slots D M H σV σ ∧ RReps D M H vs rs ∧ WpL D W M H (g rs σ st) fun σ' _ M' H' => ∀ σV', Slots D M' H' σV' σ' → Q σV' H'
def sAsg (a : EM) (g : GM) : SM := fun σ st => (inS σ (a σ st)).bind fun r => (g r.1 σ r.2).bind fun q => .ret (.nx q.1, q.2)
section
variable {D : Wd} {W : WX} {σ : L2.St} {H : Hp} {En : Ends}
theorem lift_next (h : liftS D W sNext En σ H) : tNext En σ H := by
  obtain ⟨M, s, st, R, S, h⟩ := h
  exact h H M .refl R σ S
theorem lift_expr {a : EM} (h : liftS D W (sExpr a) En σ H) : tDrop (lift D W a) En σ H := by
  obtain ⟨M, s, st, R, S, h⟩ := h
  exact ⟨M, s, st, R, S, (WpL.out S (WpL.bind h)).mono fun r st1 M1 H1 s1 R1 h1 v hv => h1 H1 M1 .refl R1 σ (S.step s1)⟩
theorem lift_set {i : Nat} {a : EM} (h : liftS D W (sSet i a) En σ H) : tAsg (lift D W a) (gName i) En σ H := by
  obtain ⟨M, s, st, R, S, h⟩ := h
  exact ⟨M, s, st, R, S, (WpL.out S (WpL.bind h)).mono fun r st1 M1 H1 s1 R1 h1 v hv => h1 H1 M1 .refl R1 _ ((S.step s1).set i hv)⟩
theorem lift_ret {a : EM} (h : liftS D W (sRet a) En σ H) : tRet (lift D W a) En σ H := by
  obtain ⟨M, s, st, R, S, h⟩ := h
  exact ⟨M, s, st, R, S, (WpL.out S (WpL.bind h)).mono fun r st1 M1 H1 s1 R1 h1 v hv => h1 H1 M1 .refl R1 v hv⟩
theorem lift_retN (h : liftS D W sRetN En σ H) : tRetN En σ H := by
  obtain ⟨M, s, st, R, S, h⟩ := h
  exact h H M .refl R .non .non
theorem lift_break (h : liftS D W sBreak En σ H) : tBreak En σ H := by
  obtain ⟨M, s, st, R, S, h⟩ := h
  exact h H M .refl R σ S
theorem lift_cont (h : liftS D W sCont En σ H) : tCont En σ H := by
  obtain ⟨M, s, st, R, S, h⟩ := h
  exact h H M .refl R σ S
theorem lift_never (h : liftS D W sNever En σ H) : tNever En σ H := by
  obtain ⟨M, s, st, R, S, h⟩ := h
  exact h
theorem lift_seq {a b : SM} (h : liftS D W (sSeq a b) En σ H) : tSeq (liftS D W a) (liftS D W b) En σ H := by
  obtain ⟨M, s, st, R, S, h⟩ := h
  refine ⟨M, s, st, R, S, (WpL.bind h).mono fun f st1 M1 H1 s1 R1 h1 => ?_⟩
  cases f with
  | nx σ' => exact fun σV hS => ⟨M1, σ', st1, R1, hS, h1⟩
  | rt r => exact h1 H1 M1 .refl R1
  | bk σ' => exact h1 H1 M1 .refl R1
  | ct σ' => exact h1 H1 M1 .refl R1
theorem lift_ifS {c : BM} {a b : SM} (h : liftS D W (sIf c a b) En σ H) : tIfS (liftB D W c) (liftS D W a) (liftS D W b) En σ H := by
  obtain ⟨M, s, st, R, S, h⟩ := h
  refine ⟨M, s, st, R, S, (WpL.out S (WpL.bind h)).mono fun k st1 M1 H1 s1 R1 h1 => ?_⟩
  dsimp only at h1
  split at h1
  · rename_i e; rw [if_pos e]; exact ⟨M1, s, st1, R1, S.step s1, h1⟩
  · rename_i e; rw [if_neg e]; exact ⟨M1, s, st1, R1, S.step s1, h1⟩
theorem lift_par {i j : Nat} {as : AM} (h : liftS D W (sPar i j as) En σ H) : tPar i j (liftA D W as) En σ H := by
  obtain ⟨M, s, st, R, S, h⟩ := h
  refine ⟨M, s, st, R, S, (WpL.out S (WpL.bind h)).mono fun rs st1 M1 H1 s1 R1 h1 vs hv => ?_⟩
  dsimp only at h1
  split at h1
  · cases hv with
    | cons a b =>
      cases b with
      | cons b c =>
        cases c
        exact ⟨_, _, rfl, h1 H1 M1 .refl R1 _ (((S.step s1).set i a).set j b)⟩
  · exact h1.elim
theorem lift_par3 {i j l : Nat} {as : AM} (h : liftS D W (sPar3 i j l as) En σ H) : tPar3 i j l (liftA D W as) En σ H := by
  obtain ⟨M, s, st, R, S, h⟩ := h
  refine ⟨M, s, st, R, S, (WpL.out S (WpL.bind h)).mono fun rs st1 M1 H1 s1 R1 h1 vs hv => ?_⟩
  dsimp only at h1
  split at h1
  · cases hv with
    | cons a b =>
      cases b with
      | cons b c =>
        cases c with
        | cons c d =>
          cases d
          exact ⟨_, _, _, rfl, h1 H1 M1 .refl R1 _ ((((S.step s1).set i a).set j b).set l c)⟩
  · exact h1.elim
theorem lift_while {n : Nat} {c : BM} {a : SM} (h : liftS D W (sWhile n c a) En σ H) : tWhile (liftB D W c) (liftS D W a) En σ H := by
  refine ⟨fun m σ H => liftS D W (sWhile m c a) En σ H, ⟨n, h⟩, ?_⟩
  intro m σ H h
  obtain ⟨M, s, st, R, S, h⟩ := h
  cases m with
  | zero => exact h.elim
  | succ m =>
    refine ⟨M, s, st, R, S, (WpL.out S (WpL.bind h)).mono fun k st1 M1 H1 s1 R1 h1 => ?_⟩
    dsimp only at h1
    split at h1
    · rename_i e
      rw [if_pos e]
      refine ⟨fun σ H => liftS D W (sWhile m c a) En σ H, fun σ' H' q => ⟨m, Nat.lt_succ_self _, q⟩, M1, s, st1, R1, S.step s1, (WpL.bind h1).mono fun f st2 M2 H2 s2 R2 h2 => ?_⟩
      cases f with
      | nx σ' => exact fun σV hS => ⟨M2, σ', st2, R2, hS, h2⟩
      | ct σ' => exact fun σV hS => ⟨M2, σ', st2, R2, hS, h2⟩
      | rt r => exact h2 H2 M2 .refl R2
      | bk σ' => exact h2 H2 M2 .refl R2
    · rename_i e
      rw [if_neg e]
      exact h1 H1 M1 .refl R1 σ (S.step s1)
theorem lift_gN {i : Nat} {v : V} {Q : L2.St → Hp → Prop} (h : liftG D W (gN i) v σ H Q) : gName i v σ H Q := by
  obtain ⟨M, r, s, st, R, S, hv, h⟩ := h
  exact h H M .refl R _ (S.set i hv)
theorem lift_gsNil {vs : List V} {Q : L2.St → Hp → Prop} (h : liftGs D W gsNil vs σ H Q) : gNil vs σ H Q := by
  obtain ⟨M, rs, s, st, R, S, hv, h⟩ := h
  unfold gsNil at h
  split at h
  · cases hv
    exact ⟨rfl, h H M .refl R _ S⟩
  · exact h.elim
theorem lift_gsCons {g : GM} {gs : GMs} {vs : List V} {Q : L2.St → Hp → Prop} (h : liftGs D W (gsCons g gs) vs σ H Q) : gCons (liftG D W g) (liftGs D W gs) vs σ H Q := by
  obtain ⟨M, rs, s, st, R, S, hv, h⟩ := h
  unfold gsCons at h
  split at h
  · cases hv with
    | cons a b =>
      refine ⟨_, _, rfl, M, _, s, st, R, S, a, (WpL.bind h).mono fun s2 st1 M1 H1 s1 R1 h1 σV hS => ?_⟩
      exact ⟨M1, _, s2, st1, R1, hS, RReps.step s1 b, h1⟩
  · exact h.elim
theorem lift_gT {n : Nat} {gs : GMs} {v : V} {Q : L2.St → Hp → Prop} (h : liftG D W (gT n gs) v σ H Q) : gTup D.K n (liftGs D W gs) v σ H Q := by
  obtain ⟨M, r, s, st, R, S, hv, h⟩ := h
  unfold gT at h
  split at h
  · rename_i xs e
    split at h
    · rename_i hl
      obtain ⟨a, vs, rfl, hq, hr⟩ := (vw_sh R hv e).sqT
      exact ⟨a, vs, rfl, hq, by rw [hr.len]; exact hl, M, _, s, st, R, S, rreps_map hr, h⟩
    · exact h.elim
  · exact h.elim
theorem lift_asg {a : EM} {g : GM} (h : liftS D W (sAsg a g) En σ H) : tAsg (lift D W a) (liftG D W g) En σ H := by
  obtain ⟨M, s, st, R, S, h⟩ := h
  refine ⟨M, s, st, R, S, (WpL.out S (WpL.bind h)).mono fun r st1 M1 H1 s1 R1 h1 v hv => ?_⟩
  exact ⟨M1, r, s, st1, R1, S.step s1, hv, (WpL.bind h1).mono fun s2 st2 M2 H2 st2' R2 h2 σV hS => h2 H2 M2 .refl R2 σV hS⟩
end
end Pu
set_option maxHeartbeats 4000000
namespace Pu
open PySem L2
/-! ### what is walked -/
abbrev IM := Sl → S → T XS (List PV × S)
/-- a walk over items that stay -/
def WalkP (D : Wd) (M : Mx) (H : Hp) (J : It) (xs : List PV) : Prop := ∃ (G : Hp → Prop) (Y : Nat → Hp → V → Hp → Prop), Walk J xs.length G Y ∧ (∀ M' H', Step M H M' H' → G H') ∧
  ∀ i H1 x H2 M1, Step M H M1 H1 → Y i H1 x H2 → (∃ st, Rel D M1 st H1) → Gr H1 H2 ∧ ∃ p, xs[i]? = some p ∧ Rep D M1 H2 x p
def liftI (D : Wd) (W : WX) (m : IM) : TI := fun σV H Q => ∃ M σ st, Rel D M st H ∧ Slots D M H σV σ ∧ Wp D W M H σV (m σ st) fun xs _ M' H' => ∀ J, WalkP D M' H' J xs → Q J H'
def iSeq (a : EM) : IM := fun σ st => (a σ st).bind fun r => match r.1 with
  | .pv (.lst xs) => .ret (xs, r.2)
  | .pv (.tup xs) => .ret (xs, r.2)
  | .pv (.str z) => .ret (z.cps.toList.map fun c => .str ⟨#[c]⟩, r.2)
  | _ => .bad
def iRange1 (as : AM) : IM := fun σ st => (as σ st).bind fun r => match r.1 with
  | [.pv (.int j)] => if -(2 ^ 62) ≤ j ∧ j < 2 ^ 62 then .ret ((List.range j.toNat).map fun i => .int (0 + Int.ofNat i), r.2) else .bad
  | _ => .bad
def iRange2 (as : AM) : IM := fun σ st => (as σ st).bind fun r => match r.1 with
  | [.pv (.int i), .pv (.int j)] => if -(2 ^ 62) ≤ i ∧ i < 2 ^ 62 ∧ -(2 ^ 62) ≤ j ∧ j < 2 ^ 62 then .ret ((List.range (j - i).toNat).map fun k => .int (i + Int.ofNat k), r.2) else .bad
  | _ => .bad
def zipP (xs ys : List PV) : List PV := List.zipWith (fun x y => PV.tup [x, y]) xs ys
def iZip2 (as : AM) : IM := fun σ st => (as σ st).bind fun r => match r.1 with
  | [.pv (.lst xs), .pv (.lst ys)] => .ret (zipP xs ys, r.2)
  | [.pv (.tup xs), .pv (.tup ys)] => .ret (zipP xs ys, r.2)
  | _ => .bad
def enumFrom : Nat → List PV → List PV
  | _, [] => []
  | n, x :: xs => .tup [.int (Int.ofNat n), x] :: enumFrom (n + 1) xs
def iEnumL (as : AM) : IM := fun σ st => (as σ st).bind fun r => match r.1 with
  | [.pv (.lst xs)] => .ret (enumFrom 0 xs, r.2)
  | _ => .bad
section
variable {D : Wd} {M : Mx} {H : Hp}
theorem walkP_list {a : Addr} {vs : List V} {xs : List PV} (h : FL D M H a vs) (r : Reps D M H vs xs) : WalkP D M H (Itl D.K a) xs := by
  refine ⟨_, _, by rw [← r.len]; exact walk_list (xs := vs), fun M' H' s => (h.step s).sq, fun i H1 x H2 M1 s y _ => ?_⟩
  obtain ⟨rfl, e⟩ := y
  obtain ⟨p, h1, h2⟩ := (r.step s).get' e
  exact ⟨.refl, p, h1, h2⟩
theorem walkP_tup {a : Addr} {vs : List V} {xs : List PV} (h : FT D M H a vs) (r : Reps D M H vs xs) : WalkP D M H (Itt D.K a) xs := by
  refine ⟨_, _, by rw [← r.len]; exact walk_tup (xs := vs), fun M' H' s => (h.step s).sq, fun i H1 x H2 M1 s y _ => ?_⟩
  obtain ⟨rfl, e⟩ := y
  obtain ⟨p, h1, h2⟩ := (r.step s).get' e
  exact ⟨.refl, p, h1, h2⟩
theorem walkP_str {z : Str} : WalkP D M H (Its z) (z.cps.toList.map fun c => PV.str ⟨#[c]⟩) := by
  refine ⟨_, _, by rw [List.length_map, Array.length_toList]; exact walk_str (z := z), fun M' H' s => trivial, fun i H1 x H2 M1 s y _ => ?_⟩
  obtain ⟨rfl, c, e, rfl⟩ := y
  refine ⟨.refl, _, ?_, .str _⟩
  rw [List.getElem?_map, Array.getElem?_toList, e]
  rfl
theorem walkP_range {lo : Int} {n : Nat} : WalkP D M H (Itr lo n) ((List.range n).map fun k => PV.int (lo + Int.ofNat k)) := by
  refine ⟨_, fun i H x H' => H' = H ∧ x = .int (lo + i) ∧ i < n, ?_, fun M' H' s => trivial, fun i H1 x H2 M1 s y _ => ?_⟩
  · rw [List.length_map, List.length_range]
    exact (walk_range (lo := lo) (n := n)).mono (fun _ h => h) fun i H x H' hi _ y => ⟨y.1, y.2, hi⟩
  · obtain ⟨rfl, rfl, hi⟩ := y
    refine ⟨.refl, .int (lo + Int.ofNat i), ?_, .int _⟩
    rw [List.getElem?_map, List.getElem?_range hi]
    rfl
theorem pair_new {M1 : Mx} {st : S} {H1 : Hp} (R : Rel D M1 st H1) {T : Addr} (hT : H1 T = none) {x y : V} {p q : PV} (hx : Rep D M1 H1 x p) (hy : Rep D M1 H1 y q) : Rep D M1 (upd H1 T (.tup [x, y])) (.ref T) (.tup [p, q]) :=
  rep_tup R hT (.cons hx (.cons hy .nil))
theorem zip_len (xs ys : List PV) : (zipP xs ys).length = min xs.length ys.length := by unfold zipP; exact List.length_zipWith
theorem zip_get {xs ys : List PV} {i : Nat} {p q : PV} (h1 : xs[i]? = some p) (h2 : ys[i]? = some q) : (zipP xs ys)[i]? = some (.tup [p, q]) := by
  unfold zipP
  rw [List.getElem?_zipWith, h1, h2]
theorem walkP_zipL {a b : Addr} {vs us : List V} {xs ys : List PV} (ha : FL D M H a vs) (hb : FL D M H b us) (ra : Reps D M H vs xs) (rb : Reps D M H us ys) : WalkP D M H (Itz D.K a b) (zipP xs ys) := by
  refine ⟨_, _, by rw [zip_len, ← ra.len, ← rb.len]; exact walk_zip (xs := vs) (ys := us) rfl, fun M' H' s => And.intro (ha.step s).sq (hb.step s).sq, fun i H1 x H2 M1 s y ⟨st, R⟩ => ?_⟩
  obtain ⟨T, u, v, rfl, hT, rfl, e1, e2⟩ := y
  obtain ⟨p, h1, h2⟩ := (ra.step s).get' e1
  obtain ⟨q, h3, h4⟩ := (rb.step s).get' e2
  exact ⟨Gr.laid hT, _, zip_get h1 h3, pair_new R hT h2 h4⟩
theorem walk_zipTT {K : PySem.W.Frag} {a b : Addr} {xs ys : List V} {n : Nat} (hn : n = min xs.length ys.length) : Walk (RZ.ItzT K a b) n (fun H => SqT K H a xs ∧ SqT K H b ys) (YPair (fun i => xs[i]?) (fun i => ys[i]?)) := by
  refine ⟨fun i H hi q => ⟨xs, ys, xs[i]'(by omega), ys[i]'(by omega), q.1, q.2, by simp [show i < xs.length by omega], by simp [show i < ys.length by omega]⟩, fun H q => ⟨xs, ys, q.1, q.2, by omega⟩, fun i H x H' _ q y => ?_⟩
  obtain ⟨T, u, v, e, hT, eH, h1, h2⟩ := y
  exact ⟨T, u, v, e, hT, eH, h1 xs q.1, h2 ys q.2⟩
theorem walkP_zipT {a b : Addr} {vs us : List V} {xs ys : List PV} (ha : FT D M H a vs) (hb : FT D M H b us) (ra : Reps D M H vs xs) (rb : Reps D M H us ys) : WalkP D M H (RZ.ItzT D.K a b) (zipP xs ys) := by
  refine ⟨_, _, by rw [zip_len, ← ra.len, ← rb.len]; exact walk_zipTT (xs := vs) (ys := us) rfl, fun M' H' s => And.intro (ha.step s).sq (hb.step s).sq, fun i H1 x H2 M1 s y ⟨st, R⟩ => ?_⟩
  obtain ⟨T, u, v, rfl, hT, rfl, e1, e2⟩ := y
  obtain ⟨p, h1, h2⟩ := (ra.step s).get' e1
  obtain ⟨q, h3, h4⟩ := (rb.step s).get' e2
  exact ⟨Gr.laid hT, _, zip_get h1 h3, pair_new R hT h2 h4⟩
theorem enum_get : ∀ {n : Nat} {xs : List PV} {i : Nat} {p : PV}, xs[i]? = some p → (enumFrom n xs)[i]? = some (.tup [.int (Int.ofNat (n + i)), p])
  | _, [], _, _, h => by simp at h
  | n, x :: xs, 0, p, h => by simp at h; subst h; rfl
  | n, x :: xs, i + 1, p, h => by
    have := enum_get (n := n + 1) (i := i) (by simpa using h)
    rw [show n + (i + 1) = n + 1 + i by omega]
    simpa [enumFrom] using this
theorem enum_len : ∀ (n : Nat) (xs : List PV), (enumFrom n xs).length = xs.length
  | _, [] => rfl
  | n, x :: xs => congrArg Nat.succ (enum_len (n + 1) xs)
theorem walkP_enum {a : Addr} {vs : List V} {xs : List PV} (ha : FL D M H a vs) (ra : Reps D M H vs xs) : WalkP D M H (Ite D.K a) (enumFrom 0 xs) := by
  refine ⟨_, _, by rw [enum_len, ← ra.len]; exact walk_enum (xs := vs), fun M' H' s => (ha.step s).sq, fun i H1 x H2 M1 s y ⟨st, R⟩ => ?_⟩
  obtain ⟨T, u, v, rfl, hT, rfl, e1, e2⟩ := y
  cases e1
  obtain ⟨p, h1, h2⟩ := (ra.step s).get' e2
  have := enum_get (n := 0) h1
  rw [Nat.zero_add] at this
  exact ⟨Gr.laid hT, _, this, pair_new R hT (.int _) h2⟩
variable {W : WX} {σ : L2.St} {Q : It → Hp → Prop}
/-- list, tuple or text -/
def iAny (K : PySem.W.Frag) (te : TE) : TI := fun σ H R => te σ H fun v H1 => (∃ a, v = .ref a ∧ (∃ xs, SqL K H1 a xs) ∧ R (Itl K a) H1) ∨ (∃ a, v = .ref a ∧ (∃ xs, SqT K H1 a xs) ∧ R (Itt K a) H1) ∨ ∃ z, v = .str z ∧ R (Its z) H1
theorem lift_iSeq {a : EM} (h : liftI D W (iSeq a) σ H Q) : iAny D.K (lift D W a) σ H Q := by
  obtain ⟨M, s, st, R, S, h⟩ := h
  refine ⟨M, s, st, R, S, (Wp.bind h).mono fun r st1 M1 H1 s1 R1 h1 v hv => ?_⟩
  dsimp only at h1
  split at h1
  · cases hv with
    | lst a b => exact .inl ⟨_, rfl, ⟨_, a.sq⟩, h1 H1 M1 .refl R1 _ (walkP_list a b)⟩
  · cases hv with
    | tup a b => exact .inr (.inl ⟨_, rfl, ⟨_, a.sq⟩, h1 H1 M1 .refl R1 _ (walkP_tup a b)⟩)
  · cases hv
    exact .inr (.inr ⟨_, rfl, h1 H1 M1 .refl R1 _ walkP_str⟩)
  · exact h1.elim
theorem vals_one {M : Mx} {H : Hp} {vs : List V} {r : RV} (h : RReps D M H vs [r]) : ∃ v, vs = [v] ∧ RRep D M H v r := by
  cases h with
  | cons a b => cases b; exact ⟨_, rfl, a⟩
theorem vals_two {M : Mx} {H : Hp} {vs : List V} {r q : RV} (h : RReps D M H vs [r, q]) : ∃ v u, vs = [v, u] ∧ RRep D M H v r ∧ RRep D M H u q := by
  cases h with
  | cons a b => obtain ⟨u, rfl, hu⟩ := vals_one b; exact ⟨_, u, rfl, a, hu⟩
theorem rint {M : Mx} {H : Hp} {v : V} {i : Int} (h : RRep D M H v (.pv (.int i))) : v = .int i := by cases h; rfl
theorem lift_iRange1 {as : AM} (h : liftI D W (iRange1 as) σ H Q) : iRng1 (liftA D W as) σ H Q := by
  obtain ⟨M, s, st, R, S, h⟩ := h
  refine ⟨M, s, st, R, S, (Wp.bind h).mono fun r st1 M1 H1 s1 R1 h1 vs hv => ?_⟩
  dsimp only at h1
  split at h1
  · obtain ⟨v, rfl, h2⟩ := vals_one hv
    rw [rint h2]
    split at h1
    · rename_i c
      exact ⟨_, rfl, c.1, c.2, h1 H1 M1 .refl R1 _ walkP_range⟩
    · exact h1.elim
  · exact h1.elim
theorem lift_iRange2 {as : AM} (h : liftI D W (iRange2 as) σ H Q) : iRng2 (liftA D W as) σ H Q := by
  obtain ⟨M, s, st, R, S, h⟩ := h
  refine ⟨M, s, st, R, S, (Wp.bind h).mono fun r st1 M1 H1 s1 R1 h1 vs hv => ?_⟩
  dsimp only at h1
  split at h1
  · obtain ⟨v, u, rfl, h2, h3⟩ := vals_two hv
    rw [rint h2, rint h3]
    split at h1
    · rename_i c
      exact ⟨_, _, rfl, c, h1 H1 M1 .refl R1 _ walkP_range⟩
    · exact h1.elim
  · exact h1.elim
theorem lift_iZip {as : AM} (h : liftI D W (iZip2 as) σ H Q) : RZ.iZipA D.K (liftA D W as) σ H Q := by
  obtain ⟨M, s, st, R, S, h⟩ := h
  refine ⟨M, s, st, R, S, (Wp.bind h).mono fun r st1 M1 H1 s1 R1 h1 vs hv => ?_⟩
  dsimp only at h1
  split at h1
  · obtain ⟨v, u, rfl, h2, h3⟩ := vals_two hv
    cases h2 with
    | lst a b => cases h3 with
      | lst c d => exact ⟨_, _, _, _, rfl, .inl ⟨a.sq, c.sq, h1 H1 M1 .refl R1 _ (walkP_zipL a c b d)⟩⟩
  · obtain ⟨v, u, rfl, h2, h3⟩ := vals_two hv
    cases h2 with
    | tup a b => cases h3 with
      | tup c d => exact ⟨_, _, _, _, rfl, .inr ⟨a.sq, c.sq, h1 H1 M1 .refl R1 _ (walkP_zipT a c b d)⟩⟩
  · exact h1.elim
theorem lift_iEnum {as : AM} (h : liftI D W (iEnumL as) σ H Q) : iEnum D.K (liftA D W as) σ H Q := by
  obtain ⟨M, s, st, R, S, h⟩ := h
  refine ⟨M, s, st, R, S, (Wp.bind h).mono fun r st1 M1 H1 s1 R1 h1 vs hv => ?_⟩
  dsimp only at h1
  split at h1
  · obtain ⟨v, rfl, h2⟩ := vals_one hv
    cases h2 with
    | lst a b => exact ⟨_, _, rfl, a.sq, h1 H1 M1 .refl R1 _ (walkP_enum a b)⟩
  · exact h1.elim
end
/-! ### for -/
def forM (g : GM) (body : SM) : List PV → Sl → S → T XL (Fl × S)
  | [], σ, st => .ret (.nx σ, st)
  | x :: xs, σ, st => (g (.pv x) σ st).bind fun q => (body q.1 q.2).bind fun f => match f.1 with
    | .nx σ' => forM g body xs σ' f.2
    | .ct σ' => forM g body xs σ' f.2
    | .bk σ' => .ret (.nx σ', f.2)
    | .rt r => .ret (.rt r, f.2)
def sFor (it : IM) (g : GM) (body : SM) : SM := fun σ st => (inS σ (it σ st)).bind fun r => forM g body r.1 σ r.2
section
variable {D : Wd} {W : WX} {σ : L2.St} {H : Hp} {En : Ends}
theorem lift_for {it : IM} {g : GM} {a : SM} (h : liftS D W (sFor it g a) En σ H) : tFor (liftI D W it) (liftG D W g) (liftS D W a) En σ H := by
  obtain ⟨M, s, st, R, S, h⟩ := h
  refine ⟨M, s, st, R, S, (WpL.out S (WpL.bind h)).mono fun xs st1 M1 H1 s1 R1 h1 J hJ => ?_⟩
  obtain ⟨G, Y, w, hG, hY⟩ := hJ
  refine for_it w (fun i σ H => ∃ M' s' st', Step M1 H1 M' H ∧ Rel D M' st' H ∧ Slots D M' H σ s' ∧ WpL D W M' H (forM g a (xs.drop i) s' st') fun f _ M' H' => endsR D En M' H' f) ⟨M1, s, st1, .refl, R1, S.step s1, h1⟩ (fun i σ H _ ⟨M', s', st', q, _⟩ => hG M' H q) ?_ ?_
  · rintro i x σ2 H2 H3 hi ⟨M2, s2, st2, s12, R2, S2, h2⟩ y
    obtain ⟨gr, p, hp, rp⟩ := hY i H2 x H3 M2 s12 y ⟨st2, R2⟩
    obtain ⟨s23, R3⟩ := R2.step gr
    have e : xs.drop i = p :: xs.drop (i + 1) := by
      obtain ⟨hi', e⟩ := List.getElem?_eq_some_iff.mp hp
      rw [List.drop_eq_getElem_cons hi', e]
    rw [e] at h2
    refine ⟨M2, .pv p, s2, st2, R3, S2.step s23, rp, (WpL.bind (WpL.from s23 h2)).mono fun s4 st4 M4 H4 s34 R4 h4 σ4 S4 => ?_⟩
    refine ⟨M4, s4, st4, R4, S4, (WpL.bind h4).mono fun f st5 M5 H5 s45 R5 h5 => ?_⟩
    have s15 := s12.trans (s23.trans (s34.trans s45))
    cases f with
    | nx σ' => exact fun σV hS => ⟨M5, σ', st5, s15, R5, hS, h5⟩
    | ct σ' => exact fun σV hS => ⟨M5, σ', st5, s15, R5, hS, h5⟩
    | rt r => exact h5 H5 M5 .refl R5
    | bk σ' => exact h5 H5 M5 .refl R5
  · rintro σ2 H2 ⟨M2, s2, st2, s12, R2, S2, h2⟩
    rw [List.drop_length] at h2
    exact h2 H2 M2 .refl R2 σ2 S2
end
end Pu
set_option maxHeartbeats 4000000
namespace Pu
open PySem L2
/-! ### comprehensions -/
def WF : WX := fun _ _ _ _ => False
namespace T
def noX {ε ε' α : Type} : T ε α → T ε' α
  | .ret a => .ret a
  | .exc _ => .bad
  | .ch n k => .ch n fun i => noX (k i)
  | .bad => .bad
@[simp] theorem noX_ret {ε ε' α : Type} {a : α} : noX (.ret a : T ε α) = (.ret a : T ε' α) := rfl
theorem wp_noX {ε ε' α : Type} {Q : α → Prop} {E : ε' → Prop} : ∀ {t : T ε α}, (noX t).wp Q E ↔ t.wp Q (fun _ => False)
  | .ret a => Iff.rfl
  | .exc e => Iff.rfl
  | .ch n k => ⟨fun h i hi => wp_noX.mp (h i hi), fun h i hi => wp_noX.mpr (h i hi)⟩
  | .bad => Iff.rfl
end T
theorem Wp.noX {α : Type} {D : Wd} {W : WX} {M : Mx} {H : Hp} {σ σ' : L2.St} {t : T XS (α × S)} {R : α → S → Mx → Hp → Prop} (h : Wp D W M H σ (T.noX t) R) : Wp D WF M H σ' t R :=
  T.wp_mono (fun _ q => q) (fun _ q => q.elim) (T.wp_noX.mp h)
/-- a target in a comprehension: a name, or a row of names -/
inductive Tg where
  | one (i : Nat) | tup (is : List Nat)
def Tg.sl : Tg → List Nat
  | .one i => [i]
  | .tup is => is
def sets : Sl → List Nat → List PV → Sl
  | σ, i :: is, x :: xs => sets (σ.set i (some (.pv x))) is xs
  | σ, _, _ => σ
def Tg.put : Tg → PV → Sl → Option Sl
  | .one i, p, σ => some (σ.set i (some (.pv p)))
  | .tup is, .tup xs, σ => if xs.length = is.length then some (sets σ is xs) else none
  | _, _, _ => none
def wipeS (σ : Sl) : List Nat → Sl
  | [] => σ
  | v :: vs => (wipeS σ vs).set v none
def gsOf : List Nat → TGs
  | [] => gNil
  | i :: is => gCons (gName i) (gsOf is)
def Tg.rd (K : PySem.W.Frag) : Tg → TG
  | .one i => gName i
  | .tup is => gTup K is.length (gsOf is)
def lcM (t : Tg) (c : BM) (e : EM) (σ : Sl) : List PV → S → List PV → T XS (List PV × S)
  | [], st, acc => .ret (acc, st)
  | x :: xs, st, acc => match t.put x σ with
    | some σ2 => (c σ2 st).bind fun b => if b.1 = true then (e σ2 b.2).bind fun r => match r.1 with
        | .pv p => if acc.length < lineN then lcM t c e σ xs r.2 (acc ++ [p]) else .bad
        | _ => .bad
      else lcM t c e σ xs b.2 acc
    | none => .bad
def bYes : BM := fun _ st => .ret (true, st)
def eLc (it : IM) (t : Tg) (vs : List Nat) (c : BM) (e : EM) : EM := fun σ st => (it σ st).bind fun r => (T.noX (lcM t c e (wipeS σ vs) r.1 r.2 [])).bind fun q => .ret (.pv (.lst q.1), q.2)
def eLcM (it : IM) (t : Tg) (vs : List Nat) (c : BM) (e : EM) : EM := fun σ st => (it σ st).bind fun r => (T.noX (lcM t c e (wipeS σ vs) r.1 r.2 [])).bind fun q => .ret (.loc q.2.length, q.2 ++ [.lst (q.1.map RV.pv)])
theorem wipe_set (σ : L2.St) (i : Nat) (o : Option V) : ∀ vs : List Nat, wipe (σ.set i o) vs = if i ∈ vs then wipe σ vs else (wipe σ vs).set i o
  | [] => by simp [wipe]
  | v :: vs => by
    unfold wipe
    rw [wipe_set σ i o vs]
    by_cases h : i = v
    · subst h
      by_cases h2 : i ∈ vs
      · simp [h2]
      · simp [h2]
    · by_cases h2 : i ∈ vs
      · simp [h2]
      · simp only [h2, if_false, List.mem_cons, h, or_self]
        rw [List.set_comm _ _ h]
theorem wipe_idem (σ : L2.St) (vs : List Nat) : wipe (wipe σ vs) vs = wipe σ vs := by
  have key : ∀ us : List Nat, (∀ u ∈ us, u ∈ vs) → wipe (wipe σ us) vs = wipe σ vs := by
    intro us
    induction us with
    | nil => intro _; rfl
    | cons u us ih =>
      intro h
      show wipe ((wipe σ us).set u none) vs = _
      rw [wipe_set, if_pos (h u (by simp))]
      exact ih fun w hw => h w (by simp [hw])
  exact key vs fun u hu => hu
section
variable {D : Wd} {M : Mx} {H : Hp}
theorem Slots.wipe {σV : L2.St} {σ : Sl} (h : Slots D M H σV σ) : ∀ vs : List Nat, Slots D M H (L2.wipe σV vs) (wipeS σ vs)
  | [] => h
  | v :: vs => (Slots.wipe h vs).del v none
theorem put_sets {us : List Nat} {Q : L2.St → Hp → Prop} : ∀ {is : List Nat} {vs : List V} {xs : List PV} {σV : L2.St} {σ : Sl}, (∀ i ∈ is, i ∈ us) → is.length = xs.length → Reps D M H vs xs → Slots D M H σV σ →
    (∀ σV', Slots D M H σV' (sets σ is xs) → L2.wipe σV' us = L2.wipe σV us → Q σV' H) → gsOf is vs σV H Q
  | [], _, [], σV, σ, _, _, .nil, S, k => ⟨rfl, k σV S rfl⟩
  | i :: is, _, x :: xs, σV, σ, hu, hl, .cons a b, S, k => by
    refine ⟨_, _, rfl, ?_⟩
    refine put_sets (is := is) (σ := σ.set i (some (.pv x))) (fun j hj => hu j (by simp [hj])) (by simpa using hl) b (S.set i (r := .pv x) a) fun σV' S' e => k σV' S' ?_
    rw [e, wipe_set, if_pos (hu i (by simp))]
  | [], _, _ :: _, _, _, _, hl, _, _, _ => by simp at hl
  | _ :: _, _, [], _, _, _, hl, _, _, _ => by simp at hl
theorem put_rd {t : Tg} {p : PV} {v : V} {σV : L2.St} {σ σ2 : Sl} {Q : L2.St → Hp → Prop} (e : t.put p σ = some σ2) (r : Rep D M H v p) (S : Slots D M H σV σ)
    (k : ∀ σV', Slots D M H σV' σ2 → L2.wipe σV' t.sl = L2.wipe σV t.sl → Q σV' H) : t.rd D.K v σV H Q := by
  cases t with
  | one i =>
    cases e
    exact k _ (S.set i (r := .pv p) r) (by rw [wipe_set, if_pos (by simp [Tg.sl])])
  | tup is =>
    cases p with
    | tup xs =>
      simp only [Tg.put] at e
      split at e
      · rename_i hl
        cases e
        cases r with
        | tup a b => exact ⟨_, _, rfl, a.sq, by rw [b.len]; exact hl, put_sets (us := is) (fun i h => h) hl.symm b S k⟩
      · cases e
    | _ => cases e
/-- a tracked address set apart -/
def Mx.hide (M : Mx) (a : Addr) : Mx := { M with φ := a :: M.φ }
theorem Rel.hide {st : S} (R : Rel D M st H) {d : Addr} {o : HO} (hd : H d = none) : Step M H (M.hide d) (upd H d o) ∧ Rel D (M.hide d) st (upd H d o) := by
  have keep : ∀ a u, H a = some u → upd H d o a = some u := fun a u e => by rw [upd_ne (ne_of_none e hd)]; exact e
  have s : Step M H (M.hide d) (upd H d o) := ⟨⟨[], by simp [Mx.hide], by simp⟩, ⟨[], by simp [Mx.hide], by simp⟩, ⟨fun a h => List.mem_cons_of_mem _ h, fun a h => (List.mem_cons.mp h).elim (fun q => .inr (by rw [q]; exact hd)) .inl⟩, fun a u e _ _ => keep a u e, fun a u e => ⟨u, keep a u e⟩, rfl⟩
  have out := R.free hd
  refine ⟨s, ⟨R.nd, R.dj, R.len, fun i a ob h1 h2 => (R.ob i a ob h1 h2).step s (keep a), fun b hb => (R.bx b hb).step s (keep b), fun a ha => ?_, fun a ha => ?_, R.hx, R.tb⟩⟩
  · rcases List.mem_cons.mp ha with q | q
    · rw [q]; exact ⟨o, upd_same⟩
    · obtain ⟨u, e⟩ := R.fr a q
      exact ⟨u, keep _ _ e⟩
  · rcases List.mem_cons.mp ha with q | q
    · rw [q]; exact ⟨out.1, out.2.1⟩
    · exact R.fd a q
section
variable {d : Addr} {o : HO} (hd : d ∈ M.φ)
include hd
theorem rd_chg {a : Addr} {u : HO} (q : M.out a) (h : Rd H a u) : Rd (upd H d o) a u := by
  have ne : a ≠ d := fun z => q.2.2 (by rw [z]; exact hd)
  rcases h with h | ⟨ob, h⟩
  · exact .inl (by rw [upd_ne ne]; exact h)
  · exact .inr ⟨ob, by rw [upd_ne ne]; exact h⟩
mutual
theorem Rep.chg : ∀ {v : V} {p : PV}, Rep D M H v p → Rep D M (upd H d o) v p
  | _, _, .non => .non
  | _, _, .bl b => .bl b
  | _, _, .int i => .int i
  | _, _, .str x => .str x
  | _, _, .ty n => .ty n
  | _, _, .box h t => .box h t
  | _, _, .cls a b => .cls a b
  | _, _, .tup a r => .tup (a.elim (fun h => .inl ⟨h.1, rd_chg hd h.1 h.2⟩) .inr) (Reps.chg r)
  | _, _, .lst a r => .lst (a.elim (fun h => .inl ⟨h.1, rd_chg hd h.1 h.2⟩) .inr) (Reps.chg r)
  | _, _, .dct a c r => .dct a (rd_chg hd a c) (Repd.chg r)
  | _, _, .obj a c e f r => .obj a (by rw [upd_ne (fun z => a.2.2 (by rw [z]; exact hd))]; exact c) e f (Repf.chg r)
  | _, _, .fn a c e r => .fn a c (by rw [upd_ne (fun z => c.2.2 (by rw [z]; exact hd))]; exact e) (Reps.chg r)
theorem Reps.chg : ∀ {v : List V} {p : List PV}, Reps D M H v p → Reps D M (upd H d o) v p
  | _, _, .nil => .nil
  | _, _, .cons a r => .cons (Rep.chg a) (Reps.chg r)
theorem Repd.chg : ∀ {v : List (Key × V)} {p : List (Key × PV)}, Repd D M H v p → Repd D M (upd H d o) v p
  | _, _, .nil => .nil
  | _, _, .cons a r => .cons (Rep.chg a) (Repd.chg r)
theorem Repf.chg : ∀ {v : List (Str × V)} {p : List (Nat × PV)}, Repf D M H v p → Repf D M (upd H d o) v p
  | _, _, .nil => .nil
  | _, _, .cons a c r => .cons a (Rep.chg c) (Repf.chg r)
end
theorem RRep.chg {v : V} : ∀ {r : RV}, RRep D M H v r → RRep D M (upd H d o) v r
  | .pv p, h => Rep.chg hd h
  | .loc i, h => h
  | .exc c fs, ⟨a, C, nm, dd, e1, e2, e3, e4, e5⟩ => ⟨a, C, nm, dd, e1, e2, e3, e4, match dd, e5 with
    | none, e5 => e5
    | some dx, ⟨vs, k1, k2, k3⟩ => ⟨vs, by rw [upd_ne (fun z => k2.2.2 (by rw [z]; exact hd))]; exact k1, k2, Repf.chg hd k3⟩⟩
end
/-- what is set apart may change -/
theorem Rel.chg {st : S} (R : Rel D M st H) {d : Addr} {o : HO} (hd : d ∈ M.φ) : Rel D M st (upd H d o) := by
  obtain ⟨n1, n2⟩ := R.fd d hd
  refine ⟨R.nd, R.dj, R.len, fun i a ob h1 h2 => ?_, fun b hb => ?_, fun a ha => ?_, R.fd, R.hx, R.tb⟩
  · have na : a ≠ d := fun z => n1 (by rw [← z]; exact List.mem_of_getElem? h1)
    exact (R.ob i a ob h1 h2).imp (fun v r q => RRep.chg (M := M.noX) hd q) fun u e => by rw [upd_ne na]; exact e
  · rcases R.bx b hb with ⟨n, x, y, z, e⟩ | ⟨m, g⟩
    · exact .inl ⟨n, x, y, z, by rw [upd_ne (fun z => n2 (by rw [← z]; exact hb))]; exact e⟩
    · refine .inr ⟨m, fun q hq => ?_⟩
      obtain ⟨ps, e, t, f⟩ := g q hq
      refine ⟨ps, by rw [upd_ne (fun z => n2 (by rw [← z]; exact hb))]; exact e, t, fun pos cv hc => ?_⟩
      obtain ⟨c, e1, e2, e3⟩ := f pos cv hc
      exact ⟨c, e1, e2, by rw [upd_ne (fun z => e2.2.2 (by rw [z]; exact hd))]; exact e3⟩
  · by_cases z : a = d
    · rw [z]; exact ⟨o, upd_same⟩
    · obtain ⟨u, e⟩ := R.fr a ha
      exact ⟨u, by rw [upd_ne z]; exact e⟩
/-- what was set apart comes back -/
theorem Step.unhide {M1 : Mx} {H1 : Hp} {st : S} (s : Step M H M1 H1) (R : Rel D M1 st H1) : Step M H { M1 with φ := M.φ } H1 ∧ Rel D { M1 with φ := M.φ } st H1 := by
  have o : ∀ a, M1.out a → Mx.out { M1 with φ := M.φ } a := fun a q => ⟨q.1, q.2.1, fun z => q.2.2 (s.φ.1 a z)⟩
  refine ⟨⟨s.ρ, s.β, ⟨fun _ h => h, fun _ h => .inl h⟩, s.keep, s.there, s.ξ⟩, ⟨R.nd, R.dj, R.len, fun i a ob h1 h2 => ?_, fun b hb => (R.bx b hb).wide o, fun a ha => R.fr a (s.φ.1 a ha), fun a ha => R.fd a (s.φ.1 a ha), R.hx, R.tb⟩⟩
  exact (R.ob i a ob h1 h2).imp (fun v r q => RRep.wide (M := M1.noX) (M' := Mx.noX { M1 with φ := M.φ }) o (fun _ h => h) (fun _ _ h => h) rfl q) fun _ e => e
theorem Reps.snoc : ∀ {vs : List V} {ps : List PV} {v : V} {p : PV}, Reps D M H vs ps → Rep D M H v p → Reps D M H (vs ++ [v]) (ps ++ [p])
  | _, _, _, _, .nil, r => .cons r .nil
  | _, _, _, _, .cons a b, r => .cons a (b.snoc r)
/-- the turns of a comprehension -/
theorem lc_turns {J : It} {t : Tg} {c : BM} {e : EM} {M1 : Mx} {H1 : Hp} {st1 : S} {σ : L2.St} {s : Sl} {xs : List PV} {Q : VK} (hJ : WalkP D M1 H1 J xs) (R1 : Rel D M1 st1 H1) (S1 : Slots D M1 H1 σ s) {d : Addr} (hd : H1 d = none)
    (h : (lcM t c e (wipeS s t.sl) xs st1 []).wp (fun r => ∀ M2 H2 vs, Step M1 H1 M2 H2 → Rel D M2 r.2 H2 → d ∈ M2.φ → H2 d = some (.lst vs) → Reps D M2 H2 vs r.1 → Q (.ref d) H2) (fun _ => False)) :
    ∃ W : Nat → Nat → Hp → Prop, (∃ m, W 0 m (upd H1 d (.lst []))) ∧ ∀ i m H, W i m H →
      (J.stop i H ∧ Q (.ref d) H) ∨ (J.go i H ∧ ∃ Nx : Hp → Prop, (∀ H', Nx H' → ∃ m', m' < m ∧ W (i + 1) m' H') ∧ ∀ x H', J.yld i H x H' → t.rd D.K x (L2.wipe σ t.sl) H' fun σ2 H2 => L2.wipe σ2 t.sl = L2.wipe σ t.sl ∧ liftB D WF c σ2 H2 fun b H3 =>
        if b = true then lift D WF e σ2 H3 fun y H4 => ∃ acc, H4 d = some (.lst acc) ∧ acc.length < sizeLine ∧ Nx (upd H4 d (.lst (acc ++ [y]))) else Nx H3) := by
  obtain ⟨G, Y, w, hG, hY⟩ := hJ
  obtain ⟨s0, R0⟩ := R1.hide (o := .lst []) hd
  refine lc_it w (fun i H => ∃ M' st' ys acc, Step M1 H1 M' H ∧ d ∈ M'.φ ∧ Rel D M' st' H ∧ H d = some (.lst ys) ∧ Reps D M' H ys acc ∧ Slots D M' H (L2.wipe σ t.sl) (wipeS s t.sl) ∧
    (lcM t c e (wipeS s t.sl) (xs.drop i) st' acc).wp (fun r => ∀ M2 H2 vs, Step M1 H1 M2 H2 → Rel D M2 r.2 H2 → d ∈ M2.φ → H2 d = some (.lst vs) → Reps D M2 H2 vs r.1 → Q (.ref d) H2) (fun _ => False))
    ⟨M1.hide d, st1, [], [], s0, List.mem_cons_self .., R0, upd_same, .nil, (S1.step s0).wipe _, h⟩ (fun i H _ ⟨M', _, _, _, q, _⟩ => hG M' H q) ?_ ?_
  · rintro i x H2 H3 hi ⟨M2, st2, ys, acc, s12, hd2, R2, hy, ra, S2, h2⟩ y
    obtain ⟨gr, p, hp, rp⟩ := hY i H2 x H3 M2 s12 y ⟨st2, R2⟩
    obtain ⟨s23, R3⟩ := R2.step gr
    have el : xs.drop i = p :: xs.drop (i + 1) := by
      obtain ⟨hi', e⟩ := List.getElem?_eq_some_iff.mp hp
      rw [List.drop_eq_getElem_cons hi', e]
    rw [el] at h2
    unfold lcM at h2
    cases ep : t.put p (wipeS s t.sl) with
    | none => rw [ep] at h2; exact h2.elim
    | some s3 =>
      rw [ep] at h2
      refine put_rd ep rp (S2.step s23) fun σV3 S3 ew => ⟨by rw [ew, wipe_idem], M2, s3, st2, R3, S3, ?_⟩
      refine T.wp_mono (fun r h4 H' M' sx lx => ?_) (fun _ q => q.elim) (T.wp_bind.mp h2)
      have s14 := s12.trans (s23.trans sx)
      have hd4 : d ∈ M'.φ := sx.φ.1 d hd2
      have hy4 : H' d = some (.lst ys) := sx.keep d _ (gr _ _ hy) (R3.fd d hd2).1 (R3.fd d hd2).2
      have ra4 := (ra.step s23).step sx
      have S4 := (S2.step s23).step sx
      dsimp only at h4 ⊢
      split at h4
      · rename_i eb
        rw [if_pos eb]
        refine ⟨M', s3, r.2, lx, S3.step sx, T.wp_mono (fun r5 h5 H5 M5 s5 l5 => ?_) (fun _ q => q.elim) (T.wp_bind.mp h4)⟩
        intro v hv
        cases er : r5.1 with
        | loc j => rw [er] at h5; exact h5.elim
        | exc c fs => rw [er] at h5; exact h5.elim
        | pv p5 =>
          rw [er] at h5 hv
          dsimp only at h5
          split at h5
          · rename_i hl
            have hd5 : d ∈ M5.φ := s5.φ.1 d hd4
            have hy5 : H5 d = some (.lst ys) := s5.keep d _ hy4 (lx.fd d hd4).1 (lx.fd d hd4).2
            have ra5 := ra4.step s5
            have k1 := l5.chg (o := .lst (ys ++ [v])) hd5
            have s15 := s14.trans s5
            have s16 : Step M1 H1 M5 (upd H5 d (.lst (ys ++ [v]))) := ⟨s15.ρ, s15.β, s15.φ, fun a o e q1 q2 => by rw [upd_ne (ne_of_none e hd)]; exact s15.keep a o e q1 q2, fun a o e => by rw [upd_ne (ne_of_none e hd)]; exact s15.there a o e, s15.ξ⟩
            refine ⟨ys, hy5, by rw [ra5.len, ← line_eq]; exact hl, M5, r5.2, ys ++ [v], acc ++ [p5], s16, hd5, k1, upd_same, (ra5.snoc hv).chg hd5, ?_, h5⟩
            exact ⟨(S4.step s5).1, fun i r e => let ⟨v, a, b⟩ := (S4.step s5).2 i r e; ⟨v, a, b.chg hd5⟩⟩
          · exact h5.elim
      · rename_i eb
        rw [if_neg eb]
        exact ⟨M', r.2, ys, acc, s14, hd4, lx, hy4, ra4, S4, h4⟩
  · rintro H2 ⟨M2, st2, ys, acc, s12, hd2, R2, hy, ra, S2, h2⟩
    rw [List.drop_length] at h2
    exact h2 M2 H2 ys s12 R2 hd2 hy ra
theorem unhide_out {M1 M2 : Mx} {H1 H2 : Hp} (s : Step M1 H1 M2 H2) (a : Addr) (q : M2.out a) : Mx.out { M2 with φ := M1.φ } a := ⟨q.1, q.2.1, fun z => q.2.2 (s.φ.1 a z)⟩
/-- what was set apart is taken as a list that changes -/
theorem Step.take {M1 M2 : Mx} {H1 H2 : Hp} {st : S} {d : Addr} {ys : List V} {ps : List PV} (s : Step M1 H1 M2 H2) (R : Rel D M2 st H2) (hd : d ∈ M2.φ) (h1 : H1 d = none) (hy : H2 d = some (.lst ys)) (ra : Reps D M2 H2 ys ps) (nf : d ∉ M1.φ) :
    Step M1 H1 { M2 with ρ := M2.ρ ++ [some d], φ := M1.φ } H2 ∧ Rel D { M2 with ρ := M2.ρ ++ [some d], φ := M1.φ } (st ++ [.lst (ps.map RV.pv)]) H2 ∧ RRep D { M2 with ρ := M2.ρ ++ [some d], φ := M1.φ } H2 (.ref d) (.loc st.length) := by
  obtain ⟨n1, n2⟩ := R.fd d hd
  have o : ∀ a, M2.out a → Mx.out { M2 with ρ := M2.ρ ++ [some d], φ := M1.φ } a := fun a q => ⟨fun z => (List.mem_append.mp z).elim q.1 fun z => q.2.2 (by rw [Option.some.inj (List.mem_singleton.mp z)]; exact hd), q.2.1, fun z => q.2.2 (s.φ.1 a z)⟩
  have rr : ∀ v r, RRep D M2.noX H2 v r → RRep D (Mx.noX { M2 with ρ := M2.ρ ++ [some d], φ := M1.φ }) H2 v r := fun v r h => RRep.wide (M := M2.noX) (M' := Mx.noX { M2 with ρ := M2.ρ ++ [some d], φ := M1.φ }) o (fun _ h => h) (fun i a h => (List.getElem?_append_left (List.getElem?_eq_some_iff.mp h).1).trans h) rfl h
  refine ⟨⟨?_, s.β, ⟨fun _ h => h, fun _ h => .inl h⟩, s.keep, s.there, s.ξ⟩, ⟨?_, ?_, ?_, ?_, fun b hb => (R.bx b hb).wide o, fun a ha => R.fr a (s.φ.1 a ha), fun a ha => ?_, R.hx, R.tb⟩, d, by rw [← R.len]; simp, rfl⟩
  · obtain ⟨n, e, f⟩ := s.ρ
    refine ⟨n ++ [some d], by show M2.ρ ++ [some d] = _; rw [e, List.append_assoc], fun a ha => ?_⟩
    rcases List.mem_append.mp ha with h | h
    · exact f a h
    · rw [Option.some.inj (List.mem_singleton.mp h)]; exact h1
  · intro i j a k1 k2
    have key : ∀ i : Nat, (M2.ρ ++ [some d])[i]? = some (some a) → (M2.ρ[i]? = some (some a) ∧ a ≠ d) ∨ (i = M2.ρ.length ∧ a = d) := fun i h => by
      by_cases hi : i < M2.ρ.length
      · rw [List.getElem?_append_left hi] at h
        exact .inl ⟨h, fun q => n1 (by rw [← q]; exact List.mem_of_getElem? h)⟩
      · rw [List.getElem?_append_right (by omega), List.getElem?_singleton] at h
        split at h
        · cases h; exact .inr ⟨by omega, rfl⟩
        · cases h
    rcases key i k1 with ⟨j1, j2⟩ | ⟨j1, j2⟩
    · rcases key j k2 with ⟨j3, j4⟩ | ⟨j3, j4⟩
      · exact R.nd i j a j1 j3
      · exact absurd j4 j2
    · rcases key j k2 with ⟨j3, j4⟩ | ⟨j3, j4⟩
      · exact absurd j2 j4
      · rw [j1, j3]
  · intro a ha
    rcases List.mem_append.mp ha with h | h
    · exact R.dj a h
    · rw [Option.some.inj (List.mem_singleton.mp h)]; exact n2
  · simp [R.len]
  · intro i a ob k1 k2
    by_cases hi : i < M2.ρ.length
    · have k1' : M2.ρ[i]? = some (some a) := by rw [← List.getElem?_append_left hi]; exact k1
      rw [List.getElem?_append_left (by rw [← R.len]; exact hi)] at k2
      exact (R.ob i a ob k1' k2).imp rr fun _ e => e
    · have k1' : (M2.ρ ++ [some d])[i]? = some (some a) := k1
      rw [List.getElem?_append_right (by omega), List.getElem?_singleton] at k1'
      rw [List.getElem?_append_right (by rw [← R.len]; omega), List.getElem?_singleton, ← R.len] at k2
      split at k1'
      · rename_i hz
        cases k1'
        rw [if_pos hz] at k2
        cases k2
        exact ⟨ys, hy, rreps_map (Reps.wide (M := M2) (M' := Mx.noX { M2 with ρ := M2.ρ ++ [some d], φ := M1.φ }) o (fun _ h => h) ra)⟩
      · cases k1'
  · obtain ⟨j1, j2⟩ := R.fd a (s.φ.1 a ha)
    refine ⟨fun z => (List.mem_append.mp z).elim j1 fun z => ?_, j2⟩
    rw [Option.some.inj (List.mem_singleton.mp z)] at ha
    exact nf ha
variable {W : WX} {σ : L2.St} {Q : VK}
theorem lift_lc {it : IM} {t : Tg} {vs : List Nat} (hv : t.sl = vs) {c : BM} {e : EM} (h : lift D W (eLc it t vs c e) σ H Q) : tLc (liftI D W it) (t.rd D.K) (liftB D WF c) (lift D WF e) vs σ H Q := by
  subst hv
  obtain ⟨M, s, st, R, S, h⟩ := h
  refine ⟨M, s, st, R, S, (Wp.bind h).mono fun xs st1 M1 H1 s1 R1 h1 J hJ d hd => ?_⟩
  refine lc_turns hJ R1 (S.step s1) hd (T.wp_mono (fun r q M2 H2 ys s2 R2 hd2 hy ra => ?_) (fun _ q => q) (T.wp_noX.mp (T.wp_bind.mp h1)))
  obtain ⟨k1, k2⟩ := s2.unhide R2
  refine q H2 _ k1 k2 _ ?_
  exact .lst (.inl ⟨⟨(R2.fd d hd2).1, (R2.fd d hd2).2, fun z => by obtain ⟨o, e⟩ := R1.fr d z; rw [hd] at e; cases e⟩, .inl hy⟩) (Reps.wide (unhide_out s2) (fun _ h => h) ra)
theorem lift_lcM {it : IM} {t : Tg} {vs : List Nat} (hv : t.sl = vs) {c : BM} {e : EM} (h : lift D W (eLcM it t vs c e) σ H Q) : tLc (liftI D W it) (t.rd D.K) (liftB D WF c) (lift D WF e) vs σ H Q := by
  subst hv
  obtain ⟨M, s, st, R, S, h⟩ := h
  refine ⟨M, s, st, R, S, (Wp.bind h).mono fun xs st1 M1 H1 s1 R1 h1 J hJ d hd => ?_⟩
  refine lc_turns hJ R1 (S.step s1) hd (T.wp_mono (fun r q M2 H2 ys s2 R2 hd2 hy ra => ?_) (fun _ q => q) (T.wp_noX.mp (T.wp_bind.mp h1)))
  have nf : d ∉ M1.φ := fun z => by obtain ⟨o, e⟩ := R1.fr d z; rw [hd] at e; cases e
  obtain ⟨l1, l2, l3⟩ := s2.take R2 hd2 hd hy ra nf
  exact q H2 _ l1 l2 _ l3
end
end Pu
set_option maxHeartbeats 4000000
namespace Pu
open PySem L2
/-! ### defs -/
/-- the promise of a def that works on trees -/
def spP (D : Wd) (n : Nat) (f : List PV → T PExc PV) : Sp := fun vs H Q E => ∃ M args, M.ρ = [] ∧ M.ξ = none ∧ Rel D M [] H ∧ Reps D M H vs args ∧ args.length = n ∧
  (f args).wp (fun p => ∀ v H' M', M'.ρ = [] → Step M H M' H' → Rel D M' [] H' → Rep D M' H' v p → Q v H') (fun e => ∀ c d H' M', M'.ρ = [] → Step M H M' H' → Rel D M' [] H' → XRep D M' H' c d e → E c d H')
theorem spP_len {D : Wd} {n : Nat} {f : List PV → T PExc PV} {vs : List V} {H : Hp} {Q : VK} {E : XK} (h : spP D n f vs H Q E) : vs.length = n := by
  obtain ⟨M, args, _, _, _, r, hl, _⟩ := h
  rw [r.len]; exact hl
def fnEnd (f : Fl × S) : T PExc PV := match f.1 with
  | .rt r => (match vw f.2 r with
    | some p => .ret p
    | none => .bad)
  | .nx _ => .ret .non
  | _ => .bad
/-- a def's body, run apart; k: its other local names -/
def fnP (k : Nat) (body : SM) (args : List PV) : T PExc PV := ((body (args.map (fun p => some (RV.pv p)) ++ List.replicate k none) []).mapE fun e => e.1.1).bind fnEnd
section
variable {D : Wd} {M : Mx} {H : Hp}
def Mx.bare (M : Mx) : Mx := { M with ρ := [], ξ := none }
theorem bare_out {a : Addr} (h : M.out a) : M.bare.out a := ⟨by simp [Mx.bare], h.2⟩
theorem Rel.bare {st : S} (R : Rel D M st H) : Rel D M.bare [] H := ⟨fun i j a h => by simp [Mx.bare] at h, fun a h => by simp [Mx.bare] at h, rfl, fun i a o h => by simp [Mx.bare] at h, fun b hb => (R.bx b hb).wide fun _ => bare_out, R.fr, fun a ha => ⟨by simp [Mx.bare], (R.fd a ha).2⟩, .inl rfl, R.tb⟩
theorem Rep.bare {v : V} {p : PV} (h : Rep D M H v p) : Rep D M.bare H v p := h.wide (fun _ => bare_out) fun _ h => h
theorem Step.bare {M' : Mx} {H' : Hp} (h : M.ρ = []) (hx : M.ξ = none) (s : Step M H M' H') : Step M H M'.bare H' := ⟨⟨[], by rw [h]; rfl, by simp⟩, s.β, s.φ, s.keep, s.there, hx.symm⟩
/-- what was changed before is left as it is from now on -/
theorem freeze {st : S} (R : Rel D M st H) {v : V} {r : RV} {p : PV} (h : RRep D M H v r) (e : vw st r = some p) : Rep D M.bare H v p := by
  cases r with
  | pv q => cases e; exact Rep.bare h
  | exc c fs => cases e
  | loc i =>
    obtain ⟨a, ha, rfl⟩ := h
    have ma : some a ∈ M.ρ := List.mem_of_getElem? ha
    have out : M.bare.out a := ⟨by simp [Mx.bare], R.dj a ma, fun z => (R.fd a z).1 ma⟩
    have w : ∀ a, M.out a → M.bare.out a := fun _ => bare_out
    simp only [vw] at e
    cases hs : st[i]? with
    | none => rw [hs] at e; cases e
    | some o =>
      rw [hs] at e
      have ob := R.ob i a o ha hs
      cases o with
      | lst xs =>
        obtain ⟨vs, h1, h2⟩ := ob
        cases h : pvs xs with
        | none => simp [h] at e
        | some q => simp only [h, Option.map_some, Option.some.injEq] at e; subst e; exact .lst (.inl ⟨out, .inl h1⟩) ((noX_s (reps_of h2 h)).wide w fun _ h => h)
      | dct xs =>
        obtain ⟨vs, h1, h2⟩ := ob
        cases h : pks xs with
        | none => simp [h] at e
        | some q => simp only [h, Option.map_some, Option.some.injEq] at e; subst e; exact .dct out (.inl h1) ((noX_d (repd_of h2 h)).wide w fun _ h => h)
      | ins c fs =>
        obtain ⟨C, dx, vs, nm, h1, h2, h3, h4⟩ := ob
        cases h : pfs fs with
        | none => simp [h] at e
        | some q => simp only [h, Option.map_some, Option.some.injEq] at e; subst e; exact .obj out h1 h2 h3 ((noX_f (repf_of h4 h)).wide w fun _ h => h)
      | gone => cases e
theorem XRep.wide {M' : Mx} {c : Value} {d : Option Addr} {e : PExc} (o : ∀ a, M.out a → M'.out a) (b : ∀ a ∈ M.β, a ∈ M'.β) (h : XRep D M H c d e) : XRep D M' H c d e := by
  unfold XRep at h ⊢
  split
  · rename_i n hn
    rw [hn] at h
    exact h
  · rename_i c' hn
    rw [hn] at h
    obtain ⟨nm, C, h1, h2, h3, h4⟩ := h
    refine ⟨nm, C, h1, h2, h3, ?_⟩
    cases d with
    | none => exact h4
    | some dx => obtain ⟨vs, k1, k2, k3⟩ := h4; exact ⟨vs, k1, o _ k2, k3.wide o b⟩
theorem slots_start {vs : List V} {args : List PV} {N : List Str} {k : Nat} (r : Reps D M H vs args) (hk : N.length = args.length + k) : Slots D M H (L2.start N vs) (args.map (fun p => some (RV.pv p)) ++ List.replicate k none) := by
  have hl := r.len
  refine ⟨by simp [L2.start]; omega, fun i q e => ?_⟩
  by_cases hi : i < args.length
  · rw [List.getElem?_append_left (by simpa using hi), List.getElem?_map] at e
    cases ea : args[i]? with
    | none => rw [ea] at e; cases e
    | some p =>
      rw [ea] at e
      cases e
      obtain ⟨v, h1, h2⟩ := r.get ea
      refine ⟨v, ?_, h2⟩
      unfold L2.start
      rw [List.getElem?_append_left (by simpa using by omega), List.getElem?_map, h1]
      rfl
  · rw [List.getElem?_append_right (by simpa using hi), List.getElem?_replicate] at e
    split at e
    · cases e
    · cases e
end
section
variable {P : Program} {w : World} {K : PySem.W.Frag} {mg : Str → Option Value} {base : Heap} {D : Wd}
theorem ok_pure {x qual : Str} {params : Arguments} {body : List Stmt} {scope : Scope} {dvs : List V} {kws : List (Str × V)} {f : Addr} {fd : FuncData} {N ps : List Str} {lv k : Nat} {m : SM} (F : FunD K x qual params body scope dvs kws f fd) (S : FnScope N ps scope) (hk : N.length = ps.length + k)
    (hb : ∀ (cdv : Value) (A : Around) (outer : List Env) (s : Shared) (H : Hp) (E : XK), Room lv (A.deeper (PyProof.Rows.envOfC qual scope s.heap.objs.size f cdv)) →
      PSs (cxOf (L2.CX P w) P w K mg base N qual scope f cdv A outer s H E) body (liftS D (fun c d _ H => E c d H) m)) : FnOk P w K mg base (L2.CX P w) (lv + 1) f fd ps (spP D ps.length (fnP k m)) := by
  refine F.ok S (fun vs H Q E h => spP_len h) fun cdv A outer s H vs Q E hr h => ⟨_, hb cdv A outer s H E hr, ?_⟩
  obtain ⟨M, args, hρ, hx, R, ra, hl, h⟩ := h
  refine ⟨M, _, [], R, slots_start (k := k) ra (by rw [hl]; exact hk), ?_⟩
  unfold fnP at h
  refine T.wp_mono (fun fl q H' M' st R' => ?_) (fun e q c d σV H' M' st R' _ x => ?_) (T.wp_mapE.mp (T.wp_bind.mp h))
  · obtain ⟨fl, s2⟩ := fl
    cases fl with
    | nx σ =>
      intro σV _
      exact q _ H' M'.bare rfl (st.bare hρ hx) R'.bare .non
    | bk σ => exact q.elim
    | ct σ => exact q.elim
    | rt r =>
      intro v hv
      simp only [fnEnd] at q
      split at q
      · rename_i p e
        exact q v H' M'.bare rfl (st.bare hρ hx) R'.bare (freeze R' hv e)
      · exact q.elim
  · exact q c d H' M'.bare rfl (st.bare hρ hx) R'.bare (x.wide (fun _ => bare_out) fun _ h => h)
end
/-! calls -/
def eCallF (f : List PV → T PExc PV) (n : Nat) (as : AM) (dps : List PV) : EM := fun σ st => (as σ st).bind fun r => match pvs r.1 with
  | some ps => if (ps ++ dps).length = n then ((f (ps ++ dps)).mapE fun e => (e, r.2)).bind fun p => .ret (.pv p, r.2) else .bad
  | none => .bad
section
variable {D : Wd} {W : WX} {σ : L2.St} {H : Hp} {Q : VK}
def Mx.call (M : Mx) : Mx := { ρ := [], β := M.β, φ := M.ρ.filterMap id ++ M.φ, ξ := none }
def Mx.back (M M' : Mx) : Mx := { ρ := M.ρ, β := M'.β, φ := M.φ, ξ := M.ξ }
theorem call_out {M : Mx} {a : Addr} (h : M.out a) : M.call.out a := by
  refine ⟨by simp [Mx.call], h.2.1, fun z => ?_⟩
  rcases List.mem_append.mp z with z | z
  · simp at z; exact h.1 z
  · exact h.2.2 z
theorem Rel.call {M : Mx} {st : S} (R : Rel D M st H) : Rel D M.call [] H := by
  refine ⟨fun i j a h => by simp [Mx.call] at h, fun a h => by simp [Mx.call] at h, rfl, fun i a o h => by simp [Mx.call] at h, fun b hb => (R.bx b hb).wide fun _ => call_out, fun a ha => ?_, fun a ha => ⟨by simp [Mx.call], ?_⟩, .inl rfl, R.tb⟩
  · rcases List.mem_append.mp ha with z | z
    · simp at z; exact R.mem z
    · exact R.fr a z
  · rcases List.mem_append.mp ha with z | z
    · simp at z; exact R.dj a z
    · exact (R.fd a z).2
theorem back_out {M M' : Mx} {H' : Hp} (s : Step M.call H M' H') {a : Addr} (h : M'.out a) : (M.back M').out a := by
  refine ⟨fun z => h.2.2 (s.φ.1 a ?_), h.2.1, fun z => h.2.2 (s.φ.1 a (List.mem_append_right _ z))⟩
  exact List.mem_append_left _ (by simpa using (show some a ∈ M.ρ from z))
theorem back_step {M M' : Mx} {H' : Hp} {st : S} (R : Rel D M st H) (s : Step M.call H M' H') (R' : Rel D M' [] H') : Step M H (M.back M') H' ∧ Rel D (M.back M') st H' := by
  have newβ : ∀ a o, H a = some o → a ∉ M.β → a ∉ M'.β := fun a o e h z => by
    obtain ⟨n, eb, f⟩ := s.β
    rw [eb] at z
    rcases List.mem_append.mp z with z | z
    · exact h z
    · rw [f a z] at e; cases e
  have st1 : Step M H (M.back M') H' := ⟨⟨[], by simp [Mx.back], by simp⟩, s.β, ⟨fun _ h => h, fun _ h => .inl h⟩, fun a o e _ h2 => s.keep a o e (by simp [Mx.call]) h2, s.there, rfl⟩
  refine ⟨st1, ⟨R.nd, fun a ha => ?_, R.len, fun i a o h1 h2 => ?_, fun b hb => (R'.bx b hb).wide fun _ => back_out s, fun a ha => ?_, fun a ha => ⟨(R.fd a ha).1, ?_⟩, R.hx, R'.tb⟩⟩
  · obtain ⟨o, e⟩ := R.mem ha
    exact newβ a o e (R.dj a ha)
  · have ma : some a ∈ M.ρ := List.mem_of_getElem? h1
    exact (R.ob i a o h1 h2).step st1 fun u e => s.keep a u e (by simp [Mx.call]) (R.dj a ma)
  · obtain ⟨o, e⟩ := R.fr a ha
    exact s.there a o e
  · obtain ⟨o, e⟩ := R.fr a ha
    exact newβ a o e (R.fd a ha).2
/-- the callee's promise from a run of its tree function -/
theorem call_sp {M : Mx} {st : S} {f : List PV → T PExc PV} {ps : List PV} {vs : List V} (R : Rel D M st H) (rv : Reps D M H vs ps) {n : Nat} (hl : ps.length = n)
    (h : Wp D W M H σ (((f ps).mapE fun e => (e, st)).bind fun p => .ret (RV.pv p, st)) fun r _ M' H' => ∀ v, RRep D M' H' v r → Q v H') : spP D n f vs H Q (fun c d H => W c d σ H) := by
  refine ⟨M.call, ps, rfl, rfl, R.call, rv.wide (fun _ => call_out) (fun _ h => h), hl, ?_⟩
  refine T.wp_mono (fun p q v H' M' hρ s R' hv => ?_) (fun e q c d H' M' hρ s R' hx => ?_) (T.wp_mapE.mp (T.wp_bind.mp h))
  · obtain ⟨s1, R1⟩ := back_step R s R'
    exact q H' _ s1 R1 v (Rep.wide (fun _ => back_out s) (fun _ h => h) hv)
  · obtain ⟨s1, R1⟩ := back_step R s R'
    exact q c d H' _ s1 R1 (hx.wide (fun _ => back_out s) (fun _ h => h))
theorem lift_callF {f : List PV → T PExc PV} {n : Nat} {as : AM} {dvs : List V} {dps : List PV} (hd : ∀ M H, Reps D M H dvs dps) (h : lift D W (eCallF f n as dps) σ H Q) : tCallSD (spP D n f) dvs (WE W) (liftA D W as) σ H Q := by
  obtain ⟨M, s, st, R, S, h⟩ := h
  refine ⟨M, s, st, R, S, (Wp.bind h).mono fun rs st1 M1 H1 s1 R1 h1 vs hv => ?_⟩
  dsimp only at h1
  cases e : pvs rs with
  | none => rw [e] at h1; exact h1.elim
  | some ps =>
    rw [e] at h1
    dsimp only at h1
    split at h1
    · rename_i hl
      exact call_sp R1 ((reps_of hv e).app (hd M1 H1)) hl h1
    · exact h1.elim
end
end Pu
set_option maxHeartbeats 4000000
namespace Pu
open PySem L2
/-! ### what is called, by values -/
abbrev CM := List RV → S → T XS (RV × S)
def CalR (X : Cx) (D : Wd) (W : WX) (fv : Value) (m : CM) : Prop := ∀ (pins : List (Addr × Obj)) (s : Shared) (σ : L2.St) (H : Hp) (M : Mx) (st : S) (vs : List V) (us : List Value) (rs : List RV) (Q : VK), Inv X pins σ H s → Rel D M st H → Vals vs us → RReps D M H vs rs →
  Wp D W M H σ (m rs st) (fun r _ M' H' => ∀ v, RRep D M' H' v r → Q v H') → wpAny (model X.prog X.w) X.A (call fv us) (EP X pins σ Q) X.xe s
/-- a def on trees -/
def cP (f : List PV → T PExc PV) (n : Nat) (dps : List PV) : CM := fun rs st => match pvs rs with
  | some ps => if (ps ++ dps).length = n then ((f (ps ++ dps)).mapE fun e => (e, st)).bind fun p => .ret (.pv p, st) else .bad
  | none => .bad
/-- a def that changes things -/
def cS (g : CM) (n : Nat) (dps : List PV) : CM := fun rs st => if (rs ++ dps.map RV.pv).length = n then g (rs ++ dps.map RV.pv) st else .bad
def spS (D : Wd) (n : Nat) (g : CM) : Sp := fun vs H Q E => ∃ M st rs, Rel D M st H ∧ RReps D M H vs rs ∧ rs.length = n ∧
  (g rs st).wp (fun r => ∀ v H' M', Step M H M' H' → Rel D M' r.2 H' → RRep D M' H' v r.1 → Q v H') (fun e => ∀ c d H' M', Step M H M' H' → Rel D M' e.2 H' → XRep D M' H' c d e.1 → E c d H')
def fnEndS (f : Fl × S) : T XS (RV × S) := match f.1 with
  | .rt r => .ret (r, f.2)
  | .nx _ => .ret (.pv .non, f.2)
  | _ => .bad
def fnS (k : Nat) (body : SM) : CM := fun rs st => ((body (rs.map some ++ List.replicate k none) st).mapE fun e => (e.1.1, e.2)).bind fnEndS
/-- a new thing that stays: its __init__ runs apart -/
def cMake (c : Nat) (g : CM) (n : Nat) (dps : List PV) : CM := fun rs st => match pvs rs with
  | some ps => if (RV.loc 0 :: (ps ++ dps).map RV.pv).length = n then ((g (.loc 0 :: (ps ++ dps).map RV.pv) [.ins c []]).mapE fun e => (e.1, st)).bind fun r => match r.1, vw r.2 (.loc 0) with
      | .pv .non, some p => .ret (.pv p, st)
      | _, _ => .bad
    else .bad
  | none => .bad
/-- a new thing that will change -/
def cMakeM (c : Nat) (g : CM) (n : Nat) (dps : List PV) : CM := fun rs st => if (RV.loc st.length :: (rs ++ dps.map RV.pv)).length = n then (g (.loc st.length :: (rs ++ dps.map RV.pv)) (st ++ [.ins c []])).bind fun r => match r.1 with
    | .pv .non => .ret (.loc st.length, r.2)
    | _ => .bad
  else .bad
def eApp (m : CM) (as : AM) : EM := fun σ st => (as σ st).bind fun r => m r.1 r.2
section
variable {D : Wd} {M : Mx} {H : Hp}
theorem rreps_len {vs : List V} {rs : List RV} (h : RReps D M H vs rs) : vs.length = rs.length := paired_length h
theorem spS_len {n : Nat} {g : CM} {vs : List V} {Q : VK} {E : XK} (h : spS D n g vs H Q E) : vs.length = n := by
  obtain ⟨M, st, rs, _, r, hl, _⟩ := h
  rw [rreps_len r]; exact hl
theorem slots_startS {vs : List V} {rs : List RV} {N : List Str} {k : Nat} (r : RReps D M H vs rs) (hk : N.length = rs.length + k) : Slots D M H (L2.start N vs) (rs.map some ++ List.replicate k none) := by
  have hl := rreps_len r
  refine ⟨by simp [L2.start]; omega, fun i q e => ?_⟩
  by_cases hi : i < rs.length
  · rw [List.getElem?_append_left (by simpa using hi), List.getElem?_map, List.getElem?_eq_getElem hi] at e
    cases e
    have gen : ∀ {vs : List V} {rs : List RV} (i : Nat) (h : i < rs.length), RReps D M H vs rs → ∃ v, vs[i]? = some v ∧ RRep D M H v rs[i] := by
      intro vs rs i h r
      induction r generalizing i with
      | nil => simp at h
      | cons a b ih =>
        cases i with
        | zero => exact ⟨_, rfl, a⟩
        | succ i =>
          obtain ⟨v, h1, h2⟩ := ih i (by simpa using h)
          exact ⟨v, by simpa using h1, h2⟩
    obtain ⟨v, h1, h2⟩ := gen i hi r
    refine ⟨v, ?_, h2⟩
    unfold L2.start
    rw [List.getElem?_append_left (by simpa using by omega), List.getElem?_map, h1]
    rfl
  · rw [List.getElem?_append_right (by simpa using hi), List.getElem?_replicate] at e
    split at e
    · cases e
    · cases e
theorem rreps_pv {vs : List V} {ps : List PV} (h : Reps D M H vs ps) : RReps D M H vs (ps.map RV.pv) := rreps_map h
end
section
variable {P : Program} {w : World} {K : PySem.W.Frag} {mg : Str → Option Value} {base : Heap} {D : Wd}
theorem ok_state {x qual : Str} {params : Arguments} {body : List Stmt} {scope : Scope} {dvs : List V} {kws : List (Str × V)} {f : Addr} {fd : FuncData} {N ps : List Str} {lv k : Nat} {m : SM} (F : FunD K x qual params body scope dvs kws f fd) (S : FnScope N ps scope) (hk : N.length = ps.length + k)
    (hb : ∀ (cdv : Value) (A : Around) (outer : List Env) (s : Shared) (H : Hp) (E : XK), Room lv (A.deeper (PyProof.Rows.envOfC qual scope s.heap.objs.size f cdv)) →
      PSs (cxOf (L2.CX P w) P w K mg base N qual scope f cdv A outer s H E) body (liftS D (fun c d _ H => E c d H) m)) : FnOk P w K mg base (L2.CX P w) (lv + 1) f fd ps (spS D ps.length (fnS k m)) := by
  refine F.ok S (fun vs H Q E h => spS_len h) fun cdv A outer s H vs Q E hr h => ⟨_, hb cdv A outer s H E hr, ?_⟩
  obtain ⟨M, st, rs, R, ra, hl, h⟩ := h
  refine ⟨M, _, st, R, slots_startS (k := k) ra (by rw [hl]; exact hk), ?_⟩
  unfold fnS at h
  refine T.wp_mono (fun fl q H' M' st R' => ?_) (fun e q c d σV H' M' st R' _ x => ?_) (T.wp_mapE.mp (T.wp_bind.mp h))
  · obtain ⟨fl, s2⟩ := fl
    cases fl with
    | nx σ =>
      intro σV _
      exact q _ H' M' st R' .non
    | bk σ => exact q.elim
    | ct σ => exact q.elim
    | rt r =>
      intro v hv
      exact q v H' M' st R' hv
  · exact q c d H' M' st R' x
end
section
variable {D : Wd} {W : WX} {σ : L2.St} {H : Hp} {Q : VK}
/-- a run apart: inner things are new, all others' are set apart -/
structure Apart (M : Mx) (H : Hp) (M0 : Mx) (H0 : Hp) : Prop where
  β : M0.β = M.β
  φ : M0.φ = M.ρ.filterMap id ++ M.φ
  ρ : ∀ a, some a ∈ M0.ρ → H a = none
  gr : Gr H H0
theorem Apart.out {M M0 : Mx} {H0 : Hp} (A : Apart M H M0 H0) {a : Addr} {o : HO} (e : H a = some o) (h : M.out a) : M0.out a := by
  refine ⟨fun z => (by rw [A.ρ a z] at e; cases e), by rw [A.β]; exact h.2.1, fun z => ?_⟩
  rw [A.φ] at z
  rcases List.mem_append.mp z with z | z
  · simp at z; exact h.1 z
  · exact h.2.2 z
theorem Apart.backOut {M M0 M' : Mx} {H0 H' : Hp} (A : Apart M H M0 H0) (s : Step M0 H0 M' H') {a : Addr} (h : M'.out a) : (M.back M').out a := by
  refine ⟨fun z => h.2.2 (s.φ.1 a ?_), h.2.1, fun z => h.2.2 (s.φ.1 a (by rw [A.φ]; exact List.mem_append_right _ z))⟩
  rw [A.φ]
  exact List.mem_append_left _ (by simpa using (show some a ∈ M.ρ from z))
theorem Apart.back {M M0 M' : Mx} {H0 H' : Hp} {st st' : S} (A : Apart M H M0 H0) (R : Rel D M st H) (s : Step M0 H0 M' H') (R' : Rel D M' st' H') : Step M H (M.back M') H' ∧ Rel D (M.back M') st H' := by
  have un : ∀ a, H0 a = none → H a = none := fun a h => by
    cases e : H a with
    | none => rfl
    | some o => rw [A.gr a o e] at h; cases h
  have newβ : ∀ a o, H a = some o → a ∉ M.β → a ∉ M'.β := fun a o e h z => by
    obtain ⟨n, eb, f⟩ := s.β
    rw [eb, A.β] at z
    rcases List.mem_append.mp z with z | z
    · exact h z
    · rw [un a (f a z)] at e; cases e
  have keep : ∀ a o, H a = some o → a ∉ M.β → H' a = some o := fun a o e h => s.keep a o (A.gr a o e) (fun z => by rw [A.ρ a z] at e; cases e) (by rw [A.β]; exact h)
  have st1 : Step M H (M.back M') H' := ⟨⟨[], by simp [Mx.back], by simp⟩, by obtain ⟨n, eb, f⟩ := s.β; exact ⟨n, by show M'.β = _; rw [eb, A.β], fun a h => un a (f a h)⟩, ⟨fun _ h => h, fun _ h => .inl h⟩, fun a o e _ h2 => keep a o e h2, fun a o e => s.there a o (A.gr a o e), rfl⟩
  refine ⟨st1, ⟨R.nd, fun a ha => ?_, R.len, fun i a o h1 h2 => ?_, fun b hb => (R'.bx b hb).wide fun _ => A.backOut s, fun a ha => ?_, fun a ha => ⟨(R.fd a ha).1, ?_⟩, R.hx, R'.tb⟩⟩
  · obtain ⟨o, e⟩ := R.mem ha
    exact newβ a o e (R.dj a ha)
  · exact (R.ob i a o h1 h2).step st1 fun u e => keep a u e (R.dj a (List.mem_of_getElem? h1))
  · obtain ⟨o, e⟩ := R.fr a ha
    exact s.there a o (A.gr a o e)
  · obtain ⟨o, e⟩ := R.fr a ha
    exact newβ a o e (R.fd a ha).2
theorem Apart.backNew {M M0 M' : Mx} {H0 H' : Hp} {st st' : S} (A : Apart M H M0 H0) (R : Rel D M st H) (s : Step M0 H0 M' H') (R' : Rel D M' st' H') {a : Addr} (h : some a ∈ M'.ρ) : (M.back M').out a := by
  have hn : H a = none := by
    obtain ⟨n, e, f⟩ := s.ρ
    rw [e] at h
    rcases List.mem_append.mp h with h | h
    · exact A.ρ a h
    · cases e : H a with
      | none => rfl
      | some o => have := A.gr a o e; rw [f a h] at this; cases this
  have o := R.free hn
  exact ⟨o.1, R'.dj a h, o.2.2⟩
/-- what was made apart, left as it is -/
theorem Apart.froze {M M0 M' : Mx} {H0 H' : Hp} {st st' : S} (A : Apart M H M0 H0) (R : Rel D M st H) (s : Step M0 H0 M' H') (R' : Rel D M' st' H') {v : V} {r : RV} {p : PV} (h : RRep D M' H' v r) (e : vw st' r = some p) : Rep D (M.back M') H' v p := by
  have w : ∀ a, M'.out a → (M.back M').out a := fun _ => A.backOut s
  cases r with
  | pv q => cases e; exact Rep.wide w (fun _ h => h) h
  | exc c fs => cases e
  | loc i =>
    obtain ⟨a, ha, rfl⟩ := h
    have out := A.backNew R s R' (List.mem_of_getElem? ha)
    simp only [vw] at e
    cases hs : st'[i]? with
    | none => rw [hs] at e; cases e
    | some o =>
      rw [hs] at e
      have ob := R'.ob i a o ha hs
      cases o with
      | lst xs =>
        obtain ⟨vs, h1, h2⟩ := ob
        cases h : pvs xs with
        | none => simp [h] at e
        | some q => simp only [h, Option.map_some, Option.some.injEq] at e; subst e; exact .lst (.inl ⟨out, .inl h1⟩) ((noX_s (reps_of h2 h)).wide w fun _ h => h)
      | dct xs =>
        obtain ⟨vs, h1, h2⟩ := ob
        cases h : pks xs with
        | none => simp [h] at e
        | some q => simp only [h, Option.map_some, Option.some.injEq] at e; subst e; exact .dct out (.inl h1) ((noX_d (repd_of h2 h)).wide w fun _ h => h)
      | ins c fs =>
        obtain ⟨C, dx, vs, nm, h1, h2, h3, h4⟩ := ob
        cases h : pfs fs with
        | none => simp [h] at e
        | some q => simp only [h, Option.map_some, Option.some.injEq] at e; subst e; exact .obj out h1 h2 h3 ((noX_f (repf_of h4 h)).wide w fun _ h => h)
      | gone => cases e
end
section
variable {X : Cx} {D : Wd} {W : WX} {k n : Nat} {f C : Addr} {fd : FuncData} {ps : List Str} {dvs : List V} {ds : List Value} {dps : List PV}
/-- from a def's promise -/
theorem cal_pure {g : List PV → T PExc PV} (tk : Takes X W) (F : FnOk X.prog X.w X.K X.mg X.base (L2.CX X.prog X.w) k f fd ps (spP D n g)) (hr : Room k X.A) (hb : Binds X.K fd ps ds) (hd : Vals dvs ds) (hp : ∀ M H, Reps D M H dvs dps) : CalR X D W (.ref f) (cP g n dps) := by
  intro pins s σ H M st vs us rs Q I R rv ra h
  unfold cP at h
  cases e : pvs rs with
  | none => rw [e] at h; exact h.elim
  | some qs =>
    rw [e] at h
    dsimp only at h
    split at h
    · rename_i hl
      exact run_fnSD (E := WE W) F hr hb hd (passAt tk σ) I rv (call_sp R ((reps_of ra e).app (hp M H)) hl h)
    · exact h.elim
theorem cal_state {g : CM} (tk : Takes X W) (F : FnOk X.prog X.w X.K X.mg X.base (L2.CX X.prog X.w) k f fd ps (spS D n g)) (hr : Room k X.A) (hb : Binds X.K fd ps ds) (hd : Vals dvs ds) (hp : ∀ M H, Reps D M H dvs dps) : CalR X D W (.ref f) (cS g n dps) := by
  intro pins s σ H M st vs us rs Q I R rv ra h
  unfold cS at h
  split at h
  · rename_i hl
    refine run_fnSD (E := WE W) F hr hb hd (passAt tk σ) I rv ⟨M, st, _, R, rreps_app ra (rreps_pv (hp M H)), hl, ?_⟩
    exact T.wp_mono (fun r q v H' M' s1 R1 hv => q H' M' s1 R1 v hv) (fun e q c d H' M' s1 R1 x => q c d H' M' s1 R1 x) h
  · exact h.elim
/-- a thing is made; what __init__ raises is wished for at the slots -/
theorem run_makeS {pins : List (Addr × Obj)} {σ : L2.St} {H : Hp} {s : Shared} {Q : VK} {us : List Value} {vs : List V} {sp : Sp} {CX : CXT} {E : XK} (M : Mk X.K C f) (F : FnOk X.prog X.w X.K X.mg X.base CX k f fd ps sp) (hr : Room (k + 1) X.A) (hb : Binds X.K fd ps ds) (hd : Vals dvs ds)
    (hx : PassesAt CX X σ E) (J : Inv X pins σ H s) (r : Vals vs us)
    (h : ∀ x dx, H x = none → H dx = none → dx ≠ x → sp (.ref x :: (vs ++ dvs)) (upd (upd H dx (.own x)) x (.ins C dx [])) (fun v H2 => v = .non ∧ Q (.ref x) H2) E) :
    wpAny (model X.prog X.w) X.A (call (.ref C) us) (EP X pins σ Q) X.xe s := by
  let n := s.heap.objs.size
  have hq := h (n + 1) n (J.hok.fresh (Nat.le_succ _)) (J.hok.fresh (Nat.le_refl _)) (Nat.ne_of_lt (Nat.lt_succ_self _))
  have J2 := Inv.made (C := C) J
  have r2 : Vals (V.ref (n + 1) :: (vs ++ dvs)) (Value.ref (n + 1) :: (us ++ ds)) := .cons rfl (r.append hd)
  have hl : (Value.ref (n + 1) :: us ++ ds).length = ps.length := by
    have := F.len _ _ _ _ hq
    rw [r2.length] at this
    exact this
  have run := F.run _ X.stack _ _ ⟨Value.ref (n + 1) :: us, []⟩ (Value.ref (n + 1) :: (us ++ ds)) _ _ E (hr.make C us []) (J2.env0.make C us []) (hb _ (Value.ref (n + 1) :: us) J2.kIn hl) r2 hq
  refine wpAny_call (make_map (f := f) J.kIn M.makes M.init (beq_iff_eq.mp M.fn) (codeAny_mono run fun r s' hq' => ?_))
  match r, hq' with
  | .error e, hq' => exact hx pins _ _ e s' J2 hq'
  | .ok (.ret u), hq' =>
    obtain ⟨v, H', J3, rv, ev, q3⟩ := J2.after hq'
    subst ev
    exact ⟨rv, ⟨V.ref (n + 1), H', J3, rfl, q3⟩⟩
theorem cal_make {g : CM} {c : Nat} {nm : Str} (hX : X.mg = D.mg) (tk : Takes X W) (hc : D.cn[c]? = some nm) (hC : D.mg nm = some (.ref C)) (Mk : Mk X.K C f) (F : FnOk X.prog X.w X.K X.mg X.base (L2.CX X.prog X.w) k f fd ps (spS D n g)) (hr : Room (k + 1) X.A) (hb : Binds X.K fd ps ds) (hd : Vals dvs ds) (hp : ∀ M H, Reps D M H dvs dps) :
    CalR X D W (.ref C) (cMake c g n dps) := by
  intro pins s σ H M st vs us rs Q I R rv ra h
  unfold cMake at h
  cases e : pvs rs with
  | none => rw [e] at h; exact h.elim
  | some qs =>
    rw [e] at h
    dsimp only at h
    split at h
    · rename_i hl
      refine run_makeS Mk F hr hb hd (passAt tk σ) I rv fun x dx hx hdx ne => ?_
      have gr : Gr H (upd (upd H dx (.own x)) x (.ins C dx [])) := fun a u e => by rw [upd_ne (ne_of_none e hx), upd_ne (ne_of_none e hdx)]; exact e
      let M0 : Mx := { ρ := [some x], β := M.β, φ := M.ρ.filterMap id ++ M.φ }
      have A : Apart M H M0 (upd (upd H dx (.own x)) x (.ins C dx [])) := ⟨rfl, rfl, fun a h => by rw [Option.some.inj (List.mem_singleton.mp h)]; exact hx, gr⟩
      have ox := R.free hx
      have bx0 : ∀ b ∈ M0.β, BoxAt D M0 (upd (upd H dx (.own x)) x (.ins C dx [])) b := fun b hb => by
        rcases R.bx b hb with ⟨n, y1, y2, y3, e⟩ | ⟨m, g⟩
        · exact .inl ⟨n, y1, y2, y3, gr _ _ e⟩
        · refine .inr ⟨m, fun q hq => ?_⟩
          obtain ⟨ps, e, t, f⟩ := g q hq
          refine ⟨ps, gr _ _ e, t, fun pos cv hc => ?_⟩
          obtain ⟨c, e1, e2, e3⟩ := f pos cv hc
          exact ⟨c, e1, A.out e3 e2, gr _ _ e3⟩
      have R0 : Rel D M0 [.ins c []] (upd (upd H dx (.own x)) x (.ins C dx [])) := by
        refine ⟨fun i j a h1 h2 => ?_, fun a h => ?_, rfl, fun i a o h1 h2 => ?_, fun b hb => bx0 b hb, fun a ha => ?_, fun a ha => ?_, .inl rfl, R.tb⟩
        · have h1' : ([some x] : List (Option Addr))[i]? = some (some a) := h1
          have h2' : ([some x] : List (Option Addr))[j]? = some (some a) := h2
          rw [List.getElem?_singleton] at h1' h2'
          split at h1'
          · split at h2'
            · omega
            · cases h2'
          · cases h1'
        · rw [Option.some.inj (List.mem_singleton.mp h)]; exact ox.2.1
        · have h1' : ([some x] : List (Option Addr))[i]? = some (some a) := h1
          rw [List.getElem?_singleton] at h1' h2
          split at h1'
          · cases h1'
            rename_i hz
            rw [if_pos hz] at h2
            cases h2
            exact ⟨C, dx, [], nm, upd_same, hc, hC, .nil⟩
          · cases h1'
        · rcases List.mem_append.mp ha with z | z
          · simp at z
            obtain ⟨u, e⟩ := R.mem z
            exact ⟨u, gr _ _ e⟩
          · obtain ⟨u, e⟩ := R.fr a z
            exact ⟨u, gr _ _ e⟩
        · have ne : ∀ o, H a = some o → some a ∉ M0.ρ := fun o e q => by rw [Option.some.inj (List.mem_singleton.mp q), hx] at e; cases e
          rcases List.mem_append.mp ha with z | z
          · simp at z
            obtain ⟨u, e⟩ := R.mem z
            exact ⟨ne u e, R.dj a z⟩
          · obtain ⟨u, e⟩ := R.fr a z
            exact ⟨ne u e, (R.fd a z).2⟩
      have sM : Step { M with ρ := [], φ := M.ρ.filterMap id ++ M.φ, ξ := none } H M0 (upd (upd H dx (.own x)) x (.ins C dx [])) := ⟨⟨[some x], rfl, fun a h => by rw [Option.some.inj (List.mem_singleton.mp h)]; exact hx⟩, ⟨[], by simp [M0], by simp⟩, ⟨fun _ h => h, fun _ h => .inl h⟩, fun a u e _ _ => gr a u e, fun a u e => ⟨u, gr a u e⟩, rfl⟩
      have ra0 : Reps D M0 (upd (upd H dx (.own x)) x (.ins C dx [])) (vs ++ dvs) (qs ++ dps) := ((((reps_of ra e).app (hp M H)).wide (M' := M.call) (fun _ => call_out) (fun _ h => h)).step sM)
      refine ⟨M0, [.ins c []], .loc 0 :: (qs ++ dps).map RV.pv, R0, .cons ⟨x, rfl, rfl⟩ (rreps_pv ra0), hl, ?_⟩
      refine T.wp_mono (fun r q v H' M' s1 R1 hv => ?_) (fun e q c d H' M' s1 R1 hx' => ?_) (T.wp_mapE.mp (T.wp_bind.mp h))
      · obtain ⟨s2, R2⟩ := A.back R s1 R1
        cases e1 : r.1 with
        | loc i => rw [e1] at q; exact q.elim
        | exc c fs => rw [e1] at q; exact q.elim
        | pv p1 =>
          rw [e1] at q hv
          cases p1 with
          | non =>
            cases hv
            cases e2 : vw r.2 (.loc 0) with
            | none => rw [e2] at q; exact q.elim
            | some p =>
              rw [e2] at q
              refine ⟨rfl, q H' _ s2 R2 _ ?_⟩
              refine A.froze R s1 R1 (r := .loc 0) ⟨x, ?_, rfl⟩ e2
              obtain ⟨n, e3, _⟩ := s1.ρ
              rw [e3]
              rfl
          | _ => exact q.elim
      · obtain ⟨s2, R2⟩ := A.back R s1 R1
        exact q c d H' _ s2 R2 (hx'.wide (fun _ => A.backOut s1) (fun _ h => h))
    · exact h.elim
end
/-! f(..), C(..) by a global name -/
section
variable {X : Cx} {D : Wd} {W : WX} {fv : Value} {m : CM} {x : Str} {p pos : Pos} {e : Expr} {es : List Expr} {as : AM}
theorem q_call {a : Addr} (c : CalR X D W (.ref a) m) (hg : Gl X x) (hm : X.mg x = some (.ref a)) (hk : PySem.W.keepIn X.K (.ref a) = true) (ha : PA X (e :: es) (liftA D W as)) (hdb : (x == ("__debug__" : Str)) = false := by decide) (he : starEach (e :: es) X.env = (false, eval e X.env) :: starEach es X.env := by rfl) (hpl : (backTo pos (starEach es X.env)).any (·.1) = false := by rfl) :
    PE X (.Call (.Name x p) (e :: es) [] pos) (lift D W (eApp m as)) := by
  refine ⟨fun pins s σ H Q I h => wpAny_Call_Name_kw (ld_glob I hg hm ?_ hdb)⟩
  obtain ⟨M, sl, st, R, S, h⟩ := h
  refine PySem.W.callWith_K (h₀ := X.base) I.ok.mod.kin hk (thn (ha.run pos pins s σ H (fun vs H1 => ∃ M1 st1 rs, Rel D M1 st1 H1 ∧ RReps D M1 H1 vs rs ∧ Wp D W M1 H1 σ (m rs st1) fun r _ M' H' => ∀ v, RRep D M' H' v r → Q v H') I ⟨M, sl, st, R, S, (Wp.bind h).mono fun rs st1 M1 H1 s1 R1 h1 vs hv => ⟨M1, st1, rs, R1, hv, h1⟩⟩) fun us s1 ⟨vs, H1, I1, r, M1, st1, rs, R1, hv, h1⟩ => ⟨I1.kIn, ?_⟩) he hpl
  exact c pins s1 σ H1 M1 st1 vs us rs Q I1 R1 r hv h1
theorem q_call0 {a : Addr} (c : CalR X D W (.ref a) m) (hg : Gl X x) (hm : X.mg x = some (.ref a)) (hk : PySem.W.keepIn X.K (.ref a) = true) (hdb : (x == ("__debug__" : Str)) = false := by decide) : PE X (.Call (.Name x p) [] [] pos) (lift D W (eApp m aNil)) := by
  refine ⟨fun pins s σ H Q I h => wpAny_Call_Name_kw (ld_glob I hg hm ?_ hdb)⟩
  obtain ⟨M, sl, st, R, S, h⟩ := h
  exact PySem.W.callWith_K0 I.kIn hk (c pins s σ H M st [] [] [] Q I R .nil .nil h)
end
end Pu
set_option maxHeartbeats 4000000
namespace Pu
open PySem L2
/-! ### attributes -/
def putN (n : Nat) (r : RV) : List (Nat × RV) → List (Nat × RV)
  | [] => [(n, r)]
  | (m, q) :: t => if m = n then (m, r) :: t else (m, q) :: putN n r t
def getF (cs : List Nat) (n : Nat) (r : RV) (st : S) : T XS (RV × S) := match r with
  | .pv (.obj c fs) => if cs.contains c then (match fs.lookup n with
      | some p => .ret (.pv p, st)
      | none => .bad) else .bad
  | .loc i => (match st[i]? with
    | some (.ins c fs) => if cs.contains c then (match fs.lookup n with
        | some q => .ret (q, st)
        | none => .bad) else .bad
    | _ => .bad)
  | .exc c fs => if cs.contains c then (match fs.lookup n with
      | some p => .ret (.pv p, st)
      | none => .bad) else .bad
  | _ => .bad
def eFld (cs : List Nat) (n : Nat) (a : EM) : EM := fun σ st => (a σ st).bind fun r => getF cs n r.1 r.2
def setF (cs : List Nat) (n : Nat) (o v : RV) (st : S) : Option S := match o with
  | .loc i => (match st[i]? with
    | some (.ins c fs) => if cs.contains c ∧ fs.length < 1000 ∧ v.isX = false then some (st.set i (.ins c (putN n v fs))) else none
    | _ => none)
  | _ => none
def sFldP (cs : List Nat) (n : Nat) (o v : EM) : SM := fun σ st => (inS σ (v σ st)).bind fun r => (inS σ (o σ r.2)).bind fun q => match setF cs n q.1 r.1 q.2 with
  | some st' => .ret (.nx σ, st')
  | none => .bad
/-- what the classes cs say of the attribute f -/
def AttrC (D : Wd) (cs : List Nat) (f : Str) : Prop := ∀ c ∈ cs, ∀ nm C, D.cn[c]? = some nm → D.mg nm = some (.ref C) → Cls D.K C ∧ NoAttr D.K C f
section
variable {D : Wd} {M : Mx} {H : Hp}
theorem an_eq (nd : D.an.Nodup) {n m : Nat} {f g : Str} (h1 : D.an[n]? = some f) (h2 : D.an[m]? = some g) : (g == f) = (m == n) := by
  by_cases e : m = n
  · subst e
    rw [h1] at h2; cases h2
    simp
  · have : g ≠ f := fun z => e (nodup_ix nd h2 (by rw [z]; exact h1))
    rw [beq_false_of_ne this, beq_false_of_ne e]
theorem lookup_repf (nd : D.an.Nodup) {n : Nat} {f : Str} (hn : D.an[n]? = some f) : ∀ {vs : List (Str × V)} {fs : List (Nat × PV)} {p : PV}, Repf D M H vs fs → fs.lookup n = some p → ∃ v, vs.lookup f = some v ∧ Rep D M H v p
  | _, _, _, .nil, e => by cases e
  | _, _, p, .cons (n := m) (x := g) hm a b, e => by
    rw [List.lookup_cons] at e ⊢
    have k := an_eq nd hm hn
    rw [← k] at e
    cases c : (f == g) with
    | true => rw [c] at e; cases e; exact ⟨_, rfl, a⟩
    | false => rw [c] at e; exact lookup_repf nd hn b e
theorem lookup_rfs (nd : D.an.Nodup) {n : Nat} {f : Str} (hn : D.an[n]? = some f) : ∀ {vs : List (Str × V)} {fs : List (Nat × RV)} {p : RV}, RFs D M H vs fs → fs.lookup n = some p → ∃ v, vs.lookup f = some v ∧ RRep D M H v p
  | _, _, _, .nil, e => by cases e
  | (g, u) :: _, (m, q) :: _, p, .cons ⟨hm, a⟩ b, e => by
    rw [List.lookup_cons] at e ⊢
    have k := an_eq nd hm hn
    rw [← k] at e
    cases c : (f == g) with
    | true => rw [c] at e; cases e; exact ⟨_, rfl, a⟩
    | false => rw [c] at e; exact lookup_rfs nd hn b e
theorem put_rfs (nd : D.an.Nodup) {n : Nat} {f : Str} (hn : D.an[n]? = some f) {v : V} {r : RV} (hv : RRep D M H v r) : ∀ {vs : List (Str × V)} {fs : List (Nat × RV)}, RFs D M H vs fs → RFs D M H (putF f v vs) (putN n r fs)
  | _, _, .nil => .cons ⟨hn, hv⟩ .nil
  | (g, u) :: vs, (m, q) :: fs, .cons ⟨hm, a⟩ b => by
    unfold putF putN
    have k := an_eq nd hm hn
    by_cases e : m = n
    · subst e
      rw [hn] at hm; cases hm
      rw [if_pos rfl, if_pos rfl]
      exact .cons ⟨hn, hv⟩ b
    · have ne : g ≠ f := fun z => by
        rw [z, beq_self_eq_true] at k
        exact e (eq_of_beq k.symm).symm
      rw [if_neg e, if_neg ne]
      exact .cons ⟨hm, a⟩ (put_rfs nd hn hv b)
/-- one thing that changes is written -/
theorem Rel.write {st : S} (R : Rel D M st H) {i : Nat} {a : Addr} {o : HO} {u : MO} (ha : M.ρ[i]? = some (some a)) (k : Step M H M (upd H a o) → OR D M (upd H a o) a u) : Step M H M (upd H a o) ∧ Rel D M (st.set i u) (upd H a o) := by
  have ma : some a ∈ M.ρ := List.mem_of_getElem? ha
  have s : Step M H M (upd H a o) := ⟨⟨[], by simp, by simp⟩, ⟨[], by simp, by simp⟩, ⟨fun _ h => h, fun _ h => .inl h⟩, fun b u e h1 _ => by rw [upd_ne (fun z => h1 (by rw [z]; exact ma))]; exact e, fun b u e => by
    by_cases z : b = a
    · rw [z]; exact ⟨o, upd_same⟩
    · exact ⟨u, by rw [upd_ne z]; exact e⟩, rfl⟩
  refine ⟨s, ⟨R.nd, R.dj, by rw [List.length_set]; exact R.len, fun j b ob h1 h2 => ?_, fun b hb => (R.bx b hb).step s fun u e => by rw [upd_ne (fun z => R.dj a ma (by rw [← z]; exact hb))]; exact e, fun b hb => ?_, R.fd, R.hx, R.tb⟩⟩
  · by_cases e : i = j
    · subst e
      have hi : i < st.length := by rw [← R.len]; exact (List.getElem?_eq_some_iff.mp ha).1
      rw [List.getElem?_set_self hi] at h2
      cases h2
      rw [ha] at h1
      cases h1
      exact k s
    · rw [List.getElem?_set_ne e] at h2
      refine (R.ob j b ob h1 h2).step s fun u q => ?_
      rw [upd_ne (fun z => e (R.nd i j a ha (by rw [← z]; exact h1)))]
      exact q
  · obtain ⟨u, e⟩ := R.fr b hb
    exact s.there b u e
variable {W : WX} {σ : L2.St} {Q : VK}
theorem getF_end {cs : List Nat} {n : Nat} {f : Str} (nd : D.an.Nodup) (hn : D.an[n]? = some f) (hA : AttrC D cs f) {st : S} {r : RV} {v : V} (R : Rel D M st H) (hv : RRep D M H v r) (hx : r.isX = false) (h : Wp D W M H σ (getF cs n r st) fun r _ M' H' => ∀ v, RRep D M' H' v r → Q v H') :
    ∃ a C dx fs w, v = .ref a ∧ H a = some (.ins C dx fs) ∧ Cls D.K C ∧ NoAttr D.K C f ∧ fs.lookup f = some w ∧ Q w H := by
  cases r with
  | exc c fs => cases hx
  | pv p =>
    cases p with
    | obj c fs =>
      simp only [getF] at h
      split at h
      · rename_i hc
        split at h
        · rename_i p e
          cases hv with
          | obj a b c d e' =>
            obtain ⟨w, h1, h2⟩ := lookup_repf nd hn e' e
            obtain ⟨k1, k2⟩ := hA _ (by simpa using hc) _ _ c d
            exact ⟨_, _, _, _, w, rfl, b, k1, k2, h1, h H M .refl R w h2⟩
        · exact h.elim
      · exact h.elim
    | _ => exact h.elim
  | loc i =>
    obtain ⟨a, ha, rfl⟩ := hv
    simp only [getF] at h
    split at h
    · rename_i c fs hs
      split at h
      · rename_i hc
        split at h
        · rename_i q e
          obtain ⟨C, dx, vs, nm, h1, h2, h3, h4⟩ := R.ob i a _ ha hs
          obtain ⟨w, l1, l2⟩ := lookup_rfs nd hn h4 e
          obtain ⟨k1, k2⟩ := hA _ (by simpa using hc) _ _ h2 h3
          exact ⟨a, C, dx, vs, w, rfl, h1, k1, k2, l1, h H M .refl R w l2.noX⟩
        · exact h.elim
      · exact h.elim
    · exact h.elim
/-- a value that is no exception at hand -/
def eNoX (a : EM) : EM := fun σ st => (a σ st).bind fun r => if r.1.isX = true then .bad else .ret r
theorem lift_fld {cs : List Nat} {n : Nat} {f : Str} {a : EM} (nd : D.an.Nodup) (hn : D.an[n]? = some f) (hA : AttrC D cs f) (hX : ∀ c fs, (getF cs n (.exc c fs)) = fun _ => .bad) (h : lift D W (eFld cs n a) σ H Q) : tFld D.K (lift D W a) f σ H Q := by
  obtain ⟨M, s, st, R, S, h⟩ := h
  refine ⟨M, s, st, R, S, (Wp.bind h).mono fun r st1 M1 H1 s1 R1 h1 v hv => ?_⟩
  cases hx : r.isX with
  | false => exact getF_end nd hn hA R1 hv hx h1
  | true =>
    cases r with
    | exc c fs =>
      have h2 : Wp D W M1 H1 σ (getF cs n (.exc c fs) st1) fun r _ M' H' => ∀ v, RRep D M' H' v r → Q v H' := h1
      rw [hX] at h2
      exact h2.elim
    | _ => cases hx
theorem lift_sfld {cs : List Nat} {n : Nat} {f : Str} {o v : EM} {En : Ends} (nd : D.an.Nodup) (hn : D.an[n]? = some f) (hA : AttrC D cs f) (h : liftS D W (sFldP cs n o v) En σ H) : sFld D.K (lift D W o) (lift D W v) f En σ H := by
  obtain ⟨M, s, st, R, S, h⟩ := h
  refine ⟨M, s, st, R, S, (WpL.out S (WpL.bind h)).mono fun r st1 M1 H1 s1 R1 h1 y hy => ?_⟩
  refine ⟨M1, s, st1, R1, S.step s1, (WpL.out (S.step s1) (WpL.bind h1)).mono fun q st2 M2 H2 s2 R2 h2 x hx => ?_⟩
  dsimp only at h2
  cases e : setF cs n q r st2 with
  | none => rw [e] at h2; exact h2.elim
  | some st3 =>
    rw [e] at h2
    cases q with
    | loc i =>
      obtain ⟨a, ha, rfl⟩ := hx
      simp only [setF] at e
      split at e
      · rename_i c fs hs
        split at e
        · rename_i hc
          cases e
          obtain ⟨C, dx, vs, nm, k1, k2, k3, k4⟩ := R2.ob i a _ ha hs
          obtain ⟨l1, l2⟩ := hA _ (by simpa using hc.1) _ _ k2 k3
          have hl : vs.length < 1000 := by rw [paired_length k4]; exact hc.2.1
          obtain ⟨w1, w2⟩ := R2.write (o := .ins C dx (putF f y vs)) (u := .ins c (putN n r fs)) ha fun sw => ⟨C, dx, _, nm, upd_same, k2, k3, put_rfs nd hn (((hy.step s2).toNoX hc.2.2).step sw.noX) (paired_imp (fun _ _ z => ⟨z.1, z.2.step sw.noX⟩) k4)⟩
          exact ⟨a, C, dx, vs, rfl, k1, l1, l2, hl, h2 _ M2 w1 w2 σ (((S.step s1).step s2).step w1)⟩
        · cases e
      · cases e
    | pv p => cases e
    | exc c fs => cases e
end
end Pu
set_option maxHeartbeats 4000000
namespace Pu
open PySem L2
open PyProof.Rows (AllBare)
/-! ### errors of the package: made and raised -/
def spErr (C : Addr) (f : Str) : Sp := fun vs H Q _ => ∃ (a : Addr) (v : V), vs = [.ref a, v] ∧ H a = some (exo a C none) ∧ ∀ dx, H dx = none → dx ≠ a → Q .non (upd (upd H dx (exd dx [(f, v)])) a (exo a C (some dx)))
def spErr0 (C : Addr) : Sp := fun vs H Q _ => ∃ a : Addr, vs = [.ref a] ∧ H a = some (exo a C none) ∧ Q .non H
section
variable {X : Cx}
/-- an error without fields is let go -/
theorem mk_bare {pins : List (Addr × Obj)} {σ : L2.St} {Ha Hb : Hp} {Q : XK} {ha hb hc : Heap} {ga gc : Array GenState} {da dc : Drawn} {ta tc : Nat} {oa oc : OsState} {e C : Addr} (rs : Raises X (.ref C)) (J : Inv X pins σ Ha ⟨ha, ga, da, ta, oa⟩)
    (he : ha.objs.size ≤ e) (kp : ∀ b o, ha.get? b = some o → hb.get? b = some o) (U : Un (frs X.stack) [] (upd Ha e (exo e C none)) Hb hb hc) (ok : HOk X.prog X.w Hb hc) (eo : oc = oa) (bare : AllBare gc)
    (ee : Hb e = some (exo e C none)) (q : Q (.ref C) none (del Hb e)) : MkP X pins σ Q (.ref e) ⟨hc, gc, dc, tc, oc⟩ := by
  obtain ⟨t0, at0⟩ := exo_at ok ee
  have ne0 : Ha e = none := J.hok.fresh he
  obtain ⟨G, inG, outG⟩ := restrict hc fun b => decide (b ≠ e)
  have same : ∀ b, b ≠ e → G.get? b = hc.get? b := fun b z => inG b (decide_eq_true z)
  have noE : G.get? e = none := outG e (by simp)
  have old : ∀ {b : Addr} {o : Obj}, ha.get? b = some o → b ≠ e := fun {b o} z => Nat.ne_of_lt (Nat.lt_of_lt_of_le (Heap.lt_size z) he)
  have up : ∀ {b : Addr}, b ≠ e → Ha b = none → upd Ha e (exo e C none) b = none := fun {b} z n => by rw [upd_ne z]; exact n
  have U2 : Un (frs X.stack) [] Ha (del Hb e) ha G := by
    refine ⟨fun b o z n f x => ?_, fun b o z n f x => ?_, fun b o z n x => ?_, fun b o z x => ?_, fun b xs z => ?_, fun b o v z => ?_, fun b ps z => ?_⟩
    · rw [same b (old z)]; exact U.keep b o (kp b o z) (up (old z) n) f x
    · rw [same b (old z)]; exact U.slot b o (kp b o z) (up (old z) n) f x
    · rw [del_ne (old z)]; exact U.free b o (kp b o z) (up (old z) n) x
    · rw [same b (old z)]; exact U.there b o (kp b o z) x
    · rw [del_ne (ne_of_none z ne0)]; exact U.tups b xs (by rw [upd_ne (ne_of_none z ne0)]; exact z)
    · rw [del_ne (ne_of_none z ne0)]; exact U.frzs b o v (by rw [upd_ne (ne_of_none z ne0)]; exact z)
    · rw [del_ne (ne_of_none z ne0)]; exact U.tbls b ps (by rw [upd_ne (ne_of_none z ne0)]; exact z)
  have ok2 : HOk X.prog X.w (del Hb e) G := fun b o z => by
    have be : b ≠ e := fun y => by rw [y, del_same] at z; cases z
    rw [del_ne be] at z
    have nown : ∀ {c : Addr}, Hb c = some (.own b) → c ≠ e := fun {c} y => at_ne ee y exo_own
    refine (ok b o z).stay (fun c v y w => ?_) (fun c y => by rw [del_ne (nown y)]; exact y) (fun c xs y => by rw [del_ne (at_ne ee y exo_tup)]; exact y)
    have ce : c ≠ e := by
      rcases y with y | y
      · rw [y]; exact be
      · exact nown y
    rw [same c ce]; exact w
  have J2 : Inv X pins σ (del Hb e) ⟨G, gc, dc, tc, oc⟩ := J.call' (ch := []) eo U2 ok2 bare (fun b z => absurd z (by simp))
  refine ⟨e, _, _, ⟨G, gc, dc, tc, oc⟩, _, .ref C, none, rfl, J2, fun b o z => ?_, noE, at0, ⟨rfl, rfl⟩, rfl, rfl, del_same, rfl, bare, rs, q⟩
  by_cases be : b = e
  · rw [be, noE] at z; cases z
  · exact (same b be).symm.trans z
theorem pmk_none {CX : CXT} {x : Str} {C fI : Addr} {k : Nat} {fd : FuncData} {ps : List Str} {sp : Sp} {p pos : Pos} (T : OexC X.K C) (iC : PySem.W.findIn X.K (.ref C) "__init__" = some (some (.ref fI))) (tI : PySem.W.typeIn X.K (.ref fI) = some (.type "function"))
    (F1 : FnOk X.prog X.w X.K X.mg X.base CX k fI fd ps sp) (hr : Room (k + 1) X.A) (bi : Binds X.K fd ps []) (hx : Passes CX X (fun _ _ _ => False)) (hg : Gl X x) (hm : X.mg x = some (.ref C)) (hdb : (x == ("__debug__" : Str)) = false := by decide) :
    PMk X (.Call (.Name x p) [] [] pos) (fun _ H Q => ∀ a, H a = none → sp [.ref a] (upd H a (exo a C none)) (fun v H2 => v = .non ∧ H2 a = some (exo a C none) ∧ Q (.ref C) none (del H2 a)) (fun _ _ _ => False)) := by
  intro pins s σ H Q J h
  obtain ⟨nm, q, N, bs, bm, sn, sub, ab, col, dd, k0, k1, k2, k3, k5, hC, hbm⟩ := T.cls
  refine wpAny_Call_Name_kw (ld_glob J hg hm ?_ hdb)
  refine PySem.W.callWith_K0 J.kIn T.kC ?_
  show wpAny _ _ (call (.ref C) []) _ _ _
  obtain ⟨hp, g, dr, tk, os⟩ := s
  have hq := h (hp.objs.size + 1) (J.hok.fresh (Nat.le_succ _))
  let h2 : Heap := (hp.push (PySem.W.kdv_tup [])).push (PySem.HandSPX.excO C hp.objs.size)
  have kp : ∀ b o, hp.get? b = some o → h2.get? b = some o := fun b o z => Heap.get?_push_of_some _ (Heap.get?_push_of_some _ z)
  have at1 : h2.get? (hp.objs.size + 1) = some (PySem.HandSPX.excO C hp.objs.size) := by heap_get
  have J2 : Inv X pins σ (upd H (hp.objs.size + 1) (exo (hp.objs.size + 1) C none)) ⟨h2, g, dr, tk, os⟩ := J.laid (t' := tk) (a := hp.objs.size + 1) (o := exo (hp.objs.size + 1) C none) (h' := h2) kp (Nat.le_succ _) (exo_ok at1)
  have hl : ([Value.ref (hp.objs.size + 1)] ++ ([] : List Value)).length = ps.length := by
    have := F1.len _ _ _ _ hq
    exact this
  have run := F1.run _ X.stack _ _ ⟨[Value.ref (hp.objs.size + 1)], []⟩ ([Value.ref (hp.objs.size + 1)] ++ []) [V.ref (hp.objs.size + 1)] _ (fun _ _ _ => False) (hr.make C [] []) (J2.env0.make C [] []) (bi _ [Value.ref (hp.objs.size + 1)] J2.kIn hl) (.cons rfl .nil) hq
  refine wpAny_call (PySem.HandSPX.call_own PySem.F.excBase_ValueError (fun Y => PySem.HandSPX.refsVE_contains Y bm hbm) (J.kIn _ _ hC) (PySem.W.looks_findIn J.kIn iC) (fun self => PySem.W.bind_fn J.kIn self tI) (Nat.zero_le _) (codeAny_mono run fun r s' hq' => ?_))
  match r, hq' with
  | .error er, hq' => exact hx pins σ _ _ er s' J2 hq'
  | .ok (.ret u), hq' =>
    obtain ⟨v, H2, os2, bare2, un2, hok2, rv, ev, ea, q2⟩ := hq'
    subst ev
    obtain ⟨hz, g2, d2, t2, os'⟩ := s'
    exact ⟨rv, mk_bare (raises_own T.exC T.tyC) J (Nat.le_succ _) kp un2 hok2 os2 bare2 ea q2⟩
end
def sRaise0 (c : Nat) : SM := fun σ st => .exc ((⟨.own c, []⟩, σ), st)
def sRaise1 (c n : Nat) (a : EM) : SM := fun σ st => (inS σ (a σ st)).bind fun r => match r.1 with
  | .pv p => .exc ((⟨.own c, [(n, p)]⟩, σ), r.2)
  | _ => .bad
section
variable {D : Wd} {W : WX} {σ : L2.St} {H : Hp} {En : Ends}
theorem lift_raise0 {c : Nat} {nm : Str} {C : Addr} (hc : D.cn[c]? = some nm) (hC : D.mg nm = some (.ref C)) (h : liftS D W (sRaise0 c) En σ H) :
    ∀ a, H a = none → spErr0 C [.ref a] (upd H a (exo a C none)) (fun v H2 => v = .non ∧ H2 a = some (exo a C none) ∧ W (.ref C) none σ (del H2 a)) (fun _ _ _ => False) := by
  obtain ⟨M, s, st, R, S, h⟩ := h
  intro a ha
  refine ⟨a, rfl, upd_same, rfl, upd_same, ?_⟩
  have gr : Gr H (del (upd H a (exo a C none)) a) := fun b u e => by rw [del_ne (ne_of_none e ha), upd_ne (ne_of_none e ha)]; exact e
  obtain ⟨s1, R1⟩ := R.step gr
  exact h (.ref C) none σ _ M s1 R1 (S.step s1) ⟨nm, C, hc, hC, rfl, rfl⟩
theorem lift_raise1 {c n : Nat} {nm f : Str} {C : Addr} {a : EM} (hc : D.cn[c]? = some nm) (hC : D.mg nm = some (.ref C)) (hn : D.an[n]? = some f) (h : liftS D W (sRaise1 c n a) En σ H) :
    tMkO C (spErr C f) [] (tCons (lift D W a) tNil) σ H (fun cls d H' => W cls d σ H') := by
  obtain ⟨M, s, st, R, S, h⟩ := h
  refine ⟨M, s, st, R, S, (WpL.out S (WpL.bind h)).mono fun r st1 M1 H1 s1 R1 h1 v hv => ?_⟩
  dsimp only at h1
  split at h1
  · rename_i p
    refine ⟨by show 1 ≤ 1000; decide, fun e he => ⟨e, v, rfl, upd_same, fun dx hdx ne => ⟨rfl, dx, [(f, v)], upd_same, ?_, ?_, ?_⟩⟩⟩
    · rw [upd_ne ne, upd_same]
    · rw [upd_ne ne] at hdx; exact hdx
    · have hd1 : H1 dx = none := by rw [upd_ne ne] at hdx; exact hdx
      have gr : Gr H1 (upd (del (upd (upd (upd H1 e (exo e C none)) dx (exd dx [(f, v)])) e (exo e C (some dx))) e) dx (.xd [(f, v)])) := fun b u q => by
        have b1 := ne_of_none q he
        have b2 := ne_of_none q hd1
        rw [upd_ne b2, del_ne b1, upd_ne b1, upd_ne b2, upd_ne b1]; exact q
      obtain ⟨s2, R2⟩ := R1.step gr
      refine h1 (.ref C) (some dx) σ _ M1 s2 R2 ((S.step s1).step s2) ⟨nm, C, hc, hC, rfl, [(f, v)], upd_same, R1.free hd1, .cons hn (Rep.step s2 hv) .nil⟩
  · exact h1.elim
end
/-! ### try .. except -/
/-- which exceptions a clause takes -/
def xIs (cs : List Nat) (e : PExc) : Bool := match e.c with
  | .own c => cs.contains c
  | .blt _ => false
def dropX : Option RV → Option RV
  | some (.exc _ _) => none
  | o => o
def endX (i : Nat) : Fl → Option Fl
  | .nx σ => some (.nx ((σ.set i none).map dropX))
  | .bk σ => some (.bk ((σ.set i none).map dropX))
  | .ct σ => some (.ct ((σ.set i none).map dropX))
  | .rt r => if r.isX = true then none else some (.rt r)
namespace T
def catch_ {ε ε2 α : Type} : T ε α → (ε → T ε2 α) → T ε2 α
  | .ret a, _ => .ret a
  | .exc e, f => f e
  | .ch n k, f => .ch n fun i => catch_ (k i) f
  | .bad, _ => .bad
theorem wp_catch {ε ε2 α : Type} {Q : α → Prop} {E : ε2 → Prop} {f : ε → T ε2 α} : ∀ {t : T ε α}, (catch_ t f).wp Q E ↔ t.wp Q (fun e => (f e).wp Q E)
  | .ret a => Iff.rfl
  | .exc e => Iff.rfl
  | .ch n k => ⟨fun h i hi => wp_catch.mp (h i hi), fun h i hi => wp_catch.mpr (h i hi)⟩
  | .bad => Iff.rfl
end T
def sTryAs (cs no : List Nat) (i : Nat) (body suite : SM) : SM := fun σ st => T.catch_ (body σ st) fun e => match e.1.1.c with
  | .own c => if cs.contains c then (T.noX (suite (e.1.2.set i (some (.exc c e.1.1.fs))) e.2)).bind (fun f => match endX i f.1 with
      | some g => .ret (g, f.2)
      | none => .bad) else if no.contains c then .exc e else .bad
  | .blt _ => .bad
end Pu
set_option maxHeartbeats 4000000
namespace Pu
open PySem L2
/-! ### try: the suite's world has the exception at hand -/
def Wd.at (D : Wd) (q : Option (Addr × Addr × Option Addr)) : Wd := { D with xi := q }
def Mx.at (M : Mx) (q : Option (Addr × Addr × Option Addr)) : Mx := { M with ξ := q }
section
variable {D : Wd} {M : Mx} {H : Hp} {q q' : Option (Addr × Addr × Option Addr)}
mutual
theorem Rep.at : ∀ {v : V} {p : PV}, Rep D M H v p → Rep (D.at q) (M.at q') H v p
  | _, _, .non => .non
  | _, _, .bl b => .bl b
  | _, _, .int i => .int i
  | _, _, .str x => .str x
  | _, _, .ty n => .ty n
  | _, _, .box h t => .box h t
  | _, _, .cls a b => .cls a b
  | _, _, .tup a r => .tup a (Reps.at r)
  | _, _, .lst a r => .lst a (Reps.at r)
  | _, _, .dct a c r => .dct a c (Repd.at r)
  | _, _, .obj a c e f r => .obj a c e f (Repf.at r)
  | _, _, .fn a c e r => .fn a c e (Reps.at r)
theorem Reps.at : ∀ {v : List V} {p : List PV}, Reps D M H v p → Reps (D.at q) (M.at q') H v p
  | _, _, .nil => .nil
  | _, _, .cons a r => .cons (Rep.at a) (Reps.at r)
theorem Repd.at : ∀ {v : List (Key × V)} {p : List (Key × PV)}, Repd D M H v p → Repd (D.at q) (M.at q') H v p
  | _, _, .nil => .nil
  | _, _, .cons a r => .cons (Rep.at a) (Repd.at r)
theorem Repf.at : ∀ {v : List (Str × V)} {p : List (Nat × PV)}, Repf D M H v p → Repf (D.at q) (M.at q') H v p
  | _, _, .nil => .nil
  | _, _, .cons a c r => .cons a (Rep.at c) (Repf.at r)
end
theorem RRep.at {v : V} : ∀ {r : RV}, r.isX = false → RRep D M H v r → RRep (D.at q) (M.at q') H v r
  | .pv p, _, h => Rep.at h
  | .loc i, _, h => h
  | .exc c fs, e, _ => by cases e
theorem noX_isX {v : V} : ∀ {r : RV}, RRep D M.noX H v r → r.isX = false
  | .pv p, _ => rfl
  | .loc i, _ => rfl
  | .exc c fs, ⟨_, _, _, _, _, e, _⟩ => by cases e
theorem OR.at {a : Addr} {o : MO} (h : OR D M H a o) : OR (D.at q) (M.at q') H a o := by
  have rr : ∀ v r, RRep D M.noX H v r → RRep (D.at q) (M.at q').noX H v r := fun v r h => RRep.at (M := M.noX) (q' := none) (noX_isX h) h
  cases o with
  | lst xs => obtain ⟨vs, e, r⟩ := h; exact ⟨vs, e, paired_imp rr r⟩
  | dct xs => obtain ⟨vs, e, r⟩ := h; exact ⟨vs, e, paired_imp (fun _ _ q => ⟨q.1, rr _ _ q.2⟩) r⟩
  | ins c fs => obtain ⟨C, dx, vs, nm, e, h1, h2, r⟩ := h; exact ⟨C, dx, vs, nm, e, h1, h2, paired_imp (fun _ _ q => ⟨q.1, rr _ _ q.2⟩) r⟩
  | gone => exact h
theorem Rel.at {st : S} (R : Rel D M st H) (hq : q' = none ∨ q' = q) : Rel (D.at q) (M.at q') st H := ⟨R.nd, R.dj, R.len, fun i a o h1 h2 => (R.ob i a o h1 h2).at, fun b hb => R.bx b hb, R.fr, R.fd, hq, R.tb⟩
theorem Wd.back (h : D.xi = none) : (D.at q).at none = D := by
  cases D
  cases h
  rfl
theorem Mx.back_ (h : M.ξ = none) : (M.at q).at none = M := by
  cases M
  cases h
  rfl
end
section
variable {X : Cx} {D : Wd} {W : WX} {x n : Str} {cv : Value} {i : Nat} {body suite : List Stmt} {b₀ : Stmt} {np pos pos' : Pos} {mb ms : SM} {cs no : List Nat}
theorem q_tryAs (hD : D.xi = none) (hs : X.stack = X.env :: X.outer) (hf : X.env.frame = some X.env.locals) (hN : X.N.Nodup) (hi : X.N[i]? = some n) (hln : X.env.kindOf n = some .local) (hc : Names X x cv) (tk : Takes X W)
    (hyes : ∀ c ∈ cs, ∀ nm C, D.cn[c]? = some nm → D.mg nm = some (.ref C) → PySem.W.exmOne X.K (.ref C) cv = some true) (hno : ∀ c ∈ no, ∀ nm C, D.cn[c]? = some nm → D.mg nm = some (.ref C) → PySem.W.exmOne X.K (.ref C) cv = some false)
    (hb : ∀ (W : WX) (pn : List (Addr × Obj)) (xe : Value → Shared → Prop), Takes (X.tr pn xe) W → PassesOwn (model X.prog X.w) X.A X.env xe → PSs (X.tr pn xe) body (liftS D W mb))
    (hsu : ∀ (a : Addr) (oe : Obj) (C : Addr) (d : Option Addr) (pn : List (Addr × Obj)), Zc (.ref C) d oe → (∃ vs, oe.data = .fields vs) → PSs (X.suite a ((a, oe) :: pn)) (b₀ :: suite) (liftS (D.at (some (a, C, d))) WF ms)) :
    PS X (.Try body [.ExceptHandler (some (.Name x np)) (some n) (b₀ :: suite) pos'] [] [] pos) (liftS D W (sTryAs cs no i mb ms)) := by
  refine ps_imp (ps_try_as (tb := fun W => liftS D W mb) (ts := fun a cls d En σ H => ∃ C, cls = .ref C ∧ liftS (D.at (some (a, C, d))) WF ms En σ H) (Wout := W) hs hf hN hi hln hc tk hb ?_) ?_
  · intro a oe cls d pn hz hd
    refine ⟨fun pins s σ H En I h => ?_⟩
    obtain ⟨C, rfl, h⟩ := h
    exact (hsu a oe C d pn hz hd).run pins s σ H En I h
  · intro En σ H h
    obtain ⟨M, s, st, R, S, h⟩ := h
    refine ⟨M, s, st, R, S, ?_⟩
    unfold sTryAs at h
    refine T.wp_mono (fun r q => q) (fun e q cls d σV H' M' s1 R1 S1 x1 => ?_) (T.wp_catch.mp h)
    obtain ⟨⟨pe, s2⟩, st2⟩ := e
    obtain ⟨pc, fs⟩ := pe
    cases pc with
    | blt nm => exact q.elim
    | own c =>
      obtain ⟨nm, C, k1, k2, rfl, k3⟩ := x1
      dsimp only at q
      split at q
      · rename_i hcs
        refine ⟨true, hyes c (by simpa using hcs) nm C k1 k2, fun _ a ha => ⟨C, rfl, ?_⟩, fun z => by cases z⟩
        have x0 : M'.ξ = none := R1.hx.elim id fun z => z.trans hD
        have dS : Slots (D.at (some (a, C, d))) (M'.at (some (a, C, d))) H' (σV.set i (some (.ref a))) (s2.set i (some (.exc c fs))) := by
          have base : Slots (D.at (some (a, C, d))) (M'.at (some (a, C, d))) H' σV s2 := ⟨S1.1, fun j r e => by
            obtain ⟨v, h1, h2⟩ := S1.2 j r e
            refine ⟨v, h1, h2.at ?_⟩
            cases r with
            | exc c fs => obtain ⟨_, _, _, _, _, e, _⟩ := h2; rw [x0] at e; cases e
            | _ => rfl⟩
          refine base.set i ⟨a, C, nm, d, rfl, rfl, k1, k2, ?_⟩
          cases d with
          | none => exact k3
          | some dx => obtain ⟨vs, j1, j2, j3⟩ := k3; exact ⟨vs, j1, j2, j3.at⟩
        refine ⟨M'.at (some (a, C, d)), _, st2, R1.at (.inr rfl), dS, T.wp_mono (fun f g H3 M3 s3 R3 => ?_) (fun _ z => z.elim) (T.wp_noX.mp (T.wp_bind.mp q))⟩
        -- the suite's end
        have dD : (D.at (some (a, C, d))).at none = D := Wd.back hD
        have R4 : Rel D (M3.at none) f.2 H3 := by
          have := R3.at (q := none) (q' := none) (.inl rfl)
          rw [dD] at this
          exact this
        have s4 : Step M' H' (M3.at none) H3 := ⟨s3.ρ, s3.β, s3.φ, s3.keep, s3.there, x0.symm⟩
        have slots : ∀ {σ2 : L2.St} {z : Sl}, Slots (D.at (some (a, C, d))) M3 H3 σ2 z → Slots D (M3.at none) H3 (σ2.set i none) ((z.set i none).map dropX) := fun {σ2 z} hS => by
          have hS := hS.del i none
          refine ⟨by rw [List.length_map]; exact hS.1, fun j r e => ?_⟩
          rw [List.getElem?_map] at e
          cases ez : (z.set i none)[j]? with
          | none => rw [ez] at e; cases e
          | some o =>
            rw [ez] at e
            cases o with
            | none => cases e
            | some r' =>
              cases r' with
              | exc c fs => cases e
              | pv p =>
                cases e
                obtain ⟨v, h1, h2⟩ := hS.2 j _ ez
                refine ⟨v, h1, ?_⟩
                have := RRep.at (q := none) (q' := none) (r := .pv p) rfl h2
                rw [dD] at this
                exact this
              | loc k =>
                cases e
                obtain ⟨v, h1, h2⟩ := hS.2 j _ ez
                exact ⟨v, h1, h2⟩
        cases ef : f.1 with
        | nx z =>
          rw [ef] at g
          exact fun σ2 hS => g H3 _ (s1.trans s4) R4 _ (slots hS)
        | bk z =>
          rw [ef] at g
          exact fun σ2 hS => g H3 _ (s1.trans s4) R4 _ (slots hS)
        | ct z =>
          rw [ef] at g
          exact fun σ2 hS => g H3 _ (s1.trans s4) R4 _ (slots hS)
        | rt r =>
          rw [ef] at g
          simp only [endX] at g
          intro v hv
          cases er : r.isX with
          | true => rw [er] at g; exact g.elim
          | false =>
            rw [er] at g
            refine g H3 _ (s1.trans s4) R4 v ?_
            have := RRep.at (q := none) (q' := none) er hv
            rw [dD] at this
            exact this
      · split at q
        · rename_i hn
          refine ⟨false, hno c (by simpa using hn) nm C k1 k2, fun z => (by cases z), fun _ => ?_⟩
          exact q (.ref C) d σV H' M' s1 R1 S1 ⟨nm, C, k1, k2, rfl, k3⟩
        · exact q.elim
end
end Pu
set_option maxHeartbeats 4000000
namespace Pu
open PySem L2
/-! ### the rules, as they are used -/
/-- the value of a global name -/
structure GC (D : Wd) (x : Str) (p : PV) : Prop where
  ex : ∃ u v, D.mg x = some u ∧ RelV v u ∧ ∀ M H, Rep D M H v p
section
variable {X : Cx} {D : Wd} {W : WX} {a b c : Expr} {ma mb mc : EM} {pos : Pos} {i : Nat} {x : Str}
theorem q_var {e : Expr} (h : PE X e (tVar i)) : PE X e (lift D W (eVar i)) := pe_imp h fun _ _ _ => lift_var
theorem q_int {n : Int} {j : Nat} : PE X (.Constant (.int n) j pos) (lift D W (eC (.int n))) := pe_imp pe_int fun _ _ _ => lift_c fun _ _ => .int n
theorem q_bl {n : Bool} {j : Nat} : PE X (.Constant (.bool n) j pos) (lift D W (eC (.bl n))) := pe_imp pe_bl fun _ _ _ => lift_c fun _ _ => .bl n
theorem q_non {j : Nat} : PE X (.Constant .none j pos) (lift D W (eC .non)) := pe_imp pe_non fun _ _ _ => lift_c fun _ _ => .non
theorem q_str {n m : Str} {j : Nat} (e : n = m) : PE X (.Constant (.str n) j pos) (lift D W (eC (.str m))) := by subst e; exact pe_imp pe_str fun _ _ _ => lift_c fun _ _ => .str n
theorem q_glob {p : PV} (hM : X.mg = D.mg) (g : GC D x p) (hg : Gl X x) (hd : (x == ("__debug__" : Str)) = false := by decide) : PE X (.Name x pos) (lift D W (eC p)) := by
  obtain ⟨u, v, h1, h2, h3⟩ := g.ex
  exact pe_imp (pe_glob hg (by rw [hM]; exact h1) h2 hd) fun _ _ _ => lift_c h3
theorem q_bin {op : Operator} {r : R2} {g : PV → PV → Option PV} (ho : OpR X (binaryOp op) r) (hp : OpP D r g) (ha : PE X a (lift D W ma)) (hb : PE X b (lift D W mb)) : PE X (.BinOp a op b pos) (lift D W (eOp g ma mb)) := pe_imp (pe_op ho ha hb) fun _ _ _ => lift_op hp
theorem q_add (hK : X.K = D.K) (ha : PE X a (lift D W ma)) (hb : PE X b (lift D W mb)) : PE X (.BinOp a .Add b pos) (lift D W (eOp gAdd ma mb)) := q_bin (by rw [← hK]; exact o_add) p_add ha hb
theorem q_sub (ha : PE X a (lift D W ma)) (hb : PE X b (lift D W mb)) : PE X (.BinOp a .Sub b pos) (lift D W (eOp gSub ma mb)) := q_bin o_sub p_sub ha hb
theorem q_mul (ha : PE X a (lift D W ma)) (hb : PE X b (lift D W mb)) : PE X (.BinOp a .Mult b pos) (lift D W (eOp gMul ma mb)) := q_bin o_mul p_mul ha hb
theorem q_fdiv (ha : PE X a (lift D W ma)) (hb : PE X b (lift D W mb)) : PE X (.BinOp a .FloorDiv b pos) (lift D W (eOp gDiv ma mb)) := q_bin o_div p_div ha hb
theorem q_mod (ha : PE X a (lift D W ma)) (hb : PE X b (lift D W mb)) : PE X (.BinOp a .Mod b pos) (lift D W (eOp gMod ma mb)) := q_bin op_modN p_mod ha hb
theorem q_pow (ha : PE X a (lift D W ma)) (hb : PE X b (lift D W mb)) : PE X (.BinOp a .Pow b pos) (lift D W (eOp gPow ma mb)) := q_bin op_pow p_pow ha hb
theorem q_neg (ha : PE X a (lift D W ma)) : PE X (.UnaryOp .USub a pos) (lift D W (eUn gNeg ma)) := pe_imp (pe_un un_neg ha) fun _ _ _ => lift_un p_neg
/-- a comparison: its machine's rule and what it does to trees -/
structure CmpR (X : Cx) (D : Wd) (op : CmpOp) (g : PV → PV → Option PV) : Prop where
  ex : ∃ r, OpR X (compareOp op) r ∧ OpP D r g
theorem c_lt : CmpR X D .Lt gLt := ⟨_, op_lt, p_lt⟩
theorem c_le : CmpR X D .LtE gLe := ⟨_, op_le, p_le⟩
theorem c_gt : CmpR X D .Gt gGt := ⟨_, op_gt, p_gt⟩
theorem c_ge : CmpR X D .GtE gGe := ⟨_, op_ge, p_ge⟩
theorem c_eq (hK : X.K = D.K) (hu : X.A.units + 100 < cLine) : CmpR X D .Eq gEq := ⟨_, by rw [← hK]; exact op_eqD (by omega), p_eq⟩
theorem c_ne (hK : X.K = D.K) (hu : X.A.units + 100 < cLine) : CmpR X D .NotEq gNe := ⟨_, by rw [← hK]; exact op_neD (by omega), p_ne⟩
theorem c_in (hK : X.K = D.K) (hu : X.A.units + 100 < cLine) : CmpR X D .In gIn := ⟨_, by rw [← hK]; exact o_in (by omega), p_in⟩
theorem c_notIn (hK : X.K = D.K) (hu : X.A.units + 100 < cLine) : CmpR X D .NotIn gNotIn := ⟨_, by rw [← hK]; exact o_notIn (by omega), p_notIn⟩
theorem c_is : CmpR X D .Is gIs := ⟨_, op_isN, p_is⟩
theorem c_isNot : CmpR X D .IsNot gIsNot := ⟨_, op_notN, p_isNot⟩
theorem q_cmp {op : CmpOp} {g : PV → PV → Option PV} (c : CmpR X D op g) (ha : PE X a (lift D W ma)) (hb : PE X b (lift D W mb)) (hm : behindInMarks op b = false) : PE X (.Compare a [op] [b] pos) (lift D W (eOp g ma mb)) := by
  obtain ⟨r, ho, hp⟩ := c.ex
  exact pe_imp (pe_cmpR ho ha hb hm) fun _ _ _ => lift_op hp
theorem q_tcmp {op : CmpOp} {g : PV → PV → Option PV} (c : CmpR X D op g) (ha : PE X a (lift D W ma)) (hb : PE X b (lift D W mb)) (hm : behindInMarks op b = false) : PT X (.Compare a [op] [b] pos) (liftB D W (bVal (eOp g ma mb))) := by
  obtain ⟨r, ho, hp⟩ := c.ex
  refine pt_imp (pt_cmpR ho ha hb hm) fun σ H Q h => ?_
  exact lift_op hp (lift_bval h)
theorem lift_chain {r r' : R2} {g g' : PV → PV → Option PV} (hp : OpP D r g) (hp' : OpP D r' g') {σ : L2.St} {H : Hp} {Q : VK} (h : lift D W (eChain g g' ma mb mc) σ H Q) : tChain r r' (lift D W ma) (lift D W mb) (lift D W mc) σ H Q := by
  obtain ⟨M, s, st, R, S, h⟩ := h
  refine ⟨M, s, st, R, S, (Wp.bind h).mono fun ra st1 M1 H1 s1 R1 h1 v hv => ⟨M1, s, st1, R1, S.step s1, (Wp.bind h1).mono fun rb st2 M2 H2 s2 R2 h2 u hu => ?_⟩⟩
  have S2 := (S.step s1).step s2
  refine op2_end (Q := fun z H3 => ∃ k, z = .bl k ∧ (if k = true then lift D W mc σ H3 fun w' H4 => r' u w' H4 Q else Q (.bl false) H3)) hp R2 (hv.step s2) hu ((Wp.bind h2).mono fun z st3 M3 H3 s3 R3 h3 zv hz => ?_)
  dsimp only at h3
  split at h3
  · cases hz
    refine ⟨_, rfl, ?_⟩
    split at h3
    · rename_i e
      rw [if_pos e]
      exact ⟨M3, s, st3, R3, S2.step s3, (Wp.bind h3).mono fun w st4 M4 H4 s4 R4 h4 wv hw => op2_end hp' R4 ((hu.step s3).step s4) hw h4⟩
    · rename_i e
      rw [if_neg e]
      exact h3 H3 M3 .refl R3 _ (.bl false)
  · exact h3.elim
theorem q_chain {op op' : CmpOp} {g g' : PV → PV → Option PV} (k : CmpR X D op g) (k' : CmpR X D op' g') (ha : PE X a (lift D W ma)) (hb : PE X b (lift D W mb)) (hc : PE X c (lift D W mc)) (hm : lastMarks [op, op'] [b, c] = false := by with_unfolding_all rfl) : PE X (.Compare a [op, op'] [b, c] pos) (lift D W (eChain g g' ma mb mc)) := by
  obtain ⟨r, ho, hp⟩ := k.ex
  obtain ⟨r', ho', hp'⟩ := k'.ex
  exact pe_imp (pe_chain ho ho' ha hb hc hm) fun _ _ _ => lift_chain hp hp'
/-- a test that is an expression -/
theorem q_tval {e : Expr} {m : EM} (h : PE X e (lift D W m)) (he : ∀ whole, isTrue e X.env whole = (do let v ← whole; standAt e.pos; holding [v] (truthy v)) := by intro _; rfl) : PT X e (liftB D W (bVal m)) := pt_imp (pt_val h he) fun _ _ _ => lift_bval
theorem q_tchain {op op' : CmpOp} {g g' : PV → PV → Option PV} (k : CmpR X D op g) (k' : CmpR X D op' g') (ha : PE X a (lift D W ma)) (hb : PE X b (lift D W mb)) (hc : PE X c (lift D W mc)) (hm : lastMarks [op, op'] [b, c] = false := by with_unfolding_all rfl) : PT X (.Compare a [op, op'] [b, c] pos) (liftB D W (bVal (eChain g g' ma mb mc))) := by
  obtain ⟨r, ho, hp⟩ := k.ex
  obtain ⟨r', ho', hp'⟩ := k'.ex
  exact pt_imp (pt_chain ho ho' ha hb hc hm) fun _ _ _ h => lift_chain hp hp' (lift_bval h)
variable {tA tB : BM} {rest : List Expr}
theorem q_wand1 (h : PT X a (liftB D W tA)) : PW X (.BoolOp .And [a] pos) (liftB D W tA) := pw_and1 h
theorem q_wor1 (h : PT X a (liftB D W tA)) : PW X (.BoolOp .Or [a] pos) (liftB D W tA) := pw_or1 h
theorem q_wand (h : PT X a (liftB D W tA)) (h2 : PW X (.BoolOp .And (b :: rest) pos) (liftB D W tB)) : PW X (.BoolOp .And (a :: b :: rest) pos) (liftB D W (bAnd tA tB)) := pw_imp (pw_and h h2) fun _ _ _ => lift_band
theorem q_wor (h : PT X a (liftB D W tA)) (h2 : PW X (.BoolOp .Or (b :: rest) pos) (liftB D W tB)) : PW X (.BoolOp .Or (a :: b :: rest) pos) (liftB D W (bOr tA tB)) := pw_imp (pw_or h h2) fun _ _ _ => lift_bor
theorem q_tnot (h : PT X a (liftB D W tA)) : PT X (.UnaryOp .Not a pos) (liftB D W (bNot tA)) := pt_imp (pt_not h) fun _ _ _ => lift_bnot
theorem q_one {op : BoolOp} (h : PE X a (lift D W ma)) : PE X (.BoolOp op [a] pos) (lift D W ma) := pe_one h
theorem q_and (h : PE X a (lift D W ma)) (h2 : PE X (.BoolOp .And (b :: rest) pos) (lift D W mb)) : PE X (.BoolOp .And (a :: b :: rest) pos) (lift D W (eAnd ma mb)) := pe_imp (pe_and h h2) fun _ _ _ => lift_and
theorem q_or (h : PE X a (lift D W ma)) (h2 : PE X (.BoolOp .Or (b :: rest) pos) (lift D W mb)) : PE X (.BoolOp .Or (a :: b :: rest) pos) (lift D W (eOr ma mb)) := pe_imp (pe_or h h2) fun _ _ _ => lift_or
theorem q_not (h : PE X a (lift D W ma)) : PE X (.UnaryOp .Not a pos) (lift D W (eNot ma)) := pe_imp (pe_not h) fun _ _ _ => lift_not
theorem q_if (h : PT X c (liftB D W tA)) (ha : PE X a (lift D W ma)) (hb : PE X b (lift D W mb)) : PE X (.IfExp c a b pos) (lift D W (eIf tA ma mb)) := pe_imp (pe_ifExp h ha hb) fun _ _ _ => lift_if
theorem q_ix (hK : X.K = D.K) (ha : PE X a (lift D W ma)) (hb : PE X b (lift D W mb)) (hs : PlainIx b) : PE X (.Subscript a b pos) (lift D W (eOp gIx ma mb)) := pe_imp (pe_ix (by rw [← hK]; exact o_ix) ha hb hs) fun _ _ _ => lift_op p_ix
variable {es : List Expr} {ms : AM} {e : Expr} {m : EM}
theorem q_anil : PA X [] (liftA D W aNil) := pa_imp pa_nil fun _ _ _ => lift_anil
theorem q_acons (h : PE X e (lift D W m)) (hr : PA X es (liftA D W ms)) (hs : starEach (e :: es) X.env = (false, eval e X.env) :: starEach es X.env := by rfl) : PA X (e :: es) (liftA D W (aCons m ms)) := pa_imp (pa_cons h hr hs) fun _ _ _ => lift_acons
theorem q_astar {p : Pos} (hK : X.K = D.K) (h : PE X e (lift D W m)) (hr : PA X es (liftA D W ms)) (hs : starEach (.Starred e p :: es) X.env = (true, eval e X.env) :: starEach es X.env := by rfl) : PA X (.Starred e p :: es) (liftA D W (aStar m ms)) := pa_imp (StX.pa_star h hr hs) fun _ _ _ h => by rw [hK]; exact lift_astar h
theorem q_tup {n : Nat} (h : PA X es (liftA D W ms)) : PE X (.Tuple es n pos) (lift D W (eTup ms)) := pe_imp (pe_tup h) fun _ _ _ => lift_tup
theorem q_lst (h : PA X es (liftA D W ms)) : PE X (.List es pos) (lift D W (eLst ms)) := pe_imp (pe_lst h) fun _ _ _ => lift_lst
theorem q_lstM (h : PA X es (liftA D W ms)) : PE X (.List es pos) (lift D W (eLstM ms)) := pe_imp (pe_lst h) fun _ _ _ => lift_lstM
/-! statements -/
variable {st : Stmt} {sts b1 b2 : List Stmt} {s1 s2 : SM}
theorem q_nil : PSs X [] (liftS D W sNext) := pss_imp pss_nil fun _ _ _ => lift_next
theorem q_cons (h : PS X st (liftS D W s1)) (h2 : PSs X sts (liftS D W s2)) : PSs X (st :: sts) (liftS D W (sSeq s1 s2)) := pss_imp (pss_cons h h2) fun _ _ _ => lift_seq
theorem q_last (h : PS X st (liftS D W s1)) : PSs X [st] (liftS D W s1) := pss_one h
theorem q_expr (h : PE X e (lift D W m)) (hs : swapsWith e none pos.line X.env = pure false := by rfl) : PS X (.Expr e pos) (liftS D W (sExpr m)) := ps_imp (ps_expr h hs) fun _ _ _ => lift_expr
theorem q_ret (h : PE X e (lift D W m)) : PS X (.Return (some e) pos) (liftS D W (sRet m)) := ps_imp (ps_ret h) fun _ _ _ => lift_ret
theorem q_retN : PS X (.Return none pos) (liftS D W sRetN) := ps_imp ps_retN fun _ _ _ => lift_retN
theorem q_pass : PS X (.Pass pos) (liftS D W sNext) := ps_imp ps_pass fun _ _ _ => lift_next
theorem q_break : PS X (.Break pos) (liftS D W sBreak) := ps_imp ps_break fun _ _ _ => lift_break
theorem q_cont : PS X (.Continue pos) (liftS D W sCont) := ps_imp ps_continue fun _ _ _ => lift_cont
theorem q_ifS (h : PT X c (liftB D W tA)) (h1 : PSs X b1 (liftS D W s1)) (h2 : PSs X b2 (liftS D W s2)) : PS X (.If c b1 b2 pos) (liftS D W (sIf tA s1 s2)) := ps_imp (ps_if h h1 h2) fun _ _ _ => lift_ifS
theorem q_while (n : Nat) (hp : PassesOwn (model X.prog X.w) X.A X.env X.xe) (h : PT X c (liftB D W tA)) (h1 : PSs X b1 (liftS D W s1)) : PS X (.While c b1 [] pos) (liftS D W (sWhile n tA s1)) := ps_imp (ps_while hp h h1) fun _ _ _ => lift_while
theorem q_set {y : Str} {py : Pos} (hN : X.N.Nodup) (hi : X.N[i]? = some y) (hx : Loc X.env.scope y) (he : PE X e (lift D W m)) (hs : swapsWith e (some (.Name y py)) pos.line X.env = pure false := by rfl) (hf : X.fn y = true ∨ X.env.scope.names.lookup y = some .local := by first | exact .inl rfl | exact .inr rfl | assumption) :
    PS X (.Assign [.Name y py] e pos) (liftS D W (sSet i m)) := ps_imp (ps_set hN hi hx he hs hf) fun _ _ _ => lift_set
variable {tg iter : Expr} {g : GM} {gs : GMs} {it : IM}
theorem q_gname {y : Str} (hN : X.N.Nodup) (hi : X.N[i]? = some y) (hx : Loc X.env.scope y) (hf : X.fn y = true ∨ X.env.scope.names.lookup y = some .local := by first | exact .inl rfl | exact .inr rfl | assumption) : PG X (.Name y pos) (liftG D W (gN i)) := ⟨fun pins s σ H v u Q I r h => (pg_name hN hi hx hf).run pins s σ H v u Q I r (lift_gN h)⟩
theorem q_gsnil : PGs X [] (liftGs D W gsNil) := ⟨fun pins s σ H v u Q I r h => pgs_nil.run pins s σ H v u Q I r (lift_gsNil h)⟩
theorem q_gscons (h1 : PG X e (liftG D W g)) (h2 : PGs X es (liftGs D W gs)) (hs : (assignEach (e :: es) X.env).map (·.2) = assign e X.env :: (assignEach es X.env).map (·.2) := by rfl) : PGs X (e :: es) (liftGs D W (gsCons g gs)) := ⟨fun pins s σ H v u Q I r h => (pgs_cons h1 h2 hs).run pins s σ H v u Q I r (lift_gsCons h)⟩
theorem q_gtup {k n : Nat} (hK : X.K = D.K) (hc : X.calm = true) (h : PGs X es (liftGs D W gs)) (hn : (assignEach es X.env).length = n := by rfl) (hst : (assignEach es X.env).findIdx? (·.1) = none := by rfl) : PG X (.Tuple es k pos) (liftG D W (gT n gs)) := ⟨fun pins s σ H v u Q I r h' => (pg_tup hc h hn hst).run pins s σ H v u Q I r (by rw [hK]; exact lift_gT h')⟩
theorem q_asg (he : PE X e (lift D W m)) (hg : PG X tg (liftG D W g)) (hs : swapsWithSole [tg] e pos.line X.env = pure false := by rfl) (hw : swappedStores [tg] e X.env = pure none := by rfl) (h1 : (assignEach [tg] X.env).map (·.2) = [assign tg X.env] := by rfl) : PS X (.Assign [tg] e pos) (liftS D W (sAsg m g)) := ps_imp (ps_asg he hg hs hw h1) fun _ _ _ => lift_asg
theorem pi_imp {wi wi' : TI} (h : PI X tg iter wi) (f : ∀ σ H R, wi' σ H R → wi σ H R) : PI X tg iter wi' := ⟨fun pins s σ H R I q => h.run pins s σ H R I (f σ H R q)⟩
theorem q_for (hp : PassesOwn (model X.prog X.w) X.A X.env X.xe) (hc : X.calm = true) (hi : PI X tg iter (liftI D W it)) (hg : PG X tg (liftG D W g)) (hb : PSs X b1 (liftS D W s1)) (hs : ∀ x, foldedSetIterable iter X.env x = pure x := by intro _; rfl) : PS X (.For tg iter b1 [] pos) (liftS D W (sFor it g s1)) := ps_imp (ps_for hp hc hi hg hb hs) fun _ _ _ => lift_for
/-- the walks -/
theorem pi_any {te : TE} (he : PE X e te) : PI X tg e (iAny X.K te) := by
  refine ⟨fun pins s σ H R I h => thn (he.run pins s σ H _ I h) fun v s1 hh => ?_⟩
  obtain ⟨y, H1, J, r1, q⟩ := hh
  rcases q with ⟨d, rfl, ⟨xs, hq⟩, k⟩ | ⟨d, rfl, ⟨xs, hq⟩, k⟩ | ⟨z, rfl, k⟩
  · cases r1
    obtain ⟨us, _, pu, _⟩ := J.list hq
    exact wpAny_pyIter_list pu.isList (pi_one (tk := s1.toks) J _ (turn_list d _) ⟨_, Heap.get?_push_size _ rfl, rfl, rfl⟩ k)
  · cases r1
    obtain ⟨us, _, pu, _⟩ := J.tuple hq
    exact wpAny_pyIter_tuple (show s1.heap.IsTuple d us.toArray from pu) (pi_one (tk := s1.toks) J _ (turn_tuple d _) ⟨_, Heap.get?_push_size _ rfl, rfl, rfl⟩ k)
  · obtain ⟨t, rfl⟩ := r1
    cases hz : z.cps.all (· < 128) with
    | true => exact wpAny_pyIter_ascii hz (pi_one (tk := s1.toks) J _ (turn_str _ z t "str_ascii_iterator" (.inl rfl)) ⟨_, Heap.get?_push_size _ rfl, rfl, rfl⟩ k)
    | false => exact wpAny_pyIter_wide hz (pi_one (tk := s1.toks) J _ (turn_str _ z t "str_iterator" (.inr rfl)) ⟨_, Heap.get?_push_size _ rfl, rfl, rfl⟩ k)
theorem q_iseq (hK : X.K = D.K) (he : PE X e (lift D W m)) : PI X tg e (liftI D W (iSeq m)) := pi_imp (pi_any he) fun _ _ _ h => by rw [hK]; exact lift_iSeq h
theorem q_irange1 {p : Pos} (hg : Gl X "range") (hm : X.mg "range" = none) (ha : PA X [a] (liftA D W ms)) (hs : starEach [a] X.env = [(false, eval a X.env)] := by rfl) : PI X tg (.Call (.Name "range" p) [a] [] pos) (liftI D W (iRange1 ms)) := pi_imp (pi_range1 hg hm ha hs) fun _ _ _ => lift_iRange1
theorem q_irange2 {p : Pos} (hg : Gl X "range") (hm : X.mg "range" = none) (ha : PA X [a, b] (liftA D W ms)) (hs : starEach [a, b] X.env = [(false, eval a X.env), (false, eval b X.env)] := by rfl) (hs2 : starEach [b] X.env = [(false, eval b X.env)] := by rfl) : PI X tg (.Call (.Name "range" p) [a, b] [] pos) (liftI D W (iRange2 ms)) := pi_imp (pi_range2 hg hm ha hs hs2) fun _ _ _ => lift_iRange2
theorem q_izip {p tpos : Pos} {elts : List Expr} {kk : Nat} (hK : X.K = D.K) (hg : Gl X "zip") (hm : X.mg "zip" = none) (ha : PA X [a, b] (liftA D W ms)) (hs : starEach [a, b] X.env = (false, eval a X.env) :: starEach [b] X.env := by rfl) (hpl : (backTo pos (starEach [b] X.env)).any (·.1) = false := by rfl) : PI X (.Tuple elts kk tpos) (.Call (.Name "zip" p) [a, b] [] pos) (liftI D W (iZip2 ms)) := pi_imp (RZ.pi_zipA hg hm ha hs hpl) fun _ _ _ h => by rw [hK]; exact lift_iZip h
theorem q_ienum {p tpos : Pos} {elts : List Expr} {kk : Nat} (hK : X.K = D.K) (hg : Gl X "enumerate") (hm : X.mg "enumerate" = none) (ha : PA X [a] (liftA D W ms)) (hs : starEach [a] X.env = [(false, eval a X.env)] := by rfl) : PI X (.Tuple elts kk tpos) (.Call (.Name "enumerate" p) [a] [] pos) (liftI D W (iEnumL ms)) := pi_imp (pi_enum hg hm ha hs) fun _ _ _ h => by rw [hK]; exact lift_iEnum h
/-! comprehensions -/
section
variable {elt : Expr} {ifs : List Expr} {scope : Scope} {own : List (Str × Nat)} {t : Tg} {vs : List Nat} {cm : BM} {em : EM}
/-- the parts of a comprehension -/
structure LcP (X : Cx) (D : Wd) (W : WX) (elt tg iter : Expr) (ifs : List Expr) (scope : Scope) (own : List (Str × Nat)) (it : IM) (t : Tg) (cm : BM) (em : EM) : Prop where
  hc : X.calm = true
  hN : X.N.Nodup
  hi : PI X tg iter (liftI D W it)
  ok : BlkOk X.N X.env.scope scope own
  hg : ∀ (s : Shared) (H : Hp) (C : Addr) (cl : List (Str × Addr)) (fp : List Addr), PG (X.blk s H scope (compEnvC scope cl C X.env) fp) tg (t.rd D.K)
  ht : ∀ (s : Shared) (H : Hp) (C : Addr) (cl : List (Str × Addr)) (fp : List Addr), PTs (X.blk s H scope (compEnvC scope cl C X.env) fp) ifs (liftB D WF cm)
  he : ∀ (s : Shared) (H : Hp) (C : Addr) (cl : List (Str × Addr)) (fp : List Addr), PE (X.blk s H scope (compEnvC scope cl C X.env) fp) elt (lift D WF em)
  hs : ∀ x, foldedSetIterable iter X.env x = pure x
  hv : t.sl = own.map (·.2)
theorem q_lc (L : LcP X D W elt tg iter ifs scope own it t cm em) : PE X (.ListComp elt [⟨tg, iter, ifs, 0⟩] scope pos) (lift D W (eLc it t (own.map (·.2)) cm em)) := pe_imp (pe_lc L.hc L.hN L.hi L.ok L.hg L.ht L.he L.hs) fun _ _ _ => lift_lc L.hv
theorem q_lcM (L : LcP X D W elt tg iter ifs scope own it t cm em) : PE X (.ListComp elt [⟨tg, iter, ifs, 0⟩] scope pos) (lift D W (eLcM it t (own.map (·.2)) cm em)) := pe_imp (pe_lc L.hc L.hN L.hi L.ok L.hg L.ht L.he L.hs) fun _ _ _ => lift_lcM L.hv
theorem q_setLc {y : Str} {py spos : Pos} (L : LcP X D W elt tg iter ifs scope own it t cm em) (hy : X.N[i]? = some y) (hyl : X.env.scope.names.lookup y = some .local) (hsw : swapsWith (.ListComp elt [⟨tg, iter, ifs, 0⟩] scope pos) (some (.Name y py)) spos.line X.env = pure true) :
    PS X (.Assign [.Name y py] (.ListComp elt [⟨tg, iter, ifs, 0⟩] scope pos) spos) (liftS D W (sSet i (eLc it t (own.map (·.2)) cm em))) := by
  refine ps_imp (ps_setLc L.hc L.hN hy hyl hsw L.hi L.ok L.hg L.ht L.he L.hs) fun En σ H h => ?_
  exact lift_lc L.hv (lift_set h)
theorem q_setLcM {y : Str} {py spos : Pos} (L : LcP X D W elt tg iter ifs scope own it t cm em) (hy : X.N[i]? = some y) (hyl : X.env.scope.names.lookup y = some .local) (hsw : swapsWith (.ListComp elt [⟨tg, iter, ifs, 0⟩] scope pos) (some (.Name y py)) spos.line X.env = pure true) :
    PS X (.Assign [.Name y py] (.ListComp elt [⟨tg, iter, ifs, 0⟩] scope pos) spos) (liftS D W (sSet i (eLcM it t (own.map (·.2)) cm em))) := by
  refine ps_imp (ps_setLc L.hc L.hN hy hyl hsw L.hi L.ok L.hg L.ht L.he L.hs) fun En σ H h => ?_
  exact lift_lcM L.hv (lift_set h)
end
theorem q_tsnil : PTs X [] (liftB D W bYes) := ⟨fun pins s σ H Q I h => pts_nil.run pins s σ H Q I (by obtain ⟨M, s, st, R, S, h⟩ := h; exact h H M .refl R)⟩
theorem q_tsone (h : PT X c (liftB D W tA)) : PTs X [c] (liftB D W tA) := pts_one h
/-! a, b = x, y -/
theorem q_par {j : Nat} {x y : Str} {px py pt : Pos} {kt k2 : Nat} {pt2 : Pos} (hc : X.calm = true) (hN : X.N.Nodup) (hi : X.N[i]? = some x) (hj : X.N[j]? = some y) (hij : i ≠ j) (hx : X.env.scope.names.lookup x = some .local) (hy : X.env.scope.names.lookup y = some .local) (ha : PA X [a, b] (liftA D W ms))
    (hw : swappedStores [.Tuple [.Name x px, .Name y py] kt pt] (.Tuple [a, b] k2 pt2) X.env = pure (some [x, y])) (hs : swapsWithSole [.Tuple [.Name x px, .Name y py] kt pt] (.Tuple [a, b] k2 pt2) pos.line X.env = pure false := by rfl) :
    PS X (.Assign [.Tuple [.Name x px, .Name y py] kt pt] (.Tuple [a, b] k2 pt2) pos) (liftS D W (sPar i j ms)) := ps_imp (ps_par hc hN hi hj hij hx hy ha hw hs) fun _ _ _ => lift_par
theorem q_par3 {j l : Nat} {x y z : Str} {px py pz pt : Pos} {kt k2 : Nat} {pt2 : Pos} (hc : X.calm = true) (hN : X.N.Nodup) (hi : X.N[i]? = some x) (hj : X.N[j]? = some y) (hl : X.N[l]? = some z) (hij : i ≠ j) (hil : i ≠ l) (hjl : j ≠ l) (hx : X.env.scope.names.lookup x = some .local) (hy : X.env.scope.names.lookup y = some .local) (hz : X.env.scope.names.lookup z = some .local) (ha : PA X [a, b, c] (liftA D W ms))
    (hw : swappedStores [.Tuple [.Name x px, .Name y py, .Name z pz] kt pt] (.Tuple [a, b, c] k2 pt2) X.env = pure (some [x, y, z])) (hs : swapsWithSole [.Tuple [.Name x px, .Name y py, .Name z pz] kt pt] (.Tuple [a, b, c] k2 pt2) pos.line X.env = pure false := by rfl) :
    PS X (.Assign [.Tuple [.Name x px, .Name y py, .Name z pz] kt pt] (.Tuple [a, b, c] k2 pt2) pos) (liftS D W (sPar3 i j l ms)) := ps_imp (ps_par3 hc hN hi hj hl hij hil hjl hx hy hz ha hw hs) fun _ _ _ => lift_par3
/-! attributes -/
theorem q_fld {f : Str} {n : Nat} {cs : List Nat} (hK : X.K = D.K) (nd : D.an.Nodup) (hn : D.an[n]? = some f) (hA : AttrC D cs f) (hX : ∀ c fs, (getF cs n (.exc c fs)) = fun _ => .bad) (he : PE X e (lift D W m)) (hb : attributeBase e f X.env (eval e X.env) = eval e X.env := by rfl) : PE X (.Attribute e f pos) (lift D W (eFld cs n m)) := pe_imp (pe_fld he hb) fun _ _ _ h => by rw [hK]; exact lift_fld nd hn hA hX h
theorem q_sfld {f : Str} {n : Nat} {cs : List Nat} {o v : Expr} {mo mv : EM} {pos' : Pos} (hK : X.K = D.K) (nd : D.an.Nodup) (hn : D.an[n]? = some f) (hA : AttrC D cs f) (ho : PE X o (lift D W mo)) (hv : PE X v (lift D W mv)) (hs : swapsWith v (some (.Attribute o f pos')) pos.line X.env = pure false := by rfl) : PS X (.Assign [.Attribute o f pos'] v pos) (liftS D W (sFldP cs n mo mv)) := ps_imp (ps_fld ho hv hs) fun _ _ _ h => by rw [hK]; exact lift_sfld nd hn hA h
/-! raise -/
theorem q_raise0 {CX : CXT} {pos' : Pos} {cc k : Nat} {C fI : Addr} {fd : FuncData} {ps : List Str} {p : Pos} (hM : X.mg = D.mg) (hcm : X.calm = true) (tk : Takes X W) (hcn : D.cn[cc]? = some x) (hC : D.mg x = some (.ref C)) (T : OexC X.K C) (iC : PySem.W.findIn X.K (.ref C) "__init__" = some (some (.ref fI))) (tI : PySem.W.typeIn X.K (.ref fI) = some (.type "function"))
    (F1 : FnOk X.prog X.w X.K X.mg X.base CX k fI fd ps (spErr0 C)) (hr : Room (k + 1) X.A) (bi : Binds X.K fd ps []) (hx : Passes CX X (fun _ _ _ => False)) (hg : Gl X x) (hdb : (x == ("__debug__" : Str)) = false := by decide) : PS X (.Raise (some (.Call (.Name x p) [] [] pos')) none pos) (liftS D W (sRaise0 cc)) :=
  ps_imp (ps_raise hcm tk (pmk_none T iC tI F1 hr bi hx hg (by rw [hM]; exact hC) hdb)) fun _ _ _ h => lift_raise0 hcn hC h
theorem q_raise1 {CX : CXT} {pos' : Pos} {cc n k : Nat} {f : Str} {C fI : Addr} {fd : FuncData} {ps : List Str} {p : Pos} (hM : X.mg = D.mg) (hcm : X.calm = true) (tk : Takes X W) (hcn : D.cn[cc]? = some x) (hC : D.mg x = some (.ref C)) (hn : D.an[n]? = some f) (T : OexC X.K C) (iC : PySem.W.findIn X.K (.ref C) "__init__" = some (some (.ref fI))) (tI : PySem.W.typeIn X.K (.ref fI) = some (.type "function"))
    (F1 : FnOk X.prog X.w X.K X.mg X.base CX k fI fd ps (spErr C f)) (hr : Room (k + 1) X.A) (bi : Binds X.K fd ps []) (hx : Passes CX X (fun _ _ _ => False)) (hg : Gl X x) (he : PE X e (lift D W m)) (hdb : (x == ("__debug__" : Str)) = false := by decide) (hse : starEach [e] X.env = (false, eval e X.env) :: starEach [] X.env := by rfl) (hpl : (backTo pos' (starEach [] X.env)).any (·.1) = false := by rfl) : PS X (.Raise (some (.Call (.Name x p) [e] [] pos')) none pos) (liftS D W (sRaise1 cc n m)) :=
  ps_imp (ps_raise hcm tk (pmk_oex (dvs := []) (ds := []) T iC tI F1 hr bi .nil hx hg (by rw [hM]; exact hC) (pa_cons he pa_nil hse) hdb hse hpl)) fun _ _ _ h => lift_raise1 hcn hC hn h
end
end Pu
set_option maxHeartbeats 4000000
namespace Pu
open PySem L2
/-! ### built-in functions on trees -/
def gLen : List PV → Option PV
  | [.lst xs] => some (.int (Int.ofNat xs.length))
  | [.tup xs] => some (.int (Int.ofNat xs.length))
  | [.str z] => if z.length ≤ lineN then some (.int (Int.ofNat z.length)) else none
  | _ => none
def gAbs : List PV → Option PV
  | [.int i] => some (.int (if i < 0 then -i else i))
  | _ => none
def gInt : List PV → Option PV
  | [.int i] => some (.int i)
  | [.bl b] => some (.int (if b then 1 else 0))
  | _ => none
def gStrI : List PV → Option PV
  | [.int i] => if i.natAbs.log2 < 1920 then some (.str (toString i)) else none
  | [.str z] => some (.str z)
  | _ => none
def gSum : List PV → Option PV
  | [.lst xs] => (intsOf xs).map fun ns => .int ns.sum
  | _ => none
def gAll : List PV → Option PV
  | [.lst xs] => (blsOf xs).map fun ns => .bl (ns.all id)
  | _ => none
def gAny : List PV → Option PV
  | [.lst xs] => (blsOf xs).map fun ns => .bl (ns.any id)
  | _ => none
def gTuple : List PV → Option PV
  | [.lst xs] => some (.tup xs)
  | [.tup xs] => some (.tup xs)
  | _ => none
def gList : List PV → Option PV
  | [.lst xs] => some (.lst xs)
  | [.tup xs] => some (.lst xs)
  | _ => none
def gMax2 : List PV → Option PV
  | [.int i, .int j] => some (.int (if j > i then j else i))
  | _ => none
def gMin2 : List PV → Option PV
  | [.int i, .int j] => some (.int (if j < i then j else i))
  | _ => none
section
variable {D : Wd}
theorem sh_one {M : Mx} {H : Hp} {xs : List V} {p : PV} (h : Paired (Sh D M H) xs [p]) : ∃ x, xs = [x] ∧ Sh D M H x p := by
  cases h with
  | cons a b => cases b; exact ⟨_, rfl, a⟩
theorem sh_two {M : Mx} {H : Hp} {xs : List V} {p q : PV} (h : Paired (Sh D M H) xs [p, q]) : ∃ x y, xs = [x, y] ∧ Sh D M H x p ∧ Sh D M H y q := by
  cases h with
  | cons a b => obtain ⟨y, rfl, hy⟩ := sh_one b; exact ⟨_, y, rfl, a, hy⟩
theorem p_len : CallP D (fun xs H Q => ∃ x n, xs = [x] ∧ LenV D.K x H n ∧ Q (.int n) H) gLen := by
  intro M st H xs ps z Q R hp e k
  unfold gLen at e
  split at e
  · cases e
    obtain ⟨x, rfl, hx⟩ := sh_one hp
    obtain ⟨a, vs, rfl, h1, h2⟩ := hx.sqL
    exact ⟨_, _, rfl, .inl ⟨vs, h1, rfl⟩, by rw [h2.len]; exact k _ _ .refl (.int _)⟩
  · cases e
    obtain ⟨x, rfl, hx⟩ := sh_one hp
    obtain ⟨a, vs, rfl, h1, h2⟩ := hx.sqT
    exact ⟨_, _, rfl, .inr ⟨vs, h1, rfl⟩, by rw [h2.len]; exact k _ _ .refl (.int _)⟩
  · split at e
    · rename_i hl
      cases e
      obtain ⟨x, rfl, hx⟩ := sh_one hp
      rw [hx.str]
      exact ⟨_, _, rfl, ⟨by rw [← line_eq]; exact hl, rfl⟩, k _ _ .refl (.int _)⟩
    · cases e
  · cases e
theorem p_abs : CallP D (fun xs H Q => ∃ i, xs = [.int i] ∧ Q (.int (if i < 0 then -i else i)) H) gAbs := by
  intro M st H xs ps z Q R hp e k
  unfold gAbs at e
  split at e
  · cases e
    obtain ⟨x, rfl, hx⟩ := sh_one hp
    rw [hx.int]
    exact ⟨_, rfl, k _ _ .refl (.int _)⟩
  · cases e
theorem p_int : CallP D (fun xs H Q => (∃ i, xs = [.int i] ∧ Q (.int i) H) ∨ ∃ k, xs = [.bl k] ∧ Q (.int (if k then 1 else 0)) H) gInt := by
  intro M st H xs ps z Q R hp e k
  unfold gInt at e
  split at e
  · cases e
    obtain ⟨x, rfl, hx⟩ := sh_one hp
    rw [hx.int]
    exact .inl ⟨_, rfl, k _ _ .refl (.int _)⟩
  · cases e
    obtain ⟨x, rfl, hx⟩ := sh_one hp
    rw [hx.bl]
    exact .inr ⟨_, rfl, k _ _ .refl (.int _)⟩
  · cases e
theorem p_strI : CallP D (fun xs H Q => (∃ i, xs = [.int i] ∧ i.natAbs.log2 < 1920 ∧ Q (.str (toString i)) H) ∨ ∃ a, xs = [.str a] ∧ Q (.str a) H) gStrI := by
  intro M st H xs ps z Q R hp e k
  unfold gStrI at e
  split at e
  · split at e
    · rename_i hl
      cases e
      obtain ⟨x, rfl, hx⟩ := sh_one hp
      rw [hx.int]
      exact .inl ⟨_, rfl, hl, k _ _ .refl (.str _)⟩
    · cases e
  · cases e
    obtain ⟨x, rfl, hx⟩ := sh_one hp
    rw [hx.str]
    exact .inr ⟨_, rfl, k _ _ .refl (.str _)⟩
  · cases e
theorem p_sum : CallP D (rSum D.K) gSum := by
  intro M st H xs ps z Q R hp e k
  unfold gSum at e
  split at e
  · rename_i ys
    cases c : intsOf ys with
    | none => rw [c] at e; cases e
    | some ns =>
      rw [c] at e
      cases e
      obtain ⟨x, rfl, hx⟩ := sh_one hp
      obtain ⟨a, vs, rfl, h1, h2⟩ := hx.sqL
      rw [ints_eq c] at h2
      rw [h2.isInts] at h1
      exact ⟨a, ns, rfl, h1, k _ _ .refl (.int _)⟩
  · cases e
theorem p_all : CallP D (rAll D.K) gAll := by
  intro M st H xs ps z Q R hp e k
  unfold gAll at e
  split at e
  · rename_i ys
    cases c : blsOf ys with
    | none => rw [c] at e; cases e
    | some ns =>
      rw [c] at e
      cases e
      obtain ⟨x, rfl, hx⟩ := sh_one hp
      obtain ⟨a, vs, rfl, h1, h2⟩ := hx.sqL
      rw [bls_eq c] at h2
      rw [h2.isBls] at h1
      exact ⟨a, ns, rfl, h1, k _ _ .refl (.bl _)⟩
  · cases e
theorem p_any : CallP D (rAny D.K) gAny := by
  intro M st H xs ps z Q R hp e k
  unfold gAny at e
  split at e
  · rename_i ys
    cases c : blsOf ys with
    | none => rw [c] at e; cases e
    | some ns =>
      rw [c] at e
      cases e
      obtain ⟨x, rfl, hx⟩ := sh_one hp
      obtain ⟨a, vs, rfl, h1, h2⟩ := hx.sqL
      rw [bls_eq c] at h2
      rw [h2.isBls] at h1
      exact ⟨a, ns, rfl, h1, k _ _ .refl (.bl _)⟩
  · cases e
def rTupOf (K : PySem.W.Frag) : List V → Hp → VK → Prop := fun xs H Q => ∃ p ys, xs = [.ref p] ∧ ((SqL K H p ys ∧ ∀ l, H l = none → Q (.ref l) (upd H l (.tup ys))) ∨ (SqT K H p ys ∧ Q (.ref p) H))
theorem p_tuple : CallP D (rTupOf D.K) gTuple := by
  intro M st H xs ps z Q R hp e k
  unfold gTuple at e
  split at e
  · cases e
    obtain ⟨x, rfl, hx⟩ := sh_one hp
    obtain ⟨a, vs, rfl, h1, h2⟩ := hx.sqL
    exact ⟨a, vs, rfl, .inl ⟨h1, fun l hl => k _ _ (Gr.laid hl) (rep_tup R hl h2)⟩⟩
  · cases e
    obtain ⟨x, rfl, hx⟩ := sh_one hp
    obtain ⟨a, vs, rfl, h1, h2⟩ := hx.sqT
    cases hx with
    | rep h => exact ⟨a, vs, rfl, .inr ⟨h1, k _ _ .refl h⟩⟩
  · cases e
def rListOf (K : PySem.W.Frag) : List V → Hp → VK → Prop := fun xs H Q => ∃ p ys, xs = [.ref p] ∧ (SqL K H p ys ∨ SqT K H p ys) ∧ ∀ l, H l = none → Q (.ref l) (upd H l (.lst ys))
theorem p_list : CallP D (rListOf D.K) gList := by
  intro M st H xs ps z Q R hp e k
  unfold gList at e
  split at e
  · cases e
    obtain ⟨x, rfl, hx⟩ := sh_one hp
    obtain ⟨a, vs, rfl, h1, h2⟩ := hx.sqL
    exact ⟨a, vs, rfl, .inl h1, fun l hl => k _ _ (Gr.laid hl) (rep_lst R hl h2)⟩
  · cases e
    obtain ⟨x, rfl, hx⟩ := sh_one hp
    obtain ⟨a, vs, rfl, h1, h2⟩ := hx.sqT
    exact ⟨a, vs, rfl, .inr h1, fun l hl => k _ _ (Gr.laid hl) (rep_lst R hl h2)⟩
  · cases e
theorem p_max2 : CallP D (fun xs H Q => ∃ i j, xs = [.int i, .int j] ∧ Q (.int (if j > i then j else i)) H) gMax2 := by
  intro M st H xs ps z Q R hp e k
  unfold gMax2 at e
  split at e
  · cases e
    obtain ⟨x, y, rfl, hx, hy⟩ := sh_two hp
    rw [hx.int, hy.int]
    exact ⟨_, _, rfl, k _ _ .refl (.int _)⟩
  · cases e
theorem p_min2 : CallP D (fun xs H Q => ∃ i j, xs = [.int i, .int j] ∧ Q (.int (if j < i then j else i)) H) gMin2 := by
  intro M st H xs ps z Q R hp e k
  unfold gMin2 at e
  split at e
  · cases e
    obtain ⟨x, y, rfl, hx, hy⟩ := sh_two hp
    rw [hx.int, hy.int]
    exact ⟨_, _, rfl, k _ _ .refl (.int _)⟩
  · cases e
end
/-- a built-in that is called: f a built-in function or a built-in class -/
structure BltR (X : Cx) (D : Wd) (fv : Value) (g : List PV → Option PV) : Prop where
  ex : ∃ r, CallR X fv r ∧ CallP D r g
section
variable {X : Cx} {D : Wd} {W : WX} {x : Str} {p pos : Pos} {e : Expr} {es : List Expr} {ms : AM} {g : List PV → Option PV} {id : String}
theorem q_callB (c : BltR X D (.builtin id) g) (hg : Gl X x) (hm : X.mg x = none) (hv : bootBuiltins x = some (.builtin id)) (ha : PA X (e :: es) (liftA D W ms)) (hn : x ≠ "__name__" := by decide) (hdb : (x == ("__debug__" : Str)) = false := by decide)
    (he : starEach (e :: es) X.env = (false, eval e X.env) :: starEach es X.env := by rfl) (hpl : (backTo pos (starEach es X.env)).any (·.1) = false := by rfl) : PE X (.Call (.Name x p) (e :: es) [] pos) (lift D W (eCall g ms)) := by
  obtain ⟨r, h1, h2⟩ := c.ex
  exact pe_imp (pe_callB h1 hg hm hv ha hn hdb he hpl) fun _ _ _ => lift_call h2
theorem q_callTy (c : BltR X D (.type id) g) (hg : Gl X x) (hm : X.mg x = none) (hv : bootBuiltins x = some (.type id)) (ha : PA X (e :: es) (liftA D W ms)) (hn : x ≠ "__name__" := by decide) (hdb : (x == ("__debug__" : Str)) = false := by decide)
    (he : starEach (e :: es) X.env = (false, eval e X.env) :: starEach es X.env := by rfl) (hpl : (backTo pos (starEach es X.env)).any (·.1) = false := by rfl) : PE X (.Call (.Name x p) (e :: es) [] pos) (lift D W (eCall g ms)) := by
  obtain ⟨r, h1, h2⟩ := c.ex
  exact pe_imp (pe_callTy h1 hg hm hv ha hn hdb he hpl) fun _ _ _ => lift_call h2
theorem CallR.or {fv : Value} {r r' : List V → Hp → VK → Prop} (h : CallR X fv r) (h' : CallR X fv r') : CallR X fv (fun xs H Q => r xs H Q ∨ r' xs H Q) := by
  intro pins s σ H xs us Q I rv q
  rcases q with q | q
  · exact h pins s σ H xs us Q I rv q
  · exact h' pins s σ H xs us Q I rv q
theorem b_len (hK : X.K = D.K) : BltR X D (.builtin "len") gLen := ⟨_, by rw [← hK]; exact call_len, p_len⟩
theorem b_abs : BltR X D (.builtin "abs") gAbs := ⟨_, call_abs, p_abs⟩
theorem b_int : BltR X D (.type "int") gInt := ⟨_, call_int1, p_int⟩
theorem b_str : BltR X D (.type "str") gStrI := ⟨_, CallR.or call_str_int SkE.call_str_str, p_strI⟩
theorem b_sum (hK : X.K = D.K) (hc : X.calm = true) : BltR X D (.builtin "sum") gSum := ⟨_, by rw [← hK]; exact cr_sum hc, p_sum⟩
theorem b_all (hK : X.K = D.K) (hc : X.calm = true) : BltR X D (.builtin "all") gAll := ⟨_, by rw [← hK]; exact cr_all hc, p_all⟩
theorem b_any (hK : X.K = D.K) (hc : X.calm = true) : BltR X D (.builtin "any") gAny := ⟨_, by rw [← hK]; exact cr_any hc, p_any⟩
theorem b_tuple (hK : X.K = D.K) : BltR X D (.type "tuple") gTuple := ⟨rTupOf D.K, by rw [← hK]; exact call_tuple_of, p_tuple⟩
theorem b_list (hK : X.K = D.K) : BltR X D (.type "list") gList := ⟨rListOf D.K, by rw [← hK]; exact call_list_of, p_list⟩
theorem b_max (hc : X.calm = true) : BltR X D (.builtin "max") gMax2 := ⟨_, call_max2 hc, p_max2⟩
theorem b_min (hc : X.calm = true) : BltR X D (.builtin "min") gMin2 := ⟨_, call_min2 hc, p_min2⟩
end
/-! ### isinstance: classes by codes (0 NoneType, 1 bool, 2 int, 3 str, 4 list, 5 tuple, 6 dict; own ones from 16 on) -/
def bName : Nat → String
  | 0 => "NoneType" | 1 => "bool" | 2 => "int" | 3 => "str" | 4 => "list" | 5 => "tuple" | _ => "dict"
def tagP : PV → Option Nat
  | .non => some 0
  | .bl _ => some 1
  | .int _ => some 2
  | .str _ => some 3
  | .lst _ => some 4
  | .tup _ => some 5
  | .dct _ => some 6
  | .obj c _ => some (16 + c)
  | _ => none
def tagR (st : S) : RV → Option Nat
  | .pv p => tagP p
  | .exc c _ => some (16 + c)
  | .loc i => match st[i]? with
    | some (.lst _) => some 4
    | some (.dct _) => some 6
    | some (.ins c _) => some (16 + c)
    | _ => none
/-- sub: which own class is below which -/
def isaN (sub : Nat → Nat → Bool) (t s : Nat) : Bool := if t < 16 then (t == s || (t == 1 && s == 2)) else if s < 16 then false else sub (t - 16) (s - 16)
def eIsi (sub : Nat → Nat → Bool) (cs : List Nat) (ss : List Nat) (a : EM) : EM := fun σ st => (a σ st).bind fun r => match tagR r.2 r.1 with
  | some t => if t < 16 ∨ cs.contains (t - 16) then .ret (.pv (.bl (ss.any (isaN sub t))), r.2) else .bad
  | none => .bad
def clsV (K : PySem.W.Frag) (C : Addr) : Prop := Cls K C ∧ PySem.W.findIn K (.ref C) "__class__" = some (some (.builtin "object.__class__")) ∧ PySem.W.specialIn K (.builtin "object.__class__") "__get__" = some (some (.builtin "getset_descriptor.__get__")) ∧
  PySem.W.takesIn K (.builtin "object.__class__") = some true ∧ PySem.W.mroIn K C (.type "object") = some true
/-- the Value of a class code -/
def CodeV (D : Wd) (t : Nat) (u : Value) : Prop := if t < 16 then u = .type (bName t) else ∃ nm C, D.cn[t - 16]? = some nm ∧ D.mg nm = some (.ref C) ∧ u = .ref C
/-- what the classes cs (plain ones) and the codes ss say -/
structure IsC (D : Wd) (sub : Nat → Nat → Bool) (cs ss : List Nat) : Prop where
  pl : ∀ c ∈ cs, ∀ nm C, D.cn[c]? = some nm → D.mg nm = some (.ref C) → clsV D.K C
  kit : ∀ t s u w, (t < 7 ∨ (16 ≤ t ∧ t - 16 ∈ cs)) → s ∈ ss → CodeV D t u → CodeV D s w → PySem.W.kitOne D.K u w = some (isaN sub t s)
section
variable {D : Wd} {M : Mx} {H : Hp}
theorem Rep.tyOf {cs : List Nat} (hp : ∀ c ∈ cs, ∀ nm C, D.cn[c]? = some nm → D.mg nm = some (.ref C) → clsV D.K C) {v : V} {p : PV} {t : Nat} (h : Rep D M H v p) (e : tagP p = some t) (ht : t < 16 ∨ cs.contains (t - 16) = true) : ∃ u, TyX D.K H v u ∧ CodeV D t u ∧ (t < 7 ∨ (16 ≤ t ∧ t - 16 ∈ cs)) := by
  cases h with
  | non => cases e; exact ⟨_, .base .non, rfl, .inl (by omega)⟩
  | bl b => cases e; exact ⟨_, .base (.bl b), rfl, .inl (by omega)⟩
  | int b => cases e; exact ⟨_, .base (.int b), rfl, .inl (by omega)⟩
  | str b => cases e; exact ⟨_, .base (.str b), rfl, .inl (by omega)⟩
  | ty n => cases e
  | box h => cases e
  | cls a b => cases e
  | fn a b c d => cases e
  | tup a b =>
    cases e
    rcases a with ⟨_, h | ⟨o, h⟩⟩ | ⟨o, _, _, k1, k2, _⟩
    · exact ⟨_, .base (.tup h), rfl, .inl (by omega)⟩
    · exact ⟨_, .fTuple h, rfl, .inl (by omega)⟩
    · exact ⟨_, .kTuple k1 k2, rfl, .inl (by omega)⟩
  | lst a b =>
    cases e
    rcases a with ⟨_, h | ⟨o, h⟩⟩ | ⟨o, _, _, k1, k2, _⟩
    · exact ⟨_, .base (.lst h), rfl, .inl (by omega)⟩
    · exact ⟨_, .base (.frz h), rfl, .inl (by omega)⟩
    · exact ⟨_, .kList k1 k2, rfl, .inl (by omega)⟩
  | dct a b c =>
    cases e
    rcases b with h | ⟨o, h⟩
    · exact ⟨_, .base (.dK h), rfl, .inl (by omega)⟩
    · exact ⟨_, .fDict h, rfl, .inl (by omega)⟩
  | obj a b c d f =>
    cases e
    have hc := ht.resolve_left (by omega)
    rw [show ∀ n, 16 + n - 16 = n from fun n => by omega] at hc
    have mem := List.contains_iff_mem.mp hc
    obtain ⟨k1, k2, k3, k4, k5⟩ := hp _ mem _ _ c d
    refine ⟨_, .base (.ins b k1 k2 k3 k4 k5), ?_, .inr ⟨by omega, by rw [show ∀ n, 16 + n - 16 = n from fun n => by omega]; exact mem⟩⟩
    unfold CodeV
    rw [if_neg (by omega), show ∀ n, 16 + n - 16 = n from fun n => by omega]
    exact ⟨_, _, c, d, rfl⟩
theorem tagR_ty {cs : List Nat} (hp : ∀ c ∈ cs, ∀ nm C, D.cn[c]? = some nm → D.mg nm = some (.ref C) → clsV D.K C) {st : S} (R : Rel D M st H) {v : V} {r : RV} {t : Nat} (h : RRep D M H v r) (hx : r.isX = false) (e : tagR st r = some t) (ht : t < 16 ∨ cs.contains (t - 16) = true) : ∃ u, TyX D.K H v u ∧ CodeV D t u ∧ (t < 7 ∨ (16 ≤ t ∧ t - 16 ∈ cs)) := by
  cases r with
  | pv p => exact Rep.tyOf hp h e ht
  | exc c fs => cases hx
  | loc i =>
    obtain ⟨a, ha, rfl⟩ := h
    simp only [tagR] at e
    split at e
    · rename_i xs hs
      cases e
      obtain ⟨vs, h1, _⟩ := R.ob i a _ ha hs
      exact ⟨_, .base (.lst h1), rfl, .inl (by omega)⟩
    · rename_i xs hs
      cases e
      obtain ⟨vs, h1, _⟩ := R.ob i a _ ha hs
      exact ⟨_, .base (.dK h1), rfl, .inl (by omega)⟩
    · rename_i c fs hs
      cases e
      obtain ⟨C, dx, vs, nm, h1, h2, h3, _⟩ := R.ob i a _ ha hs
      have hc := ht.resolve_left (by omega)
      rw [show ∀ n, 16 + n - 16 = n from fun n => by omega] at hc
      have mem := List.contains_iff_mem.mp hc
      obtain ⟨k1, k2, k3, k4, k5⟩ := hp _ mem _ _ h2 h3
      refine ⟨_, .base (.ins h1 k1 k2 k3 k4 k5), ?_, .inr ⟨by omega, by rw [show ∀ n, 16 + n - 16 = n from fun n => by omega]; exact mem⟩⟩
      unfold CodeV
      rw [if_neg (by omega), show ∀ n, 16 + n - 16 = n from fun n => by omega]
      exact ⟨_, _, h2, h3, rfl⟩
    · cases e
end
end Pu
set_option maxHeartbeats 4000000
namespace Pu
open PySem L2
/-! ### isinstance, as it is used -/
section
variable {X : Cx} {D : Wd} {W : WX} {M : Mx} {H : Hp}
theorem Rel.noExc {st : S} (R : Rel D M st H) (hD : D.xi = none) {v : V} {r : RV} (h : RRep D M H v r) : r.isX = false := by
  cases r with
  | exc c fs =>
    obtain ⟨_, _, _, _, _, e, _⟩ := h
    rcases R.hx with z | z
    · rw [z] at e; cases e
    · rw [z, hD] at e; cases e
  | _ => rfl
/-- an expression that names a class: its code -/
structure ClsE (X : Cx) (D : Wd) (e : Expr) (s : Nat) : Prop where
  ex : ∃ cv u, PE X e (tC cv) ∧ ClsV cv u ∧ CodeV D s u
theorem cls_own {x : Str} {c : Nat} {C : Addr} {pos : Pos} (hM : X.mg = D.mg) (hc : D.cn[c]? = some x) (hC : D.mg x = some (.ref C)) (hg : Gl X x) (hd : (x == ("__debug__" : Str)) = false := by decide) : ClsE X D (.Name x pos) (16 + c) := by
  refine ⟨.ref C, .ref C, pe_glob hg (by rw [hM]; exact hC) rfl hd, .own C, ?_⟩
  unfold CodeV
  rw [if_neg (by omega), show 16 + c - 16 = c by omega]
  exact ⟨x, C, hc, hC, rfl⟩
theorem cls_blt {x : Str} {s : Nat} {pos : Pos} (hg : Gl X x) (hm : X.mg x = none) (hv : bootBuiltins x = some (.type (bName s))) (hs : s < 16) (hn : x ≠ "__name__" := by decide) (hd : (x == ("__debug__" : Str)) = false := by decide) : ClsE X D (.Name x pos) s :=
  ⟨.ty (bName s), .type (bName s), pe_bltn hg hm hv rfl hn hd, .ty _, by unfold CodeV; rw [if_pos hs]⟩
inductive ClsEs (X : Cx) (D : Wd) : List Expr → List Nat → Prop
  | nil : ClsEs X D [] []
  | cons {e : Expr} {es : List Expr} {s : Nat} {ss : List Nat} (h : ClsE X D e s) (hs : starEach (e :: es) X.env = (false, eval e X.env) :: starEach es X.env) (r : ClsEs X D es ss) : ClsEs X D (e :: es) (s :: ss)
def tConsts (vs : List V) : TA := fun _ H Q => Q vs H
theorem ClsEs.pa : ∀ {es : List Expr} {ss : List Nat}, ClsEs X D es ss → ∃ vs us, PA X es (tConsts vs) ∧ Paired ClsV vs us ∧ Paired (CodeV D) ss us ∧ vs.length = es.length
  | _, _, .nil => ⟨[], [], pa_imp pa_nil fun _ _ _ h => h, .nil, .nil, rfl⟩
  | _, _, .cons h hs r => by
    obtain ⟨cv, u, h1, h2, h3⟩ := h.ex
    obtain ⟨vs, us, k1, k2, k3, k4⟩ := r.pa
    exact ⟨cv :: vs, u :: us, pa_imp (pa_cons h1 k1 hs) fun _ _ _ h => h, .cons h2 k2, .cons h3 k3, by simp [k4]⟩
theorem kitAny_of {sub : Nat → Nat → Bool} {t : Nat} {u : Value} : ∀ {ss : List Nat} {us : List Value}, (∀ s ∈ ss, ∀ w, CodeV D s w → PySem.W.kitOne D.K u w = some (isaN sub t s)) → Paired (CodeV D) ss us → PySem.W.kitAny D.K u us = some (ss.any (isaN sub t))
  | _, _, _, .nil => rfl
  | s :: ss, w :: us, k, .cons a b => by
    have h1 := k s (by simp) w a
    have h2 := kitAny_of (fun s hs => k s (by simp [hs])) b
    unfold PySem.W.kitAny
    rw [h1]
    cases c : isaN sub t s with
    | true => simp [c]
    | false => simp [c, h2]
variable {sub : Nat → Nat → Bool} {cs ss : List Nat} {e ce : Expr} {m : EM} {p pos : Pos} {s : Nat}
theorem isi_end {σ : L2.St} {Q : VK} {st : S} {r : RV} {v : V} (I : IsC D sub cs ss) (R : Rel D M st H) (hx : r.isX = false) (hv : RRep D M H v r)
    (h : Wp D W M H σ (match tagR st r with | some t => if t < 16 ∨ cs.contains (t - 16) then .ret (RV.pv (.bl (ss.any (isaN sub t))), st) else .bad | none => .bad) fun r _ M' H' => ∀ v, RRep D M' H' v r → Q v H') :
    ∃ t u, TyX D.K H v u ∧ (∀ s ∈ ss, ∀ w, CodeV D s w → PySem.W.kitOne D.K u w = some (isaN sub t s)) ∧ ∀ H', Gr H H' → Q (.bl (ss.any (isaN sub t))) H' := by
  cases e : tagR st r with
  | none => rw [e] at h; exact h.elim
  | some t =>
    rw [e] at h
    dsimp only at h
    split at h
    · rename_i ht
      obtain ⟨u, h1, h2, h3⟩ := tagR_ty I.pl R hv hx e ht
      exact ⟨t, u, h1, fun s hs w hw => I.kit t s u w h3 hs h2 hw, fun H' gr => h H' M (R.step gr).1 (R.step gr).2 _ (.bl _)⟩
    · exact h.elim
theorem q_isi (hK : X.K = D.K) (hD : D.xi = none) (I : IsC D sub cs [s]) (c : ClsE X D ce s) (hg : Gl X "isinstance") (hm : X.mg "isinstance" = none) (ha : PE X e (lift D W m)) (hs1 : starEach [e, ce] X.env = (false, eval e X.env) :: starEach [ce] X.env := by rfl) (hs2 : starEach [ce] X.env = (false, eval ce X.env) :: starEach [] X.env := by rfl) (hpl : (backTo pos (starEach [ce] X.env)).any (·.1) = false := by rfl) :
    PE X (.Call (.Name "isinstance" p) [e, ce] [] pos) (lift D W (eIsi sub cs [s] m)) := by
  obtain ⟨cv, u, h1, h2, h3⟩ := c.ex
  refine pe_imp (pe_callB (call_isi (X := X)) hg hm (by decide +kernel) (pa_cons ha (pa_cons h1 pa_nil hs2) hs1) (by decide) (by decide) hs1 hpl) fun σ H Q h => ?_
  obtain ⟨M, sl, st, R, S, h⟩ := h
  refine ⟨M, sl, st, R, S, (Wp.bind h).mono fun r st1 M1 H1 s1 R1 h1 v hv => ?_⟩
  obtain ⟨t, ut, k1, k2, k3⟩ := isi_end I R1 (R1.noExc hD hv) hv h1
  refine ⟨v, cv, ut, u, _, rfl, h2, by rw [hK]; exact k1, by rw [hK]; exact k2 s (by simp) u h3, ?_⟩
  have := k3 H1 .refl
  simpa using this
theorem q_isiT {es : List Expr} {n : Nat} {tpos : Pos} (hK : X.K = D.K) (hD : D.xi = none) (I : IsC D sub cs ss) (c : ClsEs X D es ss) (hl : es.length ≤ 100) (hg : Gl X "isinstance") (hm : X.mg "isinstance" = none) (ha : PE X e (lift D W m)) (hs1 : starEach [e, .Tuple es n tpos] X.env = (false, eval e X.env) :: starEach [.Tuple es n tpos] X.env := by rfl) (hs2 : starEach [.Tuple es n tpos] X.env = (false, eval (.Tuple es n tpos) X.env) :: starEach [] X.env := by rfl) (hpl : (backTo pos (starEach [.Tuple es n tpos] X.env)).any (·.1) = false := by rfl) :
    PE X (.Call (.Name "isinstance" p) [e, .Tuple es n tpos] [] pos) (lift D W (eIsi sub cs ss m)) := by
  obtain ⟨vs, us, h1, h2, h3, h4⟩ := c.pa
  refine pe_imp (pe_callB (call_isiT (X := X)) hg hm (by decide +kernel) (pa_cons ha (pa_cons (pe_tup h1) pa_nil hs2) hs1) (by decide) (by decide) hs1 hpl) fun σ H Q h => ?_
  obtain ⟨M, sl, st, R, S, h⟩ := h
  refine ⟨M, sl, st, R, S, (Wp.bind h).mono fun r st1 M1 H1 s1 R1 h1 v hv => ⟨by rw [h4, sizeLine_eq]; omega, fun q hq => ?_⟩⟩
  have gr : Gr H1 (upd H1 q (.tup vs)) := Gr.laid hq
  obtain ⟨s2, R2⟩ := R1.step gr
  obtain ⟨t, ut, k1, k2, k3⟩ := isi_end I R2 (R1.noExc hD hv) (hv.step s2) (Wp.from s2 h1)
  exact ⟨v, q, vs, ut, us, _, rfl, upd_same, h2, by rw [hK]; exact k1, by rw [hK]; exact kitAny_of k2 h3, k3 _ .refl⟩
/-- e.f where no exception is at hand -/
theorem q_fldN {f : Str} {n : Nat} (hK : X.K = D.K) (hD : D.xi = none) (nd : D.an.Nodup) (hn : D.an[n]? = some f) (hA : AttrC D cs f) (he : PE X e (lift D W m)) (hb : attributeBase e f X.env (eval e X.env) = eval e X.env := by rfl) : PE X (.Attribute e f pos) (lift D W (eFld cs n m)) := by
  refine pe_imp (pe_fld he hb) fun σ H Q h => ?_
  obtain ⟨M, s, st, R, S, h⟩ := h
  refine ⟨M, s, st, R, S, (Wp.bind h).mono fun r st1 M1 H1 s1 R1 h1 v hv => ?_⟩
  rw [hK]
  exact getF_end nd hn hA R1 hv (R1.noExc hD hv) h1
end
/-! ### lists that change -/
def appM (r q : RV) (st : S) : Option S := match r with
  | .loc i => (match st[i]? with
    | some (.lst xs) => if xs.length < lineN ∧ q.isX = false then some (st.set i (.lst (xs ++ [q]))) else none
    | _ => none)
  | _ => none
def extM (r q : RV) (st : S) : Option S := match r, vw st q with
  | .loc i, some (.lst ys) => (match st[i]? with
    | some (.lst xs) => if xs.length + ys.length ≤ lineN then some (st.set i (.lst (xs ++ ys.map RV.pv))) else none
    | _ => none)
  | _, _ => none
def isLst (r : RV) (st : S) : Bool := match r with
  | .loc i => (match st[i]? with
    | some (.lst _) => true
    | _ => false)
  | _ => false
def eMt (f : RV → RV → S → Option S) (a b : EM) : EM := fun σ st => (a σ st).bind fun r => if isLst r.1 r.2 = true then (b σ r.2).bind fun q => match f r.1 q.1 q.2 with
    | some st' => .ret (.pv .non, st')
    | none => .bad
  else .bad
section
variable {X : Cx} {D : Wd} {W : WX} {a b : Expr} {ma mb : EM} {apos cpos : Pos}
theorem appM_end {M : Mx} {H : Hp} {st st' : S} {r q : RV} {x y : V} (R : Rel D M st H) (hx : RRep D M H x r) (hy : RRep D M H y q) (e : appM r q st = some st') :
    ∃ l xs, x = .ref l ∧ H l = some (.lst xs) ∧ xs.length < sizeLine ∧ Step M H M (upd H l (.lst (xs ++ [y]))) ∧ Rel D M st' (upd H l (.lst (xs ++ [y]))) := by
  cases r with
  | pv p => cases e
  | exc c fs => cases e
  | loc i =>
    obtain ⟨l, ha, rfl⟩ := hx
    simp only [appM] at e
    split at e
    · rename_i xs hs
      split at e
      · rename_i hl
        cases e
        obtain ⟨vs, h1, h2⟩ := R.ob i l _ ha hs
        obtain ⟨k1, k2⟩ := R.write (o := .lst (vs ++ [y])) (u := .lst (xs ++ [q])) ha fun sw => ⟨_, upd_same, rreps_app (RReps.step sw.noX h2) (.cons ((hy.toNoX hl.2).step sw.noX) .nil)⟩
        exact ⟨l, vs, rfl, h1, by rw [rreps_len h2, ← line_eq]; exact hl.1, k1, k2⟩
      · cases e
    · cases e
theorem isLst_ty {M : Mx} {H : Hp} {st : S} {r : RV} {x : V} (R : Rel D M st H) (hx : RRep D M H x r) (e : isLst r st = true) : tyV D.K "list" x H := by
  cases r with
  | pv p => cases e
  | exc c fs => cases e
  | loc i =>
    obtain ⟨l, ha, rfl⟩ := hx
    simp only [isLst] at e
    split at e
    · rename_i xs hs
      obtain ⟨vs, h1, h2⟩ := R.ob i l _ ha hs
      exact .inl ⟨rfl, _, SqL.of h1⟩
    · cases e
theorem extM_end {M : Mx} {H : Hp} {st st' : S} {r q : RV} {x y : V} (R : Rel D M st H) (hx : RRep D M H x r) (hy : RRep D M H y q) (e : extM r q st = some st') :
    ∃ l b xs zs, x = .ref l ∧ y = .ref b ∧ H l = some (.lst xs) ∧ SqL D.K H b zs ∧ xs.length + zs.length ≤ sizeLine ∧ Step M H M (upd H l (.lst (xs ++ zs))) ∧ Rel D M st' (upd H l (.lst (xs ++ zs))) := by
  unfold extM at e
  split at e
  · rename_i i ys ev
    obtain ⟨l, ha, rfl⟩ := hx
    split at e
    · rename_i xs hs
      split at e
      · rename_i hl
        cases e
        obtain ⟨vs, h1, h2⟩ := R.ob i l _ ha hs
        obtain ⟨b, us, rfl, k1, k2⟩ := (vw_sh R hy ev).sqL
        obtain ⟨k3, k4⟩ := R.write (o := .lst (vs ++ us)) (u := .lst (xs ++ ys.map RV.pv)) ha fun sw => ⟨_, upd_same, rreps_app (RReps.step sw.noX h2) (rreps_map (Reps.wide (M := M) (M' := M.noX) (fun _ h => h) (fun _ h => h) (k2.step sw)))⟩
        exact ⟨l, b, vs, us, rfl, rfl, h1, k1, by rw [rreps_len h2, k2.len, ← line_eq]; exact hl, k3, k4⟩
      · cases e
    · cases e
  · cases e
section
variable (hK : X.K = D.K) (ha : PE X a (lift D W ma)) (hb : PE X b (lift D W mb))
include hK ha hb
theorem q_append (hbase : attributeBase a "append" X.env (eval a X.env) = eval a X.env := by rfl)
    (hfew : ((backTo cpos (starEach [b] X.env)).all (fun x => !x.1) && (backToKw cpos (keywordEach [] X.env)).all (fun x => x.1.isSome) && decide ([b].length + ([] : List Keyword).length + (if ([] : List Keyword).isEmpty then 0 else 1) < 30)) = true := by rfl)
    (hline : (apos.endLine == cpos.line) = true := by rfl) (hs : starEach [b] X.env = (false, eval b X.env) :: starEach [] X.env := by rfl) (hplain : (backTo cpos (starEach [] X.env)).any (·.1) = false := by rfl) :
    PE X (.Call (.Attribute a "append" apos) [b] [] cpos) (lift D W (eMt appM ma mb)) := by
  refine pe_imp (pe_bm PySem.F.plainAttrs_list PySem.F.slot_list_append PySem.F.type_list_append mt_append ha (pa_cons hb pa_nil hs) hbase hfew hline hs hplain) fun σ H Q h => ?_
  obtain ⟨M, s, st, R, S, h⟩ := h
  refine ⟨M, s, st, R, S, (Wp.bind h).mono fun r st1 M1 H1 s1 R1 h1 x hx => ?_⟩
  dsimp only at h1
  split at h1
  · rename_i hl
    refine ⟨by rw [hK]; exact isLst_ty R1 hx hl, M1, s, st1, R1, S.step s1, (Wp.bind h1).mono fun q st2 M2 H2 s2 R2 h2 y hy => ?_⟩
    dsimp only at h2
    cases e : appM r q st2 with
    | none => rw [e] at h2; exact h2.elim
    | some st3 =>
      rw [e] at h2
      obtain ⟨l, xs, rfl, k1, k2, k3, k4⟩ := appM_end R2 (hx.step s2) hy e
      exact ⟨l, xs, y, rfl, rfl, k1, k2, h2 _ M2 k3 k4 _ .non⟩
  · exact h1.elim
end
end
end Pu
set_option maxHeartbeats 4000000
namespace My
open PySem L2
/-- all but what stands at D is as it was -/
def SameX (D : Addr) (H H' : Hp) : Prop := ∀ b o, b ≠ D → H b = some o → H' b = some o
/-- a value that is a tuple of ints -/
def IsRow (K : PySem.W.Frag) (H : Hp) (v : V) (r : List Int) : Prop := ∃ a, v = .ref a ∧ SqT K H a (r.map V.int)
theorem seqT {K : PySem.W.Frag} {H H' : Hp} {a : Addr} {xs : List V} (e : Same H H') (h : SqT K H a xs) : SqT K H' a xs := by
  rcases h with (h | ⟨o, h⟩) | h
  · exact .inl (.inl (e _ _ h))
  · exact .inl (.inr ⟨o, e _ _ h⟩)
  · exact .inr h
theorem seqTX {K : PySem.W.Frag} {H H' : Hp} {D a : Addr} {xs l : List V} (hD : H D = some (.lst l)) (e : SameX D H H') (h : SqT K H a xs) : SqT K H' a xs := by
  rcases h with (h | ⟨o, h⟩) | h
  · exact .inl (.inl (e _ _ (fun q => by subst q; rw [hD] at h; cases h) h))
  · exact .inl (.inr ⟨o, e _ _ (fun q => by subst q; rw [hD] at h; cases h) h⟩)
  · exact .inr h
theorem IsRow.same {K : PySem.W.Frag} {H H' : Hp} {v : V} {r : List Int} (e : Same H H') (h : IsRow K H v r) : IsRow K H' v r :=
  let ⟨a, e1, h1⟩ := h; ⟨a, e1, seqT e h1⟩
/-- what a thing looks like in the heap, whatever happens to a list at D -/
structure Stab (D : Addr) {β : Type} (R : Hp → V → β → Prop) : Prop where
  st : ∀ (H H' : Hp) (v : V) (b : β) (l : List V), H D = some (.lst l) → SameX D H H' → R H v b → R H' v b
theorem stab_row {D : Addr} {K : PySem.W.Frag} : Stab D (IsRow K) := ⟨fun H H' v b l hD e ⟨a, e1, h1⟩ => ⟨a, e1, seqTX hD e h1⟩⟩
def IsInt (_ : Hp) (v : V) (i : Int) : Prop := v = .int i
theorem stab_int {D : Addr} : Stab D IsInt := ⟨fun H H' v b l hD e h => h⟩
theorem Paired.imp {α β : Type} {F G : α → β → Prop} (f : ∀ a b, F a b → G a b) : ∀ {l₁ : List α} {l₂ : List β}, Paired F l₁ l₂ → Paired G l₁ l₂
  | _, _, .nil => .nil
  | _, _, .cons r t => .cons (f _ _ r) (Paired.imp f t)
theorem Paired.snoc {α β : Type} {F : α → β → Prop} {x : α} {y : β} (h : F x y) : ∀ {l₁ : List α} {l₂ : List β}, Paired F l₁ l₂ → Paired F (l₁ ++ [x]) (l₂ ++ [y])
  | _, _, .nil => .cons h .nil
  | _, _, .cons r t => .cons r (Paired.snoc h t)
theorem paired_len {α β : Type} {F : α → β → Prop} : ∀ {l₁ : List α} {l₂ : List β}, Paired F l₁ l₂ → l₁.length = l₂.length
  | _, _, .nil => rfl
  | _, _, .cons _ t => congrArg Nat.succ (paired_len t)
theorem paired_int {H : Hp} : ∀ {l₁ : List V} {l₂ : List Int}, Paired (IsInt H) l₁ l₂ → l₁ = l₂.map V.int
  | _, _, .nil => rfl
  | _, _, .cons r t => by rw [show _ = V.int _ from r, paired_int t]; rfl
/-- the items that turns keep, so far -/
def outs {β : Type} (st : Nat → Option β) (n : Nat) : List β := (List.range n).filterMap st
theorem outs_succ {β : Type} (st : Nat → Option β) (n : Nat) : outs st (n + 1) = outs st n ++ (match st n with | some c => [c] | none => []) := by
  unfold outs
  rw [List.range_succ, List.filterMap_append]
  congr 1
  cases h : st n <;> simp [h]
theorem outs_len {β : Type} (st : Nat → Option β) (n : Nat) : (outs st n).length ≤ n := by
  unfold outs
  exact Nat.le_trans (List.length_filterMap_le _ _) (by simp)
/-- a comprehension whose turns change nothing that stood -/
theorem lcp {β : Type} {J : It} {n : Nat} {G : Hp → Prop} {Y : Nat → Hp → V → Hp → Prop} (w : Walk J n G Y) {g : TG} {tt : TT} {te : TE} {vs : List Nat} {σ : St} {H1 : Hp} {D : Addr} {Qd : Hp → Prop}
    (R : Hp → V → β → Prop) (S : Stab D R) (st : Nat → Option β) (hn : n ≤ 1000000) (hD : H1 D = none) (hG : ∀ H, Same H1 H → G H)
    (hs : ∀ i x H H', i < n → Same H1 H → Y i H x H' → ∀ (k1 : V → Hp → Prop) (k0 : Hp → Prop), (∀ y H4 c, Same H H4 → st i = some c → R H4 y c → k1 y H4) → (∀ H3, Same H H3 → st i = none → k0 H3) →
      g x (wipe σ vs) H' fun σ2 H2 => wipe σ2 vs = wipe σ vs ∧ tt σ2 H2 fun b H3 => if b = true then te σ2 H3 k1 else k0 H3)
    (hd : ∀ H ys, Same H1 H → H D = some (.lst ys) → Paired (R H) ys (outs st n) → Qd H) :
    ∃ W : Nat → Nat → Hp → Prop, (∃ m, W 0 m (upd H1 D (.lst []))) ∧ ∀ i m H, W i m H →
      (J.stop i H ∧ Qd H) ∨ (J.go i H ∧ ∃ Nx : Hp → Prop, (∀ H', Nx H' → ∃ m', m' < m ∧ W (i + 1) m' H') ∧ ∀ x H', J.yld i H x H' → g x (wipe σ vs) H' fun σ2 H2 => wipe σ2 vs = wipe σ vs ∧ tt σ2 H2 fun b H3 =>
        if b = true then te σ2 H3 fun y H4 => ∃ acc, H4 D = some (.lst acc) ∧ acc.length < sizeLine ∧ Nx (upd H4 D (.lst (acc ++ [y]))) else Nx H3) := by
  refine lc_it w (fun i H => Same H1 H ∧ ∃ ys, H D = some (.lst ys) ∧ Paired (R H) ys (outs st i)) ⟨?_, [], upd_same, .nil⟩ (fun i H _ p => hG H p.1) ?_ (fun H ⟨a, ys, b, c⟩ => hd H ys a b c)
  · intro b o e
    rw [upd_ne (ne_of_none e hD)]
    exact e
  · intro i x H H' hi ⟨s1, ys, hy, pr⟩ y
    refine hs i x H H' hi s1 y _ _ (fun v H4 c s4 ec r => ⟨ys, s4 _ _ hy, ?_, ?_, ys ++ [v], upd_same, ?_⟩) fun H3 s3 e0 => ?_
    · have := paired_len pr
      have := outs_len st i
      rw [sizeLine_eq]; omega
    · intro b o e
      rw [upd_ne (ne_of_none e hD)]
      exact s4 _ _ (s1 _ _ e)
    · have sx : SameX D H (upd H4 D (.lst (ys ++ [v]))) := fun b o hb e => by rw [upd_ne hb]; exact s4 _ _ e
      have sx4 : SameX D H4 (upd H4 D (.lst (ys ++ [v]))) := fun b o hb e => by rw [upd_ne hb]; exact e
      rw [outs_succ, ec]
      exact Paired.snoc (S.st H4 _ v c ys (s4 _ _ hy) sx4 r) (Paired.imp (fun a b q => S.st H _ a b ys hy sx q) pr)
    · refine ⟨fun b o e => s3 _ _ (s1 _ _ e), ys, s3 _ _ hy, ?_⟩
      rw [outs_succ, e0, List.append_nil]
      exact Paired.imp (fun a b q => S.st H _ a b ys hy (fun b o _ e => s3 _ _ e) q) pr
/-- zip of two tuples, walked -/
theorem walk_zipT {K : PySem.W.Frag} {a b : Addr} {xs ys : List V} {n : Nat} (hn : n = min xs.length ys.length) : Walk (RZ.ItzT K a b) n (fun H => SqT K H a xs ∧ SqT K H b ys) (YPair (fun i => xs[i]?) (fun i => ys[i]?)) := by
  refine ⟨fun i H hi q => ⟨xs, ys, xs[i]'(by omega), ys[i]'(by omega), q.1, q.2, by simp [show i < xs.length by omega], by simp [show i < ys.length by omega]⟩, fun H q => ⟨xs, ys, q.1, q.2, by omega⟩, fun i H x H' _ q y => ?_⟩
  obtain ⟨T, u, v, e, hT, eH, h1, h2⟩ := y
  exact ⟨T, u, v, e, hT, eH, h1 xs q.1, h2 ys q.2⟩
end My
set_option maxHeartbeats 4000000
namespace My
open PySem L2 PyProof.Rows
/-- what the search for the least holds behind j numbers: nothing yet, or the least so far, twice -/
def Best (ns : List Int) (j : Nat) (b : Array Value) : Prop :=
  (j = 0 ∧ b = #[]) ∨ ∃ m t u, 0 < j ∧ b = #[.int m t, .int m u] ∧ m ∈ ns.take j ∧ ∀ a ∈ ns.take j, m ≤ a
theorem take_snoc {ns : List Int} {j : Nat} {n : Int} (h : ns[j]? = some n) : ns.take (j + 1) = ns.take j ++ [n] := by
  rw [List.take_add_one, h]; rfl
theorem minLoop {prog : Program} {w : World} {A : Around} {l I S : Addr} {vs : List Value} {ns : List Int} {R : Result → Shared → Prop} (hh : A.handled = none) (hlI : l ≠ I) (hSI : S ≠ I) (hlS : l ≠ S) (hv : IntsAre vs ns) (hpos : 0 < vs.length) :
    ∀ (r j : Nat) (h : Heap) (tk : Nat) (s : Shared) (b : Array Value) (c : Nat), vs.length - j = r → j ≤ vs.length → h.IsListIter I l j → h.IsList l vs.toArray → h.get? S = some (seqObj "list" b c) → Best ns j b →
      (∀ h' tk' m t, (∀ x o, x ≠ I → x ≠ S → h.get? x = some o → h'.get? x = some o) → m ∈ ns → (∀ a ∈ ns, m ≤ a) → R (.ok (.ret (.int m t))) { s with heap := h', toks := tk' }) →
      codeAny (model prog w) A (.builtin "min.loop" ⟨[.ref I, .type "int", .ref S], []⟩) R { s with heap := h, toks := tk } := by
  have nm : (toString "min" ++ toString ".loop" : String) = "min.loop" := by decide
  have W := Walks.list (prog := prog) (w := w) (A := A.in1) hh I l hlI vs.toArray
  have zs : vs.toArray.size = vs.length := List.size_toArray ..
  have ln := hv.length
  intro r
  induction r with
  | zero =>
    intro j h tk s b c hr hj it li gs be fin
    obtain rfl : j = vs.length := by omega
    refine codeAny_builtin PySem.F.entry_min_loop ?_
    rw [Around.under_plainId PySem.F.plain_min_loop _]
    show wpAny _ A.in1 (seqItems? (.ref S) >>= _) _ _ _
    refine wpAny_bind (wpAny_seqItems gs rfl ?_)
    show wpAny _ A.in1 (tryCatch (pyNext (.ref I)) _ >>= _) _ _ _
    refine wpAny_bind (wpAny_tryCatch (W.done _ _ _ ⟨by rw [zs]; exact it, li⟩ fun h' tk' kp => ?_))
    rcases be with ⟨e, _⟩ | ⟨m, t, u, _, rfl, m1, m2⟩
    · omega
    · rw [show ns.take vs.length = ns by rw [ln]; exact List.take_length ..] at m1 m2
      have gs' := kp S _ (by simpa using hSI) gs
      have sb := Heap.SameBut.update h' S (Obj.mapSeq fun _ => (#[] : Array Value))
      show wpAny _ A.in1 (updateSeq S (fun _ => #[]) >>= _) _ _ _
      refine wpAny_bind (wpAny_updateSeq gs' rfl (wpAny_bind (wpAny_letGo (wpAny_pure ?_))))
      exact fin _ _ m t (fun x o hx hs e => (sb.2 x hs).trans (kp x o (by simpa using hx) e)) m1 m2
  | succ r ih =>
    intro j h tk s b c hr hj it li gs be fin
    have hlt : j < vs.length := by omega
    refine codeAny_builtin PySem.F.entry_min_loop ?_
    rw [Around.under_plainId PySem.F.plain_min_loop _]
    show wpAny _ A.in1 (seqItems? (.ref S) >>= _) _ _ _
    refine wpAny_bind (wpAny_seqItems gs rfl ?_)
    show wpAny _ A.in1 (tryCatch (pyNext (.ref I)) _ >>= _) _ _ _
    refine wpAny_bind (wpAny_tryCatch (W.item j _ _ _ (by rw [zs]; exact hlt) ⟨it, li⟩ fun v h' tk' hP st' kp => ?_))
    have ev : vs[j]? = some v := by simpa using hP
    obtain ⟨n, t0, rfl, en⟩ := hv.at j v ev
    have gs' := kp S _ (by simpa using hSI) gs
    show wpAny _ A.in1 (tryCatch (holding [_] (call (.type "int") [_])) _ >>= _) _ _ _
    refine wpAny_bind (wpAny_tryCatch (wpAny_holding (call_int_int ?_)))
    have nxt : ∀ (h2 : Heap) (tk2 : Nat) (b2 : Array Value) (c2 : Nat), (∀ x o, x ≠ S → h'.get? x = some o → h2.get? x = some o) → h2.get? S = some (seqObj "list" b2 c2) → Best ns (j + 1) b2 →
        codeAny (model prog w) A (.builtin "min.loop" ⟨[.ref I, .type "int", .ref S], []⟩) R { s with heap := h2, toks := tk2 } := fun h2 tk2 b2 c2 kp2 g2 be2 => by
      refine ih (j + 1) h2 tk2 s b2 c2 (by omega) hlt ?_ ?_ g2 be2 fun h3 tk3 m t kp3 => fin h3 tk3 m t fun x o hx hs e => kp3 x o hx hs (kp2 x o hs (kp x o (by simpa using hx) e))
      · obtain ⟨o, q, r1⟩ := st'.1
        exact ⟨o, kp2 _ _ hSI.symm q, r1⟩
      · exact st'.2.at fun o e => kp2 _ _ hlS e
    have upd' : ∀ (h2 : Heap) (b2 b3 : Array Value) (c2 : Nat), h2.get? S = some (seqObj "list" b2 c2) → ∃ c3, (h2.update S (Obj.mapSeq fun _ => b3)).get? S = some (seqObj "list" b3 c3) := fun h2 b2 b3 c2 g2 => ⟨_, get?_update_seq g2 fun _ => b3⟩
    rcases be with ⟨rfl, rfl⟩ | ⟨m, t, u, jp, rfl, m1, m2⟩
    · obtain ⟨c3, g3⟩ := upd' h' #[] #[.int n t0, .int n t0] c gs'
      show wpAny _ A.in1 (updateSeq S (fun _ => #[.int n t0, .int n t0]) >>= _) _ _ _
      refine wpAny_bind (wpAny_updateSeq gs' rfl ?_)
      rw [nm]
      refine wpAny_pure ⟨plainId_quiet PySem.F.plain_min_loop _, nxt _ _ _ c3 (fun x o hx e => ((Heap.SameBut.update h' S _).2 x hx).trans e) g3 (.inr ⟨n, t0, t0, by omega, rfl, ?_, ?_⟩)⟩
      · rw [take_snoc en]; simp
      · rw [take_snoc en]; simp
    · show wpAny _ A.in1 (tryCatch (holding [_, _] (richCompare .Lt _ _ >>= _)) _ >>= _) _ _ _
      refine wpAny_bind (wpAny_tryCatch (wpAny_holding (wpAny_bind (CmpOf.ints_lt (prog := prog) (w := w) (A := A.in1) (P := fun (i : Nat) v => ∃ t, v = .int (if i = 0 then n else m) t) (fun i => if i = 0 then n else m) (fun i v h => h) 0 1 _ _ _ _ _ ⟨t0, rfl⟩ ⟨u, rfl⟩ ?_))))
      refine wpAny_bind (wpAny_holding (wpAny_truthy_bool (wpAny_bind (wpAny_letGo (wpAny_pure ?_)))))
      by_cases lt : n < m
      · obtain ⟨c3, g3⟩ := upd' h' _ #[.int n t0, .int n t0] c gs'
        simp only [if_true, show (1 : Nat) ≠ 0 from by decide, if_false, lt, decide_true]
        refine wpAny_bind (wpAny_updateSeq gs' rfl (wpAny_bind (wpAny_letGo ?_)))
        rw [nm]
        refine wpAny_pure ⟨plainId_quiet PySem.F.plain_min_loop _, nxt _ _ _ c3 (fun x o hx e => ((Heap.SameBut.update h' S _).2 x hx).trans e) g3 (.inr ⟨n, t0, t0, by omega, rfl, ?_, ?_⟩)⟩
        · rw [take_snoc en]; simp
        · rw [take_snoc en]
          intro a ha
          rcases List.mem_append.mp ha with ha | ha
          · have := m2 a ha; omega
          · rw [List.mem_singleton.mp ha]; exact Int.le_refl n
      · simp only [if_true, show (1 : Nat) ≠ 0 from by decide, if_false, lt, decide_false, Bool.false_eq_true]
        refine wpAny_bind (wpAny_letGo ?_)
        rw [nm]
        refine wpAny_pure ⟨plainId_quiet PySem.F.plain_min_loop _, nxt _ _ _ c (fun x o hx e => e) gs' (.inr ⟨m, t, u, by omega, rfl, ?_, ?_⟩)⟩
        · rw [take_snoc en]; exact List.mem_append_left _ m1
        · rw [take_snoc en]
          intro a ha
          rcases List.mem_append.mp ha with ha | ha
          · exact m2 a ha
          · rw [List.mem_singleton.mp ha]; omega
theorem minCall {prog : Program} {w : World} {A : Around} {E : Value → Shared → Prop} {s : Shared} {l : Addr} {vs : List Value} {ns : List Int} {Q : Value → Shared → Prop} (hh : A.handled = none) (li : s.heap.IsList l vs.toArray) (hv : IntsAre vs ns) (hpos : 0 < ns.length)
    (fin : ∀ h' tk' m t, (∀ x o, s.heap.get? x = some o → h'.get? x = some o) → m ∈ ns → (∀ a ∈ ns, m ≤ a) → Q (.int m t) { s with heap := h', toks := tk' }) :
    wpAny (model prog w) A (call (.builtin "min") [.ref l] [(Str.ofString "key", .type "int")]) Q E s := by
  have nm : (toString "min" ++ toString ".loop" : String) = "min.loop" := by decide
  have ln := hv.length
  obtain ⟨ol, gl, rl⟩ := id li
  have ll : l < s.heap.objs.size := Heap.lt_size gl
  refine kmb_tree PySem.F.kind_min PySem.F.plain_min PySem.F.entry_min (kmb_min_key _ _) ?_
  show wpAny _ A.in1 (Builtin.Builtins.bindParams "min" ["key", "default"] 0 ⟨[], [(Str.ofString "key", .type "int")]⟩ >>= _) _ _ s
  refine wpAny_bind (wpAny_of_eq (show Builtin.Builtins.bindParams "min" ["key", "default"] 0 ⟨[], [(Str.ofString "key", .type "int")]⟩ = pure [some (.type "int"), none] from rfl) (wpAny_bind (wpAny_pure (wpAny_bind (wpAny_pyIter_list li (wpAny_bind (wpAny_newList ?_ (Nat.zero_le _))))))))
  rw [nm]
  refine wpAny_pure ⟨plainId_quiet PySem.F.plain_min_loop _, ?_⟩
  have sz : (s.heap.push { cls := .type "list_iterator", data := .fields #[.ref l, .int 0 0] }).objs.size = s.heap.objs.size + 1 := size_push' ..
  have old : ∀ x o, s.heap.get? x = some o → ((s.heap.push { cls := .type "list_iterator", data := .fields #[.ref l, .int 0 0] }).push (seqObj "list" #[] 0)).get? x = some o := fun x o e => Heap.get?_push_of_some _ (Heap.get?_push_of_some _ e)
  refine minLoop (l := l) (I := s.heap.objs.size) (S := (s.heap.push { cls := .type "list_iterator", data := .fields #[.ref l, .int 0 0] }).objs.size) hh (Nat.ne_of_lt ll) (by rw [sz]; exact Nat.succ_ne_self _) (by rw [sz]; exact Nat.ne_of_lt (Nat.lt_succ_of_lt ll)) hv (by omega) _ 0 _ _ s #[] 0 rfl (Nat.zero_le _) ⟨_, Heap.get?_push_of_some _ (Heap.get?_push_size _ rfl), rfl, rfl⟩ (li.at fun o e => old _ _ e) (Heap.get?_push_size _ rfl) (.inl ⟨rfl, rfl⟩) fun h' tk' m t kp m1 m2 => ?_
  exact fin h' tk' m t (fun x o e => kp x o (Nat.ne_of_lt (Heap.lt_size e)) (by rw [sz]; exact Nat.ne_of_lt (Nat.lt_succ_of_lt (Heap.lt_size e))) (old x o e)) m1 m2
/-- min(e, key=int) of a list of ints -/
def tMinInt (K : PySem.W.Frag) (ta : TA) : TE := fun σ H Q => ta σ H fun vs H1 => ∃ (a : Addr) (ns : List Int), vs = [.ref a] ∧ SqL K H1 a (ns.map V.int) ∧ 0 < ns.length ∧ ∀ m, m ∈ ns → (∀ y ∈ ns, m ≤ y) → Q (.int m) H1
theorem pe_minInt {X : Cx} {e : Expr} {ta : TA} {p q kp pos : Pos} (hc : X.calm = true) (hg : Gl X "min") (hm : X.mg "min" = none) (hg2 : Gl X "int") (hm2 : X.mg "int" = none) (ha : PA X [e] ta)
    (h1 : backTo pos (starEach [e] X.env) = (false, eval e X.env) :: backTo pos (starEach [] X.env) := by rfl) (h2 : (backTo pos (starEach [e] X.env)).any (·.1) = false := by rfl) :
    PE X (.Call (.Name "min" p) [e] [⟨some "key", .Name "int" q, kp⟩] pos) (tMinInt X.K ta) := by
  refine ⟨fun pins s σ H Q I h => ?_⟩
  refine wpAny_Call_Name_kw (ld_blt I hg hm (show bootBuiltins "min" = some (.builtin "min") by decide +kernel) (callWith_kw ?_ h1 h2))
  refine thn (ha.run pos pins s σ H _ I h) fun us s1 ⟨vs, H1, I1, r1, q1⟩ => ?_
  obtain ⟨a, ns, rfl, hl, hp, k⟩ := q1
  refine kws_cons (ld_blt I1 hg2 hm2 (show bootBuiltins "int" = some (.type "int") by decide +kernel) (kws_nil ?_))
  obtain ⟨its, rv, pl, _⟩ := I1.list hl
  rw [Vals.ref1 r1]
  refine minCall (I1.ok.hd hc) pl.isList rv.ints hp fun h' tk' m t kp' m1 m2 => ?_
  exact ⟨.int m, H1, I1.kept kp', ⟨_, rfl⟩, k m m1 m2⟩
end My
set_option maxHeartbeats 4000000
namespace Pu
open PySem L2
/-! ### slices -/
abbrev OM := Sl → S → T XS (Option Int × S)
def oNone : OM := fun _ st => .ret (none, st)
def oSome (a : EM) : OM := fun σ st => (a σ st).bind fun r => match r.1 with
  | .pv (.int i) => .ret (some i, r.2)
  | _ => .bad
def cutP (xs : List PV) (lo hi : Option Int) : List PV := (xs.drop (HT.sIx xs.length 0 lo)).take (HT.sIx xs.length xs.length hi - HT.sIx xs.length 0 lo)
def gCut (p : PV) (lo hi : Option Int) : Option PV := match p with
  | .lst xs => some (.lst (cutP xs lo hi))
  | .tup xs => some (.tup (cutP xs lo hi))
  | .str z => if z.length ≤ lineN then some (.str (cutS z lo hi)) else none
  | _ => none
def eSlice (a : EM) (lo hi : OM) : EM := fun σ st => (a σ st).bind fun r => (lo σ r.2).bind fun l => (hi σ l.2).bind fun h => match vw h.2 r.1 with
  | some p => opt h.2 (gCut p l.1 h.1)
  | none => .bad
def liftO (D : Wd) (W : WX) (m : OM) : TO := fun σV H Q => ∃ M σ st, Rel D M st H ∧ Slots D M H σV σ ∧ Wp D W M H σV (m σ st) fun o _ M' H' => Q o H'
section
variable {X : Cx} {D : Wd} {W : WX} {e : Expr} {m : EM} {pos : Pos}
theorem q_onone : PO X none (liftO D W oNone) := ⟨fun pins s σ H Q I h => po_none.run pins s σ H Q I (by obtain ⟨M, s, st, R, S, h⟩ := h; exact h H M .refl R)⟩
theorem q_osome (he : PE X e (lift D W m)) : PO X (some e) (liftO D W (oSome m)) := ⟨fun pins s σ H Q I h => (po_some he).run pins s σ H Q I (by
  obtain ⟨M, s, st, R, S, h⟩ := h
  refine ⟨M, s, st, R, S, (Wp.bind h).mono fun r st1 M1 H1 s1 R1 h1 v hv => ?_⟩
  dsimp only at h1
  split at h1
  · exact ⟨_, rint hv, h1 H1 M1 .refl R1⟩
  · exact h1.elim)⟩
/-- a slice of a tuple, the whole one too -/
def rCutT (K : PySem.W.Frag) : V → Option Int → Option Int → Hp → VK → Prop := fun x lo hi H Q => ∃ a xs, x = .ref a ∧ SqT K H a xs ∧ (HT.sIx xs.length 0 lo = 0 ∧ HT.sIx xs.length xs.length hi = xs.length → Q (.ref a) H) ∧ ∀ p, H p = none → Q (.ref p) (upd H p (.tup (cutV xs lo hi)))
theorem whole_tup {prog : Program} {w : World} {A : Around} {E : Value → Shared → Prop} {s : Shared} {t sl : Addr} {its : Array Value} {vl vu : Value} {lo hi : Option Int} {Q : Value → Shared → Prop} (ht : PyProof.Rows.IsTup s.heap t its) (hs : s.heap.IsSliceOf sl vl vu .none) (pl : PySem.IsPart vl lo) (pu : PySem.IsPart vu hi)
    (hw : HT.sIx its.size 0 lo = 0 ∧ HT.sIx its.size its.size hi = its.size) (h : Q (.ref t) s) : wpAny (model prog w) A (getItem (.ref t) (.ref sl)) Q E s := by
  obtain ⟨os, h1, h2, h3⟩ := id hs
  have tS : s.TypeIs (.ref sl) "slice" := ⟨os, h1, h2⟩
  unfold getItem
  try with_reducible refine wpAny_holding ?_
  first | refine wpAny_bind (wpAny_pure ?_) | skip
  refine wpAny_bind (wpAny_sequenceKey ht.typeIs (by decide) (wpAny_bind (wpAny_callSpecial?_slot (name := Str.ofString "__getitem__") ht.typeIs PyProof.Rows.slot_tuple_getitem (wpAny_call_entry PyProof.Rows.slot_tuple_getitem ht.typeIs PyProof.Rows.entry_tuple_getitem ?_ (PyProof.Rows.args_tuple_getitem _ _)))))
  show wpAny _ _ (Builtin.Tuple.tupleItemsOf (.ref t) >>= _) _ _ s
  refine wpAny_bind (PyProof.Rows.tupleItemsOf_ ht (wpAny_bind (wpAny_typeOf tS ?_)))
  rw [if_pos (by decide)]
  refine wpAny_bind (HT.sliceApplied_gen hs pl pu ?_)
  have yes : ((((HT.sIx its.size 0 lo : Nat) : Int) == 0 && (1 : Int) == 1 && (HT.sIx its.size its.size hi - HT.sIx its.size 0 lo) == its.size) = true) := by
    rw [hw.1, hw.2]; simp
  show wpAny _ _ (if (((HT.sIx its.size 0 lo : Nat) : Int) == 0 && (1 : Int) == 1 && (HT.sIx its.size its.size hi - HT.sIx its.size 0 lo) == its.size) = true then _ else _) _ _ s
  rw [if_pos yes]
  refine wpAny_bind (?_ : wpAny _ _ (Builtin.Tuple.tupleIsExact (.ref t)) _ _ s)
  unfold Builtin.Tuple.tupleIsExact
  refine wpAny_bind (wpAny_typeOf ht.typeIs (wpAny_pure ?_))
  rw [if_pos (by decide)]
  exact wpAny_bind (wpAny_rule (wpAny_pure ⟨_, rfl, wpAny_pure h⟩))
theorem sl_cutT : SlR X (rCutT X.K) := by
  intro pins s σ H x v vl vu lo hi sl Q J rx hs pl pu h
  obtain ⟨a, xs, rfl, hx, q1, q2⟩ := h
  by_cases hw : HT.sIx xs.length 0 lo = 0 ∧ HT.sIx xs.length xs.length hi = xs.length
  · cases rx
    obtain ⟨us, r, ht, _⟩ := J.tuple hx
    have hlen : us.toArray.size = xs.length := by rw [List.size_toArray]; exact r.length.symm
    exact ⟨"tuple", _, PyProof.Rows.slot_tuple_getitem.lookup, ht.typeIs, whole_tup ht hs pl pu (by rw [hlen]; exact hw) ⟨.ref a, H, J, rfl, q1 hw⟩⟩
  · exact sl_tup pins s σ H _ v vl vu lo hi sl Q J rx hs pl pu ⟨a, xs, rfl, hx, hw, q2⟩
def rCutS : V → Option Int → Option Int → Hp → VK → Prop := fun x lo hi H Q => ∃ z, x = .str z ∧ z.length ≤ sizeLine ∧ Q (.str (cutS z lo hi)) H
theorem sl_all : SlR X (fun x lo hi H Q => rSlL X.K x lo hi H Q ∨ rCutT X.K x lo hi H Q ∨ rCutS x lo hi H Q) := SlR.or sl_list (SlR.or sl_cutT sl_str)
theorem cut_reps {M : Mx} {H : Hp} {vs : List V} {ps : List PV} (h : Reps D M H vs ps) (lo hi : Option Int) : Reps D M H (cutV vs lo hi) (cutP ps lo hi) := by
  unfold cutV cutP
  rw [h.len]
  exact (h.drop _).take _
theorem q_slice {lo hi : Option Expr} {ml mh : OM} {p2 : Pos} (hK : X.K = D.K) (he : PE X e (lift D W m)) (hl : PO X lo (liftO D W ml)) (hh : PO X hi (liftO D W mh)) : PE X (.Subscript e (.Slice lo hi none p2) pos) (lift D W (eSlice m ml mh)) := by
  refine pe_imp (pe_slice sl_all he hl hh) fun σ H Q h => ?_
  obtain ⟨M, s, st, R, S, h⟩ := h
  refine ⟨M, s, st, R, S, (Wp.bind h).mono fun r st1 M1 H1 s1 R1 h1 v hv => ⟨M1, s, st1, R1, S.step s1, (Wp.bind h1).mono fun l st2 M2 H2 s2 R2 h2 => ⟨M2, s, st2, R2, (S.step s1).step s2, (Wp.bind h2).mono fun k st3 M3 H3 s3 R3 h3 => ?_⟩⟩⟩
  dsimp only at h3
  have hv3 := (hv.step s2).step s3
  rw [hK]
  cases ev : vw st3 r with
  | none => rw [ev] at h3; exact h3.elim
  | some p =>
    rw [ev] at h3
    have sh := vw_sh R3 hv3 ev
    refine opt_end (r := fun Q => rSlL D.K v l k H3 Q ∨ rCutT D.K v l k H3 Q ∨ rCutS v l k H3 Q) R3 h3 fun z e q => ?_
    unfold gCut at e
    split at e
    · cases e
      obtain ⟨a, vs, rfl, k1, k2⟩ := sh.sqL
      exact .inl ⟨a, vs, rfl, k1, fun p hp => q _ _ (Gr.laid hp) (rep_lst R3 hp (cut_reps k2 l k))⟩
    · cases e
      obtain ⟨a, vs, rfl, k1, k2⟩ := sh.sqT
      refine .inr (.inl ⟨a, vs, rfl, k1, fun hw => ?_, fun p hp => q _ _ (Gr.laid hp) (rep_tup R3 hp (cut_reps k2 l k))⟩)
      rename_i ps
      have : cutP ps l k = ps := by
        unfold cutP
        rw [← k2.len, hw.1, hw.2, k2.len, List.drop_zero, Nat.sub_zero, List.take_length]
      rw [this] at q
      cases sh with
      | rep h => exact q _ _ .refl h
    · split at e
      · rename_i hl
        cases e
        rw [sh.str]
        exact .inr (.inr ⟨_, rfl, by rw [← line_eq]; exact hl, q _ _ .refl (.str _)⟩)
      · cases e
    · cases e
/-! a list of written items so many times -/
def eRep (as : AM) (b : EM) : EM := fun σ st => (as σ st).bind fun r => match pvs r.1 with
  | some ps => if ps.length ≤ lineN then (b σ r.2).bind fun q => (match q.1 with
      | .pv (.int k) => if -(2 ^ 63) ≤ k ∧ k < 2 ^ 63 ∧ ps.length * k.toNat ≤ lineN then .ret (.pv (.lst (List.replicate k.toNat ps).flatten), q.2) else .bad
      | _ => .bad) else .bad
  | none => .bad
theorem q_rep {es : List Expr} {b : Expr} {ms : AM} {mb : EM} {p2 : Pos} (ha : PA X es (liftA D W ms)) (hb : PE X b (lift D W mb)) : PE X (.BinOp (.List es p2) .Mult b pos) (lift D W (eRep ms mb)) := by
  refine pe_imp (pe_op op_rep (pe_lst ha) hb) fun σ H Q h => ?_
  obtain ⟨M, s, st, R, S, h⟩ := h
  refine ⟨M, s, st, R, S, (Wp.bind h).mono fun rs st1 M1 H1 s1 R1 h1 vs hv => ?_⟩
  dsimp only at h1
  cases e : pvs rs with
  | none => rw [e] at h1; exact h1.elim
  | some ps =>
    rw [e] at h1
    have hr := reps_of hv e
    dsimp only at h1
    split at h1
    · rename_i hl
      refine ⟨by rw [hr.len, ← line_eq]; exact hl, fun p hp => ?_⟩
      obtain ⟨s2, R2⟩ := R1.laid (o := .lst vs) hp
      refine ⟨M1, s, st1, R2, (S.step s1).step s2, (Wp.bind (Wp.from s2 h1)).mono fun q st3 M3 H3 s3 R3 h3 y hy => ?_⟩
      dsimp only at h3
      split at h3
      · rename_i k
        split at h3
        · rename_i c
          rw [rint hy]
          have out := R1.free hp
          have hp3 : H3 p = some (.lst vs) := s3.keep p _ upd_same out.1 out.2.1
          have hr3 := (hr.step s2).step s3
          refine ⟨p, k, vs, rfl, rfl, hp3, c.1, c.2.1, by rw [hr.len, ← line_eq]; exact c.2.2, fun q hq => ?_⟩
          exact h3 _ M3 (R3.laid hq).1 (R3.laid hq).2 _ (rep_lst R3 hq (hr3.rep _))
        · exact h3.elim
      · exact h3.elim
    · exact h1.elim
/-! min(.., key=int), index -/
def minL : List Int → Option Int
  | [] => none
  | x :: xs => some (xs.foldl (fun a b => if b < a then b else a) x)
def eMinI (as : AM) : EM := fun σ st => (as σ st).bind fun r => match r.1 with
  | [q] => (match vw r.2 q with
    | some (.lst xs) => (match intsOf xs with
      | some ns => opt r.2 ((minL ns).map .int)
      | none => .bad)
    | _ => .bad)
  | _ => .bad
theorem foldl_min : ∀ (xs : List Int) (x m : Int), m ∈ x :: xs → (∀ y ∈ x :: xs, m ≤ y) → xs.foldl (fun a b => if b < a then b else a) x = m
  | [], x, m, h, _ => by rw [List.mem_singleton.mp h]; rfl
  | b :: xs, x, m, h, k => by
    rw [List.foldl_cons]
    refine foldl_min xs _ m ?_ fun y hy => ?_
    · have hx := k x (by simp)
      have hb := k b (by simp)
      rcases List.mem_cons.mp h with rfl | h
      · by_cases c : b < m
        · omega
        · rw [if_neg c]; simp
      · rcases List.mem_cons.mp h with rfl | h
        · by_cases c : m < x
          · rw [if_pos c]; simp
          · rw [if_neg c]
            have : x = m := by omega
            simp [this]
        · exact List.mem_cons_of_mem _ h
    · rcases List.mem_cons.mp hy with rfl | hy
      · by_cases c : b < x
        · rw [if_pos c]; exact k b (by simp)
        · rw [if_neg c]; exact k x (by simp)
      · exact k y (by simp [hy])
theorem q_minI {a : Expr} {ms : AM} {p q kp : Pos} (hK : X.K = D.K) (hc : X.calm = true) (hg : Gl X "min") (hm : X.mg "min" = none) (hg2 : Gl X "int") (hm2 : X.mg "int" = none) (ha : PA X [a] (liftA D W ms)) (h1 : backTo pos (starEach [a] X.env) = (false, eval a X.env) :: backTo pos (starEach [] X.env) := by rfl) (h2 : (backTo pos (starEach [a] X.env)).any (·.1) = false := by rfl) :
    PE X (.Call (.Name "min" p) [a] [⟨some "key", .Name "int" q, kp⟩] pos) (lift D W (eMinI ms)) := by
  refine pe_imp (My.pe_minInt hc hg hm hg2 hm2 ha h1 h2) fun σ H Q h => ?_
  obtain ⟨M, s, st, R, S, h⟩ := h
  refine ⟨M, s, st, R, S, (Wp.bind h).mono fun rs st1 M1 H1 s1 R1 h1 vs hv => ?_⟩
  dsimp only at h1
  rw [hK]
  split at h1
  · obtain ⟨v, rfl, h2⟩ := vals_one hv
    split at h1
    · rename_i xs ev
      split at h1
      · rename_i ns en
        obtain ⟨b, us, rfl, k1, k2⟩ := (vw_sh R1 h2 ev).sqL
        rw [ints_eq en] at k2
        rw [k2.isInts] at k1
        cases ns with
        | nil => exact h1.elim
        | cons n ns =>
          refine ⟨b, _, rfl, k1, by simp, fun m hm km => ?_⟩
          have := h1 H1 M1 .refl R1 (.int m) (by
            show Rep D M1 H1 (.int m) (.int (ns.foldl (fun a b => if b < a then b else a) n))
            rw [foldl_min ns n m hm km]
            exact .int m)
          exact this
      · exact h1.elim
    · exact h1.elim
  · exact h1.elim
/-- the place of the first that is equal -/
def firstEq (d : PyData) : List PyData → Nat → Option Nat
  | [], _ => none
  | z :: zs, n => if PyData.eqv z d = true then some n else firstEq d zs (n + 1)
theorem firstEq_ok {d : PyData} : ∀ {zs : List PyData} {n j : Nat}, firstEq d zs n = some j → ∃ i z, j = n + i ∧ zs[i]? = some z ∧ PyData.eqv z d = true ∧ ∀ (m : Nat) (z' : PyData), m < i → zs[m]? = some z' → PyData.eqv z' d = false
  | [], _, _, h => by cases h
  | z :: zs, n, j, h => by
    unfold firstEq at h
    cases c : PyData.eqv z d with
    | true => rw [c, if_pos rfl] at h; cases h; exact ⟨0, z, rfl, rfl, c, fun m _ hm => by omega⟩
    | false =>
      rw [c, if_neg (by simp)] at h
      obtain ⟨i, y, e1, e2, e3, e4⟩ := firstEq_ok h
      refine ⟨i + 1, y, by omega, by simpa using e2, e3, fun m z' hm hz => ?_⟩
      cases m with
      | zero => simp at hz; subst hz; exact c
      | succ m => exact e4 m z' (by omega) (by simpa using hz)
def gIndex (p q : PV) : Option PV := match toD p, toD q with
  | some (.list ds), some d => if SeqAt.shaped (.list ds) = true ∧ SeqAt.shaped d = true then (firstEq d ds 0).map fun j => .int (Int.ofNat j) else none
  | _, _ => none
def isLstP : PV → Bool
  | .lst _ => true
  | _ => false
def eIndex (a b : EM) : EM := fun σ st => (a σ st).bind fun r => match vw r.2 r.1 with
  | some p => if isLstP p = true then (b σ r.2).bind fun q => op2 gIndex r.1 q.1 q.2 else .bad
  | none => .bad
theorem q_index {a b : Expr} {ma mb : EM} {apos cpos : Pos} (hK : X.K = D.K) (hu : X.A.units + 100 < cLine) (ha : PE X a (lift D W ma)) (hb : PE X b (lift D W mb)) (hbase : attributeBase a "index" X.env (eval a X.env) = eval a X.env := by rfl)
    (hfew : ((backTo cpos (starEach [b] X.env)).all (fun x => !x.1) && (backToKw cpos (keywordEach [] X.env)).all (fun x => x.1.isSome) && decide ([b].length + ([] : List Keyword).length + (if ([] : List Keyword).isEmpty then 0 else 1) < 30)) = true := by rfl)
    (hline : (apos.endLine == cpos.line) = true := by rfl) (hs : starEach [b] X.env = (false, eval b X.env) :: starEach [] X.env := by rfl) (hplain : (backTo cpos (starEach [] X.env)).any (·.1) = false := by rfl) :
    PE X (.Call (.Attribute a "index" apos) [b] [] cpos) (lift D W (eIndex ma mb)) := by
  refine pe_imp (pe_bm PySem.F.plainAttrs_list PySem.F.slot_list_index PySem.F.type_list_index (mt_indexD (by omega)) ha (pa_cons hb pa_nil hs) hbase hfew hline hs hplain) fun σ H Q h => ?_
  obtain ⟨M, s, st, R, S, h⟩ := h
  refine ⟨M, s, st, R, S, (Wp.bind h).mono fun r st1 M1 H1 s1 R1 h1 x hx => ?_⟩
  dsimp only at h1
  rw [hK]
  cases ev : vw st1 r with
  | none => rw [ev] at h1; exact h1.elim
  | some p =>
    rw [ev] at h1
    dsimp only at h1
    split at h1
    · rename_i hp
      cases p with
      | lst xs =>
        obtain ⟨l, vs, rfl, k1, k2⟩ := (vw_sh R1 hx ev).sqL
        refine ⟨.inl ⟨rfl, vs, k1⟩, M1, s, st1, R1, S.step s1, (Wp.bind h1).mono fun q st2 M2 H2 s2 R2 h2 y hy => ?_⟩
        refine op2_end (r := fun x y H Q => ∃ l, x = .ref l ∧ rIndexD D.K x [y] H Q) (g := gIndex) ?_ R2 (hx.step s2) hy h2 |>.elim fun _ h => h.2
        intro M st H x y p q z Q R hp hq e k
        unfold gIndex at e
        split at e
        · rename_i ds d h1 h2
          split at e
          · rename_i c
            cases ef : firstEq d ds 0 with
            | none => rw [ef] at e; cases e
            | some j =>
              rw [ef] at e
              cases e
              obtain ⟨i, z, e1, e2, e3, e4⟩ := firstEq_ok ef
              rw [Nat.zero_add] at e1
              subst e1
              have dl := hp.dp h1
              cases dl with
              | lst a1 a2 => exact ⟨_, rfl, _, y, d, ds, j, z, rfl, rfl, .lst a1 a2, hq.dp h2, c.1, c.2, e2, e3, e4, k _ _ .refl (.int _)⟩
          · cases e
        · cases e
      | _ => cases hp
    · exact h1.elim
end
end Pu
set_option maxHeartbeats 4000000
namespace Pu
open PySem L2
/-! ### the names of the package; what a law's text has of them -/
def anT : List Str := (["at", "part", "word", "name", "width", "basis", "point", "script", "told", "text", "factor", "what", "total", "place", "note", "test", "rows", "others", "kind", "number", "origins", "amount", "group", "least", "below"] : List Str) ++ (["event", "asks", "ahead", "found", "known", "worths", "events", "handlers", "blocks", "stage", "on_event", "spots", "many", "rests", "passes", "totals", "notes", "named", "cuts", "plans", "statements", "factors", "total_of", "book", "noted"] : List Str) ++ (["added", "was", "old_amount", "new_amount", "new_group", "old_group", "record", "groups", "deeds", "own", "inners", "amounts", "books", "spans", "records", "here", "there", "sums_of", "forms", "is_empty", "store", "state", "past"] : List Str)
def cnT : List Str := (["SumError", "InvalidVector", "InvalidText", "InvalidRow", "InvalidBook", "InvalidLife", "InvalidCommand", "NoStatement", "NoTotal", "NoEvent", "Mismatch", "Refused", "Lattice", "Factors", "Part", "Row", "Test", "Add", "Put", "Mark", "If", "Was", "OldBelow", "NewBelow", "Moved"] : List Str) ++ (["Noted", "Not", "Event", "Worth", "Handler", "Block", "Reader", "Plan", "Book", "Record", "Doing", "Life", "Inner", "Record_maps", "Moment", "Walk", "Step", "Spans", "State", "Trial", "Store", "Desk"] : List Str)
theorem anT_nd : anT.Nodup := by decide +kernel
/-- the tables of code objects of a law -/
class TBc where
  tb : List (Addr × Str)
variable [TBc]
abbrev DW (K : PySem.W.Frag) (mg : Str → Option Value) : Wd := ⟨K, mg, anT, cnT, none, TBc.tb, none⟩
theorem hu100 {A : Around} {k : Nat} (hr : Room k A) : A.units + 100 < cLine := by have := hr.un; omega
theorem IsC.sub {D : Wd} {sub : Nat → Nat → Bool} {cs ss ss' : List Nat} (h : IsC D sub cs ss) (e : ss'.all (fun s => ss.contains s) = true) : IsC D sub cs ss' :=
  ⟨h.pl, fun t s u w a b c d => h.kit t s u w a (by have := List.all_eq_true.mp e s b; simpa using this) c d⟩
/-- values that stand in for arguments: with the first j given -/
def Dft (K : PySem.W.Frag) (mg : Str → Option Value) (fd : FuncData) (ps : List Str) (dps : List PV) : Prop := ∀ j, j ≤ dps.length → ∃ ds dvs, Binds K fd ps ds ∧ Vals dvs ds ∧ ∀ M H, Reps (DW K mg) M H dvs (dps.drop j)
theorem Dft.none {K : PySem.W.Frag} {mg : Str → Option Value} {fd : FuncData} {ps : List Str} (h : Binds K fd ps []) : Dft K mg fd ps [] := fun j _ => ⟨[], [], h, .nil, fun _ _ => by simpa using .nil⟩
/-- a def on trees that is called by its name -/
structure Cal (P : Program) (w : World) (K : PySem.W.Frag) (mg : Str → Option Value) (base : Heap) (x : Str) (lv : Nat) (ps : List Str) (dps : List PV) (f : Addr) (fd : FuncData) (m : List PV → T PExc PV) : Prop where
  g : mg x = some (.ref f)
  k : PySem.W.keepIn K (.ref f) = true
  b : Dft K mg fd ps dps
  F : FnOk P w K mg base (L2.CX P w) lv f fd ps (spP (DW K mg) ps.length m)
/-- a def that changes what it is handed -/
structure CalS (P : Program) (w : World) (K : PySem.W.Frag) (mg : Str → Option Value) (base : Heap) (x : Str) (lv : Nat) (ps : List Str) (dps : List PV) (f : Addr) (fd : FuncData) (m : CM) : Prop where
  g : mg x = some (.ref f)
  k : PySem.W.keepIn K (.ref f) = true
  b : Dft K mg fd ps dps
  F : FnOk P w K mg base (L2.CX P w) lv f fd ps (spS (DW K mg) ps.length m)
/-- a class whose things stay as __init__ leaves them -/
structure Mak (P : Program) (w : World) (K : PySem.W.Frag) (mg : Str → Option Value) (base : Heap) (x : Str) (c lv : Nat) (ps : List Str) (dps : List PV) (C f : Addr) (fd : FuncData) (m : CM) : Prop where
  cn : cnT[c]? = some x
  g : mg x = some (.ref C)
  mm : Mk K C f
  b : Dft K mg fd ps dps
  F : FnOk P w K mg base (L2.CX P w) lv f fd ps (spS (DW K mg) ps.length m)
/-- a classmethod on trees -/
structure CMt (P : Program) (w : World) (K : PySem.W.Frag) (mg : Str → Option Value) (base : Heap) (x : Str) (c : Nat) (meth : Str) (lv : Nat) (ps : List Str) (dps : List PV) (C p f : Addr) (mc : Value) (fd : FuncData) (m : List PV → T PExc PV) : Prop where
  cn : cnT[c]? = some x
  g : mg x = some (.ref C)
  rd : ClX.CRead K C mc
  mt : ClX.CMet K C mc meth p f
  b : Dft K mg fd ps dps
  F : FnOk P w K mg base (L2.CX P w) lv f fd ps (spP (DW K mg) ps.length m)
/-- the text of the context -/
def Fits (X : Cx) (P : Program) (w : World) (K : PySem.W.Frag) (mg : Str → Option Value) (base : Heap) : Prop := X.prog = P ∧ X.w = w ∧ X.K = K ∧ X.mg = mg ∧ X.base = base
section
variable {P : Program} {w : World} {K : PySem.W.Frag} {mg : Str → Option Value} {base : Heap} {X : Cx} {W : WX} {x : Str} {lv n : Nat} {ps : List Str} {dps rest : List PV} {f : Addr} {fd : FuncData}
theorem Cal.cal {m : List PV → T PExc PV} (C : Cal P w K mg base x lv ps dps f fd m) (hX : Fits X P w K mg base) (tk : Takes X W) (hr : Room lv X.A) (j : Nat) (hj : j ≤ dps.length) (hn : ps.length = n) (he : dps.drop j = rest) : CalR X (DW K mg) W (.ref f) (cP m n rest) := by
  obtain ⟨rfl, rfl, rfl, rfl, rfl⟩ := hX
  subst hn he
  obtain ⟨_, _, h1, h2, h3⟩ := C.b j hj
  exact cal_pure tk C.F hr h1 h2 h3
theorem CalS.cal {m : CM} (C : CalS P w K mg base x lv ps dps f fd m) (hX : Fits X P w K mg base) (tk : Takes X W) (hr : Room lv X.A) (j : Nat) (hj : j ≤ dps.length) (hn : ps.length = n) (he : dps.drop j = rest) : CalR X (DW K mg) W (.ref f) (cS m n rest) := by
  obtain ⟨rfl, rfl, rfl, rfl, rfl⟩ := hX
  subst hn he
  obtain ⟨_, _, h1, h2, h3⟩ := C.b j hj
  exact cal_state tk C.F hr h1 h2 h3
theorem Mak.cal {m : CM} {C : Addr} {c : Nat} (M : Mak P w K mg base x c lv ps dps C f fd m) (hX : Fits X P w K mg base) (tk : Takes X W) (hr : Room (lv + 1) X.A) (j : Nat) (hj : j ≤ dps.length) (hn : ps.length = n) (he : dps.drop j = rest) : CalR X (DW K mg) W (.ref C) (cMake c m n rest) := by
  obtain ⟨rfl, rfl, rfl, rfl, rfl⟩ := hX
  subst hn he
  obtain ⟨_, _, h1, h2, h3⟩ := M.b j hj
  exact cal_make rfl tk M.cn M.g M.mm M.F hr h1 h2 h3
end
/-- a class, called by a variable -/
def eAppV (c : Nat) (m : CM) (mv : EM) (as : AM) : EM := fun σ st => (mv σ st).bind fun r => match r.1 with
  | .pv (.cls c') => if c' = c then (as σ r.2).bind fun q => m q.1 q.2 else .bad
  | _ => .bad
def eCMeth (c : Nat) (m : CM) (mo : EM) (as : AM) : EM := fun σ st => (mo σ st).bind fun r => match r.1 with
  | .pv (.cls c') => if c' = c then (as σ r.2).bind fun q => m (.pv (.cls c) :: q.1) q.2 else .bad
  | _ => .bad
section
variable {X : Cx} {D : Wd} {W : WX} {x nm : Str} {c : Nat} {C : Addr} {m : CM} {mv mo : EM} {as : AM} {p pos apos : Pos} {o e : Expr} {es : List Expr}
theorem cls_ref {M : Mx} {H : Hp} {v : V} (hcn : D.cn[c]? = some nm) (hC : D.mg nm = some (.ref C)) (h : Rep D M H v (.cls c)) : v = .ref C := by
  cases h with
  | cls h1 h2 =>
    cases hcn.symm.trans h1
    cases hC.symm.trans h2
    rfl
theorem q_cls {pos : Pos} (hM : X.mg = D.mg) (hcn : D.cn[c]? = some x) (hC : D.mg x = some (.ref C)) (hg : Gl X x) (hd : (x == ("__debug__" : Str)) = false := by decide) : PE X (.Name x pos) (lift D W (eC (.cls c))) :=
  q_glob hM ⟨⟨.ref C, .ref C, hC, rfl, fun _ _ => .cls hcn hC⟩⟩ hg hd
theorem q_callV (ca : CalR X D W (.ref C) m) (hcn : D.cn[c]? = some nm) (hC : D.mg nm = some (.ref C)) (hk : PySem.W.keepIn X.K (.ref C) = true) (hv : PE X (.Name x p) (lift D W mv)) (ha : PA X (e :: es) (liftA D W as)) (he : starEach (e :: es) X.env = (false, eval e X.env) :: starEach es X.env := by rfl) (hpl : (backTo pos (starEach es X.env)).any (·.1) = false := by rfl) :
    PE X (.Call (.Name x p) (e :: es) [] pos) (lift D W (eAppV c m mv as)) := by
  refine ⟨fun pins s σ H Q I h => wpAny_Call_Name_kw ?_⟩
  obtain ⟨M, sl, st, R, S, h⟩ := h
  refine thn (hv.run pins s σ H (fun v H1 => v = .ref C ∧ ∃ M1 st1, Rel D M1 st1 H1 ∧ Slots D M1 H1 σ sl ∧ Wp D W M1 H1 σ ((as sl st1).bind fun q => m q.1 q.2) fun r _ M' H' => ∀ v, RRep D M' H' v r → Q v H') I ⟨M, sl, st, R, S, (Wp.bind h).mono fun r st1 M1 H1 s1 R1 h1 v hv => ?_⟩) fun u s1 ⟨v, H1, I1, r, ev, M1, st1, R1, S1, h1⟩ => ?_
  · dsimp only at h1
    split at h1
    · split at h1
      · rename_i e; subst e
        exact ⟨cls_ref hcn hC hv, M1, st1, R1, S.step s1, h1⟩
      · exact h1.elim
    · exact h1.elim
  · subst ev
    obtain rfl : u = Value.ref C := r
    refine PySem.W.callWith_K (h₀ := X.base) I1.ok.mod.kin hk (thn (ha.run pos pins s1 σ H1 (fun vs H1 => ∃ M1 st1 rs, Rel D M1 st1 H1 ∧ RReps D M1 H1 vs rs ∧ Wp D W M1 H1 σ (m rs st1) fun r _ M' H' => ∀ v, RRep D M' H' v r → Q v H') I1 ⟨M1, sl, st1, R1, S1, (Wp.bind h1).mono fun rs st1 M1 H1 s1 R1 h1 vs hv => ⟨M1, st1, rs, R1, hv, h1⟩⟩) fun us s2 ⟨vs, H2, I2, r, M2, st2, rs, R2, hv, h2⟩ => ⟨I2.kIn, ?_⟩) he hpl
    exact ca pins s2 σ H2 M2 st2 vs us rs Q I2 R2 r hv h2
/-- the call of a bound classmethod -/
theorem run_cmS {CX : CXT} {k : Nat} {g q : Addr} {fd : FuncData} {ps : List Str} {ds : List Value} {dvs : List V} {sp : Sp} {E : L2.St → XK} {Q : VK} {us : List Value} {vs : List V} {pins : List (Addr × Obj)} {σ : L2.St} {H : Hp} {s : Shared} (F : FnOk X.prog X.w X.K X.mg X.base CX k g fd ps sp) (hr : Room k X.A) (hb : Binds X.K fd ps ds) (hd : Vals dvs ds) (hx : PassesAt CX X σ (E σ))
    (I : Inv X ((q, PySem.W.methodObj (.ref g) (.ref C)) :: pins) σ H s) (r : Vals vs us) (h : sp (.ref C :: (vs ++ dvs)) H Q (E σ)) : wpAny (model X.prog X.w) X.A (call (.ref q) us) (EP X pins σ Q) X.xe s := by
  have r2 : Vals (V.ref C :: (vs ++ dvs)) (Value.ref C :: (us ++ ds)) := .cons rfl (r.append hd)
  have hl : ((Value.ref C :: us) ++ ds).length = ps.length := by
    have := F.len _ _ _ _ h
    rw [r2.length] at this
    exact this
  have z : wpAny (model X.prog X.w) X.A (call (.ref q) us) (EP X ((q, PySem.W.methodObj (.ref g) (.ref C)) :: pins) σ Q) X.xe s := by
    refine wpAny_call (PySem.W.method_call (ClX.pin_at I) (codeAny_mono (F.run X.A X.stack s H ⟨Value.ref C :: us, []⟩ (Value.ref C :: (us ++ ds)) _ Q (E σ) hr I.env0 (hb s (Value.ref C :: us) I.kIn hl) r2 h) fun r s' hq => ?_))
    cases r with
    | error e => exact hx _ H s e s' I hq
    | ok fl =>
      cases fl with
      | ret u => exact I.after hq
      | next => exact False.elim hq
      | brk => exact False.elim hq
      | cont => exact False.elim hq
  exact thn z fun _ _ y => ClX.unpinE y
theorem q_cmeth0 {g pp : Addr} {mc : Value} {meth : Str} {lv j : Nat} {ps : List Str} {dps : List PV} {fd : FuncData} {fm : List PV → T PExc PV} {pl : Sem Bool} (N : CMt X.prog X.w X.K X.mg X.base x c meth lv ps dps C pp g mc fd fm) (hj : j ≤ dps.length) (tk : Takes X W) (hr : Room lv X.A) (ho : PE X o (lift (DW X.K X.mg) W mo)) (ha : PA X (e :: es) (liftA (DW X.K X.mg) W as))
    (hst : starEach (e :: es) X.env = (false, eval e X.env) :: starEach es X.env := by rfl) (hpl : (backTo pos (starEach es X.env)).any (·.1) = false := by rfl)
    (ht : eval (.Call (.Attribute o meth apos) (e :: es) [] pos) X.env = (do
      let ov ← eval o X.env
      standAt apos.atName
      let (f, first) ← holding [ov] (getMethod ov meth pl)
      callWith pos f first (backTo pos (starEach (e :: es) X.env)) (backToKw pos (keywordEach [] X.env))) := by rfl) :
    PE X (.Call (.Attribute o meth apos) (e :: es) [] pos) (lift (DW X.K X.mg) W (eCMeth c (cP fm ps.length (dps.drop j)) mo as)) := by
  obtain ⟨ds, dvs, b1, b2, b3⟩ := N.b j hj
  refine ⟨fun pins s σ H Q I h => ?_⟩
  obtain ⟨M, sl, st, R, S, h⟩ := h
  refine PySem.W.methodCall_KW (pl := pl) (thn (ho.run pins s σ H (fun v H1 => v = .ref C ∧ ∃ M1 st1, Rel (DW X.K X.mg) M1 st1 H1 ∧ Slots (DW X.K X.mg) M1 H1 σ sl ∧ Wp (DW X.K X.mg) W M1 H1 σ ((as sl st1).bind fun q => cP fm ps.length (dps.drop j) (.pv (.cls c) :: q.1) q.2) fun r _ M' H' => ∀ v, RRep (DW X.K X.mg) M' H' v r → Q v H') I ⟨M, sl, st, R, S, (Wp.bind h).mono fun r st1 M1 H1 s1 R1 h1 v hv => ?_⟩) fun u s1 ⟨v, H1, I1, r, ev, M1, st1, R1, S1, h1⟩ => ?_) ht
  · dsimp only at h1
    split at h1
    · split at h1
      · rename_i e; subst e
        exact ⟨cls_ref (D := DW X.K X.mg) N.cn N.g hv, M1, st1, R1, S.step s1, h1⟩
      · exact h1.elim
    · exact h1.elim
  · subst ev
    obtain rfl : u = Value.ref C := r
    refine ClX.getmethcm_ok I1 N.rd N.mt fun s2 I2 => ?_
    refine ClX.callwith_cm I2 (ClX.base_none I1 (Nat.le_refl _)) N.mt.fi (thn (ha.run pos _ s2 σ H1 (fun vs H1 => ∃ M1 st1 rs, Rel (DW X.K X.mg) M1 st1 H1 ∧ RReps (DW X.K X.mg) M1 H1 vs rs ∧ Wp (DW X.K X.mg) W M1 H1 σ (cP fm ps.length (dps.drop j) (.pv (.cls c) :: rs) st1) fun r _ M' H' => ∀ v, RRep (DW X.K X.mg) M' H' v r → Q v H') I2 ⟨M1, sl, st1, R1, S1, (Wp.bind h1).mono fun rs st1 M1 H1 s1 R1 h1 vs hv => ⟨M1, st1, rs, R1, hv, h1⟩⟩) fun us s3 ⟨vs, H2, I3, rv, M2, st2, rs, R2, hv, h2⟩ => ⟨⟨ClX.pin_at I3, I3.kIn⟩, ?_⟩) hst hpl
    unfold cP at h2
    cases e : pvs (.pv (.cls c) :: rs) with
    | none => rw [e] at h2; exact h2.elim
    | some qs =>
      rw [e] at h2
      dsimp only at h2
      split at h2
      · rename_i hl
        have ra : RReps (DW X.K X.mg) M2 H2 (V.ref C :: vs) (.pv (.cls c) :: rs) := .cons (Rep.cls (D := DW X.K X.mg) N.cn N.g) hv
        exact run_cmS (E := WE W) N.F hr b1 b2 (passAt tk σ) I3 rv (call_sp R2 ((reps_of ra e).app (b3 M2 H2)) hl h2)
      · exact h2.elim
theorem q_cmeth {P : Program} {w : World} {K : PySem.W.Frag} {mg : Str → Option Value} {base : Heap} {g pp : Addr} {mc : Value} {meth : Str} {lv n : Nat} {ps : List Str} {dps rest : List PV} {fd : FuncData} {fm : List PV → T PExc PV} {pl : Sem Bool} (N : CMt P w K mg base x c meth lv ps dps C pp g mc fd fm) (hX : Fits X P w K mg base) (tk : Takes X W) (hr : Room lv X.A) (j : Nat) (hj : j ≤ dps.length) (hn : ps.length = n) (hd : dps.drop j = rest) (ho : PE X o (lift (DW K mg) W mo)) (ha : PA X (e :: es) (liftA (DW K mg) W as))
    (hst : starEach (e :: es) X.env = (false, eval e X.env) :: starEach es X.env := by rfl) (hpl : (backTo pos (starEach es X.env)).any (·.1) = false := by rfl)
    (ht : eval (.Call (.Attribute o meth apos) (e :: es) [] pos) X.env = (do
      let ov ← eval o X.env
      standAt apos.atName
      let (f, first) ← holding [ov] (getMethod ov meth pl)
      callWith pos f first (backTo pos (starEach (e :: es) X.env)) (backToKw pos (keywordEach [] X.env))) := by rfl) :
    PE X (.Call (.Attribute o meth apos) (e :: es) [] pos) (lift (DW K mg) W (eCMeth c (cP fm n rest) mo as)) := by
  obtain ⟨rfl, rfl, rfl, rfl, rfl⟩ := hX
  subst hn hd
  exact q_cmeth0 N hj tk hr ho ha hst hpl ht
end
/-- an error without arguments -/
structure Err0 (P : Program) (w : World) (K : PySem.W.Frag) (mg : Str → Option Value) (base : Heap) (x : Str) (C fI : Addr) (fd : FuncData) : Prop where
  c : mg x = some (.ref C)
  o : OexC K C
  i : PySem.W.findIn K (.ref C) "__init__" = some (some (.ref fI))
  t : PySem.W.typeIn K (.ref fI) = some (.type "function")
  F : FnOk P w K mg base CX0 1 fI fd ["self"] (spErr0 C)
  b : Binds K fd ["self"] []
/-- an error with one -/
structure Err1 (P : Program) (w : World) (K : PySem.W.Frag) (mg : Str → Option Value) (base : Heap) (x f : Str) (C fI : Addr) (fd : FuncData) : Prop where
  c : mg x = some (.ref C)
  o : OexC K C
  i : PySem.W.findIn K (.ref C) "__init__" = some (some (.ref fI))
  t : PySem.W.typeIn K (.ref fI) = some (.type "function")
  F : FnOk P w K mg base CX0 1 fI fd ["self", f] (spErr C f)
  b : Binds K fd ["self", f] []
end Pu
namespace Lat
/-- a vector less so many times another one -/
def less (one : List Int) (t : Int) (other : List Int) : List Int := List.zipWith (fun a b => a - t * b) one other
/-- the value of a form at a vector -/
def val (f v : List Int) : Int := (List.zipWith (fun a b => a * b) f v).sum
/-- all that comes from 0 by taking away multiples of generators -/
inductive Sp (w : Nat) (S : List (List Int)) : List Int → Prop
  | zero : Sp w S (List.replicate w 0)
  | step {r v : List Int} {t : Int} : r ∈ S → Sp w S v → Sp w S (less v t r)
theorem less_length {a b : List Int} {t : Int} : (less a t b).length = min a.length b.length := by
  unfold less; rw [List.length_zipWith]
theorem less_len {a b : List Int} {t : Int} {w : Nat} (ha : a.length = w) (hb : b.length = w) : (less a t b).length = w := by
  rw [less_length, ha, hb]; exact Nat.min_self w
theorem less_get {a b : List Int} {t : Int} {i : Nat} (h : a.length = b.length) : (less a t b)[i]?.getD 0 = a[i]?.getD 0 - t * b[i]?.getD 0 := by
  unfold less
  rw [List.getElem?_zipWith]
  by_cases hi : i < a.length
  · have hb : i < b.length := h ▸ hi
    rw [List.getElem?_eq_getElem hi, List.getElem?_eq_getElem hb]; rfl
  · have e1 : a[i]? = none := List.getElem?_eq_none (by omega)
    have e2 : b[i]? = none := List.getElem?_eq_none (by omega)
    rw [e1, e2]; simp
/-- a number of a vector, 0 outside -/
def at' (v : List Int) (i : Nat) : Int := v[i]?.getD 0
theorem at_less {a b : List Int} {t : Int} {i : Nat} (h : a.length = b.length) : at' (less a t b) i = at' a i - t * at' b i := less_get h
theorem at_zero (w i : Nat) : at' (List.replicate w 0) i = 0 := by
  unfold at'
  rw [List.getElem?_replicate]
  split <;> rfl
theorem ext_at {a b : List Int} (h : a.length = b.length) (k : ∀ i, at' a i = at' b i) : a = b := by
  apply List.ext_getElem h
  intro i h1 h2
  have := k i
  unfold at' at this
  rw [List.getElem?_eq_getElem h1, List.getElem?_eq_getElem h2] at this
  exact this
/-- all rows have the width -/
def Wd (w : Nat) (S : List (List Int)) : Prop := ∀ r ∈ S, r.length = w
theorem Sp.len {w : Nat} {S : List (List Int)} {v : List Int} (hS : Wd w S) (h : Sp w S v) : v.length = w := by
  induction h with
  | zero => exact List.length_replicate
  | step hr _ ih => exact less_len ih (hS _ hr)
theorem Sp.sub {w : Nat} {S : List (List Int)} {u v : List Int} {t : Int} (hS : Wd w S) (hv : Sp w S v) (hu : Sp w S u) : Sp w S (less v t u) := by
  induction hu generalizing v t with
  | zero =>
    have e : less v t (List.replicate w 0) = v := by
      have hl : v.length = (List.replicate w (0:Int)).length := by rw [hv.len hS, List.length_replicate]
      apply ext_at
      · rw [less_length, ← hl]; exact Nat.min_self _
      · intro i; rw [at_less hl, at_zero]; simp
    rw [e]; exact hv
  | step hr hu' ih =>
    rename_i r u' t'
    have l1 := hv.len hS
    have l2 := hu'.len hS
    have l3 := hS _ hr
    have e : less v t (less u' t' r) = less (less v t u') (-(t * t')) r := by
      apply ext_at
      · rw [less_len l1 (less_len l2 l3), less_len (less_len l1 l2) l3]
      · intro i
        rw [at_less (by rw [l1, less_len l2 l3]), at_less (by rw [l2, l3]), at_less (by rw [less_len l1 l2, l3]), at_less (by rw [l1, l2])]
        rw [Int.mul_sub, Int.neg_mul, Int.mul_assoc]; omega
    rw [e]
    exact .step hr (ih hv)
theorem Sp.mem {w : Nat} {S : List (List Int)} {r : List Int} (hS : Wd w S) (h : r ∈ S) : Sp w S r := by
  have h1 : Sp w S (less (List.replicate w 0) (-1) r) := .step h .zero
  have e : less (List.replicate w 0) (-1) r = r := by
    have hl : (List.replicate w (0:Int)).length = r.length := by rw [hS r h, List.length_replicate]
    apply ext_at
    · rw [less_length, hl]; exact Nat.min_self _
    · intro i; rw [at_less hl, at_zero]; omega
  rw [e] at h1; exact h1
theorem Sp.trans {w : Nat} {S T : List (List Int)} {v : List Int} (hT : Wd w T) (k : ∀ r ∈ S, Sp w T r) (h : Sp w S v) : Sp w T v := by
  induction h with
  | zero => exact .zero
  | step hr _ ih => exact ih.sub hT (k _ hr)
/-- the same sums -/
def Eqv (w : Nat) (S T : List (List Int)) : Prop := (∀ r ∈ S, Sp w T r) ∧ (∀ r ∈ T, Sp w S r)
theorem Eqv.refl {w : Nat} {S : List (List Int)} (hS : Wd w S) : Eqv w S S := ⟨fun _ h => .mem hS h, fun _ h => .mem hS h⟩
theorem Eqv.symm {w : Nat} {S T : List (List Int)} (h : Eqv w S T) : Eqv w T S := ⟨h.2, h.1⟩
theorem Eqv.trans {w : Nat} {S T U : List (List Int)} (hS : Wd w S) (hU : Wd w U) (h1 : Eqv w S T) (h2 : Eqv w T U) : Eqv w S U :=
  ⟨fun r hr => (h1.1 r hr).trans hU h2.1, fun r hr => (h2.2 r hr).trans hS h1.2⟩
theorem Eqv.sp {w : Nat} {S T : List (List Int)} {v : List Int} (hT : Wd w T) (h : Eqv w S T) (hv : Sp w S v) : Sp w T v := hv.trans hT h.1
theorem Sp.mono {w : Nat} {S T : List (List Int)} {v : List Int} (h : ∀ r ∈ S, r ∈ T) (hv : Sp w S v) : Sp w T v := by
  induction hv with
  | zero => exact .zero
  | step hr _ ih => exact .step (h _ hr) ih
theorem Eqv.perm {w : Nat} {S T : List (List Int)} (hS : Wd w S) (h : ∀ r, r ∈ S ↔ r ∈ T) : Eqv w S T :=
  ⟨fun r hr => .mem (fun x hx => hS x ((h x).2 hx)) ((h r).1 hr), fun r hr => .mem hS ((h r).2 hr)⟩
/-- values -/
theorem val_less {f a b : List Int} {t : Int} (h : a.length = b.length) : val f (less a t b) = val f a - t * val f b := by
  unfold val less
  induction f generalizing a b with
  | nil => simp
  | cons x f ih =>
    cases a with
    | nil => cases b with
      | nil => simp
      | cons _ _ => simp at h
    | cons y a => cases b with
      | nil => simp at h
      | cons z b =>
        have := ih (a := a) (b := b) (by simpa using h)
        simp only [List.zipWith_cons_cons, List.sum_cons] at this ⊢
        rw [this, Int.mul_add, Int.mul_sub, Int.mul_left_comm t x z]; omega
theorem val_zero (f : List Int) (w : Nat) : val f (List.replicate w 0) = 0 := by
  unfold val
  induction f generalizing w with
  | nil => simp
  | cons x f ih => cases w with
    | zero => simp
    | succ w => simp only [List.replicate_succ, List.zipWith_cons_cons, List.sum_cons, ih w]; simp
theorem Sp.dvd {w : Nat} {S : List (List Int)} {v f : List Int} {d : Int} (hS : Wd w S) (k : ∀ r ∈ S, d ∣ val f r) (h : Sp w S v) : d ∣ val f v := by
  induction h with
  | zero => rw [val_zero]; exact Int.dvd_zero d
  | step hr hv ih =>
    rw [val_less (by rw [hv.len hS, hS _ hr])]
    exact Int.dvd_sub ih (Int.dvd_mul_of_dvd_right (k _ hr))
/-- the place of the first number that is not 0; the width if there is none -/
def piv (v : List Int) : Nat := match v with
  | [] => 0
  | x :: r => if x = 0 then piv r + 1 else 0
theorem at_cons_succ (x : Int) (r : List Int) (i : Nat) : at' (x :: r) (i + 1) = at' r i := by unfold at'; simp
theorem at_cons_zero (x : Int) (r : List Int) : at' (x :: r) 0 = x := by unfold at'; simp
theorem piv_eq {v : List Int} {n : Nat} (h : n ≤ v.length) (h0 : ∀ i, i < n → at' v i = 0) (h1 : n = v.length ∨ at' v n ≠ 0) : piv v = n := by
  induction v generalizing n with
  | nil => simp at h; rw [h]; rfl
  | cons x r ih =>
    unfold piv
    cases n with
    | zero =>
      have : x ≠ 0 := by
        rcases h1 with h1 | h1
        · simp at h1
        · rw [at_cons_zero] at h1; exact h1
      rw [if_neg this]
    | succ n =>
      have e : x = 0 := by have := h0 0 (by omega); rwa [at_cons_zero] at this
      rw [if_pos e, ih (n := n) (by simpa using h) (fun i hi => by have := h0 (i + 1) (by omega); rwa [at_cons_succ] at this) ?_]
      rcases h1 with h1 | h1
      · left; simpa using h1
      · right; rwa [at_cons_succ] at h1
theorem piv_le (v : List Int) : piv v ≤ v.length := by
  induction v with
  | nil => exact Nat.le_refl _
  | cons x r ih => unfold piv; split <;> simp <;> omega
theorem piv_zero {v : List Int} {i : Nat} (h : i < piv v) : at' v i = 0 := by
  induction v generalizing i with
  | nil => unfold piv at h; omega
  | cons x r ih =>
    unfold piv at h
    split at h
    · cases i with
      | zero => rw [at_cons_zero]; assumption
      | succ i => rw [at_cons_succ]; exact ih (by omega)
    · omega
theorem piv_ne {v : List Int} (h : piv v < v.length) : at' v (piv v) ≠ 0 := by
  induction v with
  | nil => simp at h
  | cons x r ih =>
    unfold piv at h ⊢
    split at h
    · rename_i e
      rw [if_pos e, at_cons_succ]
      exact ih (by simpa using h)
    · rename_i e
      rw [if_neg e, at_cons_zero]; exact e
end Lat
namespace Lat
/-- the greatest common divisor of numbers -/
def gcds (l : List Int) : Int := l.foldl (fun g x => (Int.gcd g x : Int)) 0
theorem foldl_gcd_dvd (l : List Int) (g : Int) : (l.foldl (fun g x => (Int.gcd g x : Int)) g ∣ g) ∧ ∀ x ∈ l, l.foldl (fun g x => (Int.gcd g x : Int)) g ∣ x := by
  induction l generalizing g with
  | nil => exact ⟨Int.dvd_refl g, fun x h => by cases h⟩
  | cons y l ih =>
    have := ih ((Int.gcd g y : Int))
    refine ⟨Int.dvd_trans this.1 (Int.gcd_dvd_left _ _), fun x hx => ?_⟩
    rcases List.mem_cons.mp hx with rfl | hx
    · exact Int.dvd_trans this.1 (Int.gcd_dvd_right _ _)
    · exact this.2 x hx
theorem dvd_foldl_gcd (l : List Int) (g d : Int) (h : d ∣ g) (k : ∀ x ∈ l, d ∣ x) : d ∣ l.foldl (fun g x => (Int.gcd g x : Int)) g := by
  induction l generalizing g with
  | nil => exact h
  | cons y l ih => exact ih _ (Int.dvd_coe_gcd h (k y (List.mem_cons_self ..))) fun x hx => k x (List.mem_cons_of_mem _ hx)
theorem gcds_dvd {l : List Int} {x : Int} (h : x ∈ l) : gcds l ∣ x := (foldl_gcd_dvd l 0).2 x h
theorem dvd_gcds {l : List Int} {d : Int} (k : ∀ x ∈ l, d ∣ x) : d ∣ gcds l := dvd_foldl_gcd l 0 d (Int.dvd_zero d) k
theorem foldl_gcd_nonneg (l : List Int) (g : Int) (h : 0 ≤ g) : 0 ≤ l.foldl (fun g x => (Int.gcd g x : Int)) g := by
  induction l generalizing g with
  | nil => exact h
  | cons y l ih => exact ih _ (Int.natCast_nonneg _)
theorem gcds_nonneg (l : List Int) : 0 ≤ gcds l := foldl_gcd_nonneg l 0 (Int.le_refl 0)
theorem gcds_eq {l m : List Int} (h1 : ∀ x ∈ l, gcds m ∣ x) (h2 : ∀ x ∈ m, gcds l ∣ x) : gcds l = gcds m :=
  Int.dvd_antisymm (gcds_nonneg l) (gcds_nonneg m) (dvd_gcds h2) (dvd_gcds h1)
theorem gcds_eqv {w : Nat} {S T : List (List Int)} (hS : Wd w S) (hT : Wd w T) (h : Eqv w S T) (f : List Int) : gcds (S.map (val f)) = gcds (T.map (val f)) := by
  refine gcds_eq (fun x hx => ?_) (fun x hx => ?_)
  · obtain ⟨r, hr, rfl⟩ := List.mem_map.mp hx
    exact (h.1 r hr).dvd hT fun s hs => gcds_dvd (List.mem_map_of_mem hs)
  · obtain ⟨r, hr, rfl⟩ := List.mem_map.mp hx
    exact (h.2 r hr).dvd hS fun s hs => gcds_dvd (List.mem_map_of_mem hs)
end Lat
set_option maxHeartbeats 1000000
namespace Lat
/-- all numbers are at most B in size -/
def Bd (B : Nat) (S : List (List Int)) : Prop := ∀ r ∈ S, ∀ i, (at' r i).natAbs ≤ B
theorem Bd.mono {B C : Nat} {S : List (List Int)} (h : Bd B S) (k : B ≤ C) : Bd C S := fun r hr i => Nat.le_trans (h r hr i) k
theorem Bd.sub {B : Nat} {S T : List (List Int)} (h : Bd B S) (k : ∀ r ∈ T, r ∈ S) : Bd B T := fun r hr i => h r (k r hr) i
/-- one turn at place p: the others less multiples of f -/
def turn (p : Nat) (f r : List Int) : List Int := less r ((at' r p).fdiv (at' f p)) f
theorem turn_at {p : Nat} {f r : List Int} (h : r.length = f.length) : at' (turn p f r) p = (at' r p).fmod (at' f p) := by
  unfold turn
  rw [at_less h, Int.fmod_def, Int.mul_comm]
theorem fmod_natAbs {x y : Int} (h : y ≠ 0) : (x.fmod y).natAbs < y.natAbs := by
  by_cases hy : 0 < y
  · have h1 := Int.fmod_nonneg_of_pos x hy
    have h2 := Int.fmod_lt_of_pos x hy
    omega
  · have e : x.fmod y = -((-x).fmod (-y)) := by rw [Int.fmod_def, Int.fmod_def, Int.neg_fdiv_neg, Int.neg_mul]; omega
    have h1 := Int.fmod_nonneg_of_pos (-x) (show 0 < -y by omega)
    have h2 := Int.fmod_lt_of_pos (-x) (show 0 < -y by omega)
    omega
theorem fdiv_natAbs (x y : Int) : (x.fdiv y).natAbs ≤ x.natAbs := by
  by_cases h : y = 0
  · rw [h, Int.fdiv_zero]; simp
  have e := Int.mul_fdiv_add_fmod x y
  have h1 := fmod_natAbs (x := x) h
  by_cases q0 : x.fdiv y = 0
  · rw [q0]; simp
  by_cases hy : 0 < y
  · have r1 := Int.fmod_nonneg_of_pos x hy
    have r2 := Int.fmod_lt_of_pos x hy
    by_cases q1 : 0 < x.fdiv y
    · have : x.fdiv y ≤ y * x.fdiv y := by
        have := Int.mul_le_mul_of_nonneg_right (show (1:Int) ≤ y by omega) (show 0 ≤ x.fdiv y by omega)
        omega
      omega
    · have : y * x.fdiv y ≤ y * (-1) + (x.fdiv y + 1) := by
        have := Int.mul_le_mul_of_nonneg_right (show (1:Int) ≤ y by omega) (show 0 ≤ -(x.fdiv y) - 1 by omega)
        rw [Int.one_mul, Int.mul_sub, Int.mul_neg] at this
        omega
      omega
  · have f2 : (-x).fdiv (-y) = x.fdiv y := Int.neg_fdiv_neg x y
    have r1 := Int.fmod_nonneg_of_pos (-x) (show 0 < -y by omega)
    have r2 := Int.fmod_lt_of_pos (-x) (show 0 < -y by omega)
    have e2 := Int.mul_fdiv_add_fmod (-x) (-y)
    rw [f2] at e2
    by_cases q1 : 0 < x.fdiv y
    · have : x.fdiv y ≤ (-y) * x.fdiv y := by
        have := Int.mul_le_mul_of_nonneg_right (show (1:Int) ≤ -y by omega) (show 0 ≤ x.fdiv y by omega)
        omega
      omega
    · have : (-y) * x.fdiv y ≤ (-y) * (-1) + (x.fdiv y + 1) := by
        have := Int.mul_le_mul_of_nonneg_right (show (1:Int) ≤ -y by omega) (show 0 ≤ -(x.fdiv y) - 1 by omega)
        rw [Int.one_mul, Int.mul_sub, Int.mul_neg] at this
        omega
      omega
/-- what stands between two turns of gathering at place p -/
structure GI (w p : Nat) (rows left others : List (List Int)) : Prop where
  eqv : Eqv w rows (left ++ others)
  wd : Wd w (left ++ others)
  nz : ∀ r ∈ left, at' r p ≠ 0
  z : ∀ r ∈ others, at' r p = 0
  pre : ∀ r ∈ left ++ others, ∀ i, i < p → at' r i = 0
  len : left.length + others.length ≤ rows.length
def turned (p k : Nat) (left : List (List Int)) (f : List Int) : List (List Int) := (left.take k ++ left.drop (k + 1)).map (turn p f)
theorem mem_rest {left : List (List Int)} {k : Nat} {f : List Int} (h : left[k]? = some f) (r : List Int) : r ∈ left ↔ r = f ∨ r ∈ left.take k ++ left.drop (k + 1) := by
  have hk : k < left.length := (List.getElem?_eq_some_iff.mp h).1
  have e : left = left.take k ++ f :: left.drop (k + 1) := by
    rw [List.getElem?_eq_getElem hk] at h
    have := Option.some.inj h
    subst this
    rw [List.getElem_cons_drop]; exact (List.take_append_drop k left).symm
  constructor
  · intro hr
    rw [e] at hr
    rcases List.mem_append.mp hr with hr | hr
    · right; exact List.mem_append_left _ hr
    · rcases List.mem_cons.mp hr with hr | hr
      · left; exact hr
      · right; exact List.mem_append_right _ hr
  · intro hr
    rcases hr with rfl | hr
    · exact List.mem_of_getElem? h
    · rcases List.mem_append.mp hr with hr | hr
      · exact List.mem_of_mem_take hr
      · exact List.mem_of_mem_drop hr
theorem rest_len {left : List (List Int)} {k : Nat} (hk : k < left.length) : (left.take k ++ left.drop (k + 1)).length + 1 = left.length := by
  rw [List.length_append, List.length_take, List.length_drop]; omega
def leftN (p k : Nat) (left : List (List Int)) (f : List Int) : List (List Int) := f :: (turned p k left f).filter (fun r => decide (at' r p ≠ 0))
def othersN (p k : Nat) (left others : List (List Int)) (f : List Int) : List (List Int) := others ++ (turned p k left f).filter (fun r => decide (at' r p = 0))
theorem filter_len (l : List (List Int)) (p : Nat) : (l.filter (fun r => decide (at' r p ≠ 0))).length + (l.filter (fun r => decide (at' r p = 0))).length = l.length := by
  induction l with
  | nil => rfl
  | cons x l ih =>
    by_cases h : at' x p = 0
    · simp only [List.filter_cons, h, ne_eq, not_true, decide_false, decide_true, if_true, List.length_cons]
      simp only [Bool.false_eq_true, if_false]
      simp only [ne_eq] at ih
      omega
    · simp only [List.filter_cons, h, ne_eq, not_false_eq_true, decide_false, decide_true, if_true, List.length_cons]
      simp only [Bool.false_eq_true, if_false]
      simp only [ne_eq] at ih
      omega
theorem GI.step {w p k : Nat} {rows left others : List (List Int)} {f : List Int} (G : GI w p rows left others) (hr : Wd w rows) (hf : left[k]? = some f) : GI w p rows (leftN p k left f) (othersN p k left others f) := by
  have hk : k < left.length := (List.getElem?_eq_some_iff.mp hf).1
  have fm : f ∈ left := List.mem_of_getElem? hf
  have fw : f.length = w := G.wd f (List.mem_append_left _ fm)
  have tm : ∀ r ∈ left.take k ++ left.drop (k + 1), r ∈ left := fun r h => (mem_rest hf r).2 (.inr h)
  have tw : ∀ r ∈ turned p k left f, ∃ r0 ∈ left.take k ++ left.drop (k + 1), r = turn p f r0 := fun r h => by
    obtain ⟨r0, h1, h2⟩ := List.mem_map.mp h
    exact ⟨r0, h1, h2.symm⟩
  have rw0 : ∀ r ∈ left, r.length = w := fun r h => G.wd r (List.mem_append_left _ h)
  have memN : ∀ r, r ∈ leftN p k left f ++ othersN p k left others f ↔ r = f ∨ r ∈ turned p k left f ∨ r ∈ others := by
    intro r
    unfold leftN othersN
    simp only [List.mem_append, List.mem_cons, List.mem_filter, decide_eq_true_eq, ne_eq]
    constructor
    · rintro ((h | h) | (h | h))
      · exact .inl h
      · exact .inr (.inl h.1)
      · exact .inr (.inr h)
      · exact .inr (.inl h.1)
    · rintro (h | h | h)
      · exact .inl (.inl h)
      · by_cases e : at' r p = 0
        · exact .inr (.inr ⟨h, e⟩)
        · exact .inl (.inr ⟨h, e⟩)
      · exact .inr (.inl h)
  have wdN : Wd w (leftN p k left f ++ othersN p k left others f) := fun r h => by
    rcases (memN r).1 h with rfl | h | h
    · exact fw
    · obtain ⟨r0, h1, rfl⟩ := tw r h
      exact less_len (rw0 _ (tm _ h1)) fw
    · exact G.wd r (List.mem_append_right _ h)
  have e1 : Eqv w (left ++ others) (leftN p k left f ++ othersN p k left others f) := by
    have sf : Sp w (leftN p k left f ++ othersN p k left others f) f := .mem wdN ((memN f).2 (.inl rfl))
    constructor
    · intro r h
      rcases List.mem_append.mp h with h | h
      · rcases (mem_rest hf r).1 h with rfl | h
        · exact sf
        · have st : Sp w (leftN p k left f ++ othersN p k left others f) (turn p f r) := .mem wdN ((memN _).2 (.inr (.inl (List.mem_map_of_mem h))))
          have e : r = less (turn p f r) (-((at' r p).fdiv (at' f p))) f := by
            have l0 := rw0 _ (tm _ h)
            apply ext_at
            · unfold turn; rw [less_len (less_len l0 fw) fw, l0]
            · intro i
              unfold turn
              rw [at_less (by rw [less_len l0 fw, fw]), at_less (by rw [l0, fw]), Int.neg_mul]; omega
          rw [e]
          exact st.sub wdN sf
      · exact .mem wdN ((memN r).2 (.inr (.inr h)))
    · intro r h
      rcases (memN r).1 h with rfl | h | h
      · exact .mem G.wd (List.mem_append_left _ fm)
      · obtain ⟨r0, h1, rfl⟩ := tw r h
        exact (Sp.mem G.wd (List.mem_append_left _ (tm _ h1))).sub G.wd (.mem G.wd (List.mem_append_left _ fm))
      · exact .mem G.wd (List.mem_append_right _ h)
  refine ⟨G.eqv.trans hr wdN e1, wdN, ?_, ?_, ?_, ?_⟩
  · intro r h
    rcases List.mem_cons.mp h with rfl | h
    · exact G.nz _ fm
    · have := (List.mem_filter.mp h).2
      simpa using this
  · intro r h
    rcases List.mem_append.mp h with h | h
    · exact G.z r h
    · have := (List.mem_filter.mp h).2
      simpa using this
  · intro r h i hi
    rcases (memN r).1 h with rfl | h | h
    · exact G.pre _ (List.mem_append_left _ fm) i hi
    · obtain ⟨r0, h1, rfl⟩ := tw r h
      unfold turn
      rw [at_less (by rw [rw0 _ (tm _ h1), fw]), G.pre _ (List.mem_append_left _ (tm _ h1)) i hi, G.pre _ (List.mem_append_left _ fm) i hi]; simp
    · exact G.pre r (List.mem_append_right _ h) i hi
  · have h1 := filter_len (turned p k left f) p
    have h2 : (turned p k left f).length + 1 = left.length := by unfold turned; rw [List.length_map]; exact rest_len hk
    have h3 := G.len
    unfold leftN othersN
    rw [List.length_cons, List.length_append]
    omega
/-- the sizes at the place, together -/
def siz (p : Nat) (l : List (List Int)) : Nat := (l.map fun r => (at' r p).natAbs).sum
theorem siz_append (p : Nat) (a b : List (List Int)) : siz p (a ++ b) = siz p a + siz p b := by unfold siz; rw [List.map_append, List.sum_append]
theorem siz_cons (p : Nat) (a : List Int) (b : List (List Int)) : siz p (a :: b) = (at' a p).natAbs + siz p b := by unfold siz; rw [List.map_cons, List.sum_cons]
theorem siz_filter (p : Nat) (l : List (List Int)) (q : List Int → Bool) : siz p (l.filter q) ≤ siz p l := by
  induction l with
  | nil => exact Nat.le_refl _
  | cons x l ih =>
    rw [List.filter_cons]
    split
    · rw [siz_cons, siz_cons]; omega
    · rw [siz_cons]; omega
theorem siz_turned {w p : Nat} {f : List Int} (fw : f.length = w) (fz : at' f p ≠ 0) (l : List (List Int)) (hl : Wd w l) (hm : ∀ r ∈ l, (at' f p).natAbs ≤ (at' r p).natAbs) : siz p (l.map (turn p f)) + l.length ≤ siz p l := by
  induction l with
  | nil => exact Nat.le_refl _
  | cons x l ih =>
    have h1 := ih (fun r h => hl r (List.mem_cons_of_mem _ h)) (fun r h => hm r (List.mem_cons_of_mem _ h))
    rw [List.map_cons, siz_cons, siz_cons, turn_at (by rw [fw]; exact hl x (List.mem_cons_self ..)), List.length_cons]
    have h2 := fmod_natAbs (x := at' x p) fz
    have h3 := hm x (List.mem_cons_self ..)
    omega
theorem siz_step {w p k : Nat} {rows left others : List (List Int)} {f : List Int} (G : GI w p rows left others) (hf : left[k]? = some f) (hm : ∀ r ∈ left, (at' f p).natAbs ≤ (at' r p).natAbs) (h1 : 1 < left.length) : siz p (leftN p k left f) < siz p left := by
  have hk : k < left.length := (List.getElem?_eq_some_iff.mp hf).1
  have fm : f ∈ left := List.mem_of_getElem? hf
  have fw : f.length = w := G.wd f (List.mem_append_left _ fm)
  have tm : ∀ r ∈ left.take k ++ left.drop (k + 1), r ∈ left := fun r h => (mem_rest hf r).2 (.inr h)
  have e : siz p left = siz p (left.take k ++ left.drop (k + 1)) + (at' f p).natAbs := by
    have e0 : left = left.take k ++ f :: left.drop (k + 1) := by
      have h := hf
      rw [List.getElem?_eq_getElem hk] at h
      have := Option.some.inj h
      subst this
      rw [List.getElem_cons_drop]; exact (List.take_append_drop k left).symm
    rw [congrArg (siz p) e0, siz_append, siz_append, siz_cons]; omega
  have h2 := siz_turned fw (G.nz _ fm) (left.take k ++ left.drop (k + 1)) (fun r h => G.wd r (List.mem_append_left _ (tm r h))) (fun r h => hm r (tm r h))
  have h3 := siz_filter p (turned p k left f) (fun r => decide (at' r p ≠ 0))
  have h4 := rest_len hk
  unfold leftN
  rw [siz_cons]
  have h5 : siz p (turned p k left f) = siz p ((left.take k ++ left.drop (k + 1)).map (turn p f)) := rfl
  omega
end Lat
set_option maxHeartbeats 1000000
namespace Lat
/-- all numbers at the place have one sign -/
def Sgn (p : Nat) (l : List (List Int)) : Prop := (∀ r ∈ l, 0 < at' r p) ∨ (∀ r ∈ l, at' r p < 0)
/-- how large numbers can be, behind a first turn -/
structure Ph (p B0 C : Nat) (left others : List (List Int)) (B c a : Nat) : Prop where
  bd : Bd B (left ++ others)
  sg : Sgn p left
  lo : ∀ r ∈ left, a ≤ (at' r p).natAbs
  hi : ∀ r ∈ left, (at' r p).natAbs ≤ c
  atc : ∃ r ∈ left, (at' r p).natAbs = c
  ata : ∃ r ∈ left, (at' r p).natAbs = a
  cb : c ≤ B0
  pot : B * (c * a) ^ 2 * 2 ^ left.length ≤ C
def PhX (p B0 C : Nat) (left others : List (List Int)) : Prop := Bd B0 (left ++ others) ∨ ∃ B c a, Ph p B0 C left others B c a
theorem least (p : Nat) : ∀ l : List (List Int), l ≠ [] → ∃ r ∈ l, ∀ s ∈ l, (at' r p).natAbs ≤ (at' s p).natAbs
  | [], h => absurd rfl h
  | [x], _ => ⟨x, List.mem_cons_self .., fun s h => by rw [List.mem_singleton.mp h]; exact Nat.le_refl _⟩
  | x :: y :: l, _ => by
    obtain ⟨r, h1, h2⟩ := least p (y :: l) (by simp)
    by_cases c : (at' x p).natAbs ≤ (at' r p).natAbs
    · refine ⟨x, List.mem_cons_self .., fun s h => ?_⟩
      rcases List.mem_cons.mp h with rfl | h
      · exact Nat.le_refl _
      · exact Nat.le_trans c (h2 s h)
    · refine ⟨r, List.mem_cons_of_mem _ h1, fun s h => ?_⟩
      rcases List.mem_cons.mp h with rfl | h
      · omega
      · exact h2 s h
theorem natAbs_step {x y q : Int} {B Q : Nat} (hx : x.natAbs ≤ B) (hy : y.natAbs ≤ B) (hq : q.natAbs ≤ Q) : (x - q * y).natAbs ≤ (1 + Q) * B := by
  have h1 : (q * y).natAbs ≤ Q * B := by rw [Int.natAbs_mul]; exact Nat.mul_le_mul hq hy
  rw [Nat.add_mul, Nat.one_mul]
  omega
theorem bd_step {w p k B Q : Nat} {rows left others : List (List Int)} {f : List Int} (G : GI w p rows left others) (hf : left[k]? = some f) (hb : Bd B (left ++ others)) (hq : ∀ r ∈ left, ((at' r p).fdiv (at' f p)).natAbs ≤ Q) :
    Bd ((1 + Q) * B) (leftN p k left f ++ othersN p k left others f) := by
  have fm : f ∈ left := List.mem_of_getElem? hf
  have fw : f.length = w := G.wd f (List.mem_append_left _ fm)
  have tm : ∀ r ∈ left.take k ++ left.drop (k + 1), r ∈ left := fun r h => (mem_rest hf r).2 (.inr h)
  have le : B ≤ (1 + Q) * B := by rw [Nat.add_mul, Nat.one_mul]; omega
  have tb : ∀ r ∈ turned p k left f, ∀ i, (at' r i).natAbs ≤ (1 + Q) * B := fun r h i => by
    obtain ⟨r0, h1, rfl⟩ := List.mem_map.mp h
    unfold turn
    rw [at_less (by rw [fw]; exact G.wd _ (List.mem_append_left _ (tm _ h1)))]
    exact natAbs_step (hb _ (List.mem_append_left _ (tm _ h1)) i) (hb _ (List.mem_append_left _ fm) i) (hq _ (tm _ h1))
  intro r h i
  unfold leftN othersN at h
  simp only [List.mem_append, List.mem_cons, List.mem_filter] at h
  rcases h with (rfl | h) | (h | h)
  · exact Nat.le_trans (hb _ (List.mem_append_left _ fm) i) le
  · exact tb r h.1 i
  · exact Nat.le_trans (hb _ (List.mem_append_right _ h) i) le
  · exact tb r h.1 i
theorem fmod_sign {x y : Int} (h : x.fmod y ≠ 0) : (0 < y → 0 < x.fmod y) ∧ (y < 0 → x.fmod y < 0) := by
  constructor
  · intro hy
    have := Int.fmod_nonneg_of_pos x hy
    omega
  · intro hy
    have e : x.fmod y = -((-x).fmod (-y)) := by rw [Int.fmod_def, Int.fmod_def, Int.neg_fdiv_neg, Int.neg_mul]; omega
    have h1 := Int.fmod_nonneg_of_pos (-x) (show 0 < -y by omega)
    omega
theorem sgn_step {w p k : Nat} {rows left others : List (List Int)} {f : List Int} (G : GI w p rows left others) (hf : left[k]? = some f) : Sgn p (leftN p k left f) := by
  have fm : f ∈ left := List.mem_of_getElem? hf
  have fw : f.length = w := G.wd f (List.mem_append_left _ fm)
  have fz := G.nz _ fm
  have tm : ∀ r ∈ left.take k ++ left.drop (k + 1), r ∈ left := fun r h => (mem_rest hf r).2 (.inr h)
  have key : ∀ r ∈ leftN p k left f, (0 < at' f p → 0 < at' r p) ∧ (at' f p < 0 → at' r p < 0) := fun r h => by
    rcases List.mem_cons.mp h with rfl | h
    · exact ⟨fun h => h, fun h => h⟩
    · obtain ⟨h1, h2⟩ := List.mem_filter.mp h
      obtain ⟨r0, h3, rfl⟩ := List.mem_map.mp h1
      have h2' : at' (turn p f r0) p ≠ 0 := by simpa using h2
      rw [turn_at (by rw [fw]; exact G.wd _ (List.mem_append_left _ (tm _ h3)))] at h2' ⊢
      exact fmod_sign h2'
  by_cases c : 0 < at' f p
  · exact .inl fun r h => (key r h).1 c
  · exact .inr fun r h => (key r h).2 (by omega)
/-- the numbers at the place behind a turn: f's, or smaller -/
theorem siz_mem {w p k : Nat} {rows left others : List (List Int)} {f : List Int} (G : GI w p rows left others) (hf : left[k]? = some f) {r : List Int} (h : r ∈ leftN p k left f) : (at' r p).natAbs ≤ (at' f p).natAbs := by
  have fm : f ∈ left := List.mem_of_getElem? hf
  have fw : f.length = w := G.wd f (List.mem_append_left _ fm)
  have tm : ∀ r ∈ left.take k ++ left.drop (k + 1), r ∈ left := fun r h => (mem_rest hf r).2 (.inr h)
  rcases List.mem_cons.mp h with rfl | h
  · exact Nat.le_refl _
  · obtain ⟨h1, h2⟩ := List.mem_filter.mp h
    obtain ⟨r0, h3, rfl⟩ := List.mem_map.mp h1
    rw [turn_at (by rw [fw]; exact G.wd _ (List.mem_append_left _ (tm _ h3)))]
    exact Nat.le_of_lt (fmod_natAbs (G.nz _ fm))
theorem leftN_ne (p k : Nat) (left : List (List Int)) (f : List Int) : leftN p k left f ≠ [] := by unfold leftN; simp
theorem leftN_len {p k : Nat} {left : List (List Int)} {f : List Int} (hf : left[k]? = some f) : (leftN p k left f).length ≤ left.length := by
  have hk : k < left.length := (List.getElem?_eq_some_iff.mp hf).1
  have h1 := filter_len (turned p k left f) p
  have h2 : (turned p k left f).length + 1 = left.length := by unfold turned; rw [List.length_map]; exact rest_len hk
  unfold leftN
  rw [List.length_cons]
  omega
/-- where no row went, no number at the place became 0 -/
theorem leftN_all {p k : Nat} {left : List (List Int)} {f : List Int} (hf : left[k]? = some f) (e : (leftN p k left f).length = left.length) : ∀ r ∈ left.take k ++ left.drop (k + 1), turn p f r ∈ leftN p k left f := by
  have hk : k < left.length := (List.getElem?_eq_some_iff.mp hf).1
  have h1 := filter_len (turned p k left f) p
  have h2 : (turned p k left f).length + 1 = left.length := by unfold turned; rw [List.length_map]; exact rest_len hk
  unfold leftN at e
  rw [List.length_cons] at e
  have h3 : ((turned p k left f).filter (fun r => decide (at' r p = 0))) = [] := List.eq_nil_of_length_eq_zero (by omega)
  intro r hr
  unfold leftN
  refine List.mem_cons_of_mem _ (List.mem_filter.mpr ⟨List.mem_map_of_mem hr, ?_⟩)
  by_cases z : at' (turn p f r) p = 0
  · have : turn p f r ∈ ((turned p k left f).filter (fun r => decide (at' r p = 0))) := List.mem_filter.mpr ⟨List.mem_map_of_mem hr, by simpa using z⟩
    rw [h3] at this; cases this
  · simpa using z
theorem pot_calc {B c a a' n n' Q C : Nat} (hQ : (1 + Q) * a ≤ 2 * c) (ha : a' ≤ a) (hc : a ≤ c) (hn : n' < n ∨ (n' ≤ n ∧ 2 * a' ≤ c)) (h : B * (c * a) ^ 2 * 2 ^ n ≤ C) : (1 + Q) * B * (a * a') ^ 2 * 2 ^ n' ≤ C := by
  have key : ∀ m, (1 + Q) * (a * a') ^ 2 * m ≤ 2 * (c * a * a' * a') * m := fun m => by
    have e : (1 + Q) * (a * a') ^ 2 = ((1 + Q) * a) * (a * a' * a') := by
      rw [Nat.pow_two]
      ac_rfl
    have := Nat.mul_le_mul_right (a * a' * a') hQ
    rw [e]
    refine Nat.mul_le_mul_right m (Nat.le_trans this (Nat.le_of_eq ?_))
    ac_rfl
  refine Nat.le_trans ?_ h
  rcases hn with hn | ⟨hn, h2⟩
  · have p2 : 2 * 2 ^ n' ≤ 2 ^ n := by
      have : 2 ^ (n' + 1) ≤ 2 ^ n := Nat.pow_le_pow_right (by decide) hn
      rw [Nat.pow_succ] at this; omega
    have k1 := key (B * 2 ^ n')
    have e1 : (1 + Q) * B * (a * a') ^ 2 * 2 ^ n' = (1 + Q) * (a * a') ^ 2 * (B * 2 ^ n') := by ac_rfl
    rw [e1]
    refine Nat.le_trans k1 ?_
    have k2 : c * a * a' * a' ≤ (c * a) ^ 2 := by
      rw [Nat.pow_two, Nat.mul_assoc (c * a)]
      refine Nat.mul_le_mul_left _ (Nat.mul_le_mul (Nat.le_trans ha hc) ha)
    have k3 : 2 * (c * a * a' * a') * (B * 2 ^ n') = B * (c * a * a' * a') * (2 * 2 ^ n') := by ac_rfl
    rw [k3]
    exact Nat.mul_le_mul (Nat.mul_le_mul_left _ k2) p2
  · have p2 : 2 ^ n' ≤ 2 ^ n := Nat.pow_le_pow_right (by decide) hn
    have k1 := key (B * 2 ^ n')
    have e1 : (1 + Q) * B * (a * a') ^ 2 * 2 ^ n' = (1 + Q) * (a * a') ^ 2 * (B * 2 ^ n') := by ac_rfl
    rw [e1]
    refine Nat.le_trans k1 ?_
    have k2 : 2 * (c * a * a' * a') ≤ (c * a) ^ 2 := by
      have e : 2 * (c * a * a' * a') = c * a * ((2 * a') * a') := by ac_rfl
      rw [e, Nat.pow_two]
      exact Nat.mul_le_mul_left _ (Nat.mul_le_mul h2 ha)
    have k3 : 2 * (c * a * a' * a') * (B * 2 ^ n') = B * (2 * (c * a * a' * a')) * 2 ^ n' := by ac_rfl
    rw [k3]
    exact Nat.mul_le_mul (Nat.mul_le_mul_left _ k2) p2
theorem fdiv_same {x y : Int} (h : (0 < x ∧ 0 < y) ∨ (x < 0 ∧ y < 0)) : (x.fdiv y).natAbs = x.natAbs / y.natAbs ∧ (x.fmod y).natAbs = x.natAbs % y.natAbs := by
  have pos : ∀ x y : Int, 0 < x → 0 < y → (x.fdiv y).natAbs = x.natAbs / y.natAbs ∧ (x.fmod y).natAbs = x.natAbs % y.natAbs := fun x y hx hy => by
    rw [Int.fdiv_eq_ediv_of_nonneg x (by omega), Int.fmod_eq_emod_of_nonneg x (by omega)]
    obtain ⟨a, rfl⟩ := Int.eq_ofNat_of_zero_le (Int.le_of_lt hx)
    obtain ⟨b, rfl⟩ := Int.eq_ofNat_of_zero_le (Int.le_of_lt hy)
    rw [← Int.natCast_ediv, ← Int.natCast_emod]
    exact ⟨rfl, rfl⟩
  rcases h with ⟨h1, h2⟩ | ⟨h1, h2⟩
  · exact pos x y h1 h2
  · have q := pos (-x) (-y) (by omega) (by omega)
    rw [Int.neg_fdiv_neg, Int.natAbs_neg, Int.natAbs_neg] at q
    refine ⟨q.1, ?_⟩
    rw [← q.2]
    have e : x.fmod y = -((-x).fmod (-y)) := by rw [Int.fmod_def, Int.fmod_def, Int.neg_fdiv_neg, Int.neg_mul]; omega
    rw [e, Int.natAbs_neg]
theorem Ph.step {w p k B0 C B c a : Nat} {rows left others : List (List Int)} {f : List Int} (G : GI w p rows left others) (h : Ph p B0 C left others B c a) (hf : left[k]? = some f) (hm : ∀ r ∈ left, (at' f p).natAbs ≤ (at' r p).natAbs) (h1 : 1 < left.length) :
    ∃ B c a, Ph p B0 C (leftN p k left f) (othersN p k left others f) B c a := by
  have fm : f ∈ left := List.mem_of_getElem? hf
  have fw : f.length = w := G.wd f (List.mem_append_left _ fm)
  have fz := G.nz _ fm
  have fa : (at' f p).natAbs = a := by
    obtain ⟨r, r1, r2⟩ := h.ata
    have := hm r r1
    have := h.lo f fm
    omega
  have sg : ∀ r ∈ left, (0 < at' r p ∧ 0 < at' f p) ∨ (at' r p < 0 ∧ at' f p < 0) := fun r hr => by
    rcases h.sg with s | s
    · exact .inl ⟨s r hr, s f fm⟩
    · exact .inr ⟨s r hr, s f fm⟩
  have ap : 0 < a := by omega
  have ac : a ≤ c := by rw [← fa]; exact h.hi f fm
  obtain ⟨g, g1, g2⟩ := least p (leftN p k left f) (leftN_ne _ _ _ _)
  have qb : ∀ r ∈ left, ((at' r p).fdiv (at' f p)).natAbs ≤ c / a := fun r hr => by
    rw [(fdiv_same (sg r hr)).1, fa]
    exact Nat.div_le_div_right (h.hi r hr)
  have ga : (at' g p).natAbs ≤ a := by rw [← fa]; exact siz_mem G hf g1
  refine ⟨(1 + c / a) * B, a, (at' g p).natAbs, ⟨bd_step G hf h.bd qb, sgn_step G hf, g2, fun r hr => by rw [← fa]; exact siz_mem G hf hr, ⟨f, List.mem_cons_self .., fa⟩, ⟨g, g1, rfl⟩, Nat.le_trans ac h.cb, ?_⟩⟩
  refine pot_calc (n := left.length) (c := c) ?_ ga ac ?_ h.pot
  · rw [Nat.add_mul, Nat.one_mul]
    have := Nat.div_mul_le_self c a
    omega
  · by_cases e : (leftN p k left f).length < left.length
    · exact .inl e
    · have e' : (leftN p k left f).length = left.length := by have := leftN_len (p := p) hf; omega
      refine .inr ⟨Nat.le_of_eq e', ?_⟩
      have al := leftN_all hf e'
      obtain ⟨r, r1, r2⟩ := h.atc
      rcases (mem_rest hf r).1 r1 with rfl | r3
      · -- c = a: every other row leaves
        have hk : k < left.length := (List.getElem?_eq_some_iff.mp hf).1
        have h4 := rest_len hk
        have : left.take k ++ left.drop (k + 1) ≠ [] := by intro z; rw [z] at h4; simp at h4; omega
        obtain ⟨t, ht⟩ := List.exists_mem_of_ne_nil _ this
        have ht' : t ∈ left := (mem_rest hf t).2 (.inr ht)
        have m1 := al t ht
        have m2 := g2 _ m1
        rw [turn_at (by rw [fw]; exact G.wd _ (List.mem_append_left _ ht')), (fdiv_same (sg t ht')).2] at m2
        have t1 := h.hi t ht'
        have t2 := h.lo t ht'
        have : (at' t p).natAbs = (at' r p).natAbs := by omega
        rw [this, Nat.mod_self] at m2
        omega
      · have m2 := g2 _ (al r r3)
        rw [turn_at (by rw [fw]; exact G.wd _ (List.mem_append_left _ r1)), (fdiv_same (sg r r1)).2, r2, fa] at m2
        have m3 := Nat.mod_lt c ap
        have m4 := Nat.div_add_mod c a
        have m5 : 1 ≤ c / a := (Nat.le_div_iff_mul_le ap).mpr (by omega)
        have m6 : a ≤ a * (c / a) := by have := Nat.mul_le_mul_left a m5; omega
        omega
theorem pow_calc {B0 n n' C a a' : Nat} (h1 : 1 ≤ B0) (ha : a ≤ B0) (ha' : a' ≤ B0) (hn : n' ≤ n) (h : (1 + B0) * B0 ^ 5 * 2 ^ n ≤ C) : (1 + B0) * B0 * (a * a') ^ 2 * 2 ^ n' ≤ C := by
  refine Nat.le_trans ?_ h
  refine Nat.mul_le_mul ?_ (Nat.pow_le_pow_right (by decide) hn)
  rw [Nat.mul_assoc]
  refine Nat.mul_le_mul_left _ ?_
  have e : B0 ^ 5 = B0 * (B0 * B0) ^ 2 := by rw [← Nat.pow_two, ← Nat.pow_mul, Nat.mul_comm B0, ← Nat.pow_succ]
  rw [e]
  exact Nat.mul_le_mul_left _ (Nat.pow_le_pow_left (Nat.mul_le_mul ha ha') 2)
theorem PhX.step {w p k B0 C : Nat} {rows left others : List (List Int)} {f : List Int} (G : GI w p rows left others) (h : PhX p B0 C left others) (hB : 1 ≤ B0) (hC : (1 + B0) * B0 ^ 5 * 2 ^ rows.length ≤ C) (hf : left[k]? = some f) (hm : ∀ r ∈ left, (at' f p).natAbs ≤ (at' r p).natAbs) (h1 : 1 < left.length) :
    PhX p B0 C (leftN p k left f) (othersN p k left others f) := by
  rcases h with h | ⟨B, c, a, h⟩
  · have fm : f ∈ left := List.mem_of_getElem? hf
    obtain ⟨g, g1, g2⟩ := least p (leftN p k left f) (leftN_ne _ _ _ _)
    have fb : (at' f p).natAbs ≤ B0 := h f (List.mem_append_left _ fm) p
    refine .inr ⟨(1 + B0) * B0, (at' f p).natAbs, (at' g p).natAbs, bd_step G hf h (fun r hr => Nat.le_trans (fdiv_natAbs _ _) (h r (List.mem_append_left _ hr) p)), sgn_step G hf, g2, fun r hr => siz_mem G hf hr, ⟨f, List.mem_cons_self .., rfl⟩, ⟨g, g1, rfl⟩, fb, ?_⟩
    refine pow_calc (n := rows.length) hB fb (Nat.le_trans (siz_mem G hf g1) fb) ?_ hC
    have := leftN_len (p := p) hf
    have := G.len
    omega
  · exact .inr (h.step G hf hm h1)
theorem PhX.bd {w p B0 C : Nat} {rows left others : List (List Int)} (G : GI w p rows left others) (h : PhX p B0 C left others) (hB : 1 ≤ B0) (hC : (1 + B0) * B0 ^ 5 * 2 ^ rows.length ≤ C) : Bd C (left ++ others) := by
  rcases h with h | ⟨B, c, a, h⟩
  · refine h.mono (Nat.le_trans ?_ hC)
    have := pow_calc (n := rows.length) (n' := 0) (a := 1) (a' := 1) hB hB hB (Nat.zero_le _) (Nat.le_refl _)
    refine Nat.le_trans ?_ this
    simp only [Nat.mul_one, Nat.pow_zero, Nat.one_pow]
    rw [Nat.add_mul, Nat.one_mul]; omega
  · refine h.bd.mono (Nat.le_trans ?_ h.pot)
    obtain ⟨r, r1, r2⟩ := h.ata
    have z := G.nz r r1
    have ac : a ≤ c := by rw [← r2]; exact h.hi r r1
    have : 0 < (c * a) ^ 2 * 2 ^ left.length := Nat.mul_pos (Nat.pow_pos (Nat.mul_pos (by omega) (by omega))) (Nat.pow_pos (by decide))
    rw [Nat.mul_assoc]
    exact Nat.le_mul_of_pos_right B this
/-- the number at the place by which is divided stays as small as at the start -/
theorem PhX.piv {w p B0 C : Nat} {rows left others : List (List Int)} (G : GI w p rows left others) (h : PhX p B0 C left others) {r : List Int} (hr : r ∈ left) : (at' r p).natAbs ≤ B0 := by
  rcases h with h | ⟨B, c, a, h⟩
  · exact h r (List.mem_append_left _ hr) p
  · exact Nat.le_trans (h.hi r hr) h.cb
theorem gi_start {w p : Nat} {rs : List (List Int)} (hw : Wd w rs) (h0 : ∀ r ∈ rs, ∀ i, i < p → at' r i = 0) : GI w p rs (rs.filter fun r => decide (at' r p ≠ 0)) (rs.filter fun r => decide (at' r p = 0)) := by
  have mem : ∀ r, r ∈ rs ↔ r ∈ (rs.filter fun r => decide (at' r p ≠ 0)) ++ (rs.filter fun r => decide (at' r p = 0)) := fun r => by
    simp only [List.mem_append, List.mem_filter, decide_eq_true_eq]
    constructor
    · intro h
      by_cases c : at' r p = 0
      · exact .inr ⟨h, c⟩
      · exact .inl ⟨h, c⟩
    · rintro (h | h) <;> exact h.1
  refine ⟨.perm hw mem, fun r h => hw r ((mem r).2 h), fun r h => ?_, fun r h => ?_, fun r h => h0 r ((mem r).2 h), ?_⟩
  · simpa using (List.mem_filter.mp h).2
  · simpa using (List.mem_filter.mp h).2
  · exact Nat.le_of_eq (filter_len rs p)
theorem gb_start {p B : Nat} {rs : List (List Int)} (h : Bd B rs) : Bd B ((rs.filter fun r => decide (at' r p ≠ 0)) ++ (rs.filter fun r => decide (at' r p = 0))) := h.sub fun r hr => by
  rcases List.mem_append.mp hr with hr | hr <;> exact (List.mem_filter.mp hr).1
theorem at_neg {w : Nat} {f : List Int} (fw : f.length = w) (i : Nat) : at' (less (List.replicate w 0) 1 f) i = -at' f i := by
  rw [at_less (by rw [List.length_replicate, fw]), at_zero]; omega
theorem neg_eqv {w : Nat} {S : List (List Int)} {f : List Int} (hw : Wd w (f :: S)) : Eqv w (f :: S) (less (List.replicate w 0) 1 f :: S) ∧ Wd w (less (List.replicate w 0) 1 f :: S) := by
  have fw := hw f (List.mem_cons_self ..)
  have nw : Wd w (less (List.replicate w 0) 1 f :: S) := fun r h => by
    rcases List.mem_cons.mp h with rfl | h
    · exact less_len List.length_replicate fw
    · exact hw r (List.mem_cons_of_mem _ h)
  refine ⟨⟨fun r h => ?_, fun r h => ?_⟩, nw⟩
  · rcases List.mem_cons.mp h with rfl | h
    · have h1 : Sp w (less (List.replicate w 0) 1 r :: S) (less (List.replicate w 0) 1 (less (List.replicate w 0) 1 r)) := .step (List.mem_cons_self ..) .zero
      have e : less (List.replicate w 0) 1 (less (List.replicate w 0) 1 r) = r := by
        apply ext_at
        · rw [less_len List.length_replicate (less_len List.length_replicate fw), fw]
        · intro i
          rw [at_neg (less_len List.length_replicate fw), at_neg fw]; omega
      rw [e] at h1; exact h1
    · exact .mem nw (List.mem_cons_of_mem _ h)
  · rcases List.mem_cons.mp h with rfl | h
    · exact .step (List.mem_cons_self ..) .zero
    · exact .mem hw (List.mem_cons_of_mem _ h)
theorem neg_bd {w C : Nat} {S : List (List Int)} {f : List Int} (fw : f.length = w) (h : Bd C (f :: S)) : Bd C (less (List.replicate w 0) 1 f :: S) := fun r hr i => by
  rcases List.mem_cons.mp hr with rfl | hr
  · rw [at_neg fw, Int.natAbs_neg]; exact h f (List.mem_cons_self ..) i
  · exact h r (List.mem_cons_of_mem _ hr) i
end Lat
set_option maxHeartbeats 1000000
namespace Lat
structure PRow (w : Nat) (r : List Int) : Prop where
  len : r.length = w
  lt : piv r < w
  pos : 0 < at' r (piv r)
structure Ech (w : Nat) (S : List (List Int)) : Prop where
  row : ∀ r ∈ S, PRow w r
  asc : S.Pairwise fun a b => piv a < piv b
structure Hnf (w : Nat) (S : List (List Int)) : Prop extends Ech w S where
  red : S.Pairwise fun a b => 0 ≤ at' a (piv b) ∧ at' a (piv b) < at' b (piv b)
theorem Ech.wd {w : Nat} {S : List (List Int)} (h : Ech w S) : Wd w S := fun r hr => (h.row r hr).len
def settle (S : List (List Int)) (row : List Int) : List (List Int) := S.map (turn (piv row) row) ++ [row]
def settled (B : List (List Int)) : List (List Int) := B.foldl settle []
theorem turn_low {w : Nat} {r row : List Int} (hr : r.length = w) (hw : row.length = w) {i : Nat} (hi : i < piv row) : at' (turn (piv row) row r) i = at' r i := by
  unfold turn
  rw [at_less (by rw [hr, hw]), piv_zero hi]; simp
theorem piv_turn {w : Nat} {r row : List Int} (hr : PRow w r) (hw : PRow w row) (h : piv r < piv row) : piv (turn (piv row) row r) = piv r := by
  have l : (turn (piv row) row r).length = w := less_len hr.len hw.len
  refine piv_eq (by rw [l]; exact Nat.le_of_lt hr.lt) (fun i hi => ?_) (.inr ?_)
  · rw [turn_low hr.len hw.len (by omega)]; exact piv_zero hi
  · rw [turn_low hr.len hw.len h]
    have := hr.pos
    omega
theorem prow_turn {w : Nat} {r row : List Int} (hr : PRow w r) (hw : PRow w row) (h : piv r < piv row) : PRow w (turn (piv row) row r) := by
  refine ⟨less_len hr.len hw.len, by rw [piv_turn hr hw h]; exact hr.lt, ?_⟩
  rw [piv_turn hr hw h, turn_low hr.len hw.len h]; exact hr.pos
theorem settle_hnf {w : Nat} {S : List (List Int)} {row : List Int} (h : Hnf w S) (hw : PRow w row) (hp : ∀ r ∈ S, piv r < piv row) : Hnf w (settle S row) := by
  have pt : ∀ r ∈ S, piv (turn (piv row) row r) = piv r := fun r hr => piv_turn (h.row r hr) hw (hp r hr)
  refine ⟨⟨fun r hr => ?_, ?_⟩, ?_⟩
  · rcases List.mem_append.mp hr with hr | hr
    · obtain ⟨r0, h0, rfl⟩ := List.mem_map.mp hr
      exact prow_turn (h.row r0 h0) hw (hp r0 h0)
    · rw [List.mem_singleton.mp hr]; exact hw
  · unfold settle
    rw [List.pairwise_append]
    refine ⟨?_, List.pairwise_singleton _ _, fun a ha b hb => ?_⟩
    · rw [List.pairwise_map]
      exact h.asc.imp_of_mem fun {a b} ha hb q => by rw [pt a ha, pt b hb]; exact q
    · obtain ⟨r0, h0, rfl⟩ := List.mem_map.mp ha
      rw [List.mem_singleton.mp hb, pt r0 h0]; exact hp r0 h0
  · unfold settle
    rw [List.pairwise_append]
    refine ⟨?_, List.pairwise_singleton _ _, fun a ha b hb => ?_⟩
    · rw [List.pairwise_map]
      exact h.red.imp_of_mem fun {a b} ha hb q => by
        rw [pt b hb, turn_low (h.row a ha).len hw.len (hp b hb), turn_low (h.row b hb).len hw.len (hp b hb)]; exact q
    · obtain ⟨r0, h0, rfl⟩ := List.mem_map.mp ha
      rw [List.mem_singleton.mp hb, turn_at (by rw [(h.row r0 h0).len, hw.len])]
      exact ⟨Int.fmod_nonneg_of_pos _ hw.pos, Int.fmod_lt_of_pos _ hw.pos⟩
theorem settle_eqv {w : Nat} {S : List (List Int)} {row : List Int} (h : Wd w S) (hw : row.length = w) : Eqv w (S ++ [row]) (settle S row) ∧ Wd w (settle S row) := by
  have wd : Wd w (settle S row) := fun r hr => by
    rcases List.mem_append.mp hr with hr | hr
    · obtain ⟨r0, h0, rfl⟩ := List.mem_map.mp hr
      exact less_len (h r0 h0) hw
    · rw [List.mem_singleton.mp hr]; exact hw
  have wd0 : Wd w (S ++ [row]) := fun r hr => by
    rcases List.mem_append.mp hr with hr | hr
    · exact h r hr
    · rw [List.mem_singleton.mp hr]; exact hw
  have mr : row ∈ settle S row := List.mem_append_right _ (List.mem_singleton.mpr rfl)
  have mr0 : row ∈ S ++ [row] := List.mem_append_right _ (List.mem_singleton.mpr rfl)
  refine ⟨⟨fun r hr => ?_, fun r hr => ?_⟩, wd⟩
  · rcases List.mem_append.mp hr with hr | hr
    · have st : Sp w (settle S row) (turn (piv row) row r) := .mem wd (List.mem_append_left _ (List.mem_map_of_mem hr))
      have e : r = less (turn (piv row) row r) (-((at' r (piv row)).fdiv (at' row (piv row)))) row := by
        have l0 := h r hr
        apply ext_at
        · unfold turn; rw [less_len (less_len l0 hw) hw, l0]
        · intro i
          unfold turn
          rw [at_less (by rw [less_len l0 hw, hw]), at_less (by rw [l0, hw]), Int.neg_mul]; omega
      rw [e]
      exact st.sub wd (.mem wd mr)
    · rw [List.mem_singleton.mp hr]; exact .mem wd mr
  · rcases List.mem_append.mp hr with hr | hr
    · obtain ⟨r0, h0, rfl⟩ := List.mem_map.mp hr
      exact (Sp.mem wd0 (List.mem_append_left _ h0)).sub wd0 (.mem wd0 mr0)
    · rw [List.mem_singleton.mp hr]; exact .mem wd0 mr0
theorem settle_bd {w B R : Nat} {S : List (List Int)} {row : List Int} (h : Wd w S) (hw : row.length = w) (hS : Bd B S) (hR : ∀ i, (at' row i).natAbs ≤ R) (hB : 1 ≤ B) : Bd (B * (1 + R)) (settle S row) := fun r hr i => by
  rcases List.mem_append.mp hr with hr | hr
  · obtain ⟨r0, h0, rfl⟩ := List.mem_map.mp hr
    unfold turn
    rw [at_less (by rw [h r0 h0, hw])]
    have h1 := hS r0 h0 i
    have h2 : ((at' r0 (piv row)).fdiv (at' row (piv row)) * at' row i).natAbs ≤ B * R := by
      rw [Int.natAbs_mul]
      exact Nat.mul_le_mul (Nat.le_trans (fdiv_natAbs _ _) (hS r0 h0 _)) (hR i)
    rw [Nat.mul_add, Nat.mul_one]
    omega
  · rw [List.mem_singleton.mp hr]
    have h1 := hR i
    have : R ≤ B * R := Nat.le_mul_of_pos_left R hB
    rw [Nat.mul_add, Nat.mul_one]
    omega
/-- behind some rows -/
theorem settled_upto {w R : Nat} {B : List (List Int)} (h : Ech w B) (hb : Bd R B) (hR : 1 ≤ R) : ∀ n, n ≤ B.length → Hnf w (settled (B.take n)) ∧ Eqv w (B.take n) (settled (B.take n)) ∧ Bd (R * (1 + R) ^ n) (settled (B.take n)) ∧ (settled (B.take n)).length = n ∧
    (∀ r ∈ settled (B.take n), ∃ s ∈ B.take n, piv r = piv s) := by
  intro n
  induction n with
  | zero => intro _; exact ⟨⟨⟨(fun r h => nomatch h), .nil⟩, .nil⟩, ⟨(fun r h => nomatch h), (fun r h => nomatch h)⟩, (fun r h => by cases h), rfl, (fun r h => nomatch h)⟩
  | succ n ih =>
    intro hn
    obtain ⟨h1, h2, h3, h4, h5⟩ := ih (by omega)
    have hl : n < B.length := hn
    have e : B.take (n + 1) = B.take n ++ [B[n]] := by rw [List.take_add_one, List.getElem?_eq_getElem hl]; rfl
    have hm : B[n] ∈ B := List.getElem_mem hl
    have es : settled (B.take (n + 1)) = settle (settled (B.take n)) B[n] := by rw [e]; unfold settled; rw [List.foldl_append]; rfl
    have hp : ∀ r ∈ settled (B.take n), piv r < piv B[n] := fun r hr => by
      obtain ⟨s, hs, e1⟩ := h5 r hr
      rw [e1]
      have pw := h.asc
      rw [← List.take_append_drop n B, List.pairwise_append] at pw
      exact pw.2.2 s hs _ (by rw [List.drop_eq_getElem_cons hl]; exact List.mem_cons_self ..)
    have pr := h.row _ hm
    obtain ⟨q1, q2⟩ := settle_eqv h1.wd pr.len
    rw [es]
    refine ⟨settle_hnf h1 pr hp, ?_, ?_, ?_, ?_⟩
    · rw [e]
      have wt : Wd w (B.take n) := fun r hr => h.wd r (List.mem_of_mem_take hr)
      have w1 : Wd w (B.take n ++ [B[n]]) := fun r hr => by
        rcases List.mem_append.mp hr with hr | hr
        · exact wt r hr
        · rw [List.mem_singleton.mp hr]; exact pr.len
      have w2 : Wd w (settled (B.take n) ++ [B[n]]) := fun r hr => by
        rcases List.mem_append.mp hr with hr | hr
        · exact h1.wd r hr
        · rw [List.mem_singleton.mp hr]; exact pr.len
      refine Eqv.trans w1 q2 (T := settled (B.take n) ++ [B[n]]) ⟨fun r hr => ?_, fun r hr => ?_⟩ q1
      · rcases List.mem_append.mp hr with hr | hr
        · exact (h2.1 r hr).mono fun x hx => List.mem_append_left _ hx
        · rw [List.mem_singleton.mp hr]; exact .mem w2 (List.mem_append_right _ (List.mem_singleton.mpr rfl))
      · rcases List.mem_append.mp hr with hr | hr
        · exact (h2.2 r hr).mono fun x hx => List.mem_append_left _ hx
        · rw [List.mem_singleton.mp hr]; exact .mem w1 (List.mem_append_right _ (List.mem_singleton.mpr rfl))
    · rw [Nat.pow_succ, ← Nat.mul_assoc]
      exact settle_bd h1.wd pr.len h3 (hb _ hm) (Nat.mul_pos hR (Nat.pow_pos (by omega)))
    · unfold settle; rw [List.length_append, List.length_map, h4]; rfl
    · intro r hr
      unfold settle at hr
      rcases List.mem_append.mp hr with hr | hr
      · obtain ⟨r0, h0, rfl⟩ := List.mem_map.mp hr
        rw [piv_turn (h1.row r0 h0) pr (hp r0 h0)]
        obtain ⟨s, hs, e1⟩ := h5 r0 h0
        exact ⟨s, by rw [e]; exact List.mem_append_left _ hs, e1⟩
      · rw [List.mem_singleton.mp hr]
        exact ⟨B[n], by rw [e]; exact List.mem_append_right _ (List.mem_singleton.mpr rfl), rfl⟩
/-- how numbers can grow, place by place -/
def grow (n B : Nat) : Nat → Nat
  | 0 => B
  | p + 1 => (1 + grow n B p) * grow n B p ^ 5 * 2 ^ n
def bits (n b : Nat) : Nat → Nat
  | 0 => b
  | p + 1 => 6 * bits n b p + n
theorem grow_pos {n B : Nat} (h : 1 ≤ B) : ∀ p, 1 ≤ grow n B p
  | 0 => h
  | p + 1 => Nat.mul_pos (Nat.mul_pos (by omega) (Nat.pow_pos (grow_pos h p))) (Nat.pow_pos (by decide))
theorem grow_mono {n B : Nat} (h : 1 ≤ B) (p : Nat) : grow n B p ≤ grow n B (p + 1) := by
  have g := grow_pos (n := n) h p
  show _ ≤ (1 + grow n B p) * grow n B p ^ 5 * 2 ^ n
  have h1 : 1 ≤ grow n B p ^ 5 := Nat.pow_pos g
  have h2 : 1 ≤ 2 ^ n := Nat.pow_pos (by decide)
  have h3 := Nat.mul_le_mul (Nat.mul_le_mul (Nat.le_refl (1 + grow n B p)) h1) h2
  omega
theorem grow_le {n B : Nat} (h : 1 ≤ B) {p q : Nat} (hpq : p ≤ q) : grow n B p ≤ grow n B q := by
  induction hpq with
  | refl => exact Nat.le_refl _
  | step _ ih => exact Nat.le_trans ih (grow_mono h _)
theorem grow_bits {n B b : Nat} (h : B < 2 ^ b) : ∀ p, grow n B p < 2 ^ bits n b p
  | 0 => h
  | p + 1 => by
    have ih := grow_bits (n := n) h p
    show (1 + grow n B p) * grow n B p ^ 5 * 2 ^ n < 2 ^ (6 * bits n b p + n)
    rw [Nat.pow_add]
    refine Nat.mul_lt_mul_of_pos_right ?_ (Nat.pow_pos (by decide))
    have e : 2 ^ (6 * bits n b p) = 2 ^ bits n b p * (2 ^ bits n b p) ^ 5 := by rw [← Nat.pow_mul, ← Nat.pow_add]; congr 1; omega
    rw [e]
    have h1 : 1 + grow n B p ≤ 2 ^ bits n b p := by omega
    have h2 : grow n B p ^ 5 < (2 ^ bits n b p) ^ 5 := Nat.pow_lt_pow_left ih (by decide)
    exact Nat.lt_of_le_of_lt (Nat.mul_le_mul_right _ h1) (Nat.mul_lt_mul_of_pos_left h2 (Nat.pow_pos (by decide)))
/-- behind the places below p -/
structure BI (w n B p : Nat) (rows found left : List (List Int)) : Prop where
  eqv : Eqv w rows (found ++ left)
  ech : Ech w found
  low : ∀ r ∈ found, piv r < p
  wd : Wd w left
  z : ∀ r ∈ left, ∀ i, i < p → at' r i = 0
  bd : Bd (grow n B p) (found ++ left)
  pb : ∀ r ∈ found, ∃ q, q < p ∧ (at' r (piv r)).natAbs ≤ grow n B q
  fl : found.length ≤ p
  ll : left.length ≤ n
theorem bi_start {w n B : Nat} {rows : List (List Int)} (hw : Wd w rows) (hb : Bd B rows) (hn : rows.length ≤ n) : BI w n B 0 rows [] rows :=
  ⟨Eqv.refl hw, ⟨(fun r h => nomatch h), .nil⟩, (fun r h => by cases h), hw, (fun r h i hi => by omega), hb, (fun r h => by cases h), Nat.le_refl _, hn⟩
theorem bi_step {w n B p C : Nat} {rows found left others : List (List Int)} {o : Option (List Int)} (hw : Wd w rows) (h : BI w n B p rows found left) (hB : 1 ≤ B) (hp : p < w) (hC : C = grow n B (p + 1))
    (ge : Eqv w left (o.toList ++ others)) (gw : Wd w (o.toList ++ others)) (gz : ∀ r ∈ others, ∀ i, i ≤ p → at' r i = 0) (gp : ∀ f, o = some f → (∀ i, i < p → at' f i = 0) ∧ 0 < at' f p)
    (gl : o.toList.length + others.length ≤ left.length) (gb : Bd C (o.toList ++ others)) (gpb : ∀ f, o = some f → (at' f p).natAbs ≤ grow n B p) : BI w n B (p + 1) rows (found ++ o.toList) others := by
  subst hC
  have pf : ∀ f, o = some f → PRow w f ∧ piv f = p := fun f e => by
    have fl : f.length = w := gw f (by rw [e]; exact List.mem_append_left _ (List.mem_singleton.mpr rfl))
    obtain ⟨h1, h2⟩ := gp f e
    have pe : piv f = p := piv_eq (by omega) h1 (.inr (by omega))
    exact ⟨⟨fl, by omega, by rw [pe]; exact h2⟩, pe⟩
  have om : ∀ f, f ∈ o.toList → o = some f := fun f hf => by
    cases o with
    | none => cases hf
    | some g => rw [List.mem_singleton.mp (show f ∈ [g] from hf)]
  have wN : Wd w ((found ++ o.toList) ++ others) := fun r hr => by
    rw [List.append_assoc] at hr
    rcases List.mem_append.mp hr with hr | hr
    · exact h.ech.wd r hr
    · exact gw r hr
  refine ⟨?_, ⟨fun r hr => ?_, ?_⟩, fun r hr => ?_, fun r hr => gw r (List.mem_append_right _ hr), fun r hr i hi => gz r hr i (by omega), ?_, fun r hr => ?_, ?_, ?_⟩
  · refine Eqv.trans hw wN h.eqv ⟨fun r hr => ?_, fun r hr => ?_⟩
    · rcases List.mem_append.mp hr with hr | hr
      · exact .mem wN (List.mem_append_left _ (List.mem_append_left _ hr))
      · refine (ge.1 r hr).mono fun x hx => ?_
        rw [List.append_assoc]; exact List.mem_append_right _ hx
    · rw [List.append_assoc] at hr
      have wO : Wd w (found ++ left) := fun r hr => by
        rcases List.mem_append.mp hr with hr | hr
        · exact h.ech.wd r hr
        · exact h.wd r hr
      rcases List.mem_append.mp hr with hr | hr
      · exact .mem wO (List.mem_append_left _ hr)
      · exact (ge.2 r hr).mono fun x hx => List.mem_append_right _ hx
  · rcases List.mem_append.mp hr with hr | hr
    · exact h.ech.row r hr
    · exact (pf r (om r hr)).1
  · rw [List.pairwise_append]
    refine ⟨h.ech.asc, ?_, fun a ha b hb => ?_⟩
    · cases o with
      | none => exact .nil
      | some g => exact List.pairwise_singleton _ _
    · rw [(pf b (om b hb)).2]; exact h.low a ha
  · rcases List.mem_append.mp hr with hr | hr
    · have := h.low r hr; omega
    · rw [(pf r (om r hr)).2]; omega
  · intro r hr i
    rw [List.append_assoc] at hr
    rcases List.mem_append.mp hr with hr | hr
    · exact Nat.le_trans (h.bd r (List.mem_append_left _ hr) i) (grow_mono hB p)
    · exact gb r hr i
  · rcases List.mem_append.mp hr with hr | hr
    · obtain ⟨q, h1, h2⟩ := h.pb r hr
      exact ⟨q, by omega, h2⟩
    · refine ⟨p, by omega, ?_⟩
      rw [(pf r (om r hr)).2]; exact gpb r (om r hr)
  · rw [List.length_append]
    have : o.toList.length ≤ 1 := by cases o <;> simp
    have := h.fl
    omega
  · have := h.ll; omega
theorem bi_end {w n B : Nat} {rows found left : List (List Int)} (hw : Wd w rows) (h : BI w n B w rows found left) : Eqv w rows found := by
  have z : ∀ r ∈ left, r = List.replicate w 0 := fun r hr => by
    apply ext_at
    · rw [h.wd r hr, List.length_replicate]
    · intro i
      rw [at_zero]
      by_cases hi : i < w
      · exact h.z r hr i hi
      · unfold at'; rw [List.getElem?_eq_none (by rw [h.wd r hr]; omega)]; rfl
  refine Eqv.trans hw h.ech.wd h.eqv ⟨fun r hr => ?_, fun r hr => ?_⟩
  · rcases List.mem_append.mp hr with hr | hr
    · exact .mem h.ech.wd hr
    · rw [z r hr]; exact .zero
  · exact (Sp.mem h.ech.wd hr).mono fun x hx => List.mem_append_left _ hx
end Lat
set_option maxHeartbeats 4000000
namespace My
open PySem L2
open Lat
/-- built-in names that the text leaves alone -/
structure Bn (mg : Str → Option Value) : Prop where
  zip : mg "zip" = none
  tuple : mg "tuple" = none
  list : mg "list" = none
  dict : mg "dict" = none
  abs : mg "abs" = none
  int : mg "int" = none
  bool : mg "bool" = none
  str : mg "str" = none
  sum : mg "sum" = none
  len : mg "len" = none
  min : mg "min" = none
  max : mg "max" = none
  all : mg "all" = none
  any : mg "any" = none
  isinstance : mg "isinstance" = none
  range : mg "range" = none
  repr : mg "repr" = none
  enumerate : mg "enumerate" = none
  sorted : mg "sorted" = none
/-- a def of the text, by its name and promise -/
structure Cal (P : Program) (w : World) (K : PySem.W.Frag) (mg : Str → Option Value) (base : Heap) (x : Str) (k : Nat) (ps : List Str) (sp : Sp) : Prop where
  ex : ∃ (f : Addr) (fd : FuncData), mg x = some (.ref f) ∧ PySem.W.keepIn K (.ref f) = true ∧ Binds K fd ps [] ∧ FnOk P w K mg base CX0 k f fd ps sp
section
variable {X : Cx}
theorem op_mulOk : OpR X (binaryOp .Mult) (rI IntMulOk fun i j => .int (i * j)) := opI fun _ _ _ _ _ _ _ hc q => PyProof.Rows.mul_int q hc
def CDivL (_ j : Int) : Prop := j ≠ 0 ∧ j.natAbs.log2 < 9000
theorem op_fdivL : OpR X (binaryOp .FloorDiv) (rI CDivL fun i j => .int (i.fdiv j)) := opI fun _ _ _ _ _ _ _ hc q => PyProof.Rows.floordiv_int hc.1 q (.inl (PyProof.noPylong_of_log2 hc.2))
end
section
variable {X : Cx} {K : PySem.W.Frag} (h : X.K = K)
include h
theorem ix_tupK : IxR X (rIxT K) := by subst h; exact ix_tup
theorem ix_listK : IxR X (rIxL K) := by subst h; exact ix_list
theorem sl_listK : SlR X (rSlL K) := by subst h; exact sl_list
theorem sl_tupK : SlR X (rSlT K) := by subst h; exact sl_tup
theorem op_catTK : OpR X (binaryOp .Add) (rCatT K) := by subst h; exact op_catT
theorem op_in_seqK : OpR X (compareOp .In) (rIn K false) := by subst h; exact op_in_seq
theorem op_notIn_seqK : OpR X (compareOp .NotIn) (rIn K true) := by subst h; exact op_notIn_seq
theorem op_eqDK (hu : X.A.units + 64 < cLine) : OpR X (compareOp .Eq) (rEqD K) := by subst h; exact op_eqD hu
theorem op_neDK (hu : X.A.units + 64 < cLine) : OpR X (compareOp .NotEq) (rNeD K) := by subst h; exact op_neD hu
theorem mt_indexK : MtR X "list.index" (rIndex K) := by subst h; exact mt_index
theorem cr_sumK (hc : X.calm = true) : CallR X (.builtin "sum") (rSum K) := by subst h; exact cr_sum hc
theorem cr_allK (hc : X.calm = true) : CallR X (.builtin "all") (rAll K) := by subst h; exact cr_all hc
theorem cr_anyK (hc : X.calm = true) : CallR X (.builtin "any") (rAny K) := by subst h; exact cr_any hc
theorem call_isiX : CallR X (.builtin "isinstance") (rIsi K) := by subst h; exact call_isi
theorem call_isiTX : CallR X (.builtin "isinstance") (rIsiT K) := by subst h; exact call_isiT
def rTupOf (K : PySem.W.Frag) : List V → Hp → VK → Prop := fun xs H Q => ∃ p ys, xs = [.ref p] ∧ ((SqL K H p ys ∧ ∀ l, H l = none → Q (.ref l) (upd H l (.tup ys))) ∨ (SqT K H p ys ∧ Q (.ref p) H))
theorem call_tuple_ofK : CallR X (.type "tuple") (rTupOf K) := by subst h; exact call_tuple_of
def rListOf (K : PySem.W.Frag) : List V → Hp → VK → Prop := fun xs H Q => ∃ p ys, xs = [.ref p] ∧ (SqL K H p ys ∨ SqT K H p ys) ∧ ∀ l, H l = none → Q (.ref l) (upd H l (.lst ys))
theorem call_list_ofK : CallR X (.type "list") (rListOf K) := by subst h; exact call_list_of
end
theorem at_map {r : List Int} {i : Nat} (h : i < r.length) : (r.map V.int)[i]? = some (V.int (at' r i)) := by
  unfold at'
  rw [List.getElem?_map, List.getElem?_eq_getElem h]; rfl
section
variable {K : PySem.W.Frag} {a b : Addr}
theorem walk_zipTI {xs ys : List Int} {n : Nat} (hn : n = min xs.length ys.length) : Walk (RZ.ItzT K a b) n (fun H => SqT K H a (xs.map V.int) ∧ SqT K H b (ys.map V.int)) (fun i H v H' => ∃ T, v = .ref T ∧ H T = none ∧ H' = upd H T (.tup [.int (at' xs i), .int (at' ys i)])) := by
  refine (walk_zipT (xs := xs.map V.int) (ys := ys.map V.int) (n := n) (by rw [List.length_map, List.length_map]; exact hn)).mono (fun H h => h) fun i H v H' hi _ ⟨T, x, y, e, hT, eH, h1, h2⟩ => ?_
  have h1' : (xs.map V.int)[i]? = some x := h1
  have h2' : (ys.map V.int)[i]? = some y := h2
  rw [at_map (by omega)] at h1' h2'
  cases h1'; cases h2'
  exact ⟨T, e, hT, eH⟩
theorem walk_zipLI {xs ys : List Int} {n : Nat} (hn : n = min xs.length ys.length) : Walk (Itz K a b) n (fun H => SqL K H a (xs.map V.int) ∧ SqL K H b (ys.map V.int)) (fun i H v H' => ∃ T, v = .ref T ∧ H T = none ∧ H' = upd H T (.tup [.int (at' xs i), .int (at' ys i)])) := by
  refine (walk_zip (xs := xs.map V.int) (ys := ys.map V.int) (n := n) (by rw [List.length_map, List.length_map]; exact hn)).mono (fun H h => h) fun i H v H' hi _ ⟨T, x, y, e, hT, eH, h1, h2⟩ => ?_
  have h1' : (xs.map V.int)[i]? = some x := h1
  have h2' : (ys.map V.int)[i]? = some y := h2
  rw [at_map (by omega)] at h1' h2'
  cases h1'; cases h2'
  exact ⟨T, e, hT, eH⟩
theorem walk_tupI {r : List Int} : Walk (Itt K a) r.length (fun H => SqT K H a (r.map V.int)) (fun i H v H' => H' = H ∧ v = .int (at' r i)) := by
  have h := (walk_tup (K := K) (a := a) (xs := r.map V.int))
  rw [List.length_map] at h
  refine h.mono (fun H h => h) fun i H v H' hi _ ⟨e, h1⟩ => ⟨e, ?_⟩
  rw [at_map hi] at h1
  exact (Option.some.inj h1).symm
theorem walk_listI {r : List Int} : Walk (Itl K a) r.length (fun H => SqL K H a (r.map V.int)) (fun i H v H' => H' = H ∧ v = .int (at' r i)) := by
  have h := (walk_list (K := K) (a := a) (xs := r.map V.int))
  rw [List.length_map] at h
  refine h.mono (fun H h => h) fun i H v H' hi _ ⟨e, h1⟩ => ⟨e, ?_⟩
  rw [at_map hi] at h1
  exact (Option.some.inj h1).symm
end
/-- a list, a tuple of rows -/
def IsRows (K : PySem.W.Frag) (H : Hp) (a : Addr) (rs : List (List Int)) : Prop := ∃ xs, SqL K H a xs ∧ Paired (IsRow K H) xs rs
def IsRowsT (K : PySem.W.Frag) (H : Hp) (a : Addr) (rs : List (List Int)) : Prop := ∃ xs, SqT K H a xs ∧ Paired (IsRow K H) xs rs
theorem IsRows.same {K : PySem.W.Frag} {H H' : Hp} {a : Addr} {rs : List (List Int)} (e : Same H H') (h : IsRows K H a rs) : IsRows K H' a rs :=
  let ⟨xs, h1, h2⟩ := h; ⟨xs, e.seq h1, Paired.imp (fun _ _ q => q.same e) h2⟩
theorem IsRowsT.same {K : PySem.W.Frag} {H H' : Hp} {a : Addr} {rs : List (List Int)} (e : Same H H') (h : IsRowsT K H a rs) : IsRowsT K H' a rs :=
  let ⟨xs, h1, h2⟩ := h; ⟨xs, seqT e h1, Paired.imp (fun _ _ q => q.same e) h2⟩
theorem paired_get {α β : Type} {F : α → β → Prop} : ∀ {l₁ : List α} {l₂ : List β} {i : Nat} {x : α}, Paired F l₁ l₂ → l₁[i]? = some x → ∃ y, l₂[i]? = some y ∧ F x y
  | _, _, _, _, .nil, e => by simp at e
  | _, _, 0, _, .cons r _, e => by simp at e; subst e; exact ⟨_, rfl, r⟩
  | _, _, i + 1, x, .cons _ t, e => by
    obtain ⟨y, h1, h2⟩ := paired_get (i := i) (x := x) t (by simpa using e)
    exact ⟨y, by simpa using h1, h2⟩
theorem paired_get' {α β : Type} {F : α → β → Prop} : ∀ {l₁ : List α} {l₂ : List β} {i : Nat} {y : β}, Paired F l₁ l₂ → l₂[i]? = some y → ∃ x, l₁[i]? = some x ∧ F x y
  | _, _, _, _, .nil, e => by simp at e
  | _, _, 0, _, .cons r _, e => by simp at e; subst e; exact ⟨_, rfl, r⟩
  | _, _, i + 1, y, .cons _ t, e => by
    obtain ⟨x, h1, h2⟩ := paired_get' (i := i) (y := y) t (by simpa using e)
    exact ⟨x, by simpa using h1, h2⟩
/-- what is made by turns that all keep -/
theorem outs_map {β : Type} (f : Nat → β) (n : Nat) : outs (fun i => some (f i)) n = (List.range n).map f := by
  unfold outs
  induction n with
  | zero => rfl
  | succ n ih => rw [List.range_succ, List.filterMap_append, List.map_append, ih]; rfl
theorem range_map_less {a b : List Int} {t : Int} (h : a.length = b.length) : (List.range a.length).map (fun i => at' a i - t * at' b i) = less a t b := by
  apply ext_at
  · rw [List.length_map, List.length_range, less_length, ← h]; exact (Nat.min_self _).symm
  · intro i
    rw [at_less h]
    by_cases hi : i < a.length
    · show ((List.range a.length).map _)[i]?.getD 0 = _
      rw [List.getElem?_map, List.getElem?_range hi]; rfl
    · show ((List.range a.length).map _)[i]?.getD 0 = _
      rw [List.getElem?_eq_none (by simpa using hi)]
      unfold at'
      rw [List.getElem?_eq_none (by omega), List.getElem?_eq_none (by omega)]; simp
theorem same_upd {H : Hp} {a : Addr} {o : HO} (h : H a = none) : Same H (upd H a o) := fun c u e => by rw [upd_ne (ne_of_none e h)]; exact e
theorem at_mem {r : List Int} {i : Nat} (h : i < r.length) : at' r i ∈ r := by
  unfold at'; rw [List.getElem?_eq_getElem h]; exact List.getElem_mem h
/-- a while by what holds between turns and a number that falls -/
theorem while_k {c : TT} {tb : TS} {D : Ends} {σ : L2.St} {H : Hp} (Pv : L2.St → Hp → Prop) (μ : L2.St → Hp → Nat) (h0 : Pv σ H)
    (hs : ∀ σ H, Pv σ H → ∀ KT : Hp → Prop, (∀ H1, tb { D with nx := fun σ' H' => Pv σ' H' ∧ μ σ' H' < μ σ H, ct := fun σ' H' => Pv σ' H' ∧ μ σ' H' < μ σ H, bk := D.nx } σ H1 → KT H1) →
      c σ H fun b H1 => if b = true then KT H1 else D.nx σ H1) : tWhile c tb D σ H := by
  refine ⟨fun m σ H => m = μ σ H ∧ Pv σ H, ⟨_, rfl, h0⟩, ?_⟩
  rintro m σ H ⟨rfl, p⟩
  exact hs σ H p _ fun H1 q => ⟨_, fun σ' H' ⟨p', l⟩ => ⟨_, l, rfl, p'⟩, q⟩
theorem range_map_val {a b : List Int} (h : a.length = b.length) : ((List.range a.length).map fun i => at' a i * at' b i).sum = val a b := by
  unfold val
  congr 1
  apply List.ext_getElem
  · rw [List.length_map, List.length_range, List.length_zipWith, ← h]; exact (Nat.min_self _).symm
  · intro i h1 h2
    rw [List.length_map, List.length_range] at h1
    rw [List.getElem_map, List.getElem_range, List.getElem_zipWith]
    unfold at'
    rw [List.getElem?_eq_getElem h1, List.getElem?_eq_getElem (by omega)]; rfl
/-- a number that any other may be multiplied by -/
def IntMulSmall (x : Int) : Prop := Builtin.Int.intBits x ≤ 64
theorem IntMulSmall.ok {x y : Int} (h : IntMulSmall x) : IntMulOk x y := .of_left h
theorem IntMulSmall.ok' {x y : Int} (h : IntMulSmall x) : IntMulOk y x := .of_right h
theorem small_of {x : Int} (h1 : -(2 ^ 64) < x) (h2 : x < 2 ^ 64) : IntMulSmall x := intBits_le_64 h1 h2
theorem while_m {c : TT} {tb : TS} {D : Ends} {σ : L2.St} {H : Hp} (W : Nat → L2.St → Hp → Prop) (m0 : Nat) (h0 : W m0 σ H)
    (hs : ∀ m σ H, W m σ H → ∀ KT : Hp → Prop, (∀ H1, tb { D with nx := fun σ' H' => ∃ m', m' < m ∧ W m' σ' H', ct := fun σ' H' => ∃ m', m' < m ∧ W m' σ' H', bk := D.nx } σ H1 → KT H1) →
      c σ H fun b H1 => if b = true then KT H1 else D.nx σ H1) : tWhile c tb D σ H := by
  refine ⟨W, ⟨m0, h0⟩, ?_⟩
  intro m σ H p
  exact hs m σ H p _ fun H1 q => ⟨_, fun σ' H' ⟨m', l, p'⟩ => ⟨m', l, p'⟩, q⟩
/-- a list of rows, walked -/
theorem walk_rows {K : PySem.W.Frag} {a : Addr} {H0 : Hp} {xs : List V} {rs : List (List Int)} (pr : Paired (IsRow K H0) xs rs) : Walk (Itl K a) rs.length (fun H => SqL K H a xs ∧ Same H0 H) (fun i H x H' => H' = H ∧ ∃ r, rs[i]? = some r ∧ IsRow K H x r) := by
  have h := walk_list (K := K) (a := a) (xs := xs)
  rw [paired_len pr] at h
  refine h.mono (fun H h => h.1) fun i H v H' hi h ⟨e, h1⟩ => ⟨e, ?_⟩
  obtain ⟨y, h2, h3⟩ := paired_get pr h1
  exact ⟨y, h2, h3.same h.2⟩
theorem walk_rowsT {K : PySem.W.Frag} {a : Addr} {H0 : Hp} {xs : List V} {rs : List (List Int)} (pr : Paired (IsRow K H0) xs rs) : Walk (Itt K a) rs.length (fun H => SqT K H a xs ∧ Same H0 H) (fun i H x H' => H' = H ∧ ∃ r, rs[i]? = some r ∧ IsRow K H x r) := by
  have h := walk_tup (K := K) (a := a) (xs := xs)
  rw [paired_len pr] at h
  refine h.mono (fun H h => h.1) fun i H v H' hi h ⟨e, h1⟩ => ⟨e, ?_⟩
  obtain ⟨y, h2, h3⟩ := paired_get pr h1
  exact ⟨y, h2, h3.same h.2⟩
theorem outs_filter {α : Type} (q : α → Bool) (rs : List α) : outs (fun i => (rs[i]?).bind fun r => if q r = true then some r else none) rs.length = rs.filter q := by
  have key : ∀ n, n ≤ rs.length → outs (fun i => (rs[i]?).bind fun r => if q r = true then some r else none) n = (rs.take n).filter q := by
    intro n
    induction n with
    | zero => intro _; rfl
    | succ n ih =>
      intro h
      rw [outs_succ, ih (by omega), List.take_add_one, List.filter_append, List.getElem?_eq_getElem (by omega)]
      congr 1
      show _ = [rs[n]].filter q
      by_cases c : q rs[n] = true
      · simp [c]
      · simp [c]
  rw [key _ (Nat.le_refl _), List.take_length]
theorem outs_mapG {α β : Type} (f : α → β) (rs : List α) : outs (fun i => (rs[i]?).map f) rs.length = rs.map f := by
  have key : ∀ n, n ≤ rs.length → outs (fun i => (rs[i]?).map f) n = (rs.take n).map f := by
    intro n
    induction n with
    | zero => intro _; rfl
    | succ n ih =>
      intro h
      rw [outs_succ, ih (by omega), List.take_add_one, List.map_append, List.getElem?_eq_getElem (by omega)]
      rfl
  rw [key _ (Nat.le_refl _), List.take_length]
theorem cutV_take {xs : List V} {k : Nat} (h : k ≤ xs.length) : cutV xs none (some (k : Int)) = xs.take k := by
  unfold cutV
  rw [HT.sIx_none, HT.sIx_nat, Nat.min_eq_left h, List.drop_zero, Nat.sub_zero]
theorem cutV_drop {xs : List V} {k : Nat} (h : k ≤ xs.length) : cutV xs (some (k : Int)) none = xs.drop k := by
  unfold cutV
  rw [HT.sIx_none, HT.sIx_nat, Nat.min_eq_left h]
  exact List.take_of_length_le (by rw [List.length_drop]; exact Nat.le_refl _)
theorem paired_take {α β : Type} {F : α → β → Prop} : ∀ (n : Nat) {l₁ : List α} {l₂ : List β}, Paired F l₁ l₂ → Paired F (l₁.take n) (l₂.take n)
  | 0, _, _, _ => .nil
  | _ + 1, _, _, .nil => .nil
  | n + 1, _, _, .cons r t => .cons r (paired_take n t)
theorem paired_drop {α β : Type} {F : α → β → Prop} : ∀ (n : Nat) {l₁ : List α} {l₂ : List β}, Paired F l₁ l₂ → Paired F (l₁.drop n) (l₂.drop n)
  | 0, _, _, r => r
  | _ + 1, _, _, .nil => .nil
  | n + 1, _, _, .cons _ t => paired_drop n t
theorem paired_app {α β : Type} {F : α → β → Prop} : ∀ {l₁ m₁ : List α} {l₂ m₂ : List β}, Paired F l₁ l₂ → Paired F m₁ m₂ → Paired F (l₁ ++ m₁) (l₂ ++ m₂)
  | _, _, _, _, .nil, s => s
  | _, _, _, _, .cons r t, s => .cons r (paired_app t s)
theorem paired_nil {α β : Type} {F : α → β → Prop} {l₁ : List α} {l₂ : List β} (h : Paired F l₁ l₂) : Paired F (l₁ ++ []) l₂ := by rw [List.append_nil]; exact h
theorem flat_rep {α : Type} (x : α) (n : Nat) : (List.replicate n [x]).flatten = List.replicate n x := by
  induction n with
  | zero => rfl
  | succ n ih => rw [List.replicate_succ, List.flatten_cons, ih]; rfl
theorem rep_int (n : Nat) (x : Int) : List.replicate n (V.int x) = (List.replicate n x).map V.int := by rw [List.map_replicate]
theorem first_at {m : Int} : ∀ {ns : List Int}, m ∈ ns → ∃ j : Nat, ns[j]? = some m ∧ ∀ i : Nat, i < j → ns[i]? ≠ some m
  | [], h => by cases h
  | x :: ns, h => by
    by_cases e : x = m
    · exact ⟨0, by simp [e], fun i hi => by omega⟩
    · obtain ⟨j, h1, h2⟩ := first_at (m := m) (ns := ns) (by rcases List.mem_cons.mp h with rfl | h; exact absurd rfl e; exact h)
      refine ⟨j + 1, by simpa using h1, fun i hi => ?_⟩
      cases i with
      | zero => simpa using e
      | succ i => simpa using h2 i (by omega)
theorem eqV_int (a b : Int) : eqV (.int a) (.int b) = decide (a = b) := by
  by_cases h : a = b
  · subst h; simp [eqV]
  · simp [eqV, h]
theorem small_len {n : Nat} (h : n ≤ 100000) : n ≤ sizeLine := by rw [sizeLine_eq]; omega
theorem mulOk_of {x y : Int} {m n : Nat} (hx : x.natAbs < 2 ^ m) (hy : y.natAbs < 2 ^ n) (h : m + n + 2 ≤ 134217728) : IntMulOk x y := by
  have key : ∀ (z : Int) (k : Nat), z.natAbs < 2 ^ k → Builtin.Int.intBits z ≤ k + 1 := fun z k hz => by
    unfold Builtin.Int.intBits
    split
    · exact Nat.zero_le _
    · have := PySem.Flt.log2_lt_of (n := z.natAbs) (k := k + 1) (by omega) (Nat.lt_of_lt_of_le hz (Nat.pow_le_pow_right (by decide) (by omega)))
      omega
  exact PyProof.Rows.mulOk_of_bits (key x m hx) (key y n hy) (by omega)
/-- a list or a tuple, walked -/
def SeqB (K : PySem.W.Frag) (a : Addr) (R : It → Hp → Prop) (H1 : Hp) : Prop := ((∃ xs, SqL K H1 a xs) ∧ R (Itl K a) H1) ∨ ((∃ xs, SqT K H1 a xs) ∧ R (Itt K a) H1)
def iSeq (K : PySem.W.Frag) (tl : TE) : TI := fun σ H R => tl σ H fun x H1 => ∃ a, x = .ref a ∧ SeqB K a R H1
theorem pi_seq {X : Cx} {tg l : Expr} {tl : TE} (hl : PE X l tl) : PI X tg l (iSeq X.K tl) := by
  refine ⟨fun pins s σ H R I h => thn (hl.run pins s σ H _ I h) fun v s1 ⟨x, H1, I1, r1, q1⟩ => ?_⟩
  obtain ⟨a, e, q⟩ := q1
  subst e
  cases r1
  rcases q with ⟨⟨xs, hq⟩, q⟩ | ⟨⟨xs, hq⟩, q⟩
  · obtain ⟨its, rv, p, hz⟩ := I1.list hq
    exact PySem.wpAny_pyIter_list p.isList (pi_one (tk := s1.toks) I1 _ (turn_list a _) ⟨_, Heap.get?_push_size _ rfl, rfl, rfl⟩ q)
  · obtain ⟨its, rv, p, hz⟩ := I1.tuple hq
    exact PySem.wpAny_pyIter_tuple (show s1.heap.IsTuple a its.toArray from p) (pi_one (tk := s1.toks) I1 _ (turn_tuple a _) ⟨_, Heap.get?_push_size _ rfl, rfl, rfl⟩ q)
/-- a list or a tuple of rows -/
def IsRowsS (K : PySem.W.Frag) (H : Hp) (a : Addr) (rs : List (List Int)) : Prop := IsRows K H a rs ∨ IsRowsT K H a rs
theorem IsRowsS.same {K : PySem.W.Frag} {H H' : Hp} {a : Addr} {rs : List (List Int)} (e : Same H H') (h : IsRowsS K H a rs) : IsRowsS K H' a rs := h.imp (fun q => q.same e) fun q => q.same e
theorem seq_walk {K : PySem.W.Frag} {H : Hp} {a : Addr} {rs : List (List Int)} (h : IsRowsS K H a rs) : ∃ (J : It) (G : Hp → Prop), Walk J rs.length G (fun i H x H' => H' = H ∧ ∃ r, rs[i]? = some r ∧ IsRow K H x r) ∧ (∀ H', Same H H' → G H') ∧
    ∀ R : It → Hp → Prop, R J H → SeqB K a R H := by
  rcases h with ⟨xs, h1, pr⟩ | ⟨xs, h1, pr⟩
  · exact ⟨_, _, walk_rows pr, fun H' s => ⟨s.seq h1, s⟩, fun R q => .inl ⟨⟨xs, h1⟩, q⟩⟩
  · exact ⟨_, _, walk_rowsT pr, fun H' s => ⟨seqT s h1, s⟩, fun R q => .inr ⟨⟨xs, h1⟩, q⟩⟩
theorem ty_tup {K : PySem.W.Frag} {H : Hp} {a : Addr} {xs : List V} (h : SqT K H a xs) : TyX K H (.ref a) (.type "tuple") := by
  rcases h with (h | ⟨o, h⟩) | ⟨o, its, n, h1, h2, _⟩
  · exact .base (.tup h)
  · exact .fTuple h
  · exact .kTuple h1 h2
theorem ty_list {K : PySem.W.Frag} {H : Hp} {a : Addr} {xs : List V} (h : SqL K H a xs) : TyX K H (.ref a) (.type "list") := by
  rcases h with (h | ⟨o, h⟩) | ⟨o, its, n, h1, h2, _⟩
  · exact .base (.lst h)
  · exact .base (.frz h)
  · exact .kList h1 h2
theorem paired_bl : ∀ {l₁ : List V} {n : Nat}, Paired (fun (v : V) (b : Bool) => v = .bl b) l₁ (List.replicate n true) → l₁ = (List.replicate n true).map V.bl
  | _, 0, .nil => rfl
  | _, n + 1, .cons r t => by rw [r, paired_bl (n := n) t]; rfl
def IsBl (_ : Hp) (v : V) (b : Bool) : Prop := v = .bl b
theorem stab_bl {D : Addr} : Stab D IsBl := ⟨fun H H' v b l hD e h => h⟩
theorem paired_isbl {H : Hp} : ∀ {l₁ : List V} {l₂ : List Bool}, Paired (IsBl H) l₁ l₂ → l₁ = l₂.map V.bl
  | _, _, .nil => rfl
  | _, _, .cons r t => by rw [show _ = V.bl _ from r, paired_isbl t]; rfl
theorem outs_none {β : Type} (n : Nat) : outs (fun _ => (none : Option β)) n = [] := by
  unfold outs
  induction n with
  | zero => rfl
  | succ n ih => rw [List.range_succ, List.filterMap_append, ih]; rfl
end My
set_option maxHeartbeats 4000000
namespace My
open PySem L2
open Lat
/-- a source of draws -/
def IsBox (H : Hp) (b : Addr) : Prop := ∃ x y z : Int, H b = some (.lst [.int x, .int y, .int z])
theorem SameX.refl {b : Addr} (H : Hp) : SameX b H H := fun _ _ _ e => e
theorem SameX.trans {b : Addr} {H H1 H2 : Hp} (h : SameX b H H1) (k : SameX b H1 H2) : SameX b H H2 := fun c o hc e => k c o hc (h c o hc e)
theorem Same.x {b : Addr} {H H1 : Hp} (h : Same H H1) : SameX b H H1 := fun c o _ e => h c o e
theorem IsBox.same {b : Addr} {H H1 : Hp} (h : IsBox H b) (s : Same H H1) : IsBox H1 b := let ⟨x, y, z, e⟩ := h; ⟨x, y, z, s _ _ e⟩
theorem samex_upd {b : Addr} {H : Hp} {o : HO} : SameX b H (upd H b o) := fun c u hc e => by rw [upd_ne hc]; exact e
theorem samex_new {b a : Addr} {H : Hp} {o : HO} (h : H a = none) : SameX b H (upd H a o) := fun c u _ e => same_upd h c u e
theorem IsRow.x {K : PySem.W.Frag} {b : Addr} {H H1 : Hp} {v : V} {r : List Int} (hb : IsBox H b) (s : SameX b H H1) (h : IsRow K H v r) : IsRow K H1 v r := by
  obtain ⟨x, y, z, e⟩ := hb
  obtain ⟨a, rfl, ha⟩ := h
  exact ⟨a, rfl, seqTX e s ha⟩
theorem stab_box {K : PySem.W.Frag} {b : Addr} {H H1 : Hp} (hb : IsBox H b) (s : SameX b H H1) {xs : List V} {rs : List (List Int)} (h : Paired (IsRow K H) xs rs) : Paired (IsRow K H1) xs rs := Paired.imp (fun _ _ q => q.x hb s) h
/-- a comprehension whose items are drawn -/
theorem lcb {β : Type} {J : It} {n : Nat} {G : Hp → Prop} {Y : Nat → Hp → V → Hp → Prop} (w : Walk J n G Y) {g : TG} {te : TE} {vs : List Nat} {σ : L2.St} {H1 : Hp} {D : Addr} {Qd : Hp → Prop} (b : Addr)
    (R : Hp → V → β → Prop) (SD : Stab D R) (Sb : Stab b R) (Pb : β → Prop) (hn : n ≤ 1000000) (hD : H1 D = none) (hb : IsBox H1 b) (hG : ∀ H, SameX b H1 H → IsBox H b → G H)
    (hs : ∀ i x H H', i < n → SameX b H1 H → IsBox H b → Y i H x H' → ∀ k1 : V → Hp → Prop, (∀ y H4 c, SameX b H H4 → IsBox H4 b → Pb c → R H4 y c → k1 y H4) →
      g x (wipe σ vs) H' fun σ2 H2 => wipe σ2 vs = wipe σ vs ∧ te σ2 H2 k1)
    (hd : ∀ H ys cs, SameX b H1 H → IsBox H b → H D = some (.lst ys) → Paired (R H) ys cs → cs.length = n → (∀ c ∈ cs, Pb c) → Qd H) :
    ∃ W : Nat → Nat → Hp → Prop, (∃ m, W 0 m (upd H1 D (.lst []))) ∧ ∀ i m H, W i m H →
      (J.stop i H ∧ Qd H) ∨ (J.go i H ∧ ∃ Nx : Hp → Prop, (∀ H', Nx H' → ∃ m', m' < m ∧ W (i + 1) m' H') ∧ ∀ x H', J.yld i H x H' → g x (wipe σ vs) H' fun σ2 H2 => wipe σ2 vs = wipe σ vs ∧ tYes σ2 H2 fun b H3 =>
        if b = true then te σ2 H3 fun y H4 => ∃ acc, H4 D = some (.lst acc) ∧ acc.length < sizeLine ∧ Nx (upd H4 D (.lst (acc ++ [y]))) else Nx H3) := by
  have bD : D ≠ b := by
    intro e
    obtain ⟨x, y, z, q⟩ := hb
    rw [← e, hD] at q; cases q
  have keepB : ∀ {H : Hp} {o : HO}, IsBox H b → IsBox (upd H D o) b := fun {H o} ⟨x, y, z, q⟩ => ⟨x, y, z, by rw [upd_ne bD.symm]; exact q⟩
  refine lc_it w (fun i H => SameX b H1 H ∧ IsBox H b ∧ ∃ ys cs, H D = some (.lst ys) ∧ Paired (R H) ys cs ∧ cs.length = i ∧ ∀ c ∈ cs, Pb c) ⟨samex_new hD, keepB hb, [], [], upd_same, .nil, rfl, fun c h => nomatch h⟩ (fun i H _ p => hG H p.1 p.2.1) ?_ (fun H ⟨a, b, ys, cs, c, d, e, f⟩ => hd H ys cs a b c d e f)
  intro i x H H' hi ⟨s1, b1, ys, cs, hy, pr, cl, cp⟩ y
  refine hs i x H H' hi s1 b1 y (fun y H4 => ∃ acc, H4 D = some (.lst acc) ∧ acc.length < sizeLine ∧ (SameX b H1 (upd H4 D (.lst (acc ++ [y]))) ∧ IsBox (upd H4 D (.lst (acc ++ [y]))) b ∧ ∃ ys cs, (upd H4 D (.lst (acc ++ [y]))) D = some (.lst ys) ∧ Paired (R (upd H4 D (.lst (acc ++ [y])))) ys cs ∧ cs.length = i + 1 ∧ ∀ c ∈ cs, Pb c)) (fun v H4 c s4 b4 pc r => ?_)
  · refine ⟨ys, s4 _ _ bD hy, ?_, ?_, keepB b4, ys ++ [v], cs ++ [c], upd_same, ?_, ?_, ?_⟩
    · have := paired_len pr
      rw [sizeLine_eq]; omega
    · intro c o hc e
      rw [upd_ne (ne_of_none e hD)]
      exact s4 _ _ hc (s1 _ _ hc e)
    · have sx4 : SameX D H4 (upd H4 D (.lst (ys ++ [v]))) := fun b o hb e => by rw [upd_ne hb]; exact e
      obtain ⟨x, y', z, q⟩ := b1
      exact Paired.snoc (SD.st H4 _ v c ys (s4 _ _ bD hy) sx4 r) (Paired.imp (fun a b q' => SD.st H4 _ a b ys (s4 _ _ bD hy) sx4 (Sb.st H _ a b _ q s4 q')) pr)
    · rw [List.length_append, cl]; rfl
    · intro d hd'
      rcases List.mem_append.mp hd' with h | h
      · exact cp d h
      · rw [List.mem_singleton.mp h]; exact pc
/-- what holds behind the first of two statements -/
theorem seq_by {t u : TS} {D : Ends} {σ : L2.St} {H : Hp} (I : L2.St → Hp → Prop) (h1 : ∀ N : L2.St → Hp → Prop, (∀ σ' H', I σ' H' → N σ' H') → t { D with nx := N } σ H) (h2 : ∀ σ' H', I σ' H' → u D σ' H') : tSeq t u D σ H := h1 _ h2
theorem box_ne {H : Hp} {b a : Addr} (hb : IsBox H b) (h : H a = none) : a ≠ b := by
  obtain ⟨x, y, z, e⟩ := hb
  intro q
  rw [← q, h] at e; cases e
theorem box_ne' {H : Hp} {b a : Addr} {o : HO} (hb : IsBox H b) (h : H a = some o) (ho : ∀ x y z : Int, o ≠ .lst [.int x, .int y, .int z]) : a ≠ b := by
  obtain ⟨x, y, z, e⟩ := hb
  intro q
  subst q
  rw [h] at e
  exact ho x y z (Option.some.inj e)
end My
set_option maxHeartbeats 4000000
namespace My
open PySem L2
open Lat
/-! rows as data -/
def dRow (r : List Int) : PyData := .tuple (r.map .int)
def dRows (rs : List (List Int)) : List PyData := rs.map dRow
theorem dp_ints {K : PySem.W.Frag} {H : Hp} : ∀ r : List Int, DpAll K H (r.map V.int) (r.map .int)
  | [] => .nil
  | x :: r => .cons (.int x) (dp_ints r)
theorem dp_row {K : PySem.W.Frag} {H : Hp} {v : V} {r : List Int} (h : IsRow K H v r) : Dp K H v (dRow r) := by
  obtain ⟨a, rfl, ha⟩ := h
  exact .tup ha (dp_ints r)
theorem dp_rows {K : PySem.W.Frag} {H : Hp} : ∀ {xs : List V} {rs : List (List Int)}, Paired (IsRow K H) xs rs → DpAll K H xs (dRows rs)
  | _, _, .nil => .nil
  | _, _, .cons r t => .cons (dp_row r) (dp_rows t)
theorem lay_ints : ∀ r : List Int, PyData.canLayAll0 (r.map .int) = true
  | [] => rfl
  | x :: r => by show (true && PyData.canLayAll0 (r.map .int)) = true; rw [lay_ints r]; rfl
theorem depth_ints : ∀ r : List Int, PyData.depthAll (r.map .int) = 0
  | [] => rfl
  | x :: r => by show max 0 (PyData.depthAll (r.map .int)) = 0; rw [depth_ints r]; rfl
theorem lay_rows : ∀ rs : List (List Int), PyData.canLayAll0 (dRows rs) = true
  | [] => rfl
  | r :: rs => by show (PyData.canLayAll0 (r.map .int) && PyData.canLayAll0 (dRows rs)) = true; rw [lay_ints r, lay_rows rs]; rfl
theorem depth_rows : ∀ rs : List (List Int), PyData.depthAll (dRows rs) ≤ 1
  | [] => Nat.zero_le _
  | r :: rs => by
    show max (PyData.depthAll (r.map .int) + 1) (PyData.depthAll (dRows rs)) ≤ 1
    rw [depth_ints r]
    exact Nat.max_le.mpr ⟨Nat.le_refl _, depth_rows rs⟩
theorem shaped_row (r : List Int) : SeqAt.shaped (dRow r) = true := by
  unfold SeqAt.shaped
  rw [Bool.and_eq_true]
  refine ⟨lay_ints r, decide_eq_true ?_⟩
  show PyData.depthAll (r.map .int) + 1 ≤ 64
  rw [depth_ints]; decide
theorem shaped_rows (rs : List (List Int)) : SeqAt.shaped (.list (dRows rs)) = true := by
  unfold SeqAt.shaped
  rw [Bool.and_eq_true]
  refine ⟨lay_rows rs, decide_eq_true ?_⟩
  show PyData.depthAll (dRows rs) + 1 ≤ 64
  have := depth_rows rs
  omega
theorem shaped_rowsT (rs : List (List Int)) : SeqAt.shaped (.tuple (dRows rs)) = true := by
  unfold SeqAt.shaped
  rw [Bool.and_eq_true]
  refine ⟨lay_rows rs, decide_eq_true ?_⟩
  show PyData.depthAll (dRows rs) + 1 ≤ 64
  have := depth_rows rs
  omega
theorem eqv_nil (rs : List (List Int)) : PyData.eqv (.list (dRows rs)) (.list []) = rs.isEmpty := by
  cases rs with
  | nil => rfl
  | cons r rs => rfl
theorem same_x {b : Addr} {H H1 H2 : Hp} (h : Same H H1) (hb : H b = none) (s : SameX b H1 H2) : Same H H2 := fun c o e => s c o (ne_of_none e hb) (h c o e)
/-- sizes -/
theorem gcds_le {M : Nat} : ∀ (l : List Int) (g : Int), g.natAbs ≤ M → (∀ x ∈ l, x.natAbs ≤ M) → (l.foldl (fun g x => (Int.gcd g x : Int)) g).natAbs ≤ M
  | [], g, h, _ => h
  | x :: l, g, h, k => by
    refine gcds_le l _ ?_ fun y hy => k y (List.mem_cons_of_mem _ hy)
    have hx := k x (List.mem_cons_self ..)
    show (Int.gcd g x : Int).natAbs ≤ M
    rw [Int.natAbs_natCast]
    by_cases e : x = 0
    · rw [e, Int.gcd_zero_right]; exact h
    · exact Nat.le_trans (Nat.le_of_dvd (by omega) (Nat.gcd_dvd_right _ _)) hx
theorem val_le {A B : Nat} : ∀ (f r : List Int), (∀ x ∈ f, x.natAbs ≤ A) → (∀ x ∈ r, x.natAbs ≤ B) → (val f r).natAbs ≤ f.length * (A * B)
  | [], r, _, _ => by unfold val; simp
  | x :: f, [], _, _ => by unfold val; simp
  | x :: f, y :: r, h1, h2 => by
    have ih := val_le f r (fun z hz => h1 z (List.mem_cons_of_mem _ hz)) fun z hz => h2 z (List.mem_cons_of_mem _ hz)
    have e : val (x :: f) (y :: r) = x * y + val f r := by unfold val; simp
    rw [e, List.length_cons, Nat.add_mul, Nat.one_mul]
    have m : (x * y).natAbs ≤ A * B := by rw [Int.natAbs_mul]; exact Nat.mul_le_mul (h1 x (List.mem_cons_self ..)) (h2 y (List.mem_cons_self ..))
    omega
theorem val_zeroL (r : List Int) (w : Nat) : val (List.replicate w 0) r = 0 := by
  unfold val
  induction r generalizing w with
  | nil => simp
  | cons x r ih => cases w with
    | zero => simp
    | succ w => simp only [List.replicate_succ, List.zipWith_cons_cons, List.sum_cons, ih w]; simp
theorem gcds_zero {l : List Int} (h : ∀ x ∈ l, x = 0) : gcds l = 0 := Int.zero_dvd.mp (dvd_gcds fun x hx => by rw [h x hx]; exact Int.dvd_refl 0)
theorem Bd.mem {B : Nat} {S : List (List Int)} (h : Bd B S) {r : List Int} (hr : r ∈ S) {x : Int} (hx : x ∈ r) : x.natAbs ≤ B := by
  obtain ⟨i, hi, rfl⟩ := List.getElem_of_mem hx
  have := h r hr i
  unfold at' at this
  rw [List.getElem?_eq_getElem hi] at this
  exact this
end My
set_option maxHeartbeats 4000000
namespace My
open PySem L2
open Lat
def spTake : Sp := fun vs H Q _ => ∃ (b : Addr) (m : Int), vs = [.ref b, .int m] ∧ IsBox H b ∧ 0 < m ∧ m.natAbs.log2 < 9000 ∧ ∀ H' d, SameX b H H' → IsBox H' b → 0 ≤ d → d < m → Q (.int d) H'
theorem fmod_in (x : Int) {m : Int} (h : 0 < m) : 0 ≤ x.fmod m ∧ x.fmod m < m := ⟨Int.fmod_nonneg_of_pos x h, Int.fmod_lt_of_pos x h⟩
theorem take_bits (a c : Int) : -(2 ^ 64) < a.fmod 2147483647 * 2147483647 + (c.fmod 2147483629 + 1) ∧ a.fmod 2147483647 * 2147483647 + (c.fmod 2147483629 + 1) < 2 ^ 64 := by
  have := fmod_in a (m := 2147483647) (by decide)
  have := fmod_in c (m := 2147483629) (by decide)
  omega
theorem y_small (c : Int) : (c.fmod 2147483629 + 1).natAbs < 2 ^ 64 := by
  have := fmod_in c (m := 2147483629) (by decide)
  omega
def spBox (K : PySem.W.Frag) : Sp := fun vs H Q _ => ∃ (a : Addr) (ns : List Int) (k own : Nat), vs = [.ref a, .int (k : Nat), .int (own : Nat)] ∧ SqL K H a (ns.map V.int) ∧ ns.length ≤ 1000 ∧ ∀ H' b, Same H H' → H b = none → IsBox H' b → Q (.ref b) H'
theorem at_modI {ns : List Int} {k : Nat} (h : decide ((0 : Int) < (((ns.map V.int).length : Nat) : Int)) = true) : (((ns.map V.int).length : Nat) : Int) ≠ 0 ∧ atI (ns.map V.int) (Int.fmod ((k : Nat) : Int) (((ns.map V.int).length : Nat) : Int)) = some (V.int (at' ns (k % ns.length))) := by
  have h' : (0 : Int) < (((ns.map V.int).length : Nat) : Int) := of_decide_eq_true h
  rw [List.length_map] at h'
  have hp : 0 < ns.length := by omega
  rw [List.length_map, Int.fmod_eq_emod_of_nonneg _ (by omega), ← Int.natCast_emod]
  exact ⟨by omega, atI_nat (at_map (Nat.mod_lt k hp))⟩
theorem box_item {c : Int} {q : Prop} [Decidable q] : atI [V.int 0, V.int c] (if decide q = true then 1 else 0) = some (V.int (if q then c else 0)) := by
  by_cases h : q
  · simp only [h, decide_true, if_true]; exact atI_nat (j := 1) rfl
  · simp only [h, decide_false, if_false, Bool.false_eq_true]; exact atI_nat (j := 0) rfl
end My
namespace Pu
open PySem L2
/-! ### draws, by values -/
def mTake : List PV → T PExc PV
  | [.box, .int n] => if 0 < n ∧ n.natAbs.log2 < 9000 then .ch n.toNat fun i => .ret (.int i) else .bad
  | _ => .bad
def ints? : List PV → Option (List Int)
  | [] => some []
  | .int i :: r => (ints? r).map (i :: ·)
  | _ => none
def mBox : List PV → T PExc PV
  | [.lst xs, .int k, .int own] => if (ints? xs).isSome = true ∧ xs.length ≤ 1000 ∧ 0 ≤ k ∧ 0 ≤ own then .ret .box else .bad
  | _ => .bad
section
variable {P : Program} {w : World} {K : PySem.W.Frag} {mg : Str → Option Value} {base : Heap} {D : Wd}
theorem FnOk.cx0 {k : Nat} {f : Addr} {fd : FuncData} {ps : List Str} {sp sp' : Sp} (F : FnOk P w K mg base CX0 k f fd ps sp) (h : ∀ vs H Q E, sp' vs H Q E → sp vs H Q E) : FnOk P w K mg base (L2.CX P w) k f fd ps sp' := by
  refine ⟨fun vs H Q E q => F.len vs H Q E (h _ _ _ _ q), fun A outer s H args us vs Q E hr he hb hv hs => ?_⟩
  refine codeAny_mono (F.run A outer s H args us vs Q E hr he hb hv (h _ _ _ _ hs)) ?_
  intro r s' z
  cases r with
  | ok f => cases f <;> exact z
  | error e => exact z.elim
theorem step_box {M : Mx} {H H' : Hp} {b : Addr} (R : Rel D M [] H) (hr : M.ρ = []) (hb : b ∈ M.β) (nt : ∀ q, (b, q) ∉ D.tb) (s : My.SameX b H H') (q : My.IsBox H' b) : Step M H M H' ∧ Rel D M [] H' := by
  have there : ∀ a o, H a = some o → ∃ o', H' a = some o' := fun a o e => by
    by_cases h : a = b
    · subst h; obtain ⟨x, y, z, e'⟩ := q; exact ⟨_, e'⟩
    · exact ⟨o, s a o h e⟩
  refine ⟨⟨⟨[], by simp, by simp⟩, ⟨[], by simp, by simp⟩, ⟨fun _ h => h, fun _ h => .inl h⟩, fun a o e h1 h2 => s a o (fun z => h2 (z ▸ hb)) e, there, rfl⟩, ?_⟩
  refine ⟨R.nd, R.dj, R.len, fun i a o h => (by rw [hr] at h; simp at h), fun c hc => ?_, fun a ha => ?_, R.fd, R.hx, R.tb⟩
  · by_cases h : c = b
    · subst h; obtain ⟨x, y, z, e⟩ := q; exact .inl ⟨nt, x, y, z, e⟩
    · rcases R.bx c hc with ⟨n, x, y, z, e⟩ | ⟨m, g⟩
      · exact .inl ⟨n, x, y, z, s c _ h e⟩
      · refine .inr ⟨m, fun q hq => ?_⟩
        obtain ⟨ps, e, t, f⟩ := g q hq
        refine ⟨ps, s c _ h e, t, fun pos cv hc => ?_⟩
        obtain ⟨c', e1, e2, e3⟩ := f pos cv hc
        exact ⟨c', e1, e2, s c' _ (fun z => e2.2.1 (z ▸ hb)) e3⟩
  · obtain ⟨o, e⟩ := R.fr a ha
    exact there a o e
theorem take_P {vs : List V} {H : Hp} {Q : VK} {E : XK} (h : spP D 2 mTake vs H Q E) : My.spTake vs H Q E := by
  obtain ⟨M, args, hr, hx, R, ra, hl, h⟩ := h
  unfold mTake at h
  split at h
  · rename_i n
    cases ra with | cons r1 ra => cases ra with | cons r2 ra =>
      cases ra
      cases r1 with | box hb nt =>
        cases r2
        split at h
        · rename_i hn
          obtain ⟨x, y, z, e⟩ := (R.bx _ hb).draws nt
          refine ⟨_, n, rfl, ⟨x, y, z, e⟩, hn.1, hn.2, fun H' d s q d1 d2 => ?_⟩
          obtain ⟨s1, R1⟩ := step_box R hr hb nt s q
          obtain ⟨k, rfl⟩ := Int.eq_ofNat_of_zero_le d1
          exact h k (by omega) (.int k) H' M hr s1 R1 (.int _)
        · exact h.elim
  · exact h.elim
theorem ints_reps {M : Mx} {H : Hp} : ∀ {vs : List V} {xs : List PV} {ns : List Int}, Reps D M H vs xs → ints? xs = some ns → vs = ns.map V.int ∧ ns.length = xs.length
  | _, _, _, .nil, e => by cases e; exact ⟨rfl, rfl⟩
  | _, _, ns, .cons (p := p) (ps := ps) r rs, e => by
    cases p with
    | int i =>
      simp only [ints?] at e
      cases h : ints? ps with
      | none => rw [h] at e; cases e
      | some m =>
        rw [h] at e
        cases e
        obtain ⟨e1, e2⟩ := ints_reps rs h
        cases r
        exact ⟨by rw [e1]; rfl, by simp [e2]⟩
    | _ => simp [ints?] at e
theorem box_P {vs : List V} {H : Hp} {Q : VK} {E : XK} (h : spP D 3 mBox vs H Q E) : My.spBox D.K vs H Q E := by
  obtain ⟨M, args, hr, hx, R, ra, hl, h⟩ := h
  unfold mBox at h
  split at h
  · rename_i xs k own
    cases ra with | cons r1 ra => cases ra with | cons r2 ra => cases ra with | cons r3 ra =>
      cases ra
      cases r2
      cases r3
      cases r1 with | lst hF rs =>
        split at h
        · rename_i hn
          obtain ⟨h1, h2, h3, h4⟩ := hn
          obtain ⟨ns, e⟩ := Option.isSome_iff_exists.mp h1
          obtain ⟨e1, e2⟩ := ints_reps rs e
          obtain ⟨k, rfl⟩ := Int.eq_ofNat_of_zero_le h3
          obtain ⟨own, rfl⟩ := Int.eq_ofNat_of_zero_le h4
          refine ⟨_, ns, k, own, rfl, e1 ▸ hF.sq, by omega, fun H' b s hb q => ?_⟩
          have ob := R.free hb
          have nb : ∀ q, (b, q) ∉ D.tb := fun q z => by obtain ⟨u, e⟩ := (R.bx b (R.tb _ z)).is; rw [hb] at e; cases e
          have s0 := R.step s
          refine h (.ref b) H' { M with β := M.β ++ [b] } hr ?_ ?_ (.box (List.mem_append_right _ (List.mem_singleton.mpr rfl)) nb)
          · exact ⟨⟨[], by simp, by simp⟩, ⟨[b], rfl, fun a ha => by rw [List.mem_singleton.mp ha]; exact hb⟩, ⟨fun _ h => h, fun _ h => .inl h⟩, fun a o e _ _ => s a o e, fun a o e => ⟨o, s a o e⟩, rfl⟩
          · refine ⟨R.nd, fun a ha => (by rw [show M.ρ = [] from hr] at ha; cases ha), R.len, fun i a o h => (by rw [show M.ρ = [] from hr] at h; simp at h), fun c hc => ?_, fun a ha => ?_, fun a ha => ⟨(R.fd a ha).1, fun z => ?_⟩, R.hx, fun p hp => List.mem_append_left _ (R.tb p hp)⟩
            · rcases List.mem_append.mp hc with hc | hc
              · rcases s0.2.bx c hc with e | ⟨m, g⟩
                · exact .inl e
                · refine .inr ⟨m, fun q hq => ?_⟩
                  obtain ⟨ps, e, t, f⟩ := g q hq
                  refine ⟨ps, e, t, fun pos cv hc => ?_⟩
                  obtain ⟨c', e1, e2, e3⟩ := f pos cv hc
                  refine ⟨c', e1, ⟨e2.1, fun z => (List.mem_append.mp z).elim e2.2.1 fun z => ?_, e2.2.2⟩, e3⟩
                  rw [List.mem_singleton.mp z] at e3
                  obtain ⟨x, y, w, e4⟩ := ‹My.IsBox H' b›
                  rw [e4] at e3
                  cases e3
              · rw [List.mem_singleton.mp hc]; obtain ⟨x, y, z, e⟩ := q; exact .inl ⟨nb, x, y, z, e⟩
            · obtain ⟨o, e⟩ := R.fr a ha
              exact ⟨o, s a o e⟩
            · rcases List.mem_append.mp z with z | z
              · exact (R.fd a ha).2 z
              · exact ob.2.2 (List.mem_singleton.mp z ▸ ha)
        · exact h.elim
  · exact h.elim
end
end Pu
set_option maxHeartbeats 4000000
namespace Pu
open PySem L2 PyProof.Rows
/-! ### the exception at hand -/
section
variable {prog : Program} {w : World} {A : Around} {E : Value → Shared → Prop} {s : Shared} {K : PySem.W.Frag} {x D : Addr} {ox : Obj} {od : Option Obj}
theorem findX {name : Str} {a g : Value} (hc : (PySem.W.clsIn K D).isSome = true) (ha : PySem.W.findIn K (.ref D) name = some (some a)) (hg : PySem.W.specialIn K a "__get__" = some (some g)) (ht : PySem.W.takesIn K a = some true) : PySem.W.findObj K D od name = some (.bind g a) := by
  obtain ⟨cd, e⟩ := Option.isSome_iff_exists.mp hc
  simp [PySem.W.findObj, e, ha, hg, ht]
theorem classX {Q : Option Value → Shared → Prop} (T : ExcC K D) (kin : K.In s.heap) (I : PySem.W.InstAt s.heap x ox D od) (h : Q (some (.ref D)) { s with toks := s.toks + 1 }) : wpAny (model prog w) A (getAttr? (.ref x) "__class__") Q E s := by
  have hf : PySem.W.findObj K D od "__class__" = some (.bind (.builtin "getset_descriptor.__get__") (.builtin "object.__class__")) := findX (by obtain ⟨cd, e, _⟩ := PySem.W.any_some T.hd; rw [e]; rfl) T.ha T.hn T.ht
  obtain ⟨hp, g, d, t, os⟩ := s
  have kt := I.type (M := model prog w)
  have k1 := PySem.W.looks_findIn (M := model prog w) kin T.hg
  have k2 := PySem.W.looks_findIn (M := model prog w) kin T.hk
  have k3 := PySem.W.looks_find (M := model prog w) kin I hf
  have sub : PySem.W.Looks (model prog w) hp (isInstance (.ref x) (.type "BaseException")) true := kt.andThen (PySem.W.looks_subIn kin T.hs)
  have z0 : (false && onTheHeap (Value.builtin "BaseException.__getattribute__")) = false := rfl
  have z1 : (onTheHeap (Value.ref D) && Value.builtin "BaseException.__getattribute__" == Value.builtin "object.__getattribute__") = false := (congrArg (onTheHeap (Value.ref D) && ·) (show (Value.builtin "BaseException.__getattribute__" == Value.builtin "object.__getattribute__") = false by decide +kernel))
  unfold getAttr? getAttrBy? getAttrBy
  refine wpAny_bind (wpAny_mkText (wpAny_bind (wpAny_attempt (wpAny_holding (wpAny_bind (kt.at (wpAny_bind (k1.at ?_))))))))
  show wpAny _ _ (if (onTheHeap (Value.ref D) && Value.builtin "BaseException.__getattribute__" == Value.builtin "object.__getattribute__") = true then _ else _) _ _ _
  rw [z1, if_neg Bool.false_ne_true]
  unfold getAttrByItsOwn hookBefore callGetattribute
  refine wpAny_bind ?_
  rw [if_pos (show onTheHeap (Value.ref D) = true from rfl)]
  refine k2.at (wpAny_bind (wpAny_attempt (wpAny_holding ?_)))
  rw [z0, if_neg Bool.false_ne_true]
  unfold boundAndCalled
  rw [PySem.F.excAttr_ValueError.ga.bind (.ref x)]
  refine wpAny_bind (wpAny_pure (?_ : wpAny _ _ (call (.builtin "BaseException.__getattribute__") [.ref x, .str "__class__" t]) _ _ _))
  refine wpAny_call (codeAny_call_builtin PySem.F.excAttr_ValueError.ga.plain PySem.F.entry_bexc_ga (@PySem.W.check_slot (model prog w) _ _ ⟨hp, g, d, t + 1, os⟩ "BaseException.__getattribute__" "BaseException" "__getattribute__" (.ref x) [.str "__class__" t] [] _ (by decide +kernel) (by decide +kernel) sub (PySem.F.args_bexc_ga (.ref x) (.str "__class__" t)) ?_))
  unfold Builtin.«object.__getattribute__»
  refine wpAny_bind (wpAny_of_eq (a := ((Value.ref x : Value), [Value.str "__class__" t])) (by first | rfl | (simp only [slotArgs]; rfl)) (wpAny_bind (wpAny_pure (wpAny_bind (kt.at (wpAny_bind (k3.at ?_)))))))
  show wpAny _ _ (holding [Value.builtin "object.__class__"] (call (.builtin "getset_descriptor.__get__") [.builtin "object.__class__", .ref x, .ref D]) >>= ret) _ _ _
  refine wpAny_bind (wpAny_holding (wpAny_call (PySem.W.class_get (s := ⟨hp, g, d, t + 1, os⟩) (ox := ox) (od := od) kin I T.hm (wpAny_pure ?_))))
  show wpAny _ _ (handedOut (.ref D)) _ _ _
  rw [PySem.W.handedOut_of (v := .ref D) rfl]
  first
    | exact wpAny_pure (wpAny_pure h)
    | exact wpAny_pure h
    | exact wpAny_pure (wpAny_bind (wpAny_pure (wpAny_pure h)))
theorem kitE (T : ExcC K D) : PySem.W.KitX K (.ref x) (.ref D) (fun h => PySem.W.InstAt h x ox D od) := by
  obtain ⟨cd, hc, _⟩ := PySem.W.any_some T.hd
  unfold PySem.W.clsIn at hc
  split at hc
  · rename_i c' d' cd' sl' ho
    refine ⟨fun _ _ _ I => I.type, fun _ _ kin _ A' Q' E' s' k q => ?_, fun h tp dd its n sl kin htp => ?_, fun kin I k => classX T kin I k⟩
    · unfold isType loadHead
      exact wpAny_bind (wpAny_loadPart (k _ _ (kin _ _ ho)) (wpAny_pure q))
    · refine Bool.eq_false_iff.mpr fun q => ?_
      obtain rfl : D = tp := Value.ref.inj (beq_iff_eq.mp q)
      cases (kin _ _ ho).symm.trans htp
  · cases hc
end

/-- what the classes of the errors xs and the codes ss say -/
structure XcC (D : Wd) (sub : Nat → Nat → Bool) (xs ss : List Nat) : Prop where
  ex : ∀ c ∈ xs, ∀ nm C, D.cn[c]? = some nm → D.mg nm = some (.ref C) → ExcC D.K C
  kit : ∀ c ∈ xs, ∀ s ∈ ss, ∀ nm C w, D.cn[c]? = some nm → D.mg nm = some (.ref C) → CodeV D s w → PySem.W.kitOne D.K (.ref C) w = some (isaN sub (16 + c) s)
theorem XcC.sub {D : Wd} {sub : Nat → Nat → Bool} {xs ss ss' : List Nat} (h : XcC D sub xs ss) (e : ss'.all (fun s => ss.contains s) = true) : XcC D sub xs ss' :=
  ⟨h.ex, fun c hc s b nm C w => h.kit c hc s (by have := List.all_eq_true.mp e s b; simpa using this) nm C w⟩
theorem XcC.at {D : Wd} {sub : Nat → Nat → Bool} {xs ss : List Nat} {q : Option (Addr × Addr × Option Addr)} (h : XcC D sub xs ss) : XcC (D.at q) sub xs ss := ⟨h.ex, h.kit⟩
def XfA (D : Wd) (xs : List Nat) (f : Str) : Prop := ∀ c ∈ xs, ∀ nm C, D.cn[c]? = some nm → D.mg nm = some (.ref C) → XfC D.K C ∧ PySem.W.findIn D.K (.ref C) f = some none
theorem XfA.at {D : Wd} {xs : List Nat} {f : Str} {q : Option (Addr × Addr × Option Addr)} (h : XfA D xs f) : XfA (D.at q) xs f := h
def eIsX (sub : Nat → Nat → Bool) (xs ss : List Nat) (a : EM) : EM := fun σ st => (a σ st).bind fun r => match r.1 with
  | .exc c _ => if xs.contains c = true then .ret (.pv (.bl (ss.any (isaN sub (16 + c)))), r.2) else .bad
  | _ => .bad
def eXf (xs : List Nat) (n : Nat) (a : EM) : EM := fun σ st => (a σ st).bind fun r => match r.1 with
  | .exc c fs => if xs.contains c = true then (match fs.lookup n with
      | some p => .ret (.pv p, r.2)
      | none => .bad) else .bad
  | _ => .bad
section
variable {X : Cx} {D : Wd} {W : WX} {a C : Addr} {d : Option Addr} {oe : Obj} {pn : List (Addr × Obj)} {sub : Nat → Nat → Bool} {xs ss : List Nat} {e ce : Expr} {m : EM} {p pos : Pos} {s n : Nat} {f : Str}
theorem suite_inst {pins : List (Addr × Obj)} {σ : L2.St} {H : Hp} {s : Shared} (I : Inv (X.suite a ((a, oe) :: pn)) pins σ H s) (hz : Zc (.ref C) d oe) (hf : ∃ vs, oe.data = .fields vs) (hd : ∀ dx, d = some dx → ∃ vs, H dx = some (.xd vs)) : ∃ od, PySem.W.InstAt s.heap a oe C od := by
  obtain ⟨hget, _⟩ := I.pin (a, oe) (List.mem_append.mpr (.inl List.mem_cons_self))
  obtain ⟨vs, hv⟩ := hf
  have nc : PySem.W.notCls oe = true := by unfold PySem.W.notCls; rw [hv] <;> rfl
  cases d with
  | none => exact ⟨none, hget, hz.1, nc, by rw [hz.2]; trivial⟩
  | some dx =>
    obtain ⟨fs, ha⟩ := hd dx rfl
    have hx : ObjOk X.prog X.w H s.heap dx (.xd fs) := I.hok dx _ ha
    obtain ⟨mA, hns, hr⟩ := hx
    obtain ⟨od, ho, hl⟩ := lookIn_ns hns
    exact ⟨some od, hget, hz.1, nc, by rw [hz.2]; exact ho⟩
def rIsA (K : PySem.W.Frag) (a C : Addr) (d : Option Addr) : List V → Hp → VK → Prop := fun xs H Q => ∃ (c : V) (cv : Value) (b : Bool), xs = [.ref a, c] ∧ ExcC K C ∧ (∀ dx, d = some dx → ∃ vs, H dx = some (.xd vs)) ∧ ClsV c cv ∧ PySem.W.kitOne K (.ref C) cv = some b ∧ Q (.bl b) H
theorem call_isA (hz : Zc (.ref C) d oe) (hf : ∃ vs, oe.data = .fields vs) : CallR (X.suite a ((a, oe) :: pn)) (.builtin "isinstance") (rIsA X.K a C d) := by
  intro pins s σ H ys us Q I r h
  obtain ⟨c, cv, b, rfl, T, hd, k, e, q⟩ := h
  obtain ⟨u1, u2, rfl, r1, r2⟩ := vals2 r
  cases (show u1 = Value.ref a from r1)
  have e2 := k.eq r2
  subst e2
  obtain ⟨od, J⟩ := suite_inst I hz hf hd
  exact PySem.W.kia_one (kitE T) I.kIn J e (fun z => nomatch z) fun tk => ⟨.bl b, H, I.tok tk, rfl, q⟩
def rIsAT (K : PySem.W.Frag) (a C : Addr) (d : Option Addr) : List V → Hp → VK → Prop := fun xs H Q => ∃ (tp : Addr) (cs : List V) (ws : List Value) (b : Bool), xs = [.ref a, .ref tp] ∧ H tp = some (.tup cs) ∧ ExcC K C ∧ (∀ dx, d = some dx → ∃ vs, H dx = some (.xd vs)) ∧ Paired ClsV cs ws ∧ PySem.W.kitAny K (.ref C) ws = some b ∧ Q (.bl b) H
theorem call_isAT (hz : Zc (.ref C) d oe) (hf : ∃ vs, oe.data = .fields vs) : CallR (X.suite a ((a, oe) :: pn)) (.builtin "isinstance") (rIsAT X.K a C d) := by
  intro pins s σ H ys us Q I r h
  obtain ⟨tp, cs, ws, b, rfl, hT, T, hd, k, e, q⟩ := h
  obtain ⟨u1, u2, rfl, r1, r2⟩ := vals2 r
  cases (show u1 = Value.ref a from r1)
  cases (show u2 = Value.ref tp from r2)
  obtain ⟨od, J⟩ := suite_inst I hz hf hd
  obtain ⟨_, its, rv, o, h1, h2, n, h3⟩ := (show ObjOk X.prog X.w H s.heap tp (.tup cs) from I.hok tp _ hT)
  have e3 := ClsV.all k rv
  subst e3
  obtain ⟨oc, od, dt, sl⟩ := o
  simp only at h2 h3
  subst h2 h3
  exact PySem.W.kia_tup (kitE T) I.kIn J h1 e (fun z => nomatch z) fun tk => ⟨.bl b, H, I.tok tk, rfl, q⟩
/-- the exception that a token means is the one at hand -/
theorem exc_is {M : Mx} {H : Hp} {st : S} {v : V} {c : Nat} {fs : List (Nat × PV)} (hD : D.xi = some (a, C, d)) (R : Rel D M st H) (h : RRep D M H v (.exc c fs)) : v = .ref a ∧ (∃ nm, D.cn[c]? = some nm ∧ D.mg nm = some (.ref C)) ∧ (∀ dx, d = some dx → ∃ vs, H dx = some (.xd vs) ∧ Repf D M H vs fs) ∧ (d = none → fs = []) := by
  obtain ⟨a', C', nm, d', rfl, e, h1, h2, h3⟩ := h
  have : M.ξ = D.xi := R.hx.elim (fun z => by rw [z] at e; cases e) id
  rw [this, hD] at e
  cases e
  refine ⟨rfl, ⟨nm, h1, h2⟩, fun dx z => ?_, fun z => ?_⟩
  · subst z; obtain ⟨vs, k1, _, k2⟩ := h3; exact ⟨vs, k1, k2⟩
  · subst z; exact h3
theorem q_isX (hz : Zc (.ref C) d oe) (hf : ∃ vs, oe.data = .fields vs) (hK : X.K = D.K) (hD : D.xi = some (a, C, d)) (I : XcC D sub xs [s]) (c : ClsE (X.suite a ((a, oe) :: pn)) D ce s) (hg : Gl (X.suite a ((a, oe) :: pn)) "isinstance") (hm : X.mg "isinstance" = none) (ha : PE (X.suite a ((a, oe) :: pn)) e (lift D W m)) (hs1 : starEach [e, ce] X.env = (false, eval e X.env) :: starEach [ce] X.env := by rfl) (hs2 : starEach [ce] X.env = (false, eval ce X.env) :: starEach [] X.env := by rfl) (hpl : (backTo pos (starEach [ce] X.env)).any (·.1) = false := by rfl) :
    PE (X.suite a ((a, oe) :: pn)) (.Call (.Name "isinstance" p) [e, ce] [] pos) (lift D W (eIsX sub xs [s] m)) := by
  obtain ⟨cv, u, h1, h2, h3⟩ := c.ex
  refine pe_imp (pe_callB (call_isA (X := X) hz hf) hg hm (by decide +kernel) (pa_cons ha (pa_cons h1 pa_nil hs2) hs1) (by decide) (by decide) hs1 hpl) fun σ H Q h => ?_
  obtain ⟨M, sl, st, R, S, h⟩ := h
  refine ⟨M, sl, st, R, S, (Wp.bind h).mono fun r st1 M1 H1 s1 R1 h1 v hv => ?_⟩
  dsimp only at h1
  cases r with
  | pv _ => exact h1.elim
  | loc _ => exact h1.elim
  | exc cc fs =>
    dsimp only at h1
    split at h1
    · rename_i hc
      obtain ⟨rfl, ⟨nm, k1, k2⟩, k3, _⟩ := exc_is hD R1 hv
      have hc' : cc ∈ xs := by simpa using hc
      refine ⟨cv, u, _, rfl, by rw [hK]; exact I.ex cc hc' nm C k1 k2, fun dx z => let ⟨vs, q, _⟩ := k3 dx z; ⟨vs, q⟩, h2, by rw [hK]; exact I.kit cc hc' s (by simp) nm C u k1 k2 h3, ?_⟩
      have := h1 H1 M1 .refl R1 _ (.bl _)
      simpa using this
    · exact h1.elim
theorem kitAny_x {c : Nat} {u : Value} : ∀ {ss : List Nat} {us : List Value}, (∀ s ∈ ss, ∀ w, CodeV D s w → PySem.W.kitOne D.K u w = some (isaN sub (16 + c) s)) → Paired (CodeV D) ss us → PySem.W.kitAny D.K u us = some (ss.any (isaN sub (16 + c))) := kitAny_of
theorem q_isXT {es : List Expr} {k : Nat} {tpos : Pos} (hz : Zc (.ref C) d oe) (hf : ∃ vs, oe.data = .fields vs) (hK : X.K = D.K) (hD : D.xi = some (a, C, d)) (I : XcC D sub xs ss) (c : ClsEs (X.suite a ((a, oe) :: pn)) D es ss) (hl : es.length ≤ 100) (hg : Gl (X.suite a ((a, oe) :: pn)) "isinstance") (hm : X.mg "isinstance" = none) (ha : PE (X.suite a ((a, oe) :: pn)) e (lift D W m)) (hs1 : starEach [e, .Tuple es k tpos] X.env = (false, eval e X.env) :: starEach [.Tuple es k tpos] X.env := by rfl) (hs2 : starEach [.Tuple es k tpos] X.env = (false, eval (.Tuple es k tpos) X.env) :: starEach [] X.env := by rfl) (hpl : (backTo pos (starEach [.Tuple es k tpos] X.env)).any (·.1) = false := by rfl) :
    PE (X.suite a ((a, oe) :: pn)) (.Call (.Name "isinstance" p) [e, .Tuple es k tpos] [] pos) (lift D W (eIsX sub xs ss m)) := by
  obtain ⟨vs, us, h1, h2, h3, h4⟩ := c.pa
  refine pe_imp (pe_callB (call_isAT (X := X) hz hf) hg hm (by decide +kernel) (pa_cons ha (pa_cons (pe_tup h1) pa_nil hs2) hs1) (by decide) (by decide) hs1 hpl) fun σ H Q h => ?_
  obtain ⟨M, sl, st, R, S, h⟩ := h
  refine ⟨M, sl, st, R, S, (Wp.bind h).mono fun r st1 M1 H1 s1 R1 h1 v hv => ⟨by rw [h4, sizeLine_eq]; omega, fun q hq => ?_⟩⟩
  have gr : Gr H1 (upd H1 q (.tup vs)) := Gr.laid hq
  obtain ⟨s2, R2⟩ := R1.step gr
  have h1 := Wp.from s2 h1
  dsimp only at h1
  cases r with
  | pv _ => exact h1.elim
  | loc _ => exact h1.elim
  | exc cc fs =>
    dsimp only at h1
    split at h1
    · rename_i hc
      obtain ⟨rfl, ⟨nm, k1, k2⟩, k3, _⟩ := exc_is hD R2 (hv.step s2)
      have hc' : cc ∈ xs := by simpa using hc
      exact ⟨q, vs, us, _, rfl, upd_same, by rw [hK]; exact I.ex cc hc' nm C k1 k2, fun dx z => let ⟨vs, q, _⟩ := k3 dx z; ⟨vs, q⟩, h2, by rw [hK]; exact kitAny_of (fun s hs w hw => I.kit cc hc' s hs nm C w k1 k2 hw) h3, h1 _ M1 .refl R2 _ (.bl _)⟩
    · exact h1.elim
def tXg (K : PySem.W.Frag) (a C : Addr) (d : Option Addr) (f : Str) (te : TE) : TE := fun σ H Q => te σ H fun x H1 => x = .ref a ∧ XfC K C ∧ PySem.W.findIn K (.ref C) f = some none ∧ ∃ (dd : Addr) (fs : List (Str × V)) (v : V), d = some dd ∧ H1 dd = some (.xd fs) ∧ fs.lookup f = some v ∧ Q v H1
theorem pe_xg {te : TE} (hz : Zc (.ref C) d oe) (hf : ∃ vs, oe.data = .fields vs) (he : PE (X.suite a ((a, oe) :: pn)) e te) (hb : attributeBase e f X.env (eval e X.env) = eval e X.env := by rfl) :
    PE (X.suite a ((a, oe) :: pn)) (.Attribute e f pos) (tXg X.K a C d f te) := by
  refine ⟨fun pins s σ H Q I h => attr_of hb (thn (he.run pins s σ H _ I h) fun u s1 hh => ?_)⟩
  obtain ⟨x, H1, I1, rx, ex, T, hno, dd, fs, v, ed, ea, l, q⟩ := hh
  subst ex ed
  obtain rfl : u = Value.ref a := rx
  obtain ⟨hg, _⟩ := I1.pin (a, oe) (List.mem_append_left _ List.mem_cons_self)
  obtain ⟨mA, hns, hr⟩ := (show ObjOk X.prog X.w H1 s1.heap dd (.xd fs) from I1.hok dd _ ea)
  obtain ⟨od, ho, hl⟩ := lookIn_ns hns
  obtain ⟨w, hu, ru⟩ := RelO.some_of (v := v) (o := mA f) (by rw [← l]; exact hr f)
  obtain ⟨vs, hv⟩ := hf
  exact HandSPX.exc_get I1.kIn (⟨hg, hz.1, by unfold PySem.W.notCls; rw [hv] <;> rfl, by rw [hz.2]; exact ho⟩ : PySem.W.InstAt s1.heap a oe C (some od)) T.ga T.gg T.exC (PySem.W.findObj_own T.hdC hno rfl (by rw [hl, hu])) (handed_of ru) ⟨v, H1, I1.tok _, ru, q⟩
/-- e.f of the exception at hand -/
theorem q_xf (hz : Zc (.ref C) d oe) (hf : ∃ vs, oe.data = .fields vs) (hK : X.K = D.K) (hD : D.xi = some (a, C, d)) (nd : D.an.Nodup) (hn : D.an[n]? = some f) (hA : XfA D xs f) (ha : PE (X.suite a ((a, oe) :: pn)) e (lift D W m)) (hb : attributeBase e f X.env (eval e X.env) = eval e X.env := by rfl) : PE (X.suite a ((a, oe) :: pn)) (.Attribute e f pos) (lift D W (eXf xs n m)) := by
  refine pe_imp (pe_xg (X := X) hz hf ha hb) fun σ H Q h => ?_
  obtain ⟨M, sl, st, R, S, h⟩ := h
  refine ⟨M, sl, st, R, S, (Wp.bind h).mono fun r st1 M1 H1 s1 R1 h1 v hv => ?_⟩
  dsimp only at h1
  cases r with
  | pv _ => exact h1.elim
  | loc _ => exact h1.elim
  | exc cc fs =>
    dsimp only at h1
    split at h1
    · rename_i hc
      obtain ⟨rfl, ⟨nm, k1, k2⟩, k3, k4⟩ := exc_is hD R1 hv
      have hc' : cc ∈ xs := by simpa using hc
      cases el : fs.lookup n with
      | none => rw [el] at h1; exact h1.elim
      | some p =>
        rw [el] at h1
        cases d with
        | none => rw [k4 rfl] at el; cases el
        | some dx =>
          obtain ⟨vs, j1, j2⟩ := k3 dx rfl
          obtain ⟨w, j3, j4⟩ := lookup_repf nd hn j2 el
          exact ⟨rfl, by rw [hK]; exact (hA cc hc' nm C k1 k2).1, by rw [hK]; exact (hA cc hc' nm C k1 k2).2, dx, vs, w, rfl, j1, j3, h1 H1 M1 .refl R1 _ j4⟩
    · exact h1.elim
end
end Pu
namespace Pu
open PySem L2
/-- an except clause: which classes it takes, which it lets pass -/
structure ExmC (D : Wd) (x : Str) (B : Addr) (cs no : List Nat) : Prop where
  g : D.mg x = some (.ref B)
  yes : ∀ c ∈ cs, ∀ nm C, D.cn[c]? = some nm → D.mg nm = some (.ref C) → PySem.W.exmOne D.K (.ref C) (.ref B) = some true
  no : ∀ c ∈ no, ∀ nm C, D.cn[c]? = some nm → D.mg nm = some (.ref C) → PySem.W.exmOne D.K (.ref C) (.ref B) = some false
end Pu
set_option maxHeartbeats 4000000
namespace Pu
open PySem L2 PyProof.Rows
/-! ### {**d, k: v} -/
section
variable {prog : Program} {w : World} {A : Around} {E : Value → Shared → Prop} {s : Shared}
theorem put_pairs {d : Addr} {xs : List (Key × Value)} {k : Key} {ky v : Value} {Q : Unit → Shared → Prop} (hk : (mixKind prog w).is k ky = true) (hm : s.heap.DictOf (mixKind prog w) d xs) (hz : xs.length ≤ sizeLine)
    (q : ∀ h', h'.DictOf (mixKind prog w) d (stored xs k v) → Heap.SameBut d s.heap h' → Q () { s with heap := h' }) : wpAny (model prog w) A (dictPut d ((mixKind prog w).hash k) ky v) Q E s := by
  obtain ⟨o, es, ep, h1, h2, h3, h4, h5, h6⟩ := hm
  have le : es.size ≤ sizeLine := by
    have a := h5.length
    simp at a
    omega
  have ix : (es.findIdx? fun e => (mixKind prog w).is k e.key) = xs.findIdx? fun kv => decide (kv.1 = k) := by
    rw [← h5.findIdx k]
    obtain ⟨l⟩ := es
    simp
  unfold dictPut
  refine wpAny_bind (wpAny_dictFind_of hk h1 h3 h4 ?_)
  cases hi : es.findIdx? fun e => (mixKind prog w).is k e.key with
  | some i =>
    have an := any_of_findIdx_some (ix ▸ hi)
    refine wpAny_updateDict h1 h3 (q _ ⟨_, _, ep, Heap.get?_update_self _ h1 (Obj.isFreed_of_dict (Obj.data_mapDict h3 _)), h2.mapDict _, Obj.data_mapDict h3 _, h4.modify _ _, ?_, ?_⟩ (Heap.SameBut.update ..))
    · have l2 : (es.toList.findIdx? fun e => (mixKind prog w).is k e.key) = some i := by
        rw [← hi]
        obtain ⟨l⟩ := es
        simp
      have z := h5.modify h6 l2 v
      rw [stored, if_pos an]
      obtain ⟨l⟩ := es
      simpa using z
    · rw [stored, if_pos an, keys_map_store]
      exact h6
  | none =>
    have nm : k ∉ xs.map (·.1) := not_mem_of_findIdx_none (ix ▸ hi)
    have na : ¬ (xs.any fun kv => decide (kv.1 = k)) = true := fun z => by
      obtain ⟨kv, a, b⟩ := List.any_eq_true.mp z
      exact nm (List.mem_map.mpr ⟨kv, a, of_decide_eq_true b⟩)
    refine wpAny_updateDictKeys (hz := le) h1 h3 (q _ ⟨_, _, ep + 1, Heap.get?_update_self _ h1 (Obj.isFreed_of_dict (Obj.data_mapDictKeys h3 _)), h2.mapDictKeys _, Obj.data_mapDictKeys h3 _, h4.push hk _, ?_, ?_⟩ (Heap.SameBut.update ..))
    · have z := h5.append hk ((mixKind prog w).hash k) v
      rw [stored, if_neg na]
      obtain ⟨l⟩ := es
      simpa using z
    · rw [stored, if_neg na, List.map_append, List.nodup_append]
      refine ⟨h6, by simp, fun a ha b hb => ?_⟩
      simp only [List.map_cons, List.map_nil, List.mem_singleton] at hb
      subst hb
      exact fun e => nm (e ▸ ha)
theorem key_noref {k : Key} {a : Addr} (h : (mixKind prog w).is k (.ref a) = true) : False := by
  rcases keyIs_shape h with ⟨i, t, _, e⟩ | ⟨x, t, _, e⟩ <;> cases e
theorem merge_map {d o : Addr} {xs more : List (Key × Value)} {Q : Unit → Shared → Prop} (ne : d ≠ o) (so : (o == sysModules) = false) (hd : s.heap.DictOf (mixKind prog w) d xs) (ho : s.heap.DictOf (mixKind prog w) o more) (hz : xs.length + more.length ≤ sizeLine)
    (q : ∀ h', h'.DictOf (mixKind prog w) d (merged xs more) → h'.DictOf (mixKind prog w) o more → Heap.SameBut d s.heap h' → Q () { s with heap := h' }) : wpAny (model prog w) A (mergeMapping d (.ref o) false) Q E s := by
  obtain ⟨od, ed, pd, a1, a2, a3, a4, a5, a6⟩ := id hd
  obtain ⟨oo, eo, po, b1, b2, b3, b4, b5, b6⟩ := id ho
  have ln : more.length = eo.size := by rw [← b5.length]; simp
  have loop : wpAny (model prog w) A (do
      let l ← dictEntries o
      let size := l.size
      let epoch ← dictEpoch o
      forIn (List.range size) PUnit.unit fun i (_ : PUnit) => (do
          let l ← dictEntries o
          match l[i]? with
            | some e => do
              holding [e.key, e.val] (dictPut d e.hash e.key e.val)
              let p ← dictEpoch o
              if (p != epoch) = true then do
                  (unsupported "dict.changed-during-merge" : Sem PUnit)
                  pure (ForInStep.yield PUnit.unit)
                else pure (ForInStep.yield PUnit.unit)
            | _ => do
              (unsupported "dict.changed-during-merge" : Sem PUnit)
              pure (ForInStep.yield PUnit.unit) : Sem (ForInStep PUnit))
      pure ()) Q E s := by
    refine wpAny_bind (wpAny_dictEntries b1 b3 ?_)
    dsimp only
    refine wpAny_bind (wpAny_dictEpoch b1 b3 (wpAny_bind ?_))
    rw [List.range_eq_range']
    refine wpAny_forIn_list _ (fun rest _ s' => ∃ h' i, s' = { s with heap := h' } ∧ rest = List.range' i (eo.size - i) ∧ i ≤ eo.size ∧ h'.DictOf (mixKind prog w) d (merged xs (more.take i)) ∧ h'.get? o = some oo ∧ Heap.SameBut d s.heap h') _ ?_ ?_ _ _ ⟨s.heap, 0, rfl, by simp, Nat.zero_le _, by simpa [merged] using hd, b1, Heap.SameBut.refl _ _⟩
    · rintro x rest b s' ⟨h', i, rfl, hr, hi, c1, c2, c3⟩
      have lt : i < eo.size := by
        rcases Nat.lt_or_ge i eo.size with z | z
        · exact z
        · rw [Nat.sub_eq_zero_of_le z] at hr; cases hr
      have e : eo.size - i = (eo.size - (i + 1)) + 1 := by omega
      rw [e, List.range'_succ] at hr
      injection hr with e1 e2
      subst e1 e2
      refine wpAny_bind (wpAny_dictEntries c2 b3 ?_)
      rw [Array.getElem?_eq_getElem lt]
      have lm : x < more.length := by omega
      have hkv : more[x]? = some more[x] := List.getElem?_eq_getElem lm
      obtain ⟨k1, k2⟩ := b5.get? (e := eo[x]) (by simp [lt]) hkv
      obtain ⟨k', k3, k4⟩ := b4 eo[x] (Array.getElem_mem lt)
      obtain rfl : k' = more[x].1 := (mixKind prog w).inj _ _ _ k3 k1
      have sz : (merged xs (more.take x)).length ≤ sizeLine := by
        have e1 := merged_length_le xs (more.take x)
        rw [List.length_take] at e1
        omega
      dsimp only
      rw [k4, k2]
      refine wpAny_bind (wpAny_holding (put_pairs k1 c1 sz fun h2 c4 c5 => ?_))
      have c6 : h2.get? o = some oo := (c5.2 o (Ne.symm ne)).trans c2
      refine wpAny_bind (wpAny_dictEpoch c6 b3 ?_)
      rw [if_neg (by simp)]
      exact wpAny_pure ⟨h2, x + 1, rfl, rfl, lt, by rw [merged_take_succ xs more x _ hkv]; exact c4, c6, c3.trans c5⟩
    · rintro b s' ⟨h', i, rfl, hr, hi, c1, c2, c3⟩
      have en : i = eo.size := by
        rcases Nat.lt_or_ge i eo.size with z | z
        · have e : eo.size - i = (eo.size - (i + 1)) + 1 := by omega
          rw [e, List.range'_succ] at hr; cases hr
        · omega
      rw [en, ← ln, List.take_length] at c1
      exact wpAny_pure (q h' c1 ⟨oo, eo, po, c2, b2, b3, b4, b5, b6⟩ c3)
  unfold mergeMapping
  refine wpAny_bind (wpAny_isInstance ho.typeIs isSubtype_dict_dict ?_)
  rw [if_pos rfl]
  refine wpAny_bind (wpAny_specialOf ho.typeIs F.slot_dict_iter.lookup (wpAny_bind (wpAny_pure ?_)))
  have so' : (some (Value.builtin "dict.__iter__") == some (Value.builtin "dict.__iter__")) = true := by decide +kernel
  rw [so']
  dsimp only
  rw [if_neg (by rw [so]; exact Bool.false_ne_true)]
  refine wpAny_bind (wpAny_dictEntries a1 a3 ?_)
  split
  · refine wpAny_bind (wpAny_dictEntries b1 b3 (wpAny_bind ?_))
    refine wpAny_of_eq (a := PUnit.unit) ?_ loop
    rw [← Array.forIn_toList]
    refine forIn_yield_id _ fun e he c => ?_
    obtain ⟨k, hk, _⟩ := b4 e (Array.mem_toList_iff.mp he)
    rcases keyIs_shape hk with ⟨i, t, _, z⟩ | ⟨x, t, _, z⟩ <;> rw [z]
  · exact loop
theorem display_star {a k v : Sem Value} {Q : Value → Shared → Prop} (h : wpAny (model prog w) A a (fun m s1 => wpAny (model prog w) A (mergeMapping s.heap.objs.size m false) (fun _ s2 => wpAny (model prog w) A (subDict [(k, v)]) (fun sub s3 => wpAny (model prog w) A (mergeMapping s.heap.objs.size (.ref sub) false) (fun _ s4 => Q (.ref s.heap.objs.size) s4) (fun _ _ => False) s3) E s2) (fun _ _ => False) s1) E { s with heap := s.heap.push { cls := .type "dict", data := .dict #[] } }) : wpAny (model prog w) A (dictDisplay [(none, a), (some k, v)]) Q E s := by
  unfold dictDisplay
  dsimp only
  simp only [List.forIn_cons, List.forIn_nil]
  refine wpAny_bind (wpAny_bind ?_)
  rw [if_pos (show (([] : List (Sem Value × Sem Value)).isEmpty = true) from rfl)]
  refine wpAny_bind (wpAny_pure ?_)
  dsimp only
  refine wpAny_bind (wpAny_alloc (wpAny_bind (wpAny_holding (wpAny_mono h (fun m s1 h1 => ?_) fun _ _ e => e))))
  refine wpAny_bind (wpAny_onRaise (wpAny_tryCatch (wpAny_onRaise (wpAny_holding (wpAny_mono h1 (fun _ s2 h2 => ?_) fun _ _ e => e.elim)))))
  refine wpAny_pure ?_
  dsimp only
  refine wpAny_bind ?_
  rw [if_neg (by simp)]
  refine wpAny_pure ?_
  dsimp only
  refine wpAny_pure ?_
  dsimp only
  refine wpAny_bind ?_
  rw [if_neg (by simp)]
  refine wpAny_bind (wpAny_holding (wpAny_mono h2 (fun sub s3 h3 => ?_) fun _ _ e => e))
  refine wpAny_bind (wpAny_onRaise (wpAny_holding (wpAny_mono h3 (fun _ s4 h4 => ?_) fun _ _ e => e.elim)))
  exact wpAny_pure (wpAny_pure h4)
end
/-! the display with one spread: the new dict stands at p, that of the pair at q -/
section
variable {X : Cx} {pos : Pos} {a k v : Expr} {ta tk tv : TE}
def tDispS (ta tk tv : TE) : TE := fun σ H Q => ∀ p, H p = none → ta σ (upd H p (.dK [])) fun x H1 => ∃ o kvs, x = .ref o ∧ o ≠ p ∧ H1 p = some (.dK []) ∧ Rd H1 o (.dK kvs) ∧ kvs.length + 1 ≤ sizeLine ∧
  ∀ q, upd H1 p (.dK (mergeK [] kvs)) q = none → tPairs [(tk, tv)] σ (upd (upd H1 p (.dK (mergeK [] kvs))) q (.dK [])) fun ps H2 => H2 q = some (.dK []) ∧ H2 p = some (.dK (mergeK [] kvs)) ∧ ∃ (ky : Key) (y : V), ps = [(kV ky, y)] ∧ Q (.ref p) (upd (upd H2 q (.dK [(ky, y)])) p (.dK (mergeK (mergeK [] kvs) [(ky, y)])))
theorem pe_dispS (ha : PE X a ta) (hp : PPs X pos [some k] [v] [(tk, tv)]) : PE X (.Dict [none, some k] [a, v] pos) (tDispS ta tk tv) := by
  refine ⟨fun pins s σ H Q I q => ?_⟩
  rw [arm_eval_Dict]
  refine wpAny_bind (wpAny_standAt ?_)
  have hn := I.hok.fresh (Nat.le_refl s.heap.objs.size)
  have I1 := I.laid (a := s.heap.objs.size) (o := .dK []) (h' := s.heap.push { cls := .type "dict", data := .dict #[] }) (t' := s.toks) (fun _ _ q => Heap.get?_push_of_some _ q) (Nat.le_refl _) (dk_empty s.heap I.big)
  refine display_star (wpAny_bind (thn (ha.run pins _ σ _ _ I1 (q _ hn)) fun m s1 ⟨x, H1, I2, rx, o, kvs, ex, ne, e, eo, hz, q1⟩ => wpAny_bind (wpAny_standAt (wpAny_pure ?_))))
  subst ex
  obtain rfl : m = Value.ref o := rx
  generalize hpp : s.heap.objs.size = p at *
  obtain ⟨_, sp, vs0, r0, d0⟩ := dk_of I2.hok e
  cases r0
  obtain ⟨_, so, vso, ro, d1⟩ := dk_rd I2.hok eo
  have lo := ro.length
  have lk := length_mergeK kvs []
  rw [List.length_nil, Nat.zero_add] at lk
  refine merge_map (Ne.symm ne) so d0 d1 (by rw [List.length_nil, ← lo]; omega) fun h2 e2 _ s2 => ?_
  have I3 : Inv X pins σ (upd H1 p (.dK (mergeK [] kvs))) { s1 with heap := h2 } := d_write (t' := s1.toks) I2 (by rw [e]; exact True.intro) s2 (let ⟨q, _, _, hq, _⟩ := e2; ⟨q, hq⟩) (dk_new (by omega) sp (ro.merge .nil) e2)
  have hn2 := I3.hok.fresh (Nat.le_refl h2.objs.size)
  have I4 := I3.laid (a := h2.objs.size) (o := .dK []) (h' := h2.push { cls := .type "dict", data := .dict #[] }) (t' := s1.toks) (fun _ _ q => Heap.get?_push_of_some _ q) (Nat.le_refl _) (dk_empty h2 I3.big)
  have q2 := q1 _ hn2
  refine wpAny_subDict (knd := mixKind X.prog X.w) (by simp) (thn (hp.run pins _ σ _ _ I4 q2) fun ws s3 ⟨ps, H2, I5, rel, e3, e4, ky, y, ep, q3⟩ => ?_)
  subst ep
  obtain ⟨rs, c, rk⟩ := carries_of (P := X.prog) (w := X.w) (kvs := [(ky, y)]) rel
  obtain ⟨_, sq, vs1, r1, d2⟩ := dk_of I5.hok e3
  cases r1
  refine ⟨rs, c, d2, fun h4 e5 s4 => ?_⟩
  change h4.DictOf (mixKind X.prog X.w) h2.objs.size (merged [] rs) at e5
  have I6 : Inv X pins σ (upd H2 h2.objs.size (.dK [(ky, y)])) { s3 with heap := h4, toks := s3.toks + ws.length } := d_write I5 (by rw [e3]; exact True.intro) s4 (let ⟨q, _, _, hq, _⟩ := e5; ⟨q, hq⟩) (dk_new (by rw [sizeLine_eq]; simp) sq (rk.merge (kvs := []) .nil) e5)
  have nq : p ≠ h2.objs.size := fun z => by rw [← z, upd_same] at hn2; cases hn2
  have e6 : (upd H2 h2.objs.size (.dK [(ky, y)])) p = some (.dK (mergeK [] kvs)) := by rw [upd_ne nq]; exact e4
  obtain ⟨_, _, vp, rp, d3⟩ := dk_of I6.hok e6
  obtain ⟨_, sq2, vq, rq, d4⟩ := dk_of I6.hok (upd_same (H := H2) (a := h2.objs.size))
  have l1 := rp.length
  have l2 := rq.length
  have l3 := length_mergeK [(ky, y)] (mergeK [] kvs)
  simp only [List.length_cons, List.length_nil] at l2 l3
  refine merge_map nq sq2 d3 d4 (by rw [← l1, ← l2]; omega) fun h5 e7 _ s5 => ?_
  have I7 : Inv X pins σ (upd (upd H2 h2.objs.size (.dK [(ky, y)])) p (.dK (mergeK (mergeK [] kvs) [(ky, y)]))) { s3 with heap := h5, toks := s3.toks + ws.length } := d_write (s := { s3 with heap := h4, toks := s3.toks + ws.length }) (t' := s3.toks + ws.length) I6 (by rw [e6]; exact True.intro) s5 (let ⟨q, _, _, hq, _⟩ := e7; ⟨q, hq⟩) (dk_new (by omega) sp (rq.merge rp) e7)
  exact ⟨.ref p, _, I7, rfl, q3⟩
end
end Pu
set_option maxHeartbeats 4000000
namespace Pu
open PySem L2 PyProof.Rows
/-! ### xs[::-1] -/
theorem range_down (n : Nat) : sliceRange ((n : Int) - 1) (-1) (-1) = (List.range n).map fun k => n - 1 - k := by
  unfold sliceRange
  rw [if_neg (by decide)]
  cases n with
  | zero => simp
  | succ n =>
    rw [if_pos (by omega)]
    have e : ((((n + 1 : Nat) : Int) - 1 - -1 - -1 - 1) / (- -1)).toNat = n + 1 := by
      rw [show (- -1 : Int) = 1 from rfl, Int.ediv_one]
      omega
    dsimp only
    rw [e]
    refine List.map_congr_left fun k hk => ?_
    have := List.mem_range.mp hk
    omega
theorem down_rev (n : Nat) : ((List.range n).map fun k => n - 1 - k) = (List.range n).reverse := by
  refine List.ext_getElem (by simp) fun i h1 h2 => ?_
  simp at h1
  simp [List.getElem_reverse]
theorem pick_all {α : Type} : ∀ ys : List α, (List.range ys.length).filterMap (fun k => ys[k]?) = ys
  | [] => rfl
  | y :: ys => by
    rw [List.length_cons, List.range_succ_eq_map, List.filterMap_cons, List.filterMap_map]
    simp only [List.getElem?_cons_zero]
    exact congrArg (y :: ·) (pick_all ys)
theorem slicePick_rev (its : List Value) : slicePick its.toArray none none (some (-1)) = its.reverse.toArray := by
  unfold slicePick sliceBounds
  dsimp only [Option.getD]
  rw [if_neg (by decide), if_neg (by decide), List.size_toArray, range_down, down_rev, List.filterMap_reverse]
  congr 2
  simpa using pick_all its
def tRev (K : PySem.W.Frag) (te ts : TE) : TE := fun σ H Q => te σ H fun x H1 => ts σ H1 fun y H2 => ∃ a xs, x = .ref a ∧ y = .int (-1) ∧ SqL K H2 a xs ∧ ∀ p, H2 p = none → Q (.ref p) (upd H2 p (.lst xs.reverse))
section
variable {X : Cx} {D : Wd} {W : WX} {e st : Expr} {pos p2 : Pos} {te ts : TE} {m ms : EM}
theorem vals_rev {xs : List V} {us : List Value} (h : Vals xs us) : Vals xs.reverse us.reverse := by
  induction h with
  | nil => exact .nil
  | cons a b ih => rw [List.reverse_cons, List.reverse_cons]; exact ih.append (.cons a .nil)
theorem pe_rev (he : PE X e te) (hs : PE X st ts) : PE X (.Subscript e (.Slice none none (some st) p2) pos) (tRev X.K te ts) := by
  refine ⟨fun pins s σ H Q I h => ?_⟩
  refine Subscript_ (thn (he.run pins s σ H _ I h) fun v s1 ⟨x, H1, I1, r1, q1⟩ => ?_)
  refine wpAny_Slice ?_
  rw [evalPart_none]
  refine wpAny_pure (wpAny_pure ?_)
  rw [evalPart_some]
  refine thn (hs.run pins s1 σ H1 _ I1 q1) fun vs s2 ⟨y, H2, I2, r2, a, xs, ex, ey, hq, q2⟩ => ?_
  subst ex ey
  obtain rfl : v = Value.ref a := r1
  obtain ⟨t, rfl⟩ := r2
  have I3 : Inv X pins σ H2 { s2 with heap := s2.heap.push { cls := .type "slice", data := .fields #[.none, .none, .int (-1) t] } } := I2.kept (t' := s2.toks) fun b ob q => Heap.get?_push_of_some _ q
  obtain ⟨its, r, ht, hz⟩ := I3.list hq
  have hl := r.length
  show wpAny (model X.prog X.w) X.A (subscriptTail e (.Slice none none (some st) p2) (.ref a) (.ref s2.heap.objs.size)) (EP X pins σ Q) X.xe { s2 with heap := s2.heap.push { cls := .type "slice", data := .fields #[.none, .none, .int (-1) t] } }
  refine tail_any (ops := [.ref a, .ref s2.heap.objs.size]) ht.isList.typeIs slot_list_getitem.lookup ?_ (by with_unfolding_all rfl)
  refine wpAny_getItem_list_slice ht.isList (Heap.IsSliceOf.new ..) .none .none (.int _ _) (by decide) ?_ (by rw [List.size_toArray] <;> omega)
  rw [slicePick_rev]
  refine ⟨.ref _, _, I3.laid (t' := s2.toks) (o := .lst xs.reverse) (fun b ob q => Heap.get?_push_of_some _ q) (Nat.le_refl _) ?_, rfl, q2 _ (I3.hok.fresh (Nat.le_refl _))⟩
  exact ⟨by rw [List.length_reverse]; exact hz, _, 0, vals_rev r, Heap.get?_push_size _ rfl⟩
def eRev (a b : EM) : EM := fun σ st => (a σ st).bind fun r => (b σ r.2).bind fun q => match vw q.2 r.1, q.1 with
  | some (.lst xs), .pv (.int i) => if i = -1 then .ret (.pv (.lst xs.reverse), q.2) else .bad
  | _, _ => .bad
theorem reps_rev {M : Mx} {H : Hp} : ∀ {vs : List V} {xs : List PV}, Reps D M H vs xs → Reps D M H vs.reverse xs.reverse
  | _, _, .nil => .nil
  | _, _, .cons a b => by rw [List.reverse_cons, List.reverse_cons]; exact (reps_rev b).app (.cons a .nil)
theorem q_rev (hK : X.K = D.K) (he : PE X e (lift D W m)) (hs : PE X st (lift D W ms)) : PE X (.Subscript e (.Slice none none (some st) p2) pos) (lift D W (eRev m ms)) := by
  refine pe_imp (pe_rev he hs) fun σ H Q h => ?_
  obtain ⟨M, s, st, R, S, h⟩ := h
  refine ⟨M, s, st, R, S, (Wp.bind h).mono fun r st1 M1 H1 s1 R1 h1 v hv => ⟨M1, s, st1, R1, S.step s1, (Wp.bind h1).mono fun k st2 M2 H2 s2 R2 h2 y hy => ?_⟩⟩
  dsimp only at h2
  rw [hK]
  cases ev : vw st2 r with
  | none => rw [ev] at h2; exact h2.elim
  | some p =>
    rw [ev] at h2
    have sh := vw_sh R2 (hv.step s2) ev
    cases p with
    | lst xs =>
      cases k with
      | pv k =>
        cases k with
        | int i =>
          dsimp only at h2
          split at h2
          · rename_i ei
            subst ei
            cases hy
            obtain ⟨a, vs, rfl, k1, k2⟩ := sh.sqL
            refine ⟨a, vs, rfl, rfl, k1, fun p hp => ?_⟩
            obtain ⟨s3, R3⟩ := R2.step (Gr.laid (o := .lst vs.reverse) hp)
            exact h2 _ M2 s3 R3 _ (rep_lst R2 hp (reps_rev k2))
          · exact h2.elim
        | _ => exact h2.elim
      | _ => exact h2.elim
    | _ => exact h2.elim
end
end Pu
set_option maxHeartbeats 4000000
namespace Pu
open PySem L2 PyProof.Rows
/-! ### a dict is locked while it is walked -/
/-- what is read of H is read of H' -/
structure RdM (M M' : Mx) (H H' : Hp) : Prop where
  rd : ∀ a u, M.out a → (∀ o w, u ≠ .frz o w) → Rd H a u → M'.out a ∧ Rd H' a u
  ins : ∀ a C dx vs, M.out a → H a = some (.ins C dx vs) → M'.out a ∧ H' a = some (.ins C dx vs)
  xd : ∀ a vs, M.out a → H a = some (.xd vs) → M'.out a ∧ H' a = some (.xd vs)
  cd : ∀ a q, M.out a → H a = some (LamX.CodeO a q) → M'.out a ∧ H' a = some (LamX.CodeO a q)
  β : ∀ b ∈ M.β, b ∈ M'.β
  ρ : M'.ρ = M.ρ
  ξ : M'.ξ = M.ξ
theorem nf_tup {xs : List V} (o : Obj) (w : HO) : HO.tup xs ≠ .frz o w := fun z => nomatch z
theorem nf_lst {xs : List V} (o : Obj) (w : HO) : HO.lst xs ≠ .frz o w := fun z => nomatch z
theorem nf_dK {xs : List (Key × V)} (o : Obj) (w : HO) : HO.dK xs ≠ .frz o w := fun z => nomatch z
section
variable {D : Wd} {M M' : Mx} {H H' : Hp}
mutual
theorem Rep.rdm (k : RdM M M' H H') : ∀ {v : V} {p : PV}, Rep D M H v p → Rep D M' H' v p
  | _, _, .non => .non
  | _, _, .bl b => .bl b
  | _, _, .int i => .int i
  | _, _, .str s => .str s
  | _, _, .ty n => .ty n
  | _, _, .box h t => .box (k.β _ h) t
  | _, _, .cls h1 h2 => .cls h1 h2
  | _, _, .tup h r => .tup (h.elim (fun h => .inl (k.rd _ _ h.1 nf_tup h.2)) .inr) (Reps.rdm k r)
  | _, _, .lst h r => .lst (h.elim (fun h => .inl (k.rd _ _ h.1 nf_lst h.2)) .inr) (Reps.rdm k r)
  | _, _, .dct o h r => .dct (k.rd _ _ o nf_dK h).1 (k.rd _ _ o nf_dK h).2 (Repd.rdm k r)
  | _, _, .obj o h a b r => .obj (k.ins _ _ _ _ o h).1 (k.ins _ _ _ _ o h).2 a b (Repf.rdm k r)
  | _, _, .fn a o h r => .fn a (k.cd _ _ o h).1 (k.cd _ _ o h).2 (Reps.rdm k r)
theorem Reps.rdm (k : RdM M M' H H') : ∀ {vs : List V} {ps : List PV}, Reps D M H vs ps → Reps D M' H' vs ps
  | _, _, .nil => .nil
  | _, _, .cons a b => .cons (Rep.rdm k a) (Reps.rdm k b)
theorem Repd.rdm (k : RdM M M' H H') : ∀ {vs : List (Key × V)} {ps : List (Key × PV)}, Repd D M H vs ps → Repd D M' H' vs ps
  | _, _, .nil => .nil
  | _, _, .cons a b => .cons (Rep.rdm k a) (Repd.rdm k b)
theorem Repf.rdm (k : RdM M M' H H') : ∀ {vs : List (Str × V)} {ps : List (Nat × PV)}, Repf D M H vs ps → Repf D M' H' vs ps
  | _, _, .nil => .nil
  | _, _, .cons e a b => .cons e (Rep.rdm k a) (Repf.rdm k b)
end
theorem RRep.rdm (k : RdM M M' H H') {v : V} : ∀ {r : RV}, RRep D M H v r → RRep D M' H' v r
  | .pv p, h => Rep.rdm k h
  | .loc i, ⟨a, h, e⟩ => ⟨a, by rw [k.ρ]; exact h, e⟩
  | .exc c fs, ⟨a, C, nm, d, e1, e2, e3, e4, e5⟩ => ⟨a, C, nm, d, e1, k.ξ.trans e2, e3, e4, match d, e5 with
    | none, e5 => e5
    | some dx, ⟨vs, k1, k2, k3⟩ => ⟨vs, (k.xd _ _ k2 k1).2, (k.xd _ _ k2 k1).1, Repf.rdm k k3⟩⟩
theorem Slots.rdm (k : RdM M M' H H') {σV : L2.St} {σ : Sl} (h : Slots D M H σV σ) : Slots D M' H' σV σ := ⟨h.1, fun i q e => let ⟨v, h1, h2⟩ := h.2 i q e; ⟨v, h1, RRep.rdm k h2⟩⟩
theorem RdM.noX (k : RdM M M' H H') : RdM M.noX M'.noX H H' := ⟨k.rd, k.ins, k.xd, k.cd, k.β, k.ρ, rfl⟩
theorem Rel.rdmG {st : S} (k : RdM M M' H H') (eβ : M'.β = M.β) (same : ∀ a, some a ∈ M.ρ ∨ a ∈ M.β → H' a = H a) (fr : ∀ a ∈ M'.φ, (∃ o, H' a = some o) ∧ some a ∉ M.ρ ∧ a ∉ M.β) (R : Rel D M st H) : Rel D M' st H' := by
  refine ⟨by rw [k.ρ]; exact R.nd, by rw [k.ρ, eβ]; exact R.dj, by rw [k.ρ]; exact R.len, fun i a o h1 h2 => ?_, fun b hb => ?_, fun a ha => (fr a ha).1, fun a ha => by rw [k.ρ, eβ]; exact (fr a ha).2, by rw [k.ξ]; exact R.hx, by rw [eβ]; exact R.tb⟩
  · rw [k.ρ] at h1
    have e := same a (.inl (List.mem_of_getElem? h1))
    have ob := R.ob i a o h1 h2
    have rr : ∀ v r, RRep D M.noX H v r → RRep D M'.noX H' v r := fun v r h => RRep.rdm k.noX h
    cases o with
    | lst xs => obtain ⟨vs, e1, r⟩ := ob; exact ⟨vs, e.trans e1, paired_imp rr r⟩
    | dct xs => obtain ⟨vs, e1, r⟩ := ob; exact ⟨vs, e.trans e1, paired_imp (fun _ _ q => ⟨q.1, rr _ _ q.2⟩) r⟩
    | ins c fs => obtain ⟨C, dx, vs, nm, e1, h1, h2, r⟩ := ob; exact ⟨C, dx, vs, nm, e.trans e1, h1, h2, paired_imp (fun _ _ q => ⟨q.1, rr _ _ q.2⟩) r⟩
    | gone => obtain ⟨u, e1⟩ := ob; exact ⟨u, e.trans e1⟩
  · rw [eβ] at hb
    rcases R.bx b hb with ⟨n, x, y, z, e⟩ | ⟨m, g⟩
    · exact .inl ⟨n, x, y, z, (same b (.inr hb)).trans e⟩
    · refine .inr ⟨m, fun q hq => ?_⟩
      obtain ⟨ps, e, t, f⟩ := g q hq
      refine ⟨ps, (same b (.inr hb)).trans e, t, fun pos cv hc => ?_⟩
      obtain ⟨c, e1, e2, e3⟩ := f pos cv hc
      exact ⟨c, e1, (k.cd _ _ e2 e3).1, (k.cd _ _ e2 e3).2⟩
theorem Rel.rdm {st : S} {d : Addr} (k : RdM M M H H') (hd : M.out d) (ne : ∀ a, a ≠ d → H' a = H a) (ex : ∃ o, H' d = some o) (R : Rel D M st H) : Rel D M st H' := by
  refine R.rdmG k rfl (fun a h => ne a fun z => h.elim (fun h => hd.1 (z ▸ h)) (fun h => hd.2.1 (z ▸ h))) fun a ha => ⟨?_, R.fd a ha⟩
  obtain ⟨o, e⟩ := R.fr a ha
  by_cases z : a = d
  · subst z; exact ex
  · exact ⟨o, (ne a z).trans e⟩
theorem rdm_lock {d : Addr} {od : Obj} {kvs : List (Key × V)} (e : H d = some (.dK kvs)) : RdM M M H (upd H d (.frz od (.dK kvs))) := by
  refine ⟨fun a u out nf h => ⟨out, ?_⟩, fun a C dx vs out h => ⟨out, ?_⟩, fun a vs out h => ⟨out, ?_⟩, fun a q out h => ⟨out, ?_⟩, fun _ h => h, rfl, rfl⟩
  · by_cases z : a = d
    · subst z
      rcases h with h | ⟨o, h⟩
      · rw [e] at h; cases h; exact .inr ⟨od, upd_same⟩
      · rw [e] at h; cases h
    · rcases h with h | ⟨o, h⟩
      · exact .inl (by rw [upd_ne z]; exact h)
      · exact .inr ⟨o, by rw [upd_ne z]; exact h⟩
  · rw [upd_ne fun z => by rw [z, e] at h; cases h]; exact h
  · rw [upd_ne fun z => by rw [z, e] at h; cases h]; exact h
  · rw [upd_ne fun z => by rw [z, e] at h; cases h]; exact h
theorem rdm_unlock {d : Addr} {od : Obj} {kvs : List (Key × V)} (e : H d = some (.frz od (.dK kvs))) : RdM M M H (upd H d (.dK kvs)) := by
  refine ⟨fun a u out nf h => ⟨out, ?_⟩, fun a C dx vs out h => ⟨out, ?_⟩, fun a vs out h => ⟨out, ?_⟩, fun a q out h => ⟨out, ?_⟩, fun _ h => h, rfl, rfl⟩
  · by_cases z : a = d
    · subst z
      rcases h with h | ⟨o, h⟩
      · rw [e] at h; cases h; exact (nf _ _ rfl).elim
      · rw [e] at h; cases h; exact .inl upd_same
    · rcases h with h | ⟨o, h⟩
      · exact .inl (by rw [upd_ne z]; exact h)
      · exact .inr ⟨o, by rw [upd_ne z]; exact h⟩
  · rw [upd_ne fun z => by rw [z, e] at h; cases h]; exact h
  · rw [upd_ne fun z => by rw [z, e] at h; cases h]; exact h
  · rw [upd_ne fun z => by rw [z, e] at h; cases h]; exact h
theorem step_unlock {d : Addr} {od : Obj} {kvs : List (Key × V)} (hd : M.out d) (e : H d = some (.dK kvs)) (s : Step M (upd H d (.frz od (.dK kvs))) M' H') : Step M H M' (upd H' d (.dK kvs)) := by
  have un : ∀ a, (upd H d (.frz od (.dK kvs))) a = none → H a = none := fun a h => by
    by_cases z : a = d
    · subst z; rw [upd_same] at h; cases h
    · rw [upd_ne z] at h; exact h
  obtain ⟨⟨n, e1, f1⟩, ⟨m, e2, f2⟩, ⟨p1, p2⟩, kp, th, x⟩ := s
  refine ⟨⟨n, e1, fun a h => un a (f1 a h)⟩, ⟨m, e2, fun a h => un a (f2 a h)⟩, ⟨p1, fun a h => (p2 a h).imp id (un a)⟩, fun a o q h1 h2 => ?_, fun a o q => ?_, x⟩
  · by_cases z : a = d
    · subst z; rw [upd_same, ← e]; exact q
    · rw [upd_ne z]; exact kp a o (by rw [upd_ne z]; exact q) h1 h2
  · by_cases z : a = d
    · subst z; exact ⟨_, upd_same⟩
    · obtain ⟨o', q'⟩ := th a o (by rw [upd_ne z]; exact q)
      exact ⟨o', by rw [upd_ne z]; exact q'⟩
end
/-! for k, v in d.items(), d a name -/
def keyP : Key → PV
  | .inl i => .int i
  | .inr x => .str x
def itemsP (xs : List (Key × PV)) : List PV := xs.map fun kv => .tup [keyP kv.1, kv.2]
def iIt (i : Nat) : IM := fun σ st => match σ[i]? with
  | some (some (.pv (.dct xs))) => .ret (itemsP xs, st)
  | _ => .bad
def noXL {α : Type} : T XL α → T XL α
  | .ret a => .ret a
  | .exc _ => .bad
  | .ch n k => .ch n fun i => noXL (k i)
  | .bad => .bad
theorem wp_noXL {α : Type} {Q : α → Prop} {E E' : XL → Prop} : ∀ {t : T XL α}, (noXL t).wp Q E → t.wp Q E'
  | .ret a, h => h
  | .exc e, h => h.elim
  | .ch n k, h => fun i hi => wp_noXL (h i hi)
  | .bad, h => h
def sForI (i : Nat) (g : GM) (b : SM) : SM := fun σ st => noXL (sFor (iIt i) g b σ st)
section
variable {X : Cx} {D : Wd} {W : WX} {i : Nat} {e : Expr} {elts : List Expr} {kk : Nat} {tpos apos cpos pos : Pos} {body : List Stmt} {g : GM} {b : SM}
theorem ps_or {st : Stmt} {t u : TS} (h1 : PS X st t) (h2 : PS X st u) : PS X st (fun En σ H => t En σ H ∨ u En σ H) := ⟨fun pins s σ H En I h => h.elim (h1.run pins s σ H En I) (h2.run pins s σ H En I)⟩
theorem kv_rep {M : Mx} {H : Hp} : ∀ {vs : List (Key × V)} {xs : List (Key × PV)} {n : Nat} {k : Key} {v : V}, Repd D M H vs xs → vs[n]? = some (k, v) → ∃ p, xs[n]? = some (k, p) ∧ Rep D M H v p
  | _, _, 0, _, _, .cons r _, e => by cases e; exact ⟨_, rfl, r⟩
  | _, _, n + 1, _, _, .cons _ r, e => kv_rep (n := n) r e
theorem repd_len {M : Mx} {H : Hp} : ∀ {vs : List (Key × V)} {xs : List (Key × PV)}, Repd D M H vs xs → vs.length = xs.length
  | _, _, .nil => rfl
  | _, _, .cons _ r => congrArg Nat.succ (repd_len r)
theorem walkP_items {M : Mx} {H : Hp} {d : Addr} {o : Obj} {vs : List (Key × V)} {xs : List (Key × PV)} (hd : M.out d) (e : H d = some (.frz o (.dK vs))) (r : Repd D M H vs xs) : WalkP D M H (Iti d o vs) (itemsP xs) := by
  have ln : (itemsP xs).length = vs.length := by unfold itemsP; rw [List.length_map, repd_len r]
  refine ⟨fun H' => H' d = some (.frz o (.dK vs)), fun i H1 x H2 => ∃ T k v, vs[i]? = some (k, v) ∧ x = .ref T ∧ H1 T = none ∧ H2 = upd H1 T (.tup [kV k, v]), ?_, fun M' H' s => s.keep _ _ e hd.1 hd.2.1, fun i H1 x H2 M1 s y ⟨st, R⟩ => ?_⟩
  · rw [ln]
    exact ⟨fun i H hi q => ⟨q, hi⟩, fun H q => ⟨q, Nat.le_refl _⟩, fun i H x H' _ q y => y⟩
  · obtain ⟨T, k, v, h1, rfl, hT, rfl⟩ := y
    obtain ⟨p, k1, k2⟩ := kv_rep (r.step s) h1
    refine ⟨Gr.laid hT, .tup [keyP k, p], ?_, ?_⟩
    · unfold itemsP; rw [List.getElem?_map, k1]; rfl
    · refine pair_new R hT ?_ k2
      cases k with
      | inl i => exact .int i
      | inr x => exact .str x
theorem q_forI (hv : PE X e (tVar i)) (hp : PassesOwn (model X.prog X.w) X.A X.env X.xe) (hc : X.calm = true) (hg : PG X (.Tuple elts kk tpos) (liftG D WF g)) (hb : PSs X body (liftS D WF b)) (hbase : attributeBase e "items" X.env (eval e X.env) = eval e X.env := by rfl) (hline : (apos.endLine == cpos.line) = true := by rfl) (hs : ∀ x, foldedSetIterable (.Call (.Attribute e "items" apos) [] [] cpos) X.env x = pure x := by intro _; rfl) :
    PS X (.For (.Tuple elts kk tpos) (.Call (.Attribute e "items" apos) [] [] cpos) body [] pos) (liftS D W (sForI i g b)) := by
  have F := ps_for (pos := pos) hp hc (pi_items (elts := elts) (kk := kk) (tpos := tpos) hv hbase hline) hg hb hs
  refine ps_imp (ps_or (ps_lock F) F) fun En σ H h => ?_
  obtain ⟨M, s, st, R, S, h⟩ := h
  unfold sForI at h
  have h := wp_noXL (E' := fun _ => False) h
  cases es : s[i]? with
  | none => simp only [sFor, iIt, es] at h; exact h.elim
  | some q =>
    cases q with
    | none => simp only [sFor, iIt, es] at h; exact h.elim
    | some q =>
      cases q with
      | loc _ => simp only [sFor, iIt, es] at h; exact h.elim
      | exc _ _ => simp only [sFor, iIt, es] at h; exact h.elim
      | pv q =>
        cases q with
        | dct xs =>
          obtain ⟨v, e1, e2⟩ := S.2 i _ es
          cases e2 with
          | @dct d vs _ o rd r =>
            have go : ∀ {En : Ends} {H : Hp} {od : Obj}, H d = some (.frz od (.dK vs)) → Rel D M st H → Slots D M H σ s → Repd D M H vs xs → ((sFor (iIt i) g b s st).wp (fun r => ∀ H' M', Step M H M' H' → Rel D M' r.2 H' → endsR D En M' H' r.1) (fun _ => False)) → tFor (iItems (tVar i)) (liftG D WF g) (liftS D WF b) En σ H := by
              intro En H od ed R S r h
              have L := lift_for (D := D) (W := WF) (it := iIt i) (g := g) (a := b) (En := En) (σ := σ) (H := H) ⟨M, s, st, R, S, T.wp_mono (fun _ q => q) (fun _ z => z.elim) h⟩
              unfold tFor at L ⊢
              unfold iItems
              obtain ⟨M0, s0, st0, R0, S0, h0⟩ := L
              unfold iIt at h0
              split at h0
              · rename_i ys e3
                obtain ⟨v', e4, e5⟩ := S0.2 i _ e3
                cases e4.symm.trans e1
                cases e5 with
                | dct o0 rd0 r0 =>
                  rcases rd0 with rd0 | ⟨o1, rd0⟩
                  · rw [ed] at rd0; cases rd0
                  · rw [ed] at rd0
                    cases rd0
                    exact ⟨_, e1, _, _, _, rfl, ed, h0 H M0 .refl R0 _ (walkP_items o0 ed r0)⟩
              · exact h0.elim
            rcases rd with rd | ⟨od, rd⟩
            · refine .inl ⟨d, _, rd, trivial, fun od => go upd_same (R.rdm (rdm_lock rd) o (fun a z => upd_ne z) ⟨_, upd_same⟩) (S.rdm (rdm_lock rd)) (r.rdm (rdm_lock rd)) ?_⟩
              refine T.wp_mono (fun f q H' M' s1 R1 => ?_) (fun _ z => z) h
              have kd : H' d = some (.frz od (.dK vs)) := s1.keep _ _ upd_same o.1 o.2.1
              have od' := s1.out upd_same o
              have k2 := rdm_unlock (M := M') kd
              have q := q _ M' (step_unlock o rd s1) (R1.rdm k2 od' (fun a z => upd_ne z) ⟨_, upd_same⟩)
              obtain ⟨f, st'⟩ := f
              cases f with
              | nx σ' => exact fun σV hS => ⟨kd, q σV (hS.rdm k2)⟩
              | bk σ' => exact fun σV hS => ⟨kd, q σV (hS.rdm k2)⟩
              | ct σ' => exact fun σV hS => ⟨kd, q σV (hS.rdm k2)⟩
              | rt r => exact fun v hv => ⟨kd, q v (RRep.rdm k2 hv)⟩
            · exact .inr (go rd R S r h)
        | _ => simp only [sFor, iIt, es] at h; exact h.elim
end
end Pu
set_option maxHeartbeats 4000000
namespace Pu
open PySem L2 PyProof.Rows
/-! ### d[k], d a dict too -/
def toKey : PV → Option Key
  | .int i => some (.inl i)
  | .str x => some (.inr x)
  | _ => none
def valP (xs : List (Key × PV)) (k : Key) : Option PV := (xs.find? fun kv => decide (kv.1 = k)).map (·.2)
def gIxA : PV → PV → Option PV
  | .dct xs, y => (toKey y).bind (valP xs)
  | x, y => gIx x y
def rIxD : R2 := fun x y H Q => ∃ a v, x = .ref a ∧ DGet H a y (some v) ∧ Q v H
section
variable {X : Cx} {D : Wd}
theorem ix_dict (hu : X.A.units + 1 < cLine) : IxR X rIxD := by
  intro value slice pins s σ H x y v u Q I rx ry h hs
  obtain ⟨a, z, rfl, g, q⟩ := h
  obtain rfl : v = Value.ref a := rx
  exact tail_any (dict_typeIs I g) F.slot_dict_getitem.lookup (d_getItem hu I g ry fun w' s' I' r => ⟨z, H, I', r, q⟩) hs
theorem valP_rep {M : Mx} {H : Hp} {k : Key} {p : PV} : ∀ {vs : List (Key × V)} {xs : List (Key × PV)}, Repd D M H vs xs → valP xs k = some p → ∃ v, valV vs k = some v ∧ Rep D M H v p
  | _, _, .nil, e => by cases e
  | _, _, .cons (k := k') (vs := vs) (ps := ps) (v := v) (p := p') r t, e => by
    by_cases h : k' = k
    · subst h
      simp [valP] at e
      subst e
      exact ⟨v, valV_pos rfl, r⟩
    · have e' : valP ps k = some p := by simpa [valP, List.find?_cons, h] using e
      obtain ⟨v', h1, h2⟩ := valP_rep t e'
      exact ⟨v', (valV_neg h).trans h1, h2⟩
theorem toKey_v {M : Mx} {H : Hp} {y : V} {q : PV} {k : Key} (h : Sh D M H y q) (e : toKey q = some k) : y = kV k := by
  unfold toKey at e
  split at e
  · cases e; exact h.int
  · cases e; exact h.str
  · cases e
theorem p_ixA : OpP D (fun x y H Q => rIxP D.K x y H Q ∨ rIxD x y H Q) gIxA := by
  intro M st H x y p q z Q R hp hq e k
  unfold gIxA at e
  split at e
  · rename_i xs
    cases hk : toKey q with
    | none => rw [hk] at e; cases e
    | some ky =>
      rw [hk] at e
      have ey := toKey_v hq hk
      have dd : ∃ a vs, x = .ref a ∧ Rd H a (.dK vs) ∧ Repd D M H vs xs := by
        cases hp with
        | rep h => cases h with
          | dct a b c => exact ⟨_, _, rfl, b, c⟩
        | dct a b => exact ⟨_, _, rfl, .inl a, b⟩
      obtain ⟨a, vs, rfl, h1, h2⟩ := dd
      obtain ⟨v, h3, h4⟩ := valP_rep h2 e
      exact .inr ⟨a, v, rfl, .inl ⟨vs, ky, h1, ey, h3.symm⟩, k _ _ .refl h4⟩
  · exact .inl (p_ix M st H x y _ q z Q R hp hq e k)
theorem IxR.or {r r' : R2} (h : IxR X r) (h' : IxR X r') : IxR X (fun x y H Q => r x y H Q ∨ r' x y H Q) := by
  intro value slice pins s σ H x y v u Q I rx ry q hs
  exact q.elim (fun q => h value slice pins s σ H x y v u Q I rx ry q hs) fun q => h' value slice pins s σ H x y v u Q I rx ry q hs
theorem q_ixA {W : WX} {a b : Expr} {ma mb : EM} {pos : Pos} (hK : X.K = D.K) (hu : X.A.units + 100 < cLine) (ha : PE X a (lift D W ma)) (hb : PE X b (lift D W mb)) (hs : PlainIx b) : PE X (.Subscript a b pos) (lift D W (eOp gIxA ma mb)) :=
  pe_imp (pe_ix (IxR.or o_ix (ix_dict (by omega))) ha hb hs) fun _ _ _ h => by rw [hK]; exact lift_op p_ixA h
/-! k in d -/
theorem valP_some {M : Mx} {H : Hp} {k : Key} : ∀ {vs : List (Key × V)} {xs : List (Key × PV)}, Repd D M H vs xs → (valV vs k).isSome = (valP xs k).isSome
  | _, _, .nil => rfl
  | _, _, .cons (k := k') (ps := ps) r t => by
    by_cases h : k' = k
    · subst h
      rw [valV_pos rfl]
      simp [valP]
    · rw [valV_neg h, valP_some t]
      simp [valP, List.find?_cons, h]
theorem Sh.dctD {M : Mx} {H : Hp} {x : V} {xs : List (Key × PV)} (hp : Sh D M H x (.dct xs)) : ∃ a vs, x = .ref a ∧ Rd H a (.dK vs) ∧ Repd D M H vs xs := by
  cases hp with
  | rep h => cases h with
    | dct a b c => exact ⟨_, _, rfl, b, c⟩
  | dct a b => exact ⟨_, _, rfl, .inl a, b⟩
def gInA : PV → PV → Option PV
  | y, .dct xs => (toKey y).map fun k => .bl (valP xs k).isSome
  | y, q => gIn y q
def gNotInA : PV → PV → Option PV
  | y, .dct xs => (toKey y).map fun k => .bl (!(valP xs k).isSome)
  | y, q => gNotIn y q
def rDIn (f : Bool → Bool) : R2 := fun x y H Q => ∃ a o, y = .ref a ∧ DGet H a x o ∧ Q (.bl (f o.isSome)) H
theorem dIn_end {M : Mx} {st : S} {H : Hp} {x y : V} {p z : PV} {xs : List (Key × PV)} {Q : VK} {f : Bool → Bool} (hp : Sh D M H x p) (hq : Sh D M H y (.dct xs)) (e : ((toKey p).map fun k => PV.bl (f (valP xs k).isSome)) = some z) (k : ∀ v H', Gr H H' → Rep D M H' v z → Q v H') : rDIn f x y H Q := by
  cases hk : toKey p with
  | none => rw [hk] at e; cases e
  | some ky =>
    rw [hk] at e
    cases e
    obtain ⟨a, vs, rfl, h1, h2⟩ := hq.dctD
    refine ⟨a, valV vs ky, rfl, .inl ⟨vs, ky, h1, toKey_v hp hk, rfl⟩, ?_⟩
    rw [valP_some h2]
    exact k _ _ .refl (.bl _)
theorem op_dIn (hu : X.A.units + 1 < cLine) : OpR X (compareOp .In) (rDIn id) := by
  intro pins s σ H x y v u Q I rx ry h
  obtain ⟨a, o, rfl, g, q⟩ := h
  obtain rfl : u = Value.ref a := ry
  exact d_in hu I g rx fun s' I' => ⟨.bl o.isSome, H, I', rfl, q⟩
theorem op_dNotIn (hu : X.A.units + 1 < cLine) : OpR X (compareOp .NotIn) (rDIn not) := by
  intro pins s σ H x y v u Q I rx ry h
  obtain ⟨a, o, rfl, g, q⟩ := h
  obtain rfl : u = Value.ref a := ry
  exact d_notIn hu I g rx fun s' I' => ⟨.bl (!o.isSome), H, I', rfl, q⟩
theorem OpR.or2 {f : Value → Value → Sem Value} {r r' : R2} (h : OpR X f r) (h' : OpR X f r') : OpR X f (fun x y H Q => r x y H Q ∨ r' x y H Q) := fun pins s σ H x y v u Q I rx ry q => q.elim (h pins s σ H x y v u Q I rx ry) (h' pins s σ H x y v u Q I rx ry)
theorem c_inA (hK : X.K = D.K) (hu : X.A.units + 100 < cLine) : CmpR X D .In gInA := by
  refine ⟨_, OpR.or2 (o_in (by omega)) (op_dIn (by omega)), fun M st H x y p q z Q R hp hq e k => ?_⟩
  unfold gInA at e
  split at e
  · exact .inr (dIn_end (st := st) (f := id) hp hq e k)
  · rw [hK]; exact .inl (p_in M st H x y p _ z Q R hp hq e k)
theorem c_notInA (hK : X.K = D.K) (hu : X.A.units + 100 < cLine) : CmpR X D .NotIn gNotInA := by
  refine ⟨_, OpR.or2 (o_notIn (by omega)) (op_dNotIn (by omega)), fun M st H x y p q z Q R hp hq e k => ?_⟩
  unfold gNotInA at e
  split at e
  · exact .inr (dIn_end (st := st) (f := not) hp hq e k)
  · rw [hK]; exact .inl (p_notIn M st H x y p _ z Q R hp hq e k)
end
end Pu
set_option maxHeartbeats 4000000
namespace Pu
open PySem L2 PyProof.Rows
/-! ### {k: v, ..} -/
def putP (xs : List (Key × PV)) (k : Key) (p : PV) : List (Key × PV) := if (xs.any fun kv => decide (kv.1 = k)) = true then xs.map (fun kv => if kv.1 = k then (kv.1, p) else kv) else xs ++ [(k, p)]
def mergeP (xs more : List (Key × PV)) : List (Key × PV) := more.foldl (fun acc kv => putP acc kv.1 kv.2) xs
def keyR : RV → Option Key
  | .pv p => toKey p
  | _ => none
def ePairs : List (EM × EM) → Sl → S → T XS (List (Key × PV) × S)
  | [], _, st => .ret ([], st)
  | kv :: r, σ, st => (kv.1 σ st).bind fun a => (kv.2 σ a.2).bind fun b => match keyR a.1, b.1 with
    | some ky, .pv p => (ePairs r σ b.2).bind fun c => .ret ((ky, p) :: c.1, c.2)
    | _, _ => .bad
def eDisp (prs : List (EM × EM)) : EM := fun σ st => (ePairs prs σ st).bind fun r => if r.1.length ≤ 15 then .ret (.pv (.dct (mergeP [] r.1)), r.2) else .bad
section
variable {D : Wd} {W : WX} {M : Mx} {H : Hp}
theorem repd_any {k : Key} : ∀ {vs : List (Key × V)} {xs : List (Key × PV)}, Repd D M H vs xs → (vs.any fun kv => decide (kv.1 = k)) = (xs.any fun kv => decide (kv.1 = k))
  | _, _, .nil => rfl
  | _, _, .cons _ r => by simp only [List.any_cons, repd_any r]
theorem repd_map {k : Key} {v : V} {p : PV} (h : Rep D M H v p) : ∀ {vs : List (Key × V)} {xs : List (Key × PV)}, Repd D M H vs xs → Repd D M H (vs.map fun kv => if kv.1 = k then (kv.1, v) else kv) (xs.map fun kv => if kv.1 = k then (kv.1, p) else kv)
  | _, _, .nil => .nil
  | _, _, .cons (k := k') r t => by
    simp only [List.map_cons]
    by_cases e : k' = k
    · simp only [e, if_true]; exact .cons h (repd_map h t)
    · simp only [e, if_false]; exact .cons r (repd_map h t)
theorem repd_app : ∀ {vs us : List (Key × V)} {xs ys : List (Key × PV)}, Repd D M H vs xs → Repd D M H us ys → Repd D M H (vs ++ us) (xs ++ ys)
  | _, _, _, _, .nil, r => r
  | _, _, _, _, .cons a b, r => .cons a (repd_app b r)
theorem repd_put {k : Key} {v : V} {p : PV} {vs : List (Key × V)} {xs : List (Key × PV)} (r : Repd D M H vs xs) (h : Rep D M H v p) : Repd D M H (putK vs k v) (putP xs k p) := by
  unfold putK putP
  rw [repd_any r]
  split
  · exact repd_map h r
  · exact repd_app r (.cons h .nil)
theorem repd_merge : ∀ {us : List (Key × V)} {ys : List (Key × PV)} {vs : List (Key × V)} {xs : List (Key × PV)}, Repd D M H us ys → Repd D M H vs xs → Repd D M H (mergeK vs us) (mergeP xs ys)
  | _, _, _, _, .nil, r => r
  | (k, v) :: us, (_, p) :: ys, vs, xs, .cons a b, r => by
    show Repd D M H (mergeK (putK vs k v) us) (mergeP (putP xs k p) ys)
    exact repd_merge b (repd_put r a)
theorem keyR_v {v : V} {r : RV} {k : Key} (h : RRep D M H v r) (e : keyR r = some k) : v = kV k := by
  cases r with
  | pv p => exact toKey_v (.rep h) e
  | _ => cases e
theorem pairs_run {σ : L2.St} {s : Sl} : ∀ (prs : List (EM × EM)) {M1 : Mx} {H1 : Hp} {st : S} {P : List (Key × PV) × S → Prop} {Qp : List (V × V) → Hp → Prop}
    (h : (ePairs prs s st).wp P (fun e => ∀ c d H' M', Step M1 H1 M' H' → Rel D M' e.2 H' → XRep D M' H' c d e.1 → W c d σ H')) (R : Rel D M1 st H1) (S : Slots D M1 H1 σ s)
    (k : ∀ r kvs M' H', P r → Step M1 H1 M' H' → Rel D M' r.2 H' → Repd D M' H' kvs r.1 → Qp (kvs.map fun kv => (kV kv.1, kv.2)) H'), tPairs (prs.map fun p => (lift D W p.1, lift D W p.2)) σ H1 Qp
  | [], M1, H1, st, P, Qp, h, R, S, k => k _ [] M1 H1 h .refl R .nil
  | pr :: prs, M1, H1, st, P, Qp, h, R, S, k => by
    refine ⟨M1, s, st, R, S, T.wp_mono (fun a q H2 M2 s2 R2 v hv => ?_) (fun e q c d H2 M2 s2 R2 x => q c d H2 M2 s2 R2 x) (T.wp_bind.mp h)⟩
    refine ⟨M2, s, a.2, R2, S.step s2, T.wp_mono (fun b q H3 M3 s3 R3 u hu => ?_) (fun e q c d H3 M3 s3 R3 x => q c d H3 M3 (s2.trans s3) R3 x) (T.wp_bind.mp q)⟩
    cases ek : keyR a.1 with
    | none => rw [ek] at q; exact q.elim
    | some ky =>
      rw [ek] at q
      obtain ⟨b, st3⟩ := b
      cases b with
      | pv p =>
        dsimp only at q
        have ev := keyR_v hv ek
        subst ev
        refine pairs_run prs (T.wp_mono (fun _ z => z) (fun e z c d H4 M4 s4 R4 x => z c d H4 M4 ((s2.trans s3).trans s4) R4 x) (T.wp_bind.mp q)) R3 ((S.step s2).step s3) fun r kvs M4 H4 z s4 R4 rk => ?_
        exact k _ ((ky, u) :: kvs) M4 H4 z ((s2.trans s3).trans s4) R4 (.cons (Rep.step s4 hu) rk)
      | _ => exact q.elim
/-- a new address, set apart -/
def Mx.veil (M : Mx) (p : Addr) : Mx := { M with φ := p :: M.φ }
def Mx.show (M : Mx) (p : Addr) : Mx := { M with φ := M.φ.filter (fun a => a != p) }
theorem veil_out {p a : Addr} (h : M.out a) (ne : a ≠ p) : (M.veil p).out a := ⟨h.1, h.2.1, fun z => (List.mem_cons.mp z).elim ne h.2.2⟩
theorem rdm_veil {p : Addr} {o : HO} (hp : H p = none) : RdM M (M.veil p) H (upd H p o) := by
  have ne : ∀ a u, Rd H a u → a ≠ p := fun a u h z => by
    subst z
    rcases h with h | ⟨_, h⟩ <;> (rw [hp] at h; cases h)
  refine ⟨fun a u oa _ h => ⟨veil_out oa (ne a u h), ?_⟩, fun a C dx vs oa h => ⟨veil_out oa (ne _ _ (.inl h)), ?_⟩, fun a vs oa h => ⟨veil_out oa (ne _ _ (.inl h)), ?_⟩, fun a q oa h => ⟨veil_out oa (ne _ _ (.inl h)), ?_⟩, fun _ h => h, rfl, rfl⟩
  · have := ne a u h
    rcases h with h | ⟨x, h⟩
    · exact .inl (by rw [upd_ne this]; exact h)
    · exact .inr ⟨x, by rw [upd_ne this]; exact h⟩
  · rw [upd_ne (ne _ _ (.inl h))]; exact h
  · rw [upd_ne (ne _ _ (.inl h))]; exact h
  · rw [upd_ne (ne _ _ (.inl h))]; exact h
theorem Rel.veil {st : S} {p : Addr} {o : HO} (R : Rel D M st H) (hp : H p = none) : Step M H (M.veil p) (upd H p o) ∧ Rel D (M.veil p) st (upd H p o) := by
  have f := R.free hp
  refine ⟨⟨⟨[], by simp [Mx.veil], by simp⟩, ⟨[], by simp [Mx.veil], by simp⟩, ⟨fun a h => List.mem_cons_of_mem _ h, fun a h => (List.mem_cons.mp h).elim (fun z => .inr (z ▸ hp)) .inl⟩, fun a u e _ _ => (by rw [upd_ne (ne_of_none e hp)]; exact e), fun a u e => ⟨u, by rw [upd_ne (ne_of_none e hp)]; exact e⟩, rfl⟩, ?_⟩
  refine R.rdmG (rdm_veil hp) rfl (fun a h => upd_ne fun z => h.elim (fun h => f.1 (z ▸ h)) (fun h => f.2.1 (z ▸ h))) fun a ha => ?_
  rcases List.mem_cons.mp ha with rfl | ha
  · exact ⟨⟨_, upd_same⟩, f.1, f.2.1⟩
  · obtain ⟨o', e⟩ := R.fr a ha
    exact ⟨⟨o', by rw [upd_ne (ne_of_none e hp)]; exact e⟩, R.fd a ha⟩
theorem show_out {p a : Addr} (h : M.out a) : (M.show p).out a := ⟨h.1, h.2.1, fun z => h.2.2 (List.mem_filter.mp z).1⟩
/-- what was set apart is seen, whatever stands there -/
theorem show_all {M2 : Mx} {H2 : Hp} {st : S} {p : Addr} {o o2 : HO} (hp : H p = none) (R : Rel D M st H) {st2 : S} (s : Step (M.veil p) (upd H p o) M2 H2) (R2 : Rel D M2 st2 H2) :
    Step M H (M2.show p) (upd H2 p o2) ∧ Rel D (M2.show p) st2 (upd H2 p o2) ∧ (M2.show p).out p ∧ RdM M2 (M2.show p) H2 (upd H2 p o2) := by
  have mp : p ∈ M2.φ := s.φ.1 p (List.mem_cons_self ..)
  have np := R2.fd p mp
  have k : RdM M2 (M2.show p) H2 (upd H2 p o2) := by
    have ne : ∀ a, M2.out a → a ≠ p := fun a h z => h.2.2 (z ▸ mp)
    refine ⟨fun a u oa _ h => ⟨show_out oa, ?_⟩, fun a C dx vs oa h => ⟨show_out oa, ?_⟩, fun a vs oa h => ⟨show_out oa, ?_⟩, fun a q oa h => ⟨show_out oa, ?_⟩, fun _ h => h, rfl, rfl⟩
    · rcases h with h | ⟨x, h⟩
      · exact .inl (by rw [upd_ne (ne a oa)]; exact h)
      · exact .inr ⟨x, by rw [upd_ne (ne a oa)]; exact h⟩
    · rw [upd_ne (ne a oa)]; exact h
    · rw [upd_ne (ne a oa)]; exact h
    · rw [upd_ne (ne a oa)]; exact h
  have un : ∀ a, (upd H p o) a = none → H a = none := fun a h => by
    by_cases z : a = p
    · subst z; exact hp
    · rw [upd_ne z] at h; exact h
  refine ⟨?_, R2.rdmG k rfl (fun a h => upd_ne fun z => h.elim (fun h => np.1 (z ▸ h)) (fun h => np.2 (z ▸ h))) fun a ha => ?_, ⟨np.1, np.2, fun z => by simp [Mx.show] at z⟩, k⟩
  · obtain ⟨⟨n, e1, f1⟩, ⟨m, e2, f2⟩, ⟨p1, p2⟩, kp, th, x⟩ := s
    refine ⟨⟨n, e1, fun a h => un a (f1 a h)⟩, ⟨m, e2, fun a h => un a (f2 a h)⟩, ⟨fun a h => ?_, fun a h => ?_⟩, fun a u e h1 h2 => ?_, fun a u e => ?_, x⟩
    · obtain ⟨u, e⟩ := R.fr a h
      exact List.mem_filter.mpr ⟨p1 a (List.mem_cons_of_mem _ h), by simpa using ne_of_none e hp⟩
    · obtain ⟨h3, h4⟩ := List.mem_filter.mp h
      rcases p2 a h3 with h5 | h5
      · rcases List.mem_cons.mp h5 with h6 | h6
        · simp [h6] at h4
        · exact .inl h6
      · exact .inr (un a h5)
    · have z := ne_of_none e hp
      rw [upd_ne z]
      exact kp a u (by rw [upd_ne z]; exact e) h1 h2
    · have z := ne_of_none e hp
      obtain ⟨o', e'⟩ := th a u (by rw [upd_ne z]; exact e)
      exact ⟨o', by rw [upd_ne z]; exact e'⟩
  · obtain ⟨h3, h4⟩ := List.mem_filter.mp ha
    obtain ⟨o', e⟩ := R2.fr a h3
    exact ⟨⟨o', by rw [upd_ne (by simpa using h4)]; exact e⟩, R2.fd a h3⟩
end
section
variable {X : Cx} {D : Wd} {W : WX} {pos : Pos} {keys : List (Option Expr)} {values : List Expr} {prs : List (EM × EM)}
theorem q_disp (h : PPs X pos keys values (prs.map fun p => (lift D W p.1, lift D W p.2))) (hall : keys.all (·.isSome) = true) (hl : keys.length = values.length) (h0 : keys ≠ []) (h15 : keys.length ≤ 15) : PE X (.Dict keys values pos) (lift D W (eDisp prs)) := by
  refine pe_imp (pe_disp h hall hl h0 h15) fun σ H Q h => ?_
  obtain ⟨M, s, st, R, S, h⟩ := h
  intro p hp
  obtain ⟨s1, R1⟩ := R.veil (o := .dK []) hp
  refine pairs_run prs (T.wp_mono (fun _ z => z) (fun e z c d H2 M2 s2 R2 x => z c d H2 M2 (s1.trans s2) R2 x) (T.wp_bind.mp h)) R1 (S.rdm (rdm_veil hp)) fun r kvs M2 H2 q s2 R2 rk => ?_
  split at q
  · rename_i h15
    refine ⟨s2.keep p _ upd_same (R.free hp).1 (R.free hp).2.1, kvs, rfl, by rw [repd_len rk]; exact h15, ?_⟩
    obtain ⟨s3, R3, o3, k3⟩ := show_all (o2 := .dK (mergeK [] kvs)) hp R s2 R2
    exact q _ _ s3 R3 _ (Rep.dct o3 (.inl upd_same) (repd_merge (Repd.rdm k3 rk) .nil))
  · exact q.elim
theorem q_pnil {e : Env} : PPs X pos [] [] (([] : List (EM × EM)).map fun p => (lift D W p.1, lift D W p.2)) := pps_nil
theorem q_pcons {k v : Expr} {ks : List (Option Expr)} {vs : List Expr} {mk mv : EM} (hk : PE X k (lift D W mk)) (hv : PE X v (lift D W mv)) (hr : PPs X pos ks vs (prs.map fun p => (lift D W p.1, lift D W p.2))) : PPs X pos (some k :: ks) (v :: vs) (((mk, mv) :: prs).map fun p => (lift D W p.1, lift D W p.2)) := pps_cons hk hv hr
end
end Pu
set_option maxHeartbeats 4000000
namespace Pu
open PySem L2 PyProof.Rows
/-! ### {**d, k: v}, d a name -/
def eDispS (i : Nat) (mk mv : EM) : EM := fun σ st => match σ[i]? with
  | some (some (.pv (.dct xs))) => if xs.length ≤ 100000 then (ePairs [(mk, mv)] σ st).bind fun r => .ret (.pv (.dct (mergeP (mergeP [] xs) r.1)), r.2) else .bad
  | _ => .bad
theorem upd_upd {H : Hp} {p : Addr} {a b : HO} : upd (upd H p a) p b = upd H p b := by
  funext c
  by_cases z : c = p
  · subst z; rw [upd_same, upd_same]
  · rw [upd_ne z, upd_ne z, upd_ne z]
section
variable {X : Cx} {D : Wd} {W : WX} {pos : Pos} {a k v : Expr} {i : Nat} {mk mv : EM}
theorem pairs_len {σ : Sl} {P : List (Key × PV) × S → Prop} {E : XS → Prop} : ∀ (prs : List (EM × EM)) {st : S}, (ePairs prs σ st).wp P E → (ePairs prs σ st).wp (fun r => P r ∧ r.1.length = prs.length) E
  | [], st, h => ⟨h, rfl⟩
  | pr :: prs, st, h => by
    refine T.wp_bind.mpr (T.wp_mono (fun a q => T.wp_bind.mpr (T.wp_mono (fun b q => ?_) (fun _ z => z) (T.wp_bind.mp q))) (fun _ z => z) (T.wp_bind.mp h))
    split at q
    · exact T.wp_bind.mpr (T.wp_mono (fun c z => ⟨z.1, congrArg Nat.succ z.2⟩) (fun _ z => z) (pairs_len prs (T.wp_bind.mp q)))
    · exact q.elim
theorem q_dispS (ha : PE X a (tVar i)) (hp : PPs X pos [some k] [v] [(lift D W mk, lift D W mv)]) : PE X (.Dict [none, some k] [a, v] pos) (lift D W (eDispS i mk mv)) := by
  refine pe_imp (pe_dispS ha hp) fun σ H Q h => ?_
  obtain ⟨M, s, st, R, S, h⟩ := h
  intro p hp
  unfold eDispS at h
  split at h
  · rename_i xs es
    split at h
    · rename_i hl
      obtain ⟨u, e1, e2⟩ := S.2 i _ es
      cases e2 with
      | @dct o kvs _ oo rd rk =>
        have hne : o ≠ p := fun z => by
          subst z
          rcases rd with rd | ⟨_, rd⟩ <;> (rw [hp] at rd; cases rd)
        have ln := repd_len rk
        refine ⟨_, e1, o, kvs, rfl, hne, upd_same, ?_, by rw [sizeLine_eq]; omega, fun q hq => ?_⟩
        · rcases rd with rd | ⟨x, rd⟩
          · exact .inl (by rw [upd_ne hne]; exact rd)
          · exact .inr ⟨x, by rw [upd_ne hne]; exact rd⟩
        rw [upd_upd] at hq ⊢
        obtain ⟨s1, R1⟩ := R.veil (o := .dK (mergeK [] kvs)) hp
        obtain ⟨s2, R2⟩ := R1.veil (o := .dK []) hq
        refine pairs_run [(mk, mv)] (T.wp_mono (fun _ z => z) (fun e z c d H2 M2 s3 R2 x => z c d H2 M2 ((s1.trans s2).trans s3) R2 x) (pairs_len _ (T.wp_bind.mp h))) R2 ((S.rdm (rdm_veil hp)).rdm (rdm_veil hq)) fun r us M2 H2 z s3 R3 ru => ?_
        obtain ⟨z, zl⟩ := z
        have fp := R.free hp
        have fq := R1.free hq
        have npq : p ≠ q := fun e => by rw [← e, upd_same] at hq; cases hq
        obtain ⟨r1, st3⟩ := r
        match r1, us, ru, zl with
        | [(ky, y)], [(_, w)], .cons ry .nil, _ =>
          refine ⟨s3.keep q _ upd_same fq.1 fq.2.1, s3.keep p _ (by rw [upd_ne npq, upd_same]) fp.1 fp.2.1, ky, w, rfl, ?_⟩
          obtain ⟨t1, T1, o1, k1⟩ := show_all (o2 := .dK [(ky, w)]) hq R1 s3 R3
          obtain ⟨t2, T2, o2, k2⟩ := show_all (o2 := .dK (mergeK (mergeK [] kvs) [(ky, w)])) hp R t1 T1
          exact z _ _ t2 T2 _ (Rep.dct o2 (.inl upd_same) (repd_merge (.cons (Rep.rdm k2 (Rep.rdm k1 ry)) .nil) (repd_merge (Repd.step t2 rk) .nil)))
    · exact h.elim
  · exact h.elim
end
end Pu
set_option maxHeartbeats 4000000
namespace Pu
variable [TBc]
open PySem L2 PyProof.Rows He He5
/-! ### the head: the defs, and one Bool of the text -/
def obsP (fn : List DefA) (ex : PySem.W.Frag → Bool) (K : PySem.W.Frag) : AlD := (ex K && fn.all fun d => d.ok K, fn.map fun d => fnA K (d.at_ K))
def SaysP (fn : List DefA) (ex : PySem.W.Frag → Bool) (K : PySem.W.Frag) : Prop := obsP fn ex K = valA fn
def obsPG (n : Nat) (fn : List DefA) (ex : PySem.W.Frag → Bool) (g : Addr → Option Obj) : AlD := obsP fn ex (frG g (asA g n))
def hookP (n : Nat) (fn : List DefA) (ex : PySem.W.Frag → Bool) : PySem.W.Hook where
  α := AlD
  obs := fun s => obsPG n fn ex s.heap.get?
  val := fun _ => valA fn
  says := fun _ h => ∃ K : PySem.W.Frag, K.In h ∧ SaysP fn ex K
  of := fun _ _ e => ⟨_, frG_in, e⟩
  keeps := fun _ _ _ ⟨K, hK, c⟩ k => ⟨K, PySem.W.Frag.In.keeps hK k, c⟩
theorem obsPG_eq {n : Nat} {fn : List DefA} {ex : PySem.W.Frag → Bool} {g : Addr → Option Obj} {s : Shared} (h : ∀ a, g a = s.heap.get? a) : obsPG n fn ex g = (hookP n fn ex).obs s := by
  rw [show g = s.heap.get? from funext h]
  rfl
section
variable {fn : List DefA} {ex : PySem.W.Frag → Bool} {K : PySem.W.Frag}
theorem SaysP.more (c : SaysP fn ex K) : ex K = true := (ba (congrArg (fun z : AlD => z.1) c)).1
theorem SaysP.def_ (c : SaysP fn ex K) (i : Nat) {d : DefA} (h : fn[i]? = some d := by rfl) : ∃ fd, FunD K d.name d.qual d.params d.body d.scope (d.dvs K) (d.kws K) (d.at_ K) fd := by
  have c2 := (ba (congrArg (fun z : AlD => z.1) c)).2
  have e2 : (fn.map fun d => fnA K (d.at_ K))[i]? = (fn.map DefA.val)[i]? := by
    have e : fn.map (fun d => fnA K (d.at_ K)) = fn.map DefA.val := congrArg (fun z : AlD => z.2) c
    rw [e]
  rw [List.getElem?_map, List.getElem?_map, h] at e2
  exact DefA.funD (Option.some.inj e2) (List.all_eq_true.mp c2 d (List.mem_of_getElem? h))
end
/-! ### Bools of the text, and what they tell -/
def gloB (K : PySem.W.Frag) (x : Str) : Bool := (Fa.glo x).ok K
def clsB (K : PySem.W.Frag) (c : Nat) (f : Str → Bool) : Bool := match cnT[c]? with
  | some nm => gloB K nm && f nm
  | none => false
def attrB (K : PySem.W.Frag) (A : List Nat) (f : Str) : Bool := A.all fun c => clsB K c fun nm => (Fa.cls nm).ok K && (Fa.noat nm f).ok K
def plB (K : PySem.W.Frag) (C : Addr) : Bool := eqO (PySem.W.findIn K (.ref C) "__class__") (some (some (.builtin "object.__class__"))) && (eqO (PySem.W.specialIn K (.builtin "object.__class__") "__get__") (some (some (.builtin "getset_descriptor.__get__"))) && (decide (PySem.W.takesIn K (.builtin "object.__class__") = some true) && decide (PySem.W.mroIn K C (.type "object") = some true)))
def codeV (K : PySem.W.Frag) (t : Nat) : Value := if t < 16 then .type (bName t) else match cnT[t - 16]? with
  | some nm => .ref (ga K nm)
  | none => .none
def codeB (K : PySem.W.Frag) (t : Nat) : Bool := if t < 16 then true else clsB K (t - 16) fun _ => true
def isB (K : PySem.W.Frag) (sub : Nat → Nat → Bool) (cs ss : List Nat) : Bool := (cs.all fun c => clsB K c fun nm => (Fa.cls nm).ok K && plB K (ga K nm)) && ((ss.all fun s => codeB K s) && ((List.range 7 ++ cs.map (16 + ·)).all fun t => ss.all fun s => decide (PySem.W.kitOne K (codeV K t) (codeV K s) = some (isaN sub t s))))
def exmB (K : PySem.W.Frag) (x : Str) (cs no : List Nat) : Bool := gloB K x && ((cs.all fun c => clsB K c fun nm => decide (PySem.W.exmOne K (.ref (ga K nm)) (.ref (ga K x)) = some true)) && no.all fun c => clsB K c fun nm => decide (PySem.W.exmOne K (.ref (ga K nm)) (.ref (ga K x)) = some false))
def xcB (K : PySem.W.Frag) (sub : Nat → Nat → Bool) (xs ss : List Nat) : Bool := (xs.all fun c => clsB K c fun nm => xfB K (ga K nm) && plB K (ga K nm)) && ((ss.all fun s => codeB K s) && xs.all fun c => ss.all fun s => decide (PySem.W.kitOne K (codeV K (16 + c)) (codeV K s) = some (isaN sub (16 + c) s)))
def xaB (K : PySem.W.Frag) (xs : List Nat) (f : Str) : Bool := xs.all fun c => clsB K c fun nm => xfB K (ga K nm) && eqO (PySem.W.findIn K (.ref (ga K nm)) f) (some none)
section
variable {K : PySem.W.Frag} {h : Heap} {mg : Str → Option Value} (X : K.In h) (G : h.Ns mainGlobals mg)
include X G
theorem glo_at {x : Str} (c : gloB K x = true) : mg x = some (.ref (ga K x)) := glo_ok X G c
theorem clsB_at {c : Nat} {f : Str → Bool} (e : clsB K c f = true) {nm : Str} {C : Addr} (h1 : cnT[c]? = some nm) (h2 : mg nm = some (.ref C)) : C = ga K nm ∧ f nm = true := by
  unfold clsB at e
  rw [h1] at e
  obtain ⟨k1, k2⟩ := ba e
  have := glo_at X G k1
  rw [h2] at this
  cases this
  exact ⟨rfl, k2⟩
theorem attrB_ok {A : List Nat} {f : Str} (e : attrB K A f = true) : AttrC (DW K mg) A f := by
  intro c hc nm C h1 h2
  obtain ⟨rfl, k⟩ := clsB_at X G (List.all_eq_true.mp e c hc) h1 h2
  obtain ⟨k1, k2⟩ := ba k
  exact ⟨cls_ok k1, noat_ok k2⟩
theorem codeV_at {t : Nat} {u : Value} (e : codeB K t = true) (k : CodeV (DW K mg) t u) : u = codeV K t := by
  unfold CodeV at k
  unfold codeB at e
  unfold codeV
  split
  · rename_i h
    rw [if_pos h] at k
    exact k
  · rename_i h
    rw [if_neg h] at k e
    obtain ⟨nm, C, h1, h2, rfl⟩ := k
    have h1' : cnT[t - 16]? = some nm := h1
    obtain ⟨rfl, _⟩ := clsB_at X G e h1' h2
    rw [h1']
omit X G in
theorem plB_ok {C : Addr} (e : plB K C = true) : PySem.W.findIn K (.ref C) "__class__" = some (some (.builtin "object.__class__")) ∧ PySem.W.specialIn K (.builtin "object.__class__") "__get__" = some (some (.builtin "getset_descriptor.__get__")) ∧ PySem.W.takesIn K (.builtin "object.__class__") = some true ∧ PySem.W.mroIn K C (.type "object") = some true := by
  obtain ⟨e1, e⟩ := ba e
  obtain ⟨e2, e⟩ := ba e
  obtain ⟨e3, e4⟩ := ba e
  exact ⟨eqO_ok e1, eqO_ok e2, of_decide_eq_true e3, of_decide_eq_true e4⟩
theorem isB_ok {sub : Nat → Nat → Bool} {cs ss : List Nat} (e : isB K sub cs ss = true) : IsC (DW K mg) sub cs ss := by
  obtain ⟨e1, e⟩ := ba e
  obtain ⟨e2, e3⟩ := ba e
  refine ⟨fun c hc nm C h1 h2 => ?_, fun t s u w ht hs hu hw => ?_⟩
  · obtain ⟨rfl, k⟩ := clsB_at X G (List.all_eq_true.mp e1 c hc) h1 h2
    obtain ⟨k1, k2⟩ := ba k
    exact ⟨cls_ok k1, plB_ok k2⟩
  · have k := List.all_eq_true.mp (List.all_eq_true.mp e3 t (by
      rcases ht with ht | ⟨h1, h2⟩
      · exact List.mem_append_left _ (List.mem_range.mpr ht)
      · exact List.mem_append_right _ (List.mem_map.mpr ⟨t - 16, h2, by omega⟩))) s hs
    have ct : codeB K t = true := by
      unfold codeB
      split
      · rfl
      · rcases ht with ht | ⟨h1, h2⟩
        · omega
        · have := List.all_eq_true.mp e1 (t - 16) h2
          unfold clsB at this ⊢
          split at this
          · rw [(ba this).1]; rfl
          · cases this
    rw [codeV_at X G ct hu, codeV_at X G (List.all_eq_true.mp e2 s hs) hw]
    exact of_decide_eq_true k
theorem exmB_ok {x : Str} {cs no : List Nat} (e : exmB K x cs no = true) : ∃ B, ExmC (DW K mg) x B cs no := by
  obtain ⟨e1, e⟩ := ba e
  obtain ⟨e2, e3⟩ := ba e
  refine ⟨ga K x, glo_at X G e1, fun c hc nm C h1 h2 => ?_, fun c hc nm C h1 h2 => ?_⟩
  · obtain ⟨rfl, k⟩ := clsB_at X G (List.all_eq_true.mp e2 c hc) h1 h2
    exact of_decide_eq_true k
  · obtain ⟨rfl, k⟩ := clsB_at X G (List.all_eq_true.mp e3 c hc) h1 h2
    exact of_decide_eq_true k
theorem xcB_ok {sub : Nat → Nat → Bool} {xs ss : List Nat} (e : xcB K sub xs ss = true) : XcC (DW K mg) sub xs ss := by
  obtain ⟨e1, e⟩ := ba e
  obtain ⟨e2, e3⟩ := ba e
  refine ⟨fun c hc nm C h1 h2 => ?_, fun c hc s hs nm C w h1 h2 hw => ?_⟩
  · obtain ⟨rfl, k⟩ := clsB_at X G (List.all_eq_true.mp e1 c hc) h1 h2
    obtain ⟨k1, k2⟩ := ba k
    have z := xfB_ok k1
    obtain ⟨p1, p2, p3, p4⟩ := plB_ok k2
    exact ⟨z.ga, z.gg, z.exC, z.hdC, p1, p2, p3, p4⟩
  · have h1' : cnT[c]? = some nm := h1
    obtain ⟨rfl, _⟩ := clsB_at X G (List.all_eq_true.mp e1 c hc) h1 h2
    have k := of_decide_eq_true (List.all_eq_true.mp (List.all_eq_true.mp e3 c hc) s hs)
    have ev : codeV K (16 + c) = .ref (ga K nm) := by
      unfold codeV
      rw [if_neg (by omega), show 16 + c - 16 = c by omega, h1']
    rw [ev] at k
    rw [codeV_at X G (List.all_eq_true.mp e2 s hs) hw]
    exact k
theorem xaB_ok {xs : List Nat} {f : Str} (e : xaB K xs f = true) : XfA (DW K mg) xs f := by
  intro c hc nm C h1 h2
  obtain ⟨rfl, k⟩ := clsB_at X G (List.all_eq_true.mp e c hc) h1 h2
  obtain ⟨k1, k2⟩ := ba k
  exact ⟨xfB_ok k1, eqO_ok k2⟩
theorem strG_ok {x z : Str} (c : (Fa.str x z).ok K = true) : GC (DW K mg) x (.str z) := by
  obtain ⟨t, e⟩ := str_ok X G c
  exact ⟨⟨_, .str z, e, ⟨t, rfl⟩, fun _ _ => .str z⟩⟩
theorem intG_ok {x : Str} {i : Int} (c : (Fa.int x i).ok K = true) : GC (DW K mg) x (.int i) := by
  obtain ⟨t, e⟩ := int_ok X G c
  exact ⟨⟨_, .int i, e, ⟨t, rfl⟩, fun _ _ => .int i⟩⟩
end
/-- an error's class -/
def oexB (K : PySem.W.Frag) (C : Addr) : Bool := (match K.lookup C with
  | some ⟨.type "type", _, .cls cd, sl⟩ => (match cd.mro, sl.toList with
    | .ref C' :: bm, [_, _, _, _, some (.builtin n), _] => C' == C && (n == "ValueError.__new__" && (!cd.hasDel && (cd.hasDict && PySem.HandSPX.refsVE bm)))
    | _, _ => false)
  | _ => false) && (eqO (PySem.W.findIn K (.ref C) "__setattr__") (some (some (.builtin "object.__setattr__"))) && (decide (PySem.W.subIn K (.ref C) (.type "BaseException") = some true) && (decide (PySem.W.typeIn K (.ref C) = some (.type "type")) && PySem.W.keepIn K (.ref C))))
theorem oexB_ok {K : PySem.W.Frag} {C : Addr} (e : oexB K C = true) : OexC K C := by
  obtain ⟨e1, e⟩ := ba e
  obtain ⟨e2, e⟩ := ba e
  obtain ⟨e3, e⟩ := ba e
  obtain ⟨e4, e5⟩ := ba e
  refine ⟨?_, eqO_ok e2, of_decide_eq_true e3, of_decide_eq_true e4, e5⟩
  split at e1
  · rename_i dd cd sl ho
    split at e1
    · rename_i C' bm k0 k1 k2 k3 n k5 hm hs
      simp only [Bool.and_eq_true, beq_iff_eq, Bool.not_eq_true'] at e1
      obtain ⟨rfl, rfl, hx, hh, hv⟩ := e1
      obtain ⟨nm, bs, mro, ns, qn, hd, sn, sub, ab, col, del⟩ := cd
      dsimp only at hm hx hh
      subst hm hx hh
      have es : sl = #[k0, k1, k2, k3, some (.builtin "ValueError.__new__"), k5] := by
        obtain ⟨l⟩ := sl
        simp only at hs
        rw [hs]
      subst es
      exact ⟨nm, qn, ns, bs, bm, sn, sub, ab, col, dd, k0, k1, k2, k3, k5, ho, hv⟩
    · cases e1
  · cases e1
end Pu
set_option maxHeartbeats 4000000
namespace My
open PySem L2 PyProof.Rows
/-! own operators -/
section
variable {prog : Program} {w : World} {A : Around} {E : Value → Shared → Prop} {s : Shared} {K : PySem.W.Frag} {x C L f : Addr} {h₀ : Heap} {m : Str → Option Value} {ox : Obj} {od : Option Obj} {b tb : Value}
theorem ne_bind (self : Value) : bindSpecial (.builtin "object.__ne__") self = pure (.builtin "object.__ne__", [self]) :=
  (Slot.of (T := "object") (name := "__ne__") (owner := "object") (n := "__ne__") (by rw [typeLookup_type, builtinLookup_eq_fast]; kernel_rfl) (by decide +kernel) (by decide +kernel) (by decide +kernel)
    (.inl (by decide +kernel)) (by rw [isSubtype_type]; kernel_rfl)).bind self
/-- a != b by an own == -/
theorem ne_K {Q : Value → Shared → Prop} (hu : A.units + 1 < cLine) (F : Fr h₀ L s.heap m) (X₀ : K.In h₀) (I : PySem.W.InstAt s.heap x ox C od) (hb : PySem.W.Looks (model prog w) s.heap (typeOf b) tb) (hn : PySem.W.notFirst K C tb = true)
    (hne : PySem.W.findIn K (.ref C) "__ne__" = some (some (.builtin "object.__ne__"))) (ho : PySem.W.subIn K (.ref C) (.type "object") = some true) (hs : PySem.W.findIn K (.ref C) "__eq__" = some (some (.ref f))) (hf : PySem.W.isFn K (.ref f) = true)
    (h : wpAny (model prog w) A.in1 (call (.ref f) [.ref x, b]) (fun v s' => ∃ r, v = .bool r ∧ Q (.bool (!r)) s') E s) : wpAny (model prog w) A (richCompare .NotEq (.ref x) b) Q E s := by
  have X := X₀.keeps F.keep
  have inst : PySem.W.Looks (model prog w) s.heap (isInstance (.ref x) (.type "object")) true := I.type.andThen (PySem.W.looks_subIn X ho)
  have one : wpAny (model prog w) A (tryCompare (.ref x) (cmpInfo .NotEq).2.1 b) (fun r s' => ∃ v, r = some v ∧ Q v s') E s := by
    have run : wpAny (model prog w) A (call (.builtin "object.__ne__") [.ref x, b]) (fun v s' => ∃ r, v = .bool r ∧ Q v s') E s := by
      refine wpAny_call (codeAny_call_builtin (by decide +kernel) PySem.F.cmpEntry_ne (PySem.W.check_slot PySem.F.cmpKind_ne PySem.F.cmpSplit_ne inst (PySem.F.cmpArgs_ne _ _) ?_))
      unfold Builtin.«object.__ne__»
      refine wpAny_bind (wpAny_of_eq (a := (Value.ref x, [b])) (by rfl) ?_)
      dsimp only
      refine wpAny_bind (wpAny_cRoomFor hu (wpAny_bind (PySem.W.ifBound_K X I hs hf (wpAny_mono h (fun v s' hv => ?_) fun _ _ e => e))))
      obtain ⟨r, rfl, q⟩ := hv
      refine wpAny_bind (wpAny_truthy_bool (wpAny_pure ?_))
      exact ⟨_, rfl, q⟩
    unfold tryCompare
    refine wpAny_bind ?_
    simp only [callSpecialIfBound?, bindSpecialIfBound?]
    have nb : PySem.W.Looks (model prog w) s.heap (bindSpecial (.builtin "object.__ne__") (.ref x)) (.builtin "object.__ne__", [.ref x]) := PySem.W.Looks.of_pure (ne_bind _)
    have fin : wpAny (model prog w) A (call (.builtin "object.__ne__") ([.ref x] ++ [b]) >>= fun v => pure (some v)) (fun r s' => ∃ u v, r = some v ∧ v = .bool u ∧ Q v s') E s := by
      refine wpAny_bind (wpAny_mono run (fun v s' hv => wpAny_pure ?_) fun _ _ e => e)
      obtain ⟨r, rfl, q⟩ := hv
      exact ⟨r, _, rfl, rfl, q⟩
    have fin2 : ∀ {P2 : Option Value → Shared → Prop}, (∀ u s', Q (.bool u) s' → P2 (some (.bool u)) s') → wpAny (model prog w) A (call (.builtin "object.__ne__") ([.ref x] ++ [b]) >>= fun v => pure (some v)) P2 E s := fun hP => wpAny_mono fin (fun r s' hr => by obtain ⟨u, v, rfl, rfl, q⟩ := hr; exact hP u s' q) fun _ _ e => e
    refine wpAny_holding (wpAny_bind (wpAny_bind (wpAny_bind (I.type.here ((PySem.W.looks_findIn X hne).here ?_)))))
    refine wpAny_bind (wpAny_askSetting (wpAny_ite ?_))
    split
    · refine wpAny_bind (nb.here (wpAny_pure ?_))
      exact fin2 fun u s' q => wpAny_pure ⟨_, rfl, q⟩
    · refine wpAny_tryCatch (wpAny_bind (nb.here (wpAny_pure ?_)))
      exact fin2 fun u s' q => wpAny_pure ⟨_, rfl, q⟩
  have ends : ∀ {g : Option Value → Sem Value}, (∀ v, g (some v) = pure v) → wpAny (model prog w) A (tryCompare (.ref x) (cmpInfo .NotEq).2.1 b >>= g) Q E s := fun {g} hg => wpAny_bind (wpAny_mono one (fun r s' ⟨v, er, hq⟩ => by rw [er, hg v]; exact wpAny_pure hq) fun _ _ e => e)
  have sub : ¬ (Value.ref C == tb) = true → PySem.W.subIn K tb (.ref C) = some false := fun hq => (Bool.or_eq_true_iff.mp hn).elim (fun e => absurd (by rw [beq_iff_eq.mp e]; simp) hq) beq_iff_eq.mp
  unfold richCompare
  simp only [oneThing_ref]
  refine wpAny_holding (wpAny_bind (wpAny_cRoomFor (Nat.lt_of_succ_lt hu) (wpAny_bind (I.type.here (wpAny_bind (hb.here ?_))))))
  by_cases hq : (Value.ref C == tb) = true
  · rw [if_neg (by simpa using hq)]
    refine wpAny_bind (wpAny_pure ?_)
    simp only [Bool.false_eq_true, if_false]
    exact ends fun v => rfl
  · rw [if_pos (by simpa using hq)]
    refine wpAny_bind ((PySem.W.looks_subIn X (sub hq)).here ?_)
    simp only [Bool.false_eq_true, if_false]
    exact ends fun v => rfl
end
section
variable {X : Cx} {CX : CXT} {n : Nat} {C f : Addr} {fd : FuncData} {ps : List Str} {sp : Sp} {E : XK}
/-- a def called by the machine itself -/
theorem run_own {A : Around} {pins : List (Addr × Obj)} {σ : L2.St} {H : Hp} {s : Shared} {vs : List V} {us : List Value} {Q : VK} (hA : A.frames = X.A.frames) (hr : Room n A) (F : FnOk X.prog X.w X.K X.mg X.base CX n f fd ps sp) (hb : Binds X.K fd ps []) (hx : Passes CX X E)
    (I : L2.Inv X pins σ H s) (r : Vals vs us) (hsp : sp vs H Q E) : wpAny (model X.prog X.w) A (call (.ref f) us) (EP X pins σ Q) X.xe s := by
  have hl := F.len _ _ _ _ hsp
  have e := I.env0
  have e0 : Env0 X.prog X.w X.K X.mg X.base A X.stack s H := ⟨hA.trans e.frames, e.mod, e.bs, e.bsz, e.funs, e.frf, e.hok, e.bare⟩
  have bt : BindsTo s fd ⟨us, []⟩ (ps.zip us) := by
    have := hb s us I.kIn (by rw [List.append_nil, ← r.length]; exact hl)
    rwa [List.append_nil] at this
  refine wpAny_call (codeAny_mono (F.run A X.stack s H ⟨us, []⟩ us vs _ E hr e0 bt r hsp) fun o s' hq => ?_)
  match o, hq with
  | .error e, hq => exact hx pins σ H s e s' I hq
  | .ok (.ret w), hq =>
    obtain ⟨z, H', I', rz, q⟩ := I.after hq
    exact ⟨z, H', I', rz, q⟩
theorem vals2 (a b : Addr) : Vals [V.ref a, V.ref b] [Value.ref a, Value.ref b] := .cons rfl (.cons rfl .nil)
theorem vals1x {x : V} {v : Value} (a : Addr) (r : L2.RelV x v) : Vals [V.ref a, x] [Value.ref a, v] := .cons (show L2.RelV (V.ref a) (Value.ref a) from rfl) (.cons r .nil)
/-- what an own method of two instances of a class asks -/
def rOwn2 (C : Addr) (sp : Sp) (E : XK) : R2 := fun x y H Q => ∃ a b dx dy fs gs, x = .ref a ∧ y = .ref b ∧ H a = some (.ins C dx fs) ∧ H b = some (.ins C dy gs) ∧ sp [.ref a, .ref b] H Q E
theorem ep_back {pins : List (Addr × Obj)} {σ : L2.St} {Q : VK} {v : Value} {s' : Shared} (h : EP X pins σ Q v s') : PySem.W.CmpBack (EP X pins σ Q) v s' := by
  obtain ⟨z, H', I', rz, q⟩ := h
  have h' : EP X pins σ Q v s' := ⟨z, H', I', rz, q⟩
  cases z with
  | non => cases rz; exact h'
  | bl _ => cases rz; exact h'
  | int _ => obtain ⟨t, rfl⟩ := rz; exact h'
  | str _ => obtain ⟨t, rfl⟩ := rz; exact h'
  | byt _ => obtain ⟨t, rfl⟩ := rz; exact h'
  | flt _ => obtain ⟨t, rfl⟩ := rz; exact h'
  | ref _ => cases rz; exact h'
  | ty _ => cases rz; exact h'
theorem op_cmpOwn {op : CmpOp} (hop : ∀ a b, compareOp op a b = richCompare op a b) (hr : Room n X.A) (F : FnOk X.prog X.w X.K X.mg X.base CX n f fd ps sp) (hs : PySem.W.findIn X.K (.ref C) (cmpInfo op).2.1 = some (some (.ref f))) (hf : PySem.W.isFn X.K (.ref f) = true) (hb : Binds X.K fd ps []) (hx : Passes CX X E) :
    OpR X (compareOp op) (rOwn2 C sp E) := by
  intro pins s σ H x y v u Q I rx ry h
  obtain ⟨a, b, dx, dy, fs, gs, rfl, rfl, ha, hb', hsp⟩ := h
  cases rx
  cases ry
  obtain ⟨mA, JA, _⟩ := ins_get I.hok ha
  obtain ⟨mB, JB, _⟩ := ins_get I.hok hb'
  obtain ⟨oa, JA, _⟩ := JA.look
  obtain ⟨ob, JB, _⟩ := JB.look
  obtain ⟨m, hF⟩ := I.fr
  rw [hop]
  exact PySem.W.cmp_K (tb := .ref C) hr.units0 hF I.ok.mod.kin JA JB.type (by simp [PySem.W.notFirst]) hs hf (wpAny_mono (run_own rfl hr F hb hx I (vals2 a b) hsp) (fun _ _ q => ep_back q) fun _ _ e => e)
theorem op_binOwn {op : Operator} (hr : Room n X.A) (F : FnOk X.prog X.w X.K X.mg X.base CX n f fd ps sp) (hc : PySem.W.selfFirst X.K C = true) (hs : PySem.W.findIn X.K (.ref C) (PySem.dunder op.info.2) = some (some (.ref f))) (hf : PySem.W.isFn X.K (.ref f) = true) (hb : Binds X.K fd ps []) (hx : Passes CX X E) :
    OpR X (binaryOp op) (rOwn2 C sp E) := by
  intro pins s σ H x y v u Q I rx ry h
  obtain ⟨a, b, dx, dy, fs, gs, rfl, rfl, ha, hb', hsp⟩ := h
  cases rx
  cases ry
  obtain ⟨mA, JA, _⟩ := ins_get I.hok ha
  obtain ⟨mB, JB, _⟩ := ins_get I.hok hb'
  obtain ⟨oa, JA, _⟩ := JA.look
  obtain ⟨ob, JB, _⟩ := JB.look
  obtain ⟨m, hF⟩ := I.fr
  exact PySem.W.binop_K hF I.ok.mod.kin JA JB.type hc hs hf (wpAny_mono (run_own rfl hr F hb hx I (vals2 a b) hsp) (fun _ _ q => ep_back q) fun _ _ e => e)
def rNeOwn (C : Addr) (sp : Sp) (E : XK) : R2 := fun x y H Q => ∃ a b dx dy fs gs, x = .ref a ∧ y = .ref b ∧ H a = some (.ins C dx fs) ∧ H b = some (.ins C dy gs) ∧ sp [.ref a, .ref b] H (fun v H' => ∃ r, v = .bl r ∧ Q (.bl (!r)) H') E
theorem op_neOwn (hr : Room (n + 1) X.A) (F : FnOk X.prog X.w X.K X.mg X.base CX n f fd ps sp) (hne : PySem.W.findIn X.K (.ref C) "__ne__" = some (some (.builtin "object.__ne__"))) (ho : PySem.W.subIn X.K (.ref C) (.type "object") = some true)
    (hs : PySem.W.findIn X.K (.ref C) "__eq__" = some (some (.ref f))) (hf : PySem.W.isFn X.K (.ref f) = true) (hb : Binds X.K fd ps []) (hx : Passes CX X E) : OpR X (compareOp .NotEq) (rNeOwn C sp E) := by
  intro pins s σ H x y v u Q I rx ry h
  obtain ⟨a, b, dx, dy, fs, gs, rfl, rfl, ha, hb', hsp⟩ := h
  cases rx
  cases ry
  obtain ⟨mA, JA, _⟩ := ins_get I.hok ha
  obtain ⟨mB, JB, _⟩ := ins_get I.hok hb'
  obtain ⟨oa, JA, _⟩ := JA.look
  obtain ⟨ob, JB, _⟩ := JB.look
  obtain ⟨m, hF⟩ := I.fr
  show wpAny _ _ (richCompare .NotEq _ _) _ _ _
  refine ne_K (tb := .ref C) (by have := hr.un; omega) hF I.ok.mod.kin JA JB.type (by simp [PySem.W.notFirst]) hne ho hs hf (wpAny_mono (run_own (A := X.A.in1) rfl hr.in1 F hb hx I (vals2 a b) hsp) (fun w s' q => ?_) fun _ _ e => e)
  obtain ⟨z, H', I', rz, r, rfl, q⟩ := q
  cases rz
  exact ⟨r, rfl, .bl (!r), H', I', rfl, q⟩
/-- v in o, by an own __contains__ -/
def rInOwn (C : Addr) (sp : Sp) (E : XK) (neg : Bool) : R2 := fun x y H Q => ∃ b dy gs, y = .ref b ∧ H b = some (.ins C dy gs) ∧ sp [.ref b, x] H (fun v H' => ∃ r, v = .bl r ∧ Q (.bl (if neg = true then !r else r)) H') E
theorem op_inOwn (hr : Room n X.A) (F : FnOk X.prog X.w X.K X.mg X.base CX n f fd ps sp) (hs : PySem.W.findIn X.K (.ref C) "__contains__" = some (some (.ref f))) (hf : PySem.W.isFn X.K (.ref f) = true) (hb : Binds X.K fd ps []) (hx : Passes CX X E) :
    OpR X (compareOp .In) (rInOwn C sp E false) := by
  intro pins s σ H x y v u Q I rx ry h
  obtain ⟨b, dy, gs, rfl, hb', hsp⟩ := h
  cases ry
  obtain ⟨mB, JB, _⟩ := ins_get I.hok hb'
  obtain ⟨ob, JB, _⟩ := JB.look
  obtain ⟨m, hF⟩ := I.fr
  refine PySem.W.in_K hF I.ok.mod.kin JB hs hf (wpAny_mono (run_own rfl hr F hb hx I (vals1x b rx) hsp) (fun w s' q => ?_) fun _ _ e => e)
  obtain ⟨z, H', I', rz, r, rfl, q⟩ := q
  cases rz
  exact wpAny_truthy_bool ⟨.bl r, H', I', rfl, q⟩
theorem op_notInOwn (hr : Room n X.A) (F : FnOk X.prog X.w X.K X.mg X.base CX n f fd ps sp) (hs : PySem.W.findIn X.K (.ref C) "__contains__" = some (some (.ref f))) (hf : PySem.W.isFn X.K (.ref f) = true) (hb : Binds X.K fd ps []) (hx : Passes CX X E) :
    OpR X (compareOp .NotIn) (rInOwn C sp E true) := by
  intro pins s σ H x y v u Q I rx ry h
  obtain ⟨b, dy, gs, rfl, hb', hsp⟩ := h
  cases ry
  obtain ⟨mB, JB, _⟩ := ins_get I.hok hb'
  obtain ⟨ob, JB, _⟩ := JB.look
  obtain ⟨m, hF⟩ := I.fr
  refine PySem.W.notIn_K hF I.ok.mod.kin JB hs hf (wpAny_mono (run_own rfl hr F hb hx I (vals1x b rx) hsp) (fun w s' q => ?_) fun _ _ e => e)
  obtain ⟨z, H', I', rz, r, rfl, q⟩ := q
  cases rz
  exact wpAny_truthy_bool ⟨.bl (!r), H', I', rfl, q⟩
end
end My
set_option maxHeartbeats 4000000
namespace My
open PySem L2 PyProof.Rows
/-! division of any size -/
/-- what the whole run keeps: nobody looks on, and the text brings no files -/
structure Calm (P : Program) (base : Heap) : Prop where
  seer : base.NoSeer
  tree : P.given.tree = none
theorem op_fdivA {X : Cx} {env : Env} {l : List Env} (Cm : Calm X.prog X.base) (hd : X.A.depth + 100 < recursionLimit) (hst : X.stack = env :: l := by rfl) (h1 : env.scope.isGenerator = false := by rfl) (h2 : env.scope.isCoroutine = false := by rfl) (h3 : env.builtins = builtinsNs := by rfl) (h4 : env.globals = mainGlobals := by rfl) :
    OpR X (binaryOp .FloorDiv) (rI (fun _ j => j ≠ 0) fun i j => .int (i.fdiv j)) := by
  intro pins s σ H x y v u Q I rx ry h
  obtain ⟨i, j, rfl, rfl, hc, q⟩ := h
  obtain ⟨t, rfl⟩ := rx
  obtain ⟨t', rfl⟩ := ry
  have room : PylongRoom (model X.prog X.w) X.A s := PylongRoom.of I.nolimit hd (SeerAt.of (Cm.seer.keeps I.bk) Cm.tree (I.ok.frames.trans (congrArg some hst)) h1 h2 h3 h4)
  exact floordiv_int hc ⟨.int (i.fdiv j), H, I.tok _, ⟨_, rfl⟩, q⟩ (.inr room)
/-- a def's promise, kept wherever nothing that tells a text is under way -/
structure FnG (P : Program) (w : World) (K : PySem.W.Frag) (mg : Str → Option Value) (base : Heap) (CX : CXT) (k : Nat) (f : Addr) (fd : FuncData) (ps : List Str) (sp : Sp) : Prop where
  len : ∀ vs H Q E, sp vs H Q E → vs.length = ps.length
  go : ∀ (A : Around) (l : List Env) (s : Shared) (H : Hp) (args : Args) (us : List Value) (vs : List V) (Q : VK) (E : XK), A.guards = some [] → Room k A → Env0 P w K mg base A l s H → BindsTo s fd args (ps.zip us) → Vals vs us → sp vs H Q E →
    codeAny (model P w) A (.call (.ref f) args) (CR CX l P w H s Q E) s
theorem FnG.of {P : Program} {w : World} {K : PySem.W.Frag} {mg : Str → Option Value} {base : Heap} {CX : CXT} {k : Nat} {f : Addr} {fd : FuncData} {ps : List Str} {sp : Sp} (F : FnOk P w K mg base CX k f fd ps sp) : FnG P w K mg base CX k f fd ps sp :=
  ⟨F.len, fun A l s H args us vs Q E _ => F.run A l s H args us vs Q E⟩
theorem fnG_of {CX : CXT} {P : Program} {w : World} {K : PySem.W.Frag} {mg : Str → Option Value} {base : Heap} {k : Nat} {f : Addr} {name qual : Str} {params : Arguments} {body : List Stmt} {sc : Scope} {dV kV doc pm cdv ct oc : Value} {an od : Option Addr}
    {osl : Array (Option Value)} {N ps : List Str} {sp : Sp} (lk : K.lookup f = some ⟨oc, od, .func (PySem.W.fnOf name qual params body sc dV kV doc pm an cdv ct), osl⟩) (hcd : PySem.W.codeIn K cdv qual = true) (S : FnScope N ps sc) (ln : ∀ vs H Q E, sp vs H Q E → vs.length = ps.length)
    (hB : ∀ (A : Around) (l : List Env) (s : Shared) (H : Hp) (vs : List V) (Q : VK) (E : XK), A.guards = some [] → Room k (A.deeper (envOfC qual sc s.heap.objs.size f cdv)) → sp vs H Q E →
      ∃ t, PSs (cxOf CX P w K mg base N qual sc f cdv A l s H E) body t ∧ t { nx := fun _ H' => Q .non H', rt := Q } (start N vs) H) :
    FnG P w K mg base CX (k + 1) f (PySem.W.fnOf name qual params body sc dV kV doc pm an cdv ct) ps sp := by
  refine ⟨ln, fun A l s H args us vs Q E hA hr e0 hb rv hsp => ?_⟩
  have kin : K.In s.heap := e0.mod.kin.keeps (fun b o e => (e0.bs b o e).1)
  have nl : s.heap.NoLimit := e0.mod.nolimit.keeps (fun b o e => (e0.bs b o e).1)
  refine codeAny_call_function hr.depth (kin _ _ lk) rfl S.co S.gen rfl (PySem.W.codeRec_of kin hcd) (hb _ _ _ _ (wpAny_newFunctionEnv_cells S.kind ?_ ?_))
  · intro ⟨n, v⟩ hy
    exact (S.par n (List.of_mem_zip hy).1).elim .inl fun q => .inr ⟨q, PySem.W.cellsFrom_some _ _ _ (.inl q)⟩
  intro env he s1 x
  subst he
  obtain ⟨t, ht, hq⟩ := hB A l s H vs Q E hA (hr.deeper _) hsp
  have I : Inv (cxOf CX P w K mg base N qual sc f cdv A l s H E) [] (start N vs) H s1 := inv_start S hr.hd e0 (ln _ _ _ _ hsp) rv x
  refine ⟨nl.keeps x.toInCall.keep, codeAny_func (wpAny_mono (ht.run [] s1 (start N vs) H _ I hq) (fun fl s' hs => ?_) fun e s' z => z)⟩
  match fl, hs with
  | .ret u, ⟨v, σ', H', J, rv, q⟩ => exact ⟨v, H', J.os, J.bare, J.base, J.hok, rv, q⟩
  | .next, ⟨σ', H', J, q⟩ => exact ⟨.non, H', J.os, J.bare, J.base, J.hok, rfl, q⟩
  | .brk, ⟨_, _, _, q⟩ => exact q.elim
  | .cont, ⟨_, _, _, q⟩ => exact q.elim
theorem okG {P : Program} {w : World} {K : PySem.W.Frag} {mg : Str → Option Value} {base : Heap} {x qual : Str} {st : Stmt} {f : Addr} {fd : FuncData} {N ps : List Str} {k : Nat} {sp : Sp} (F : Fun K x qual st f fd) (S : FnScope N ps (defScope st)) (ln : ∀ vs H Q E, sp vs H Q E → vs.length = ps.length)
    (hB : ∀ (cdv : Value) (A : Around) (l : List Env) (s : Shared) (H : Hp) (vs : List V) (Q : VK) (E : XK), A.guards = some [] → Room k (A.deeper (envOfC qual (defScope st) s.heap.objs.size f cdv)) → sp vs H Q E →
      ∃ t, PSs (cxOf CX0 P w K mg base N qual (defScope st) f cdv A l s H E).nox (defBody st) t ∧ t { nx := fun _ H' => Q .non H', rt := Q } (start N vs) H) : FnG P w K mg base CX0 (k + 1) f fd ps sp := by
  obtain ⟨oc, od, kV, doc, pm, an, cdv, ct, osl, rfl, lk, hcd⟩ := F.ex
  exact fnG_of lk hcd S ln fun A l s H vs Q E hA hr hsp => let ⟨t, h, q⟩ := hB cdv A l s H vs Q E hA hr hsp; ⟨t, h.nox, q⟩
/-- the law's call, at the heap behind the top, with what the run keeps -/
theorem callS {P : Program} {w : World} {K : PySem.W.Frag} {mg mb : Str → Option Value} {CX : CXT} {k : Nat} {fa a : Addr} {fd : FuncData} {x : Str} {sp : Sp} {s₁ : Shared} {vs : List Value} {ns : List Int}
    (KX : K.In s₁.heap) (hN : s₁.heap.Ns mainGlobals mg) (hB : s₁.heap.Ns builtinsNs mb) (hBB : ∀ x : Str, x ≠ "__name__" → mb x = bootBuiltins x) (hL : s₁.heap.NoLimit) (hSe : s₁.heap.NoSeer) (hG : s₁.gens = #[])
    (ha : s₁.heap.get? a = some { cls := .type "list", data := .seq vs.toArray }) (hI : IntsAre vs ns) (hn : ns.length ≤ sizeLine) (hr : Room k callerA)
    (F : ∀ base : Heap, K.In base → base.Ns mainGlobals mg → base.NoSeer → FnG P w K mg base CX k fa fd [x] sp) (hb : ∀ (s : Shared) (u : Value), BindsTo s fd ⟨[u], []⟩ [(x, u)])
    (hsp : ∀ H : Hp, Only H → SqL K H a (ns.map V.int) → sp [.ref a] H (fun v _ => v = .bl true) fun _ _ _ => False)
    (hCX : ∀ H e s', CX [] H s₁ (fun _ _ _ => False) e s' → False) :
    codeAny (model P w) callerA (.call (.ref fa) ⟨[.ref a], []⟩) (fun r s' => r = .ok (.ret (.bool true)) ∧ OldK s₁.heap s'.heap ∧ s'.os = s₁.os ∧ AllBare s'.gens) s₁ := by
  have main : ∀ H : Hp, Only H → SqL K H a (ns.map V.int) → HOk P w H s₁.heap → (∀ b, b ≠ a → H b = none) → (∀ o, K.lookup a = some o → H a = none) →
      codeAny (model P w) callerA (.call (.ref fa) ⟨[.ref a], []⟩) (fun r s' => r = .ok (.ret (.bool true)) ∧ OldK s₁.heap s'.heap ∧ s'.os = s₁.os ∧ AllBare s'.gens) s₁ := by
    intro H hO hS hok off hK
    have stays : ∀ {b : Addr} {o : Obj}, s₁.heap.get? b = some o → (∀ z n, o.data ≠ .seq z n) → (hidT s₁.heap H).get? b = some o := fun {b o} e d => by
      refine hidT_get e (off b fun q => ?_)
      subst q
      rw [ha] at e
      cases e
      exact d _ _ rfl
    have ns' : ∀ {b : Addr} {m : Str → Option Value}, s₁.heap.Ns b m → (hidT s₁.heap H).Ns b m := fun ⟨o, es, ep, e, d, r⟩ => ⟨o, es, ep, stays e (fun z n q => by rw [d] at q; cases q), d, r⟩
    have kb : K.In (hidT s₁.heap H) := fun b o e => hidT_get (KX b o e) (by
      by_cases q : b = a
      · subst q; exact hK o e
      · exact off b q)
    have seer : (hidT s₁.heap H).NoSeer := by
      obtain ⟨⟨mc, c1, c2⟩, ⟨mm, m1, m2⟩, ⟨mi, i1, i2⟩, ⟨mg', bm, ob, g1, g2, g3, g4, g5⟩⟩ := hSe
      refine ⟨⟨mc, ns' c1, c2⟩, ⟨mm, ns' m1, m2⟩, ⟨mi, ns' i1, i2⟩, ⟨mg', bm, ob, ns' g1, g2, hidT_get g3 (off bm fun q => ?_), g4, g5⟩⟩
      subst q
      rw [ha] at g3
      cases g3
      have g6 : Value.type "list" = Value.type "module" := g4
      injection g6 with g7
      exact absurd g7 (by decide)
    have env : Env0 P w K mg (hidT s₁.heap H) callerA [] s₁ H := by
      refine ⟨rfl, ⟨kb, ns' hN, ⟨mb, ns' hB, hBB⟩, ?_⟩, fun b o e => of_hidT e, Nat.le_of_eq (hidT_size _ _), trivial, (fun b z => nomatch z), hok, .of_eq hG⟩
      obtain ⟨mc, c1, c2⟩ := hL
      exact ⟨mc, ns' c1, c2⟩
    have go := (F _ kb (ns' hN) seer).go callerA [] s₁ H ⟨[.ref a], []⟩ [.ref a] [.ref a] _ _ rfl hr env (hb s₁ (.ref a)) (.cons rfl .nil) (hsp H hO hS)
    refine codeAny_mono go fun r s' h => ?_
    match r, h with
    | .error e, h => exact (hCX H e s' h).elim
    | .ok (.ret u), h =>
      obtain ⟨v, H', os, bare, un, hok', ru, q⟩ := h
      obtain rfl : v = .bl true := q
      obtain rfl : u = Value.bool true := ru
      refine ⟨rfl, OldK.of_keep fun b o e => ?_, os, bare⟩
      rcases hO b with z | ⟨ob, xs, z⟩
      · exact un.keep b o e z (fun q => nomatch q) (fun q => nomatch q)
      · have y1 := (hok b _ z).1
        have y2 := (hok' b _ (un.frzs b ob _ z)).1
        rw [e] at y1
        cases y1
        exact y2
  have rv := vals_ints hI
  have ln := hI.length
  cases hk : K.lookup a with
  | some o =>
    have e := KX a o hk
    rw [ha] at e
    cases e
    exact main (fun _ => none) (fun _ => .inl rfl) (.inr ⟨_, vs.toArray, _, hk, rfl, rfl, rfl, by rw [List.size_toArray]; omega, by simpa using rv⟩) (fun b u z => nomatch z) (fun _ _ => rfl) fun _ _ => rfl
  | none =>
    refine main (fun b => if b = a then some (.frz { cls := .type "list", data := .seq vs.toArray } (.lst (ns.map V.int))) else none) (fun b => ?_) (.inl (.inr ⟨_, if_pos rfl⟩)) (fun b u z => ?_) (fun b hb' => if_neg hb') fun o q => by rw [hk] at q; cases q
    · by_cases hba : b = a
      · exact .inr ⟨_, _, if_pos hba⟩
      · exact .inl (if_neg hba)
    · by_cases hba : b = a
      · subst hba
        have z' := (if_pos rfl).symm.trans z
        cases z'
        exact ⟨ha, by rw [List.length_map]; exact hn, vs, _, rv, ha⟩
      · exact nomatch (if_neg hba).symm.trans z
theorem walkS {l : PySem.W.OpenLaw} {n k : Nat} {q : Program} {loose : List Str} {XP : (Str → Option Value) → Heap → Prop} {YP : World → Heap → Prop} {d : DefRec} {K : Params → PySem.W.Frag} {CX : World → CXT} {sp : World → Sp} {x : Str}
    (hn : l.most = some n) (hn2 : n ≤ sizeLine) (hdf : d.params.defaults = []) (hr : Room k callerA) (hi : importsNone q = true)
    (hY : ∀ (w : World) (h : Heap), YP w h → (K w.params).In h)
    (F : ∀ (w : World) (mg : Str → Option Value) (fa : Addr) (h : Heap), (K w.params).In h → h.Ns mainGlobals mg → mg d.name = some (.ref fa) →
      ∃ fd : FuncData, (∀ (s : Shared) (u : Value), BindsTo s fd ⟨[u], []⟩ [(x, u)]) ∧ ∀ base : Heap, (K w.params).In base → base.Ns mainGlobals mg → base.NoSeer → FnG l.prog w (K w.params) mg base (CX w) k fa fd [x] (sp w))
    (hsp : ∀ (w : World) (H : Hp) (a : Addr) (ns : List Int), ns.length ≤ n → Only H → SqL (K w.params) H a (ns.map V.int) → sp w [.ref a] H (fun v _ => v = .bl true) fun _ _ _ => False)
    (hCX : ∀ (w : World) (H : Hp) (s : Shared) (e : Value) (s' : Shared), CX w [] H s (fun _ _ _ => False) e s' → False) :
    PySem.W.WalkO q loose XP YP l.row.toRowW d [] (fun f vs => PySem.call f vs) := by
  refine Att.attach_call hn hdf fun w s₀ s₁ mg mb fa o pm cd doc a vs ns G Y ho hd hcd hmg hobj hints hlen hg => ?_
  obtain ⟨fd, hb, hF⟩ := F w mg fa _ (hY w _ Y) G.T.g hmg
  exact callS (hY w _ Y) G.T.g G.T.b G.T.builtins G.T.nolimit (G.T.seer hi) hg hobj hints (Nat.le_trans hlen hn2) hr hF hb (fun H hO hS => hsp w H a ns hlen hO hS) fun H e s' => hCX w H s₁ e s'
end My
set_option maxHeartbeats 400000
namespace My
open PySem L2 PyProof.Rows
/-! texts of lists and tuples -/
def rRepr (K : PySem.W.Frag) : List V → Hp → VK → Prop := fun xs H Q => ∃ a d, xs = [.ref a] ∧ Dp K H (.ref a) d ∧ d.showable = true ∧ d.hasDict = false ∧ d.depth ≤ 64 ∧ d.shown.length ≤ sizeLine ∧ Q (.str d.shown) H
theorem call_reprD {X : Cx} (hg : X.A.guards = some []) (hu : X.A.units + 100 < cLine) : CallR X (.builtin "repr") (rRepr X.K) := by
  intro pins s σ H vs us Q I r h
  obtain ⟨a, d, rfl, hd, h1, h2, h3, h4, q⟩ := h
  cases r with
  | cons r0 rr =>
    cases rr
    obtain rfl := r0
    obtain ⟨as, rd⟩ := Dp.reads I d (.ref a) (.ref a) hd rfl
    refine repr_of_reads' (h₀ := s.heap) rd h1 (fun z => ?_) hg (by omega) (fun b o e => e) (fun h' u tk k => ?_) h4
    · rw [h2] at z; cases z
    · exact ⟨.str d.shown, H, I.kept (t' := tk) k, ⟨u, rfl⟩, q⟩
/-! exceptions as values: made, asked for their class, their fields read -/
section
variable {prog : Program} {w : World} {A : Around} {E : Value → Shared → Prop} {s : Shared} {K : PySem.W.Frag} {x D : Addr} {ox : Obj} {od : Option Obj}
theorem findX {name : Str} {a g : Value} (hc : (PySem.W.clsIn K D).isSome = true) (ha : PySem.W.findIn K (.ref D) name = some (some a)) (hg : PySem.W.specialIn K a "__get__" = some (some g)) (ht : PySem.W.takesIn K a = some true) : PySem.W.findObj K D od name = some (.bind g a) := by
  obtain ⟨cd, e⟩ := Option.isSome_iff_exists.mp hc
  simp [PySem.W.findObj, e, ha, hg, ht]
theorem classX {Q : Option Value → Shared → Prop} (T : ExcC K D) (kin : K.In s.heap) (I : PySem.W.InstAt s.heap x ox D od) (h : Q (some (.ref D)) { s with toks := s.toks + 1 }) : wpAny (model prog w) A (getAttr? (.ref x) "__class__") Q E s := by
  have hf : PySem.W.findObj K D od "__class__" = some (.bind (.builtin "getset_descriptor.__get__") (.builtin "object.__class__")) := findX (by obtain ⟨cd, e, _⟩ := PySem.W.any_some T.hd; rw [e]; rfl) T.ha T.hn T.ht
  obtain ⟨hp, g, d, t, os⟩ := s
  have kt := I.type (M := model prog w)
  have k1 := PySem.W.looks_findIn (M := model prog w) kin T.hg
  have k2 := PySem.W.looks_findIn (M := model prog w) kin T.hk
  have k3 := PySem.W.looks_find (M := model prog w) kin I hf
  have sub : PySem.W.Looks (model prog w) hp (isInstance (.ref x) (.type "BaseException")) true := kt.andThen (PySem.W.looks_subIn kin T.hs)
  have z0 : (false && onTheHeap (Value.builtin "BaseException.__getattribute__")) = false := rfl
  have z1 : (onTheHeap (Value.ref D) && Value.builtin "BaseException.__getattribute__" == Value.builtin "object.__getattribute__") = false := (congrArg (onTheHeap (Value.ref D) && ·) (show (Value.builtin "BaseException.__getattribute__" == Value.builtin "object.__getattribute__") = false by decide +kernel))
  unfold getAttr? getAttrBy? getAttrBy
  refine wpAny_bind (wpAny_mkText (wpAny_bind (wpAny_attempt (wpAny_holding (wpAny_bind (kt.at (wpAny_bind (k1.at ?_))))))))
  show wpAny _ _ (if (onTheHeap (Value.ref D) && Value.builtin "BaseException.__getattribute__" == Value.builtin "object.__getattribute__") = true then _ else _) _ _ _
  rw [z1, if_neg Bool.false_ne_true]
  unfold getAttrByItsOwn hookBefore callGetattribute
  refine wpAny_bind ?_
  rw [if_pos (show onTheHeap (Value.ref D) = true from rfl)]
  refine k2.at (wpAny_bind (wpAny_attempt (wpAny_holding ?_)))
  rw [z0, if_neg Bool.false_ne_true]
  unfold boundAndCalled
  rw [PySem.F.excAttr_ValueError.ga.bind (.ref x)]
  refine wpAny_bind (wpAny_pure (?_ : wpAny _ _ (call (.builtin "BaseException.__getattribute__") [.ref x, .str "__class__" t]) _ _ _))
  refine wpAny_call (codeAny_call_builtin PySem.F.excAttr_ValueError.ga.plain PySem.F.entry_bexc_ga (@PySem.W.check_slot (model prog w) _ _ ⟨hp, g, d, t + 1, os⟩ "BaseException.__getattribute__" "BaseException" "__getattribute__" (.ref x) [.str "__class__" t] [] _ (by decide +kernel) (by decide +kernel) sub (PySem.F.args_bexc_ga (.ref x) (.str "__class__" t)) ?_))
  unfold Builtin.«object.__getattribute__»
  refine wpAny_bind (wpAny_of_eq (a := ((Value.ref x : Value), [Value.str "__class__" t])) (by first | rfl | (simp only [slotArgs]; rfl)) (wpAny_bind (wpAny_pure (wpAny_bind (kt.at (wpAny_bind (k3.at ?_)))))))
  show wpAny _ _ (holding [Value.builtin "object.__class__"] (call (.builtin "getset_descriptor.__get__") [.builtin "object.__class__", .ref x, .ref D]) >>= ret) _ _ _
  refine wpAny_bind (wpAny_holding (wpAny_call (PySem.W.class_get (s := ⟨hp, g, d, t + 1, os⟩) (ox := ox) (od := od) kin I T.hm (wpAny_pure ?_))))
  show wpAny _ _ (handedOut (.ref D)) _ _ _
  rw [PySem.W.handedOut_of (v := .ref D) rfl]
  first
    | exact wpAny_pure (wpAny_pure h)
    | exact wpAny_pure h
    | exact wpAny_pure (wpAny_bind (wpAny_pure (wpAny_pure h)))
theorem kitE (T : ExcC K D) : PySem.W.KitX K (.ref x) (.ref D) (fun h => PySem.W.InstAt h x ox D od) := by
  obtain ⟨cd, hc, _⟩ := PySem.W.any_some T.hd
  unfold PySem.W.clsIn at hc
  split at hc
  · rename_i c' d' cd' sl' ho
    refine ⟨fun _ _ _ I => I.type, fun _ _ kin _ A' Q' E' s' k q => ?_, fun h tp dd its n sl kin htp => ?_, fun kin I k => classX T kin I k⟩
    · unfold isType loadHead
      exact wpAny_bind (wpAny_loadPart (k _ _ (kin _ _ ho)) (wpAny_pure q))
    · refine Bool.eq_false_iff.mpr fun q => ?_
      obtain rfl : D = tp := Value.ref.inj (beq_iff_eq.mp q)
      cases (kin _ _ ho).symm.trans htp
  · cases hc
end
section
variable {X : Cx}
/-- what stands at a is an exception of the class D -/
def ExAt (H : Hp) (a D : Addr) : Prop := H a = some (exo a D none) ∨ ∃ dx fs, H a = some (exo a D (some dx)) ∧ H dx = some (exd dx fs)
theorem ExAt.inst {pins : List (Addr × Obj)} {σ : L2.St} {H : Hp} {s : Shared} {a D : Addr} (I : Inv X pins σ H s) (h : ExAt H a D) : ∃ ox od, PySem.W.InstAt s.heap a ox D od := by
  rcases h with h | ⟨dx, fs, h, h2⟩
  · obtain ⟨t, e⟩ := exo_at I.hok h
    exact ⟨_, none, e, rfl, rfl, trivial⟩
  · obtain ⟨t, e⟩ := exo_at I.hok h
    obtain ⟨mA, hns, rel⟩ := exd_at I.hok h2
    obtain ⟨oD, _, _, hoD, _, _⟩ := hns.count (within_of rel)
    exact ⟨_, some oD, e, rfl, rfl, hoD⟩
/-- isinstance(e, c), e an exception that was made, not raised -/
def rIsV (K : PySem.W.Frag) : List V → Hp → VK → Prop := fun xs H Q => ∃ (a D : Addr) (c : V) (cv : Value) (b : Bool), xs = [.ref a, c] ∧ ExAt H a D ∧ ExcC K D ∧ (∀ u, RelV c u → u = cv) ∧ PySem.W.kitOne K (.ref D) cv = some b ∧ Q (.bl b) H
theorem call_isV : CallR X (.builtin "isinstance") (rIsV X.K) := by
  intro pins s σ H xs us Q I r h
  obtain ⟨a, D, c, cv, b, rfl, hx, T, hcv, e, q⟩ := h
  cases r with | cons rx rr => cases rr with | cons rt rr =>
    cases rr
    cases rx
    obtain rfl := hcv _ rt
    obtain ⟨ox, od, J⟩ := hx.inst I
    exact PySem.W.kia_one (kitE T) I.kIn J e (fun z => nomatch z) fun tk => ⟨.bl b, H, I.kept (t' := tk) fun _ _ z => z, rfl, q⟩
/-- e.f -/
def tGetV (K : PySem.W.Frag) (f : Str) (te : TE) : TE := fun σ H Q => te σ H fun x H1 => ∃ (a D dx : Addr) (fs : List (Str × V)) (v : V), x = .ref a ∧ H1 a = some (exo a D (some dx)) ∧ H1 dx = some (exd dx fs) ∧ XfC K D ∧ PySem.W.findIn K (.ref D) f = some none ∧ fs.lookup f = some v ∧ Q v H1
theorem pe_getV {e : Expr} {te : TE} {pos : Pos} {n : Str} (he : PE X e te) (hb : attributeBase e n X.env (eval e X.env) = eval e X.env := by rfl) : PE X (.Attribute e n pos) (tGetV X.K n te) := by
  refine ⟨fun pins s σ H Q I h => attr_of hb (thn (he.run pins s σ H _ I h) fun u s1 hh => ?_)⟩
  obtain ⟨x, H1, I1, rx, a, D, dx, fs, v, rfl, ha, hd, T, hno, l, q⟩ := hh
  cases rx
  obtain ⟨t, e⟩ := exo_at I1.hok ha
  obtain ⟨mA, hns, rel⟩ := exd_at I1.hok hd
  obtain ⟨od, ho, hl⟩ := lookIn_ns hns
  obtain ⟨u, hu, ru⟩ := RelO.some_of (v := v) (o := mA n) (by rw [← l]; exact rel n)
  exact HandSPX.exc_get I1.kIn (⟨e, rfl, rfl, ho⟩ : PySem.W.InstAt s1.heap a _ D (some od)) T.ga T.gg T.exC (PySem.W.findObj_own T.hdC hno rfl (by rw [hl, hu])) (handed_of ru) ⟨v, H1, I1.tok _, ru, q⟩
/-- B.__init__(self, ..), B an own class that has ValueError's -/
theorem pe_initB {pl : Sem Bool} {B : Addr} {b : Str} {mc : Value} {e : Expr} {es : List Expr} {ta : TA} {p1 p2 pos : Pos} (hg : Gl X b) (hm : X.mg b = some (.ref B)) (hsp : PySem.W.specialIn X.K (.ref B) "__getattribute__" = some (some (.builtin "type.__getattribute__")))
    (hrd : PySem.W.readsIn X.K B mc = true) (hf : PySem.W.findCls X.K (.ref B) mc "__init__" = some (.val (.builtin "ValueError.__init__"))) (ha : PA X (e :: es) ta)
    (hc : eval (.Call (.Attribute (.Name b p1) "__init__" p2) (e :: es) [] pos) X.env = (do
      let ov ← eval (.Name b p1) X.env
      standAt p2.atName
      let (f, first) ← holding [ov] (getMethod ov "__init__" pl)
      callWith pos f first (backTo pos (starEach (e :: es) X.env)) (backToKw pos (keywordEach [] X.env))) := by rfl)
    (he : starEach (e :: es) X.env = (false, eval e X.env) :: starEach es X.env := by rfl) (hpl : (backTo pos (starEach es X.env)).any (·.1) = false := by rfl) (hdb : (b == ("__debug__" : Str)) = false := by decide) :
    PE X (.Call (.Attribute (.Name b p1) "__init__" p2) (e :: es) [] pos) (tVeI X.K ta) := by
  refine ⟨fun pins s σ H Q I h => PySem.W.methodCall_KW (ld_glob I hg hm (PySem.W.method_cls I.kIn hsp (PySem.W.cls_value I.kIn hrd hf (by decide +kernel) ?_)) hdb) hc⟩
  show wpAny _ _ (callWith pos (Value.builtin "ValueError.__init__") [] (backTo pos (starEach (e :: es) X.env)) []) _ _ _
  refine PyProof.Rows.callWith_method1 (thn (ha.run pos pins _ σ H _ (I.tok _) h) fun us s1 ⟨vs, H1, I1, r1, a, C, ws, ev, hl, T, ea, q⟩ => ?_) he hpl
  subst ev
  cases r1 with | cons ra rr =>
    cases ra
    exact oinit_ok T I1 ea (by rw [← Paired.length rr, sizeLine_eq]; omega) fun s' J => ⟨.non, H1, J, rfl, q⟩
end
end My
set_option maxHeartbeats 400000
namespace PySem
namespace HandSPX
open Builtin Builtin.ObjectAttr
/-! an own exception made with keywords -/
section
variable {prog : Program} {w : World} {A : Around} {E : Value → Shared → Prop} {R : Result → Shared → Prop} {h : Heap} {g : Array GenState} {d : Drawn} {t : Nat} {os : OsState}
variable {nm q : Str} {C N : Addr} {bs bm mB : List Value} {hdct : Bool} {sn : List Str} {sub : List Value} {ab : Bool} {col : Option Bool} {dd : Option Addr} {k0 k1 k2 k3 k5 : Option Value} {B nId iId : String}
theorem check_newK {M : Model} (F : ExcBaseFacts B nId iId mB) (hT : ∀ X : String, bm.contains (.type X) = mB.contains (.type X)) {us : List Value} {kw : List (Str × Value)} {Q : Unit → Shared → Prop}
    (hC : h.get? C = some (excClassObj nm q C N bs bm hdct sn sub ab col dd k0 k1 k2 k3 k5 nId)) (hq : Q () ⟨h, g, d, t, os⟩) : wpAny M A (checkBuiltinCall nId ⟨.ref C :: us, kw⟩) Q E ⟨h, g, d, t, os⟩ := by
  have cB : (Value.ref C :: bm).contains (.type B) = true := by rw [List.contains_cons, hT, F.hasB, Bool.or_true]
  have ns := F.noStar
  simp only [checkBuiltinCall, F.newKind, F.newSplit, F.newRow]
  repeat (first | refine wpAny_staticBase_exc hC ?_ | refine wpAny_madeBy_exc hC ?_ | refine wpAny_loadPart_at hC ?_ | (refine wpAny_isSubtype_exc hC ?_; rw [cB]) | simp only [bne_self_eq_false, Bool.false_eq_true, if_false] | wp_step)
  exact hq
theorem newK (F : ExcBaseFacts B nId iId mB) (hT : ∀ X : String, bm.contains (.type X) = mB.contains (.type X)) {us : List Value} {kw : List (Str × Value)}
    (hC : h.get? C = some (excClassObj nm q C N bs bm hdct sn sub ab col dd k0 k1 k2 k3 k5 nId))
    (hq : R (.ok (.ret (.ref (h.objs.size + 1)))) ⟨(h.push { cls := .type "tuple", data := .seq us.toArray }).push { cls := .ref C, data := .fields #[.ref h.objs.size, .none, .none, .none, .bool false, .none] }, g, d, t, os⟩) (hl : us.length ≤ sizeLine) :
    codeAny (model prog w) A (.builtin nId ⟨.ref C :: us, kw⟩) R ⟨h, g, d, t, os⟩ := by
  have en := F.ends
  have cB : (Value.ref C :: bm).contains (.type B) = true := by rw [List.contains_cons, hT, F.hasB, Bool.or_true]
  have cA : (Value.ref C :: bm).contains (.type "AttributeError") = false := by rw [List.contains_cons, hT, F.noAttr]; rfl
  have cN : (Value.ref C :: bm).contains (.type "NameError") = false := by rw [List.contains_cons, hT, F.noName]; rfl
  refine codeAny_builtinAt F.entry ?_
  unfold Builtin.«BaseException.__new__»
  refine wpAt_bind (?_ : wpAt _ _ _ (stack >>= _) _ _ _)
  refine wpAt_bind (wpAt_stack fun p below => wpAt_of_wpAny ?_)
  wp_walk
  refine wpAt_of_wpAny ?_
  rw [F.owner]
  repeat (first | with_reducible refine wpAny_madeHere_exc F.canon hC ?_ | with_reducible refine wpAny_loadPart_at hC ?_ | (with_reducible refine wpAny_isSubtype_exc hC ?_; first | rw [cB] | rw [cA] | rw [cN]) | wp_step)
  show R _ _
  rw [Heap.size_push]
  exact hq
theorem typeK (F : ExcBaseFacts B nId iId mB) (hT : ∀ X : String, bm.contains (.type X) = mB.contains (.type X)) {us : List Value} {kw : List (Str × Value)} {fI : Addr} {Q : Fin → Shared → Prop}
    (hC : h.get? C = some (excClassObj nm q C N bs bm hdct sn sub ab col dd k0 k1 k2 k3 k5 nId))
    (hi : W.Looks (model prog w) h (typeLookup (.ref C) "__init__") (some (.ref fI))) (hb : ∀ self, W.Looks (model prog w) h (bindSpecial (.ref fI) self) (.ref fI, [self])) (hl : us.length ≤ sizeLine)
    (hq : codeAny (model prog w) A (.call (.ref fI) ⟨.ref (h.objs.size + 1) :: us, kw⟩)
      (fun r s' => match r with | .ok (.ret v) => v = .none ∧ Q (.done (.ret (.ref (h.objs.size + 1)))) s' | .ok _ => False | .error e => E e s') ⟨(h.push (W.kdv_tup us)).push (excO C h.objs.size), g, d, t, os⟩) :
    wpAny (model prog w) A (Builtin.«type.__call__» ⟨.ref C :: us, kw⟩) Q E ⟨h, g, d, t, os⟩ := by
  repeat (first | with_reducible refine wpAny_madeBy_exc hC ?_ | with_reducible refine wpAny_loadPart_at hC ?_ | wp_step)
  refine codeAny_call_builtin_code (Code.quiet_builtin _ F.quiet) (check_newK F hT hC (newK F hT hC ?_ hl))
  have k : ∀ b o, h.get? b = some o → ((h.push (W.kdv_tup us)).push (excO C h.objs.size)).get? b = some o := fun b o e => Heap.get?_push_of_some _ (Heap.get?_push_of_some _ e)
  have c1 := k _ _ hC
  have gt : ((h.push (W.kdv_tup us)).push (excO C h.objs.size)).get? (h.objs.size + 1) = some (excO C h.objs.size) := by heap_get
  have cC : (Value.ref C :: bm).contains (.ref C) = true := by simp
  have i1 := hi.keeps k
  have b1 := (hb (.ref (h.objs.size + 1))).keeps k
  show wpAny _ _ _ _ _ _
  unfold isInstance
  repeat (first | with_reducible refine wpAny_loadPart_at gt ?_ | (with_reducible refine wpAny_isSubtype_exc c1 ?_; rw [cC]) | wp_step)
  show wpAny _ _ (typeLookup (.ref C) _) _ _ _
  refine i1.at (wpAny_holding (wpAny_bind (b1.at (wpAny_bind (wpAny_call (codeAny_mono hq fun r s' z => ?_))))))
  rcases r with e | (v | _ | _ | _) <;> first | exact z | exact z.elim | skip
  obtain ⟨rfl, z⟩ := z
  first
    | exact wpAny_pure (wpAny_pure z)
    | (wp_walk; exact z)
theorem callK (F : ExcBaseFacts B nId iId mB) (hT : ∀ X : String, bm.contains (.type X) = mB.contains (.type X)) {us : List Value} {kw : List (Str × Value)} {fI : Addr}
    (hC : h.get? C = some (excClassObj nm q C N bs bm hdct sn sub ab col dd k0 k1 k2 k3 k5 nId))
    (hi : W.Looks (model prog w) h (typeLookup (.ref C) "__init__") (some (.ref fI))) (hb : ∀ self, W.Looks (model prog w) h (bindSpecial (.ref fI) self) (.ref fI, [self])) (hl : us.length ≤ sizeLine)
    (hq : codeAny (model prog w) (A.under (.builtin "type.__call__" ⟨.ref C :: us, kw⟩)) (.call (.ref fI) ⟨.ref (h.objs.size + 1) :: us, kw⟩) (W.InitBack (h.objs.size + 1) R) ⟨(h.push (W.kdv_tup us)).push (excO C h.objs.size), g, d, t, os⟩) :
    codeAny (model prog w) A (.call (.ref C) ⟨us, kw⟩) R ⟨h, g, d, t, os⟩ := by
  have f1 := tc_lookup
  have f2 := tc_bind (.ref C)
  have hTy : (⟨h, g, d, t, os⟩ : Shared).TypeIs (.ref C) "type" := ⟨_, hC, rfl⟩
  refine codeAny_of_tree (?_ : wpAny _ _ (callAny (.ref C) _) _ _ _)
  repeat (any_goals (first | assumption | with_reducible refine wpAny_loadPart_at hC ?_ | wp_step))
  refine ⟨rfl, codeAny_call_builtin_at (Code.quiet_builtin _ (by decide +kernel)) entry_typeCall (wpAny_check_type_call_sub hC (typeK F hT hC hi hb hl (codeAny_mono hq fun r s' z => ?_)))⟩
  rcases r with e | (v | _ | _ | _) <;> exact z
end
end HandSPX
end PySem
namespace My
open PySem L2 PyProof.Rows
/-- C(e, ..) kept as a value: a new exception of the class at C, then C's own __init__ -/
def tMkV (C : Addr) (sp : Sp) (ta : TA) : TE := fun σ H Q => ta σ H fun vs H1 => vs.length ≤ 1000 ∧ ∀ a, H1 a = none → sp (.ref a :: vs) (upd H1 a (exo a C none)) (fun v H2 => v = .non ∧ Q (.ref a) H2) (fun _ _ _ => False)
section
variable {X : Cx} {CX : CXT} {k : Nat} {C fI : Addr} {fd : FuncData} {ps : List Str} {sp : Sp}
theorem run_mkV {pins : List (Addr × Obj)} {σ : L2.St} {H : Hp} {s : Shared} {Q : VK} {us ul : List Value} {kw : List (Str × Value)} {vl : List V} (T : OexC X.K C) (iC : PySem.W.findIn X.K (.ref C) "__init__" = some (some (.ref fI))) (tI : PySem.W.typeIn X.K (.ref fI) = some (.type "function"))
    (F1 : FnOk X.prog X.w X.K X.mg X.base CX k fI fd ps sp) (hr : Room (k + 1) X.A) (hx : Passes CX X (fun _ _ _ => False)) (I : Inv X pins σ H s) (hl : us.length ≤ 1000)
    (hb : ∀ (s' : Shared) (x : Addr), X.K.In s'.heap → (Value.ref x :: ul).length = ps.length → BindsTo s' fd ⟨.ref x :: us, kw⟩ (ps.zip (.ref x :: ul))) (rv : Vals vl ul)
    (h : ∀ a, H a = none → sp (.ref a :: vl) (upd H a (exo a C none)) (fun v H2 => v = .non ∧ Q (.ref a) H2) (fun _ _ _ => False)) :
    wpAny (model X.prog X.w) X.A (call (.ref C) us kw) (EP X pins σ Q) X.xe s := by
  obtain ⟨nm, q, N, bs, bm, sn, sub, ab, col, dd, k0, k1, k2, k3, k5, hC, hbm⟩ := T.cls
  obtain ⟨hp, g, dr, tk, os⟩ := s
  have hz : hp.objs.size ≤ hp.objs.size + 1 := Nat.le_succ _
  have hq := h (hp.objs.size + 1) (I.hok.fresh hz)
  have kk : ∀ b o, hp.get? b = some o → ((hp.push (PySem.W.kdv_tup us)).push (PySem.HandSPX.excO C hp.objs.size)).get? b = some o := fun b o e => Heap.get?_push_of_some _ (Heap.get?_push_of_some _ e)
  have gt : ((hp.push (PySem.W.kdv_tup us)).push (PySem.HandSPX.excO C hp.objs.size)).get? (hp.objs.size + 1) = some (PySem.HandSPX.excO C hp.objs.size) := by heap_get
  have I2 : Inv X pins σ (upd H (hp.objs.size + 1) (exo (hp.objs.size + 1) C none)) ⟨(hp.push (PySem.W.kdv_tup us)).push (PySem.HandSPX.excO C hp.objs.size), g, dr, tk, os⟩ :=
    I.laid (t' := tk) (a := hp.objs.size + 1) (o := exo (hp.objs.size + 1) C none) (h' := (hp.push (PySem.W.kdv_tup us)).push (PySem.HandSPX.excO C hp.objs.size)) kk hz (exo_ok gt)
  have r2 : Vals (V.ref (hp.objs.size + 1) :: vl) (Value.ref (hp.objs.size + 1) :: ul) := .cons rfl rv
  have ln : (Value.ref (hp.objs.size + 1) :: ul).length = ps.length := r2.length.symm.trans (F1.len _ _ _ _ hq)
  refine wpAny_call (PySem.HandSPX.callK F.excBase_ValueError (fun Y => PySem.HandSPX.refsVE_contains Y bm hbm) (I.kIn _ _ hC) (PySem.W.looks_findIn I.kIn iC) (fun self => PySem.W.bind_fn I.kIn self tI) (by rw [sizeLine_eq]; omega)
    (codeAny_mono (F1.run _ X.stack _ _ ⟨Value.ref (hp.objs.size + 1) :: us, kw⟩ (Value.ref (hp.objs.size + 1) :: ul) _ _ (fun _ _ _ => False) (hr.make C us kw) (I2.env0.make C us kw) (hb _ _ I2.kIn ln) r2 hq) fun r s' z => ?_))
  match r, z with
  | .error er, z => exact hx pins σ _ _ er s' I2 z
  | .ok (.ret u), z =>
    obtain ⟨v, H', I3, rv, ev, q3⟩ := I2.after z
    subst ev
    exact ⟨rv, ⟨V.ref (hp.objs.size + 1), H', I3, rfl, q3⟩⟩
  | .ok .next, z => exact z.elim
  | .ok .brk, z => exact z.elim
  | .ok .cont, z => exact z.elim
variable {x : Str} {p pos : Pos} {e : Expr} {es : List Expr} {kws : List Keyword} {ta : TA}
theorem pe_mkV (T : OexC X.K C) (iC : PySem.W.findIn X.K (.ref C) "__init__" = some (some (.ref fI))) (tI : PySem.W.typeIn X.K (.ref fI) = some (.type "function"))
    (F1 : FnOk X.prog X.w X.K X.mg X.base CX k fI fd ps sp) (hr : Room (k + 1) X.A) (hb : Binds X.K fd ps []) (hx : Passes CX X (fun _ _ _ => False)) (hg : Gl X x) (hm : X.mg x = some (.ref C)) (ha : PA X (e :: es) ta)
    (hdb : (x == ("__debug__" : Str)) = false := by decide) (he : starEach (e :: es) X.env = (false, eval e X.env) :: starEach es X.env := by rfl) (hpl : (backTo pos (starEach es X.env)).any (·.1) = false := by rfl) :
    PE X (.Call (.Name x p) (e :: es) [] pos) (tMkV C sp ta) :=
  ⟨fun pins s σ H Q I h => wpAny_Call_Name_kw (ld_glob I hg hm (PySem.W.callWith_K (h₀ := X.base) I.ok.mod.kin T.kC (thn (ha.run pos pins s σ H _ I h) fun us s1 ⟨vs, H1, I1, r1, hl, q1⟩ =>
    ⟨I1.kIn, run_mkV (us := us) T iC tI F1 hr hx I1 (by rw [← r1.length]; exact hl) (fun s' y kin ln => by have := hb s' (.ref y :: us) kin (by rw [List.append_nil]; exact ln); rwa [List.append_nil] at this) r1 q1⟩) he hpl) hdb)⟩
theorem pe_mkV0 (T : OexC X.K C) (iC : PySem.W.findIn X.K (.ref C) "__init__" = some (some (.ref fI))) (tI : PySem.W.typeIn X.K (.ref fI) = some (.type "function"))
    (F1 : FnOk X.prog X.w X.K X.mg X.base CX k fI fd ps sp) (hr : Room (k + 1) X.A) (hb : Binds X.K fd ps []) (hx : Passes CX X (fun _ _ _ => False)) (hg : Gl X x) (hm : X.mg x = some (.ref C)) (hdb : (x == ("__debug__" : Str)) = false := by decide) :
    PE X (.Call (.Name x p) [] [] pos) (tMkV C sp tNil) :=
  ⟨fun pins s σ H Q I h => wpAny_Call_Name_kw (ld_glob I hg hm (PySem.W.callWith_K0 I.kIn T.kC
    (run_mkV (us := []) (ul := []) T iC tI F1 hr hx I (Nat.zero_le _) (fun s' y kin ln => hb s' [.ref y] kin ln) .nil h.2)) hdb)⟩
/-- C(n = e): one keyword, the only parameter -/
theorem pe_mkVK {n : Str} (T : OexC X.K C) (iC : PySem.W.findIn X.K (.ref C) "__init__" = some (some (.ref fI))) (tI : PySem.W.typeIn X.K (.ref fI) = some (.type "function"))
    (F1 : FnOk X.prog X.w X.K X.mg X.base CX k fI fd ps sp) (hr : Room (k + 1) X.A) (hb : ∀ (s' : Shared) (u v : Value), BindsTo s' fd ⟨[u], [(n, v)]⟩ (ps.zip [u, v])) (hp : ps.length = 2) (hx : Passes CX X (fun _ _ _ => False)) (hg : Gl X x) (hm : X.mg x = some (.ref C)) (hkw : PK X kws ta)
    (hall : (backToKw pos (keywordEach kws X.env)).all (·.1.isSome) = true := by rfl) (hks : (backToKw pos (keywordEach kws X.env)).filterMap (·.1) = [n] := by rfl) (hdb : (x == ("__debug__" : Str)) = false := by decide)
    (hpl : ((backTo pos (starEach [] X.env)).any (·.1) || (backToKw pos (keywordEach kws X.env)).any (·.1.isNone)) = false := by rfl) :
    PE X (.Call (.Name x p) [] kws pos) (tMkV C sp ta) := by
  refine ⟨fun pins s σ H Q I h => wpAny_Call_Name_kw (ld_glob I hg hm (PySem.W.callWith_KW0 (h₀ := X.base) I.ok.mod.kin T.kC hall (thn (hkw.run pos pins s σ H _ I h) fun ws s2 ⟨zs, H2, I2, rz, hl, q2⟩ => ⟨I2.kIn, ?_⟩) hpl) hdb)⟩
  rw [hks]
  have l2 : ws.length + 1 = 2 := by
    have a1 := F1.len _ _ _ _ (q2 (s2.heap.objs.size + 1) (I2.hok.fresh (Nat.le_succ _)))
    have a2 := rz.length
    simp only [List.length_cons] at a1
    omega
  match ws, l2 with
  | [v], _ => exact run_mkV (us := []) (ul := [v]) T iC tI F1 hr hx I2 (Nat.zero_le _) (fun s' y _ _ => hb s' (.ref y) v) rz q2
end
end My
set_option maxHeartbeats 400000
namespace My
open PySem L2
/-- the class that all errors of the package are below -/
structure SumT (K : PySem.W.Frag) (mg : Str → Option Value) (B : Addr) (mc : Value) : Prop where
  g : mg "SumError" = some (.ref B)
  sp : PySem.W.specialIn K (.ref B) "__getattribute__" = some (some (.builtin "type.__getattribute__"))
  rd : PySem.W.readsIn K B mc = true
  fi : PySem.W.findCls K (.ref B) mc "__init__" = some (.val (.builtin "ValueError.__init__"))
def spErr (C : Addr) (f : Str) : Sp := fun vs H Q _ => ∃ (a : Addr) (v : V), vs = [.ref a, v] ∧ H a = some (exo a C none) ∧ ∀ dx, H dx = none → dx ≠ a → Q .non (upd (upd H dx (exd dx [(f, v)])) a (exo a C (some dx)))
def spErr0 (C : Addr) : Sp := fun vs H Q _ => ∃ a : Addr, vs = [.ref a] ∧ H a = some (exo a C none) ∧ Q .non H
/-- an error class with one argument -/
structure ErrC (P : Program) (w : World) (K : PySem.W.Frag) (mg : Str → Option Value) (base : Heap) (x f : Str) (C : Addr) : Prop where
  g : mg x = some (.ref C)
  T : OexC K C
  XC : ExcC K C
  XF : XfC K C
  no : PySem.W.findIn K (.ref C) f = some none
  ex : ∃ (fI : Addr) (fd : FuncData), PySem.W.findIn K (.ref C) "__init__" = some (some (.ref fI)) ∧ PySem.W.typeIn K (.ref fI) = some (.type "function") ∧ FnOk P w K mg base CX0 1 fI fd ["self", f] (spErr C f) ∧ Binds K fd ["self", f] [] ∧ ∀ (s' : Shared) (u v : Value), BindsTo s' fd ⟨[u], [(f, v)]⟩ ((["self", f] : List Str).zip [u, v])
/-- an error class without arguments -/
structure Err0 (P : Program) (w : World) (K : PySem.W.Frag) (mg : Str → Option Value) (base : Heap) (x : Str) (C : Addr) : Prop where
  g : mg x = some (.ref C)
  T : OexC K C
  XC : ExcC K C
  ex : ∃ (fI : Addr) (fd : FuncData), PySem.W.findIn K (.ref C) "__init__" = some (some (.ref fI)) ∧ PySem.W.typeIn K (.ref fI) = some (.type "function") ∧ FnOk P w K mg base CX0 1 fI fd ["self"] (spErr0 C) ∧ Binds K fd ["self"] []
/-- a new error with its argument -/
def Err (H : Hp) (e C : Addr) (f : Str) (v : V) : Prop := ∃ d, H e = some (exo e C (some d)) ∧ H d = some (exd d [(f, v)])
theorem Err.same {H H' : Hp} {e C : Addr} {f : Str} {v : V} (h : Err H e C f v) (s : Same H H') : Err H' e C f v := let ⟨d, h1, h2⟩ := h; ⟨d, s _ _ h1, s _ _ h2⟩
theorem Err.at {H : Hp} {e C : Addr} {f : Str} {v : V} (h : Err H e C f v) : ExAt H e C := let ⟨d, h1, h2⟩ := h; .inr ⟨d, _, h1, h2⟩
theorem ExAt.same {H H' : Hp} {e C : Addr} (h : ExAt H e C) (s : Same H H') : ExAt H' e C := h.elim (fun h => .inl (s _ _ h)) fun ⟨d, fs, h1, h2⟩ => .inr ⟨d, fs, s _ _ h1, s _ _ h2⟩
/-- what making an error does -/
theorem mkE {H : Hp} {a C : Addr} {f : Str} {v : V} {Q : VK} {E : XK} (ha : H a = none) (h : ∀ H', Same H H' → Err H' a C f v → Q .non H') : spErr C f [.ref a, v] (upd H a (exo a C none)) Q E := by
  refine ⟨a, v, rfl, upd_same, fun dx hd ne => h _ (fun b o e => ?_) ⟨dx, upd_same, ?_⟩⟩
  · rw [upd_ne (ne_of_none e ha)]
    have : b ≠ dx := fun z => by
      rw [z] at e
      rw [upd_ne ne, e] at hd
      cases hd
    rw [upd_ne this, upd_ne (ne_of_none e ha)]
    exact e
  · rw [upd_ne ne, upd_same]
theorem mkE0 {H : Hp} {a C : Addr} {Q : VK} {E : XK} (ha : H a = none) (h : ∀ H', Same H H' → ExAt H' a C → Q .non H') : spErr0 C [.ref a] (upd H a (exo a C none)) Q E :=
  ⟨a, rfl, upd_same, h _ (same_upd ha) (.inl upd_same)⟩
section
variable {X : Cx} {K : PySem.W.Frag} (h : X.K = K)
include h
theorem pe_getVK {e : Expr} {te : TE} {pos : Pos} {n : Str} (he : PE X e te) (hb : attributeBase e n X.env (eval e X.env) = eval e X.env := by rfl) : PE X (.Attribute e n pos) (tGetV K n te) := by subst h; exact pe_getV he hb
theorem call_isVK : CallR X (.builtin "isinstance") (rIsV K) := by subst h; exact call_isV
theorem call_reprDK (hg : X.A.guards = some []) (hu : X.A.units + 100 < cLine) : CallR X (.builtin "repr") (rRepr K) := by subst h; exact call_reprD hg hu
end
theorem hu100 {A : Around} {k : Nat} (hr : Room k A) : A.units + 100 < cLine := by have := hr.un; omega
theorem seqLX {K : PySem.W.Frag} {H H' : Hp} {b a : Addr} {xs : List V} (ne : a ≠ b) (e : SameX b H H') (h : SqL K H a xs) : SqL K H' a xs := by
  rcases h with (h | ⟨o, h⟩) | h
  · exact .inl (.inl (e _ _ ne h))
  · exact .inl (.inr ⟨o, e _ _ ne h⟩)
  · exact .inr h
theorem put_new {H H1 : Hp} {l : Addr} {o : HO} (hl : H l = none) (s : Same H H1) : Same H (upd H1 l o) := fun b u e => by rw [upd_ne (ne_of_none e hl)]; exact s b u e
theorem exo_lst {e C : Addr} {d : Option Addr} {xs : List V} : exo e C d ≠ .lst xs := fun z => by
  have z' : HO.ext _ = HO.lst xs := z
  cases z'
theorem exd_lst {e : Addr} {fs : List (Str × V)} {xs : List V} : exd e fs ≠ .lst xs := fun z => by
  have z' : HO.ext _ = HO.lst xs := z
  cases z'
theorem Err.put {H H' : Hp} {e C r : Addr} {f : Str} {v : V} {xs : List V} (h : Err H e C f v) (hr : H r = some (.lst xs)) (s : SameX r H H') : Err H' e C f v := by
  obtain ⟨d, h1, h2⟩ := h
  exact ⟨d, s _ _ (fun q => by rw [q, hr] at h1; exact exo_lst (Option.some.inj h1).symm) h1, s _ _ (fun q => by rw [q, hr] at h2; exact exd_lst (Option.some.inj h2).symm) h2⟩
theorem ExAt.put {H H' : Hp} {e C r : Addr} {xs : List V} (h : ExAt H e C) (hr : H r = some (.lst xs)) (s : SameX r H H') : ExAt H' e C := by
  rcases h with h1 | ⟨d, fs, h1, h2⟩
  · exact .inl (s _ _ (fun q => by rw [q, hr] at h1; exact exo_lst (Option.some.inj h1).symm) h1)
  · exact .inr ⟨d, fs, s _ _ (fun q => by rw [q, hr] at h1; exact exo_lst (Option.some.inj h1).symm) h1, s _ _ (fun q => by rw [q, hr] at h2; exact exd_lst (Option.some.inj h2).symm) h2⟩
end My
set_option maxHeartbeats 400000
namespace My
open PySem L2
open Lat
def top (i : Nat) : Stmt := PySem.Challenge.pw_sumlives_k01_errors.main.body.getD i (.Pass ⟨0, 0, 0, 0⟩)
end My
set_option maxHeartbeats 400000
namespace My
open PySem L2
open Lat
section
variable {P : Program} {w : World} {K : PySem.W.Frag} {mg : Str → Option Value} {base : Heap}
/-! ### draws -/
abbrev sTake : Stmt := top 15
abbrev NTake : List Str := ["_law_box_here", "_law_many", "_law_digit", "_law_raw", "_law_wide"]
theorem scTake : FnScope NTake ["_law_box_here", "_law_many"] (defScope sTake) := ⟨rfl, rfl, rfl, by decide +kernel, rfl, by decide +kernel, by decide +kernel⟩

theorem ok_Take {f : Addr} {fd : FuncData} (F : Fun K "_law_take" "_law_take" sTake f fd) (Z : Bn mg) : FnOk P w K mg base CX0 1 f fd ["_law_box_here", "_law_many"] spTake := by
  refine F.ok scTake (fun vs H Q E h => ?_) (fun cdv A outer s H vs Q E hr h => ?_)
  · obtain ⟨b, m, rfl, _⟩ := h
    rfl
  · obtain ⟨b, m, rfl, ⟨x, y, z, hb⟩, hm, hl, k⟩ := h
    refine ⟨_, (pss_cons (ps_if (pt_cmpR op_gt (pe_ix (ix_listK (K := K) rfl) (pv 0) pe_int (fun _ _ => rfl)) pe_int (nomark _)) (pss_cons (ps_set (i := 2) scTake.nd rfl (Or.inl rfl) (pe_op op_modN (pe_callTy call_int1 (by rfl) Z.int (by decide +kernel) (pa_cons (pe_ix (ix_listK (K := K) rfl) (pv 0) pe_int (fun _ _ => rfl)) pa_nil)) (pv 1)))
      (pss_cons (ps_asg (pe_op op_fdivL (pe_ix (ix_listK (K := K) rfl) (pv 0) pe_int (fun _ _ => rfl)) (pv 1)) (pg_sub (pv 0) pe_int set_list))
      (pss_one (ps_ret (pv 2))))) pss_nil)
      (pss_cons (ps_asg (pe_op op_add (pe_ix (ix_listK (K := K) rfl) (pv 0) pe_int (fun _ _ => rfl)) pe_int) (pg_sub (pv 0) pe_int set_list))
      (pss_cons (ps_set (i := 3) scTake.nd rfl (Or.inl rfl) (pe_op op_modN (pe_callTy call_int1 (by rfl) Z.int (by decide +kernel) (pa_cons (pe_op op_mulOk (pe_op op_add (pe_ix (ix_listK (K := K) rfl) (pv 0) pe_int (fun _ _ => rfl)) (pe_op op_mulOk pe_int (pe_ix (ix_listK (K := K) rfl) (pv 0) pe_int (fun _ _ => rfl)))) pe_int) pa_nil)) pe_int))
      (pss_cons (ps_asg (pe_op op_add (pe_op op_modN (pe_callTy call_int1 (by rfl) Z.int (by decide +kernel) (pa_cons (pe_op op_add (pe_op op_mulOk (pv 3) pe_int) pe_int) pa_nil)) pe_int) pe_int) (pg_sub (pv 0) pe_int set_list))
      (pss_cons (ps_if (pt_cmpR op_lt (pv 1) (pe_op op_pow pe_int pe_int) (nomark _)) (pss_one (ps_ret (pe_op op_modN (pe_callTy call_int1 (by rfl) Z.int (by decide +kernel) (pa_cons (pe_op op_fdivL (pe_op op_add (pe_op op_mulOk (pv 3) pe_int) (pe_ix (ix_listK (K := K) rfl) (pv 0) pe_int (fun _ _ => rfl))) pe_int) pa_nil)) (pv 1)))) pss_nil)
      (pss_cons (ps_set (i := 4) scTake.nd rfl (Or.inl rfl) (pe_op op_mulOk (pe_op op_add (pe_op op_mulOk (pv 3) pe_int) (pe_ix (ix_listK (K := K) rfl) (pv 0) pe_int (fun _ _ => rfl))) (pe_op op_pow pe_int pe_int)))
      (pss_one (ps_ret (pe_op op_modN (pe_callTy call_int1 (by rfl) Z.int (by decide +kernel) (pa_cons (pe_op op_add (pe_op op_add (pv 4) (pe_op op_mulOk (pe_op op_pow (pe_ix (ix_listK (K := K) rfl) (pv 0) pe_int (fun _ _ => rfl)) pe_int) pe_int)) (pv 3)) pa_nil)) (pv 1)))))))))), ?_⟩
    refine ⟨_, rfl, b, _, _, _, rfl, rfl, SqL.of hb, atI_nat (j := 0) rfl, _, _, rfl, rfl, _, rfl, ?_⟩
    refine ite2 (fun c => ?_) (fun c => ?_)
    · refine ⟨_, rfl, b, _, _, _, rfl, rfl, SqL.of hb, atI_nat (j := 0) rfl, .inl ⟨_, rfl, _, rfl, _, _, rfl, rfl, (by show m ≠ 0; omega), ?_⟩⟩
      refine ⟨_, rfl, b, _, _, _, rfl, rfl, SqL.of hb, atI_nat (j := 0) rfl, _, rfl, _, _, rfl, rfl, ⟨by omega, hl⟩, ?_⟩
      refine ⟨_, rfl, b, _, _, 0, rfl, rfl, hb, rfl, ?_⟩
      refine ⟨_, rfl, ?_⟩
      exact k _ _ samex_upd ⟨_, _, _, upd_same⟩ (fmod_in _ hm).1 (fmod_in _ hm).2
    · refine ⟨_, rfl, b, _, _, _, rfl, rfl, SqL.of hb, atI_nat (j := 2) rfl, _, _, rfl, rfl, _, rfl, b, _, _, 2, rfl, rfl, hb, rfl, ?_⟩
      have hb1 : (upd H b (.lst ([V.int x, V.int y, V.int z].set 2 (.int (z + 1))))) b = some (.lst [.int x, .int y, .int (z + 1)]) := upd_same
      have s1 : SameX b H (upd H b (.lst ([V.int x, V.int y, V.int z].set 2 (.int (z + 1))))) := samex_upd
      generalize upd H b (.lst ([V.int x, V.int y, V.int z].set 2 (.int (z + 1)))) = H1 at hb1 s1
      refine ⟨_, rfl, b, _, _, _, rfl, rfl, SqL.of hb1, atI_nat (j := 1) rfl, _, rfl, b, _, _, _, rfl, rfl, SqL.of hb1, atI_nat (j := 2) rfl, _, _, rfl, rfl, .of_left (by decide), _, _, rfl, rfl, _, _, rfl, rfl, .of_right (by decide), .inl ⟨_, rfl, _, _, rfl, rfl, (by show (2147483647 : Int) ≠ 0; decide), ?_⟩⟩
      refine ⟨_, rfl, _, _, rfl, rfl, .of_right (by decide), _, _, rfl, rfl, .inl ⟨_, rfl, _, _, rfl, rfl, (by show (2147483629 : Int) ≠ 0; decide), _, _, rfl, rfl, ?_⟩⟩
      refine ⟨_, rfl, b, _, _, 1, rfl, rfl, hb1, rfl, ?_⟩
      refine ⟨_, rfl, _, _, rfl, rfl, ⟨by decide, by decide, by decide⟩, _, _, rfl, rfl, _, rfl, ?_⟩
      refine ite2 (fun c2 => ?_) (fun c2 => ?_)
      · refine ⟨_, rfl, _, _, rfl, rfl, .of_right (by decide), _, rfl, b, _, _, _, rfl, rfl, SqL.of upd_same, atI_nat (j := 1) rfl, _, _, rfl, rfl, _, _, rfl, rfl, ⟨by decide, by decide +kernel⟩, .inl ⟨_, rfl, _, rfl, _, _, rfl, rfl, (by show m ≠ 0; omega), ?_⟩⟩
        exact k _ _ (s1.trans samex_upd) ⟨_, _, _, upd_same⟩ (fmod_in _ hm).1 (fmod_in _ hm).2
      · refine ⟨_, rfl, _, _, rfl, rfl, .of_right (by decide), _, rfl, b, _, _, _, rfl, rfl, SqL.of upd_same, atI_nat (j := 1) rfl, _, _, rfl, rfl, _, _, rfl, rfl, ⟨by decide, by decide, by decide⟩, _, _, rfl, rfl, .of_left (intBits_le_64 (take_bits _ _).1 (take_bits _ _).2), ?_⟩
        refine ⟨_, rfl, _, rfl, b, _, _, _, rfl, rfl, SqL.of upd_same, atI_nat (j := 1) rfl, _, _, rfl, rfl, ⟨by decide, by decide, y_small _⟩, _, _, rfl, rfl, .of_right (by decide), _, _, rfl, rfl, _, rfl, _, _, rfl, rfl, .inl ⟨_, rfl, _, rfl, _, _, rfl, rfl, (by show m ≠ 0; omega), ?_⟩⟩
        exact k _ _ (s1.trans samex_upd) ⟨_, _, _, upd_same⟩ (fmod_in _ hm).1 (fmod_in _ hm).2
abbrev sBox : Stmt := top 14
abbrev NBox : List Str := ["_law_script", "_law_k", "_law_own", "_law_cell", "_law_seed"]
theorem scBox : FnScope NBox ["_law_script", "_law_k", "_law_own"] (defScope sBox) := ⟨rfl, rfl, rfl, by decide +kernel, rfl, by decide +kernel, by decide +kernel⟩

theorem ok_Box {f : Addr} {fd : FuncData} (F : Fun K "_law_box" "_law_box" sBox f fd) (Z : Bn mg) : FnOk P w K mg base CX0 1 f fd ["_law_script", "_law_k", "_law_own"] (spBox K) := by
  refine F.ok scBox (fun vs H Q E h => ?_) (fun cdv A outer s H vs Q E hr h => ?_)
  · obtain ⟨a, ns, k, own, rfl, _⟩ := h
    rfl
  · obtain ⟨a, ns, k, own, rfl, hs, hn, kk⟩ := h
    refine ⟨_, (pss_cons (ps_set (i := 3) scBox.nd rfl (Or.inl rfl) (pe_op op_add (pe_op op_add (pe_op op_mulOk pe_int (pv 1)) (pe_op op_mulOk pe_int (pv 2))) pe_int))
      (pss_cons (ps_if (pt_cmpR op_lt (pv 1) (pe_callB call_len (by rfl) Z.len PySem.boot_len (pa_cons (pv 0) pa_nil)) (nomark _)) (pss_one (ps_set (i := 3) scBox.nd rfl (Or.inl rfl) (pe_callB call_abs (by rfl) Z.abs (by decide +kernel) (pa_cons (pe_ix (ix_listK (K := K) rfl) (pv 0) (pv 1) (fun _ _ => rfl)) pa_nil)))) (pss_one (ps_if (pt_cmpR op_gt (pe_callB call_len (by rfl) Z.len PySem.boot_len (pa_cons (pv 0) pa_nil)) pe_int (nomark _)) (pss_one (ps_set (i := 3) scBox.nd rfl (Or.inl rfl) (pe_op op_add (pv 3) (pe_op op_mulOk (pe_op op_modN (pe_callTy call_int1 (by rfl) Z.int (by decide +kernel) (pa_cons (pe_callB call_abs (by rfl) Z.abs (by decide +kernel) (pa_cons (pe_ix (ix_listK (K := K) rfl) (pv 0) (pe_op op_modN (pe_callTy call_int1 (by rfl) Z.int (by decide +kernel) (pa_cons (pv 1) pa_nil)) (pe_callB call_len (by rfl) Z.len PySem.boot_len (pa_cons (pv 0) pa_nil))) (fun _ _ => rfl)) pa_nil)) pa_nil)) pe_int) pe_int)))) pss_nil)))
      (pss_cons (ps_set (i := 4) scBox.nd rfl (Or.inl rfl) (pe_op op_add (pe_op op_modN (pe_callTy call_int1 (by rfl) Z.int (by decide +kernel) (pa_cons (pe_op op_add (pe_op op_mulOk (pe_op op_modN (pe_callTy call_int1 (by rfl) Z.int (by decide +kernel) (pa_cons (pv 3) pa_nil)) pe_int) pe_int) (pe_op op_mulOk pe_int (pe_op op_add (pv 1) (pe_op op_mulOk pe_int (pv 2))))) pa_nil)) pe_int) pe_int))
      (pss_one (ps_ret (pe_lst (pa_cons (pe_ix (ix_listK (K := K) rfl) (pe_lst (pa_cons pe_int (pa_cons (pv 3) pa_nil))) (pe_callTy call_int1 (by rfl) Z.int (by decide +kernel) (pa_cons (pe_cmpR op_ge (pv 3) (pe_op op_pow pe_int pe_int) (nomark _)) pa_nil)) (fun _ _ => rfl)) (pa_cons (pv 4) (pa_cons pe_int pa_nil))))))))), ?_⟩
    refine ⟨_, rfl, _, _, rfl, rfl, .of_left (by decide), _, rfl, _, _, rfl, rfl, .of_left (by decide), _, _, rfl, rfl, _, _, rfl, rfl, ?_⟩
    refine ⟨_, rfl, _, rfl, _, _, rfl, .inl ⟨_, hs, rfl⟩, _, _, rfl, rfl, _, rfl, ?_⟩
    refine ite2 (fun c1 => ⟨_, rfl, _, rfl, a, _, _, _, rfl, rfl, hs, atI_nat (at_map (i := k) ?_), _, rfl, ?_⟩) (fun c1 => ⟨_, rfl, _, _, rfl, .inl ⟨_, hs, rfl⟩, _, _, rfl, rfl, _, rfl, ite2 (fun c2 => ⟨_, rfl, _, rfl, _, rfl, .inl ⟨_, rfl, _, rfl, _, _, rfl, .inl ⟨_, hs, rfl⟩, _, _, rfl, rfl, (at_modI (k := k) c2).1, a, _, _, _, rfl, rfl, hs, (at_modI (k := k) c2).2, _, rfl, .inl ⟨_, rfl, _, _, rfl, rfl, (by show (2147483629 : Int) ≠ 0; decide), _, _, rfl, rfl, .of_right (by decide), _, _, rfl, rfl, ?_⟩⟩⟩) (fun c2 => ?_)⟩)
    · have : ((k : Nat) : Int) < (((ns.map V.int).length : Nat) : Int) := of_decide_eq_true c1
      rw [List.length_map] at this
      omega
    all_goals
      refine ⟨_, rfl, .inl ⟨_, rfl, _, _, rfl, rfl, (by show (2147483629 : Int) ≠ 0; decide), _, _, rfl, rfl, .of_right (by decide), _, rfl, _, rfl, _, _, rfl, rfl, .of_left (by decide), _, _, rfl, rfl, _, _, rfl, rfl, .of_left (by decide), _, _, rfl, rfl, .inl ⟨_, rfl, _, _, rfl, rfl, (by show (2147483629 : Int) ≠ 0; decide), _, _, rfl, rfl, ?_⟩⟩⟩
      refine ⟨_, rfl, small_len (by simp), fun q hq => ?_⟩
      refine ⟨_, rfl, _, _, rfl, rfl, ⟨by decide, by decide, by decide⟩, _, _, rfl, rfl, .inr ⟨_, rfl, q, _, _, _, rfl, rfl, SqL.of upd_same, box_item, _, rfl, small_len (by simp), fun b hb => ?_⟩⟩
      have hbH : H b = none := (same_upd hq).free hb
      exact kk _ b ((same_upd hq).trans (same_upd hb)) hbH ⟨_, _, _, upd_same⟩
end
end My
set_option maxHeartbeats 400000
namespace My
open PySem L2
open Lat
section
variable {P : Program} {w : World} {K : PySem.W.Frag} {mg : Str → Option Value} {base : Heap}
abbrev sPick : Stmt := top 16
abbrev NPick : List Str := ["_law_box_here", "_law_items"]
theorem scPick : FnScope NPick ["_law_box_here", "_law_items"] (defScope sPick) := ⟨rfl, rfl, rfl, by decide +kernel, rfl, by decide +kernel, by decide +kernel⟩

def spPick (K : PySem.W.Frag) : Sp := fun vs H Q _ => ∃ (b l : Addr) (xs : List V), vs = [.ref b, .ref l] ∧ IsBox H b ∧ l ≠ b ∧ SqL K H l xs ∧ 0 < xs.length ∧ xs.length ≤ 1000 ∧ ∀ H' v, SameX b H H' → IsBox H' b → v ∈ xs → Q v H'
theorem ok_Pick {f : Addr} {fd : FuncData} (F : Fun K "_law_pick" "_law_pick" sPick f fd) (Z : Bn mg) (ct : Cal P w K mg base "_law_take" 1 ["_law_box_here", "_law_many"] spTake) : FnOk P w K mg base CX0 2 f fd ["_law_box_here", "_law_items"] (spPick K) := by
  obtain ⟨f_law_take, fd_law_take, g_law_take, k_law_take, b_law_take, G_law_take⟩ := ct.ex
  refine F.ok scPick (fun vs H Q E h => ?_) (fun cdv A outer s H vs Q E hr h => ?_)
  · obtain ⟨b, l, xs, rfl, _⟩ := h
    rfl
  · obtain ⟨b, l, xs, rfl, hb, lb, hl, h0, h1, k⟩ := h
    refine ⟨_, (pss_one (ps_ret (pe_ix (ix_listK (K := K) rfl) (pv 1) (pe_call G_law_take (hr.mono (by decide)) (by rfl) g_law_take k_law_take b_law_take .nil pass0 (pa_cons (pv 0) (pa_cons (pe_callB call_len (by rfl) Z.len PySem.boot_len (pa_cons (pv 1) pa_nil)) pa_nil))) (fun _ _ => rfl)))), ?_⟩
    refine ⟨_, rfl, _, rfl, _, rfl, _, _, rfl, .inl ⟨_, hl, rfl⟩, b, xs.length, rfl, hb, by omega, ?_, fun H1 d s1 b1 d0 d1 => ?_⟩
    · exact Nat.lt_of_lt_of_le (PySem.Flt.log2_lt_of (k := 20) (by decide) (by omega)) (by decide)
    · obtain ⟨j, rfl⟩ := Int.eq_ofNat_of_zero_le d0
      have hj : j < xs.length := by omega
      exact ⟨l, _, _, _, rfl, rfl, seqLX lb s1 hl, atI_nat (List.getElem?_eq_getElem hj), k _ _ s1 b1 (List.getElem_mem hj)⟩
end
end My
set_option maxHeartbeats 400000
namespace My
open PySem L2
section
variable {P : Program} {w : World} {K : PySem.W.Frag} {mg : Str → Option Value} {base : Heap}
abbrev sXInvalidText : Stmt := inClass (top 3) 0
abbrev NXInvalidText : List Str := ["self", "at"]
theorem scXInvalidText : FnScope NXInvalidText ["self", "at"] (defScope sXInvalidText) := ⟨rfl, rfl, rfl, by decide +kernel, rfl, by decide +kernel, by decide +kernel⟩

theorem ok_XInvalidText {f C B : Addr} {fd : FuncData} {mc : Value} (F : Fun K "__init__" "InvalidText.__init__" sXInvalidText f fd) (S : SumT K mg B mc) (T : OexC K C) (no : PySem.W.findIn K (.ref C) "at" = some none) : FnOk P w K mg base CX0 1 f fd ["self", "at"] (spErr C "at") := by
  refine F.ok scXInvalidText (fun vs H Q E h => ?_) (fun cdv A outer s H vs Q E hr h => ?_)
  · obtain ⟨a, v, rfl, _⟩ := h
    rfl
  · obtain ⟨a, v, rfl, ha, k⟩ := h
    refine ⟨_, (pss_cons (ps_expr (pe_initB (by rfl) S.g S.sp S.rd S.fi (pa_cons (pv 0) (pa_cons pe_str pa_nil)))) (pss_one (ps_ost (pv 0) (pv 1)))), ?_⟩
    exact ⟨_, rfl, a, C, _, rfl, by decide, T, ha, _, rfl, _, rfl, a, C, rfl, T, no, .inl ⟨ha, fun dx hd ne => k dx hd ne⟩⟩

abbrev sXInvalidRow : Stmt := inClass (top 4) 0
abbrev NXInvalidRow : List Str := ["self", "part"]
theorem scXInvalidRow : FnScope NXInvalidRow ["self", "part"] (defScope sXInvalidRow) := ⟨rfl, rfl, rfl, by decide +kernel, rfl, by decide +kernel, by decide +kernel⟩

theorem ok_XInvalidRow {f C B : Addr} {fd : FuncData} {mc : Value} (F : Fun K "__init__" "InvalidRow.__init__" sXInvalidRow f fd) (S : SumT K mg B mc) (T : OexC K C) (no : PySem.W.findIn K (.ref C) "part" = some none) : FnOk P w K mg base CX0 1 f fd ["self", "part"] (spErr C "part") := by
  refine F.ok scXInvalidRow (fun vs H Q E h => ?_) (fun cdv A outer s H vs Q E hr h => ?_)
  · obtain ⟨a, v, rfl, _⟩ := h
    rfl
  · obtain ⟨a, v, rfl, ha, k⟩ := h
    refine ⟨_, (pss_cons (ps_expr (pe_initB (by rfl) S.g S.sp S.rd S.fi (pa_cons (pv 0) (pa_cons pe_str pa_nil)))) (pss_one (ps_ost (pv 0) (pv 1)))), ?_⟩
    exact ⟨_, rfl, a, C, _, rfl, by decide, T, ha, _, rfl, _, rfl, a, C, rfl, T, no, .inl ⟨ha, fun dx hd ne => k dx hd ne⟩⟩

abbrev sXInvalidBook : Stmt := inClass (top 5) 0
abbrev NXInvalidBook : List Str := ["self", "word"]
theorem scXInvalidBook : FnScope NXInvalidBook ["self", "word"] (defScope sXInvalidBook) := ⟨rfl, rfl, rfl, by decide +kernel, rfl, by decide +kernel, by decide +kernel⟩

theorem ok_XInvalidBook {f C B : Addr} {fd : FuncData} {mc : Value} (F : Fun K "__init__" "InvalidBook.__init__" sXInvalidBook f fd) (S : SumT K mg B mc) (T : OexC K C) (no : PySem.W.findIn K (.ref C) "word" = some none) : FnOk P w K mg base CX0 1 f fd ["self", "word"] (spErr C "word") := by
  refine F.ok scXInvalidBook (fun vs H Q E h => ?_) (fun cdv A outer s H vs Q E hr h => ?_)
  · obtain ⟨a, v, rfl, _⟩ := h
    rfl
  · obtain ⟨a, v, rfl, ha, k⟩ := h
    refine ⟨_, (pss_cons (ps_expr (pe_initB (by rfl) S.g S.sp S.rd S.fi (pa_cons (pv 0) (pa_cons pe_str pa_nil)))) (pss_one (ps_ost (pv 0) (pv 1)))), ?_⟩
    exact ⟨_, rfl, a, C, _, rfl, by decide, T, ha, _, rfl, _, rfl, a, C, rfl, T, no, .inl ⟨ha, fun dx hd ne => k dx hd ne⟩⟩

abbrev sXInvalidLife : Stmt := inClass (top 6) 0
abbrev NXInvalidLife : List Str := ["self", "at"]
theorem scXInvalidLife : FnScope NXInvalidLife ["self", "at"] (defScope sXInvalidLife) := ⟨rfl, rfl, rfl, by decide +kernel, rfl, by decide +kernel, by decide +kernel⟩

theorem ok_XInvalidLife {f C B : Addr} {fd : FuncData} {mc : Value} (F : Fun K "__init__" "InvalidLife.__init__" sXInvalidLife f fd) (S : SumT K mg B mc) (T : OexC K C) (no : PySem.W.findIn K (.ref C) "at" = some none) : FnOk P w K mg base CX0 1 f fd ["self", "at"] (spErr C "at") := by
  refine F.ok scXInvalidLife (fun vs H Q E h => ?_) (fun cdv A outer s H vs Q E hr h => ?_)
  · obtain ⟨a, v, rfl, _⟩ := h
    rfl
  · obtain ⟨a, v, rfl, ha, k⟩ := h
    refine ⟨_, (pss_cons (ps_expr (pe_initB (by rfl) S.g S.sp S.rd S.fi (pa_cons (pv 0) (pa_cons pe_str pa_nil)))) (pss_one (ps_ost (pv 0) (pv 1)))), ?_⟩
    exact ⟨_, rfl, a, C, _, rfl, by decide, T, ha, _, rfl, _, rfl, a, C, rfl, T, no, .inl ⟨ha, fun dx hd ne => k dx hd ne⟩⟩

abbrev sXNoStatement : Stmt := inClass (top 8) 0
abbrev NXNoStatement : List Str := ["self", "at"]
theorem scXNoStatement : FnScope NXNoStatement ["self", "at"] (defScope sXNoStatement) := ⟨rfl, rfl, rfl, by decide +kernel, rfl, by decide +kernel, by decide +kernel⟩

theorem ok_XNoStatement {f C B : Addr} {fd : FuncData} {mc : Value} (F : Fun K "__init__" "NoStatement.__init__" sXNoStatement f fd) (S : SumT K mg B mc) (T : OexC K C) (no : PySem.W.findIn K (.ref C) "at" = some none) : FnOk P w K mg base CX0 1 f fd ["self", "at"] (spErr C "at") := by
  refine F.ok scXNoStatement (fun vs H Q E h => ?_) (fun cdv A outer s H vs Q E hr h => ?_)
  · obtain ⟨a, v, rfl, _⟩ := h
    rfl
  · obtain ⟨a, v, rfl, ha, k⟩ := h
    refine ⟨_, (pss_cons (ps_expr (pe_initB (by rfl) S.g S.sp S.rd S.fi (pa_cons (pv 0) (pa_cons pe_str pa_nil)))) (pss_one (ps_ost (pv 0) (pv 1)))), ?_⟩
    exact ⟨_, rfl, a, C, _, rfl, by decide, T, ha, _, rfl, _, rfl, a, C, rfl, T, no, .inl ⟨ha, fun dx hd ne => k dx hd ne⟩⟩

abbrev sXNoTotal : Stmt := inClass (top 9) 0
abbrev NXNoTotal : List Str := ["self", "name"]
theorem scXNoTotal : FnScope NXNoTotal ["self", "name"] (defScope sXNoTotal) := ⟨rfl, rfl, rfl, by decide +kernel, rfl, by decide +kernel, by decide +kernel⟩

theorem ok_XNoTotal {f C B : Addr} {fd : FuncData} {mc : Value} (F : Fun K "__init__" "NoTotal.__init__" sXNoTotal f fd) (S : SumT K mg B mc) (T : OexC K C) (no : PySem.W.findIn K (.ref C) "name" = some none) : FnOk P w K mg base CX0 1 f fd ["self", "name"] (spErr C "name") := by
  refine F.ok scXNoTotal (fun vs H Q E h => ?_) (fun cdv A outer s H vs Q E hr h => ?_)
  · obtain ⟨a, v, rfl, _⟩ := h
    rfl
  · obtain ⟨a, v, rfl, ha, k⟩ := h
    refine ⟨_, (pss_cons (ps_expr (pe_initB (by rfl) S.g S.sp S.rd S.fi (pa_cons (pv 0) (pa_cons pe_str pa_nil)))) (pss_one (ps_ost (pv 0) (pv 1)))), ?_⟩
    exact ⟨_, rfl, a, C, _, rfl, by decide, T, ha, _, rfl, _, rfl, a, C, rfl, T, no, .inl ⟨ha, fun dx hd ne => k dx hd ne⟩⟩

abbrev sXNoEvent : Stmt := inClass (top 10) 0
abbrev NXNoEvent : List Str := ["self", "name"]
theorem scXNoEvent : FnScope NXNoEvent ["self", "name"] (defScope sXNoEvent) := ⟨rfl, rfl, rfl, by decide +kernel, rfl, by decide +kernel, by decide +kernel⟩

theorem ok_XNoEvent {f C B : Addr} {fd : FuncData} {mc : Value} (F : Fun K "__init__" "NoEvent.__init__" sXNoEvent f fd) (S : SumT K mg B mc) (T : OexC K C) (no : PySem.W.findIn K (.ref C) "name" = some none) : FnOk P w K mg base CX0 1 f fd ["self", "name"] (spErr C "name") := by
  refine F.ok scXNoEvent (fun vs H Q E h => ?_) (fun cdv A outer s H vs Q E hr h => ?_)
  · obtain ⟨a, v, rfl, _⟩ := h
    rfl
  · obtain ⟨a, v, rfl, ha, k⟩ := h
    refine ⟨_, (pss_cons (ps_expr (pe_initB (by rfl) S.g S.sp S.rd S.fi (pa_cons (pv 0) (pa_cons pe_str pa_nil)))) (pss_one (ps_ost (pv 0) (pv 1)))), ?_⟩
    exact ⟨_, rfl, a, C, _, rfl, by decide, T, ha, _, rfl, _, rfl, a, C, rfl, T, no, .inl ⟨ha, fun dx hd ne => k dx hd ne⟩⟩

abbrev sXRefused : Stmt := inClass (top 12) 0
abbrev NXRefused : List Str := ["self", "word"]
theorem scXRefused : FnScope NXRefused ["self", "word"] (defScope sXRefused) := ⟨rfl, rfl, rfl, by decide +kernel, rfl, by decide +kernel, by decide +kernel⟩

theorem ok_XRefused {f C B : Addr} {fd : FuncData} {mc : Value} (F : Fun K "__init__" "Refused.__init__" sXRefused f fd) (S : SumT K mg B mc) (T : OexC K C) (no : PySem.W.findIn K (.ref C) "word" = some none) : FnOk P w K mg base CX0 1 f fd ["self", "word"] (spErr C "word") := by
  refine F.ok scXRefused (fun vs H Q E h => ?_) (fun cdv A outer s H vs Q E hr h => ?_)
  · obtain ⟨a, v, rfl, _⟩ := h
    rfl
  · obtain ⟨a, v, rfl, ha, k⟩ := h
    refine ⟨_, (pss_cons (ps_expr (pe_initB (by rfl) S.g S.sp S.rd S.fi (pa_cons (pv 0) (pa_cons pe_str pa_nil)))) (pss_one (ps_ost (pv 0) (pv 1)))), ?_⟩
    exact ⟨_, rfl, a, C, _, rfl, by decide, T, ha, _, rfl, _, rfl, a, C, rfl, T, no, .inl ⟨ha, fun dx hd ne => k dx hd ne⟩⟩

abbrev sXInvalidVector : Stmt := inClass (top 2) 0
abbrev NXInvalidVector : List Str := ["self"]
theorem scXInvalidVector : FnScope NXInvalidVector ["self"] (defScope sXInvalidVector) := ⟨rfl, rfl, rfl, by decide +kernel, rfl, by decide +kernel, by decide +kernel⟩

theorem ok_XInvalidVector {f C B : Addr} {fd : FuncData} {mc : Value} (F : Fun K "__init__" "InvalidVector.__init__" sXInvalidVector f fd) (S : SumT K mg B mc) (T : OexC K C) : FnOk P w K mg base CX0 1 f fd ["self"] (spErr0 C) := by
  refine F.ok scXInvalidVector (fun vs H Q E h => ?_) (fun cdv A outer s H vs Q E hr h => ?_)
  · obtain ⟨a, rfl, _⟩ := h
    rfl
  · obtain ⟨a, rfl, ha, k⟩ := h
    refine ⟨_, (pss_one (ps_expr (pe_initB (by rfl) S.g S.sp S.rd S.fi (pa_cons (pv 0) (pa_cons pe_str pa_nil))))), ?_⟩
    exact ⟨_, rfl, a, C, _, rfl, by decide, T, ha, k⟩

abbrev sXInvalidCommand : Stmt := inClass (top 7) 0
abbrev NXInvalidCommand : List Str := ["self"]
theorem scXInvalidCommand : FnScope NXInvalidCommand ["self"] (defScope sXInvalidCommand) := ⟨rfl, rfl, rfl, by decide +kernel, rfl, by decide +kernel, by decide +kernel⟩

theorem ok_XInvalidCommand {f C B : Addr} {fd : FuncData} {mc : Value} (F : Fun K "__init__" "InvalidCommand.__init__" sXInvalidCommand f fd) (S : SumT K mg B mc) (T : OexC K C) : FnOk P w K mg base CX0 1 f fd ["self"] (spErr0 C) := by
  refine F.ok scXInvalidCommand (fun vs H Q E h => ?_) (fun cdv A outer s H vs Q E hr h => ?_)
  · obtain ⟨a, rfl, _⟩ := h
    rfl
  · obtain ⟨a, rfl, ha, k⟩ := h
    refine ⟨_, (pss_one (ps_expr (pe_initB (by rfl) S.g S.sp S.rd S.fi (pa_cons (pv 0) (pa_cons pe_str pa_nil))))), ?_⟩
    exact ⟨_, rfl, a, C, _, rfl, by decide, T, ha, k⟩

abbrev sXMismatch : Stmt := inClass (top 11) 0
abbrev NXMismatch : List Str := ["self"]
theorem scXMismatch : FnScope NXMismatch ["self"] (defScope sXMismatch) := ⟨rfl, rfl, rfl, by decide +kernel, rfl, by decide +kernel, by decide +kernel⟩

theorem ok_XMismatch {f C B : Addr} {fd : FuncData} {mc : Value} (F : Fun K "__init__" "Mismatch.__init__" sXMismatch f fd) (S : SumT K mg B mc) (T : OexC K C) : FnOk P w K mg base CX0 1 f fd ["self"] (spErr0 C) := by
  refine F.ok scXMismatch (fun vs H Q E h => ?_) (fun cdv A outer s H vs Q E hr h => ?_)
  · obtain ⟨a, rfl, _⟩ := h
    rfl
  · obtain ⟨a, rfl, ha, k⟩ := h
    refine ⟨_, (pss_one (ps_expr (pe_initB (by rfl) S.g S.sp S.rd S.fi (pa_cons (pv 0) (pa_cons pe_str pa_nil))))), ?_⟩
    exact ⟨_, rfl, a, C, _, rfl, by decide, T, ha, k⟩

end
end My
set_option maxHeartbeats 400000
namespace My
open PySem L2
open Lat
section
variable {P : Program} {w : World} {K : PySem.W.Frag} {mg : Str → Option Value} {base : Heap}
/-! ### drawn values -/
def vals : List PyData := [.int 0, .int (-3), .int (10 ^ 18), .str "", .str "note", .none, .bool true, .list [], .list [.int 1, .str "a"], .tuple [.str "x", .none], .tuple [], .str "rests"]
def Flat (v : V) : Prop := ∀ a, v ≠ .ref a
theorem Dp.flat {H H' : Hp} {v : V} {d : PyData} (f : Flat v) (h : Dp K H v d) : Dp K H' v d := by
  cases h with
  | non => exact .non
  | bl b => exact .bl b
  | int i => exact .int i
  | str x => exact .str x
  | lst a b => exact (f _ rfl).elim
  | tup a b => exact (f _ rfl).elim
theorem Dp.flats {H H' : Hp} : ∀ {xs : List V} {ds : List PyData}, (∀ x ∈ xs, Flat x) → DpAll K H xs ds → DpAll K H' xs ds
  | [], _, _, h => by cases h; exact .nil
  | x :: xs, _, f, h => by
    cases h with
    | cons h1 h2 => exact .cons (Dp.flat (f x (List.mem_cons_self ..)) h1) (Dp.flats (fun y hy => f y (List.mem_cons_of_mem _ hy)) h2)
/-- a value that has the form d, in no list of three -/
def Vd (K : PySem.W.Frag) (H : Hp) (v : V) (d : PyData) : Prop :=
  (Flat v ∧ Dp K H v d) ∨ (∃ a xs ds, v = .ref a ∧ H a = some (.lst xs) ∧ xs.length ≠ 3 ∧ (∀ x ∈ xs, Flat x) ∧ DpAll K H xs ds ∧ d = .list ds) ∨ ∃ a xs ds, v = .ref a ∧ SqT K H a xs ∧ (∀ x ∈ xs, Flat x) ∧ DpAll K H xs ds ∧ d = .tuple ds
theorem Vd.dp {H : Hp} {v : V} {d : PyData} (h : Vd K H v d) : Dp K H v d := by
  rcases h with ⟨_, h⟩ | ⟨a, xs, ds, rfl, ha, _, _, h, rfl⟩ | ⟨a, xs, ds, rfl, ha, _, h, rfl⟩
  · exact h
  · exact .lst (SqL.of ha) h
  · exact .tup ha h
theorem Vd.x {H H' : Hp} {b : Addr} {l : List V} {v : V} {d : PyData} (hb : H b = some (.lst l)) (nb : v ≠ .ref b) (s : SameX b H H') (h : Vd K H v d) : Vd K H' v d := by
  rcases h with ⟨f, h⟩ | ⟨a, xs, ds, rfl, ha, n3, f, h, rfl⟩ | ⟨a, xs, ds, rfl, ha, f, h, rfl⟩
  · exact .inl ⟨f, Dp.flat f h⟩
  · exact .inr (.inl ⟨a, xs, ds, rfl, s _ _ (fun e => nb (by rw [e])) ha, n3, f, Dp.flats f h, rfl⟩)
  · exact .inr (.inr ⟨a, xs, ds, rfl, seqTX hb s ha, f, Dp.flats f h, rfl⟩)
theorem Vd.same {H H' : Hp} {v : V} {d : PyData} (s : Same H H') (h : Vd K H v d) : Vd K H' v d := by
  rcases h with ⟨f, h⟩ | ⟨a, xs, ds, rfl, ha, n3, f, h, rfl⟩ | ⟨a, xs, ds, rfl, ha, f, h, rfl⟩
  · exact .inl ⟨f, Dp.flat f h⟩
  · exact .inr (.inl ⟨a, xs, ds, rfl, s _ _ ha, n3, f, Dp.flats f h, rfl⟩)
  · exact .inr (.inr ⟨a, xs, ds, rfl, seqT s ha, f, Dp.flats f h, rfl⟩)
abbrev sValue : Stmt := top 17
abbrev NValue : List Str := ["_law_box_here"]
theorem scValue : FnScope NValue ["_law_box_here"] (defScope sValue) := ⟨rfl, rfl, rfl, by decide +kernel, rfl, by decide +kernel, by decide +kernel⟩

def spValue (K : PySem.W.Frag) : Sp := fun vs H Q _ => ∃ b : Addr, vs = [.ref b] ∧ IsBox H b ∧ ∀ H' v d, SameX b H H' → IsBox H' b → d ∈ vals → Vd K H' v d → (∀ a, v = .ref a → H a = none) → Q v H'
theorem ok_Value {f : Addr} {fd : FuncData} (F : Fun K "_law_value" "_law_value" sValue f fd) (cp : Cal P w K mg base "_law_pick" 2 ["_law_box_here", "_law_items"] (spPick K)) : FnOk P w K mg base CX0 3 f fd ["_law_box_here"] (spValue K) := by
  obtain ⟨f_law_pick, fd_law_pick, g_law_pick, k_law_pick, b_law_pick, G_law_pick⟩ := cp.ex
  refine F.ok scValue (fun vs H Q E h => ?_) (fun cdv A outer s H vs Q E hr h => ?_)
  · obtain ⟨b, rfl, _⟩ := h
    rfl
  · obtain ⟨b, rfl, hb, k⟩ := h
    refine ⟨_, (pss_one (ps_ret (pe_call G_law_pick (hr.mono (by decide)) (by rfl) g_law_pick k_law_pick b_law_pick .nil pass0 (pa_cons (pv 0) (pa_cons (pe_lst (pa_cons pe_int (pa_cons (pe_un un_neg pe_int) (pa_cons (pe_op op_pow pe_int pe_int) (pa_cons pe_str (pa_cons pe_str (pa_cons pe_non (pa_cons pe_bl (pa_cons (pe_lst pa_nil) (pa_cons (pe_lst (pa_cons pe_int (pa_cons pe_str pa_nil))) (pa_cons (pe_tup (pa_cons pe_str (pa_cons pe_non pa_nil))) (pa_cons (pe_tup pa_nil) (pa_cons pe_str pa_nil))))))))))))) pa_nil))))), ?_⟩
    refine ⟨_, rfl, _, rfl, _, _, rfl, rfl, ⟨by decide, by decide, by decide⟩, small_len (by simp), fun p1 h1 => ⟨small_len (by simp), fun p2 h2 => ⟨small_len (by simp), fun p3 h3 => ⟨small_len (by simp), fun p4 h4 => ⟨small_len (by simp), fun l hl => ?_⟩⟩⟩⟩⟩
    have s1 := same_upd (o := .lst []) h1
    have s2 := same_upd (o := .lst [V.int 1, V.str (Str.ofString "a")]) h2
    have s3 := same_upd (o := .tup [V.str (Str.ofString "x"), V.non]) h3
    have s4 := same_upd (o := .tup []) h4
    have e1 : (upd H p1 (.lst [])) p1 = some (.lst []) := upd_same
    generalize upd H p1 (.lst []) = H1 at s1 e1 h2 s2 h3 s3 h4 s4 hl ⊢
    have e2 : (upd H1 p2 (.lst [V.int 1, V.str (Str.ofString "a")])) p2 = some (.lst [V.int 1, V.str (Str.ofString "a")]) := upd_same
    generalize upd H1 p2 (.lst [V.int 1, V.str (Str.ofString "a")]) = H2 at s2 e2 h3 s3 h4 s4 hl ⊢
    have e3 : (upd H2 p3 (.tup [V.str (Str.ofString "x"), V.non])) p3 = some (.tup [V.str (Str.ofString "x"), V.non]) := upd_same
    generalize upd H2 p3 (.tup [V.str (Str.ofString "x"), V.non]) = H3 at s3 e3 h4 s4 hl ⊢
    have e4 : (upd H3 p4 (.tup [])) p4 = some (.tup []) := upd_same
    generalize upd H3 p4 (.tup []) = H4 at s4 e4 hl ⊢
    have s5 := same_upd (o := .lst [V.int 0, V.int (-3), V.int (10 ^ 18), V.str (Str.ofString ""), V.str (Str.ofString "note"), V.non, V.bl true, V.ref p1, V.ref p2, V.ref p3, V.ref p4, V.str (Str.ofString "rests")]) hl
    have all := s1.trans (s2.trans (s3.trans (s4.trans s5)))
    refine ⟨b, l, _, rfl, hb.same all, box_ne (hb.same (s1.trans (s2.trans (s3.trans s4)))) hl, SqL.of upd_same, by simp, by simp, fun H' v sx bx hv => ?_⟩
    have sH : SameX b H H' := SameX.trans (Same.x all) sx
    have hv' : v ∈ [V.int 0, V.int (-3), V.int (10 ^ 18), V.str (Str.ofString ""), V.str (Str.ofString "note"), V.non, V.bl true, V.ref p1, V.ref p2, V.ref p3, V.ref p4, V.str (Str.ofString "rests")] := hv
    have ne : ∀ {c : Addr}, H c = none → c ≠ b := fun {c} e => box_ne hb e
    have g1 : H' p1 = some (.lst []) := sx _ _ (ne h1) ((s2.trans (s3.trans (s4.trans s5))) _ _ e1)
    have f2 : H p2 = none := s1.free h2
    have g2 : H' p2 = some (.lst [V.int 1, V.str (Str.ofString "a")]) := sx _ _ (ne f2) ((s3.trans (s4.trans s5)) _ _ e2)
    have f3 : H p3 = none := s1.free (s2.free h3)
    have g3 : H' p3 = some (.tup [V.str (Str.ofString "x"), V.non]) := sx _ _ (ne f3) ((s4.trans s5) _ _ e3)
    have f4 : H p4 = none := s1.free (s2.free (s3.free h4))
    have g4 : H' p4 = some (.tup []) := sx _ _ (ne f4) (s5 _ _ e4)
    have fl : ∀ {v : V} {d : PyData}, d ∈ vals → Flat v → Dp K H' v d → Q v H' := fun m f h => k _ _ _ sH bx m (.inl ⟨f, h⟩) fun a e => (f a e).elim
    simp only [List.mem_cons, List.not_mem_nil, or_false] at hv'
    rcases hv' with rfl | rfl | rfl | rfl | rfl | rfl | rfl | rfl | rfl | rfl | rfl | rfl
    · exact fl (d := .int 0) (by simp [vals]) (fun a => nofun) (.int _)
    · exact fl (d := .int (-3)) (by simp [vals]) (fun a => nofun) (.int _)
    · exact fl (d := .int (10 ^ 18)) (by simp [vals]) (fun a => nofun) (.int _)
    · exact fl (d := .str "") (by simp [vals]) (fun a => nofun) (.str _)
    · exact fl (d := .str "note") (by simp [vals]) (fun a => nofun) (.str _)
    · exact fl (d := .none) (by simp [vals]) (fun a => nofun) .non
    · exact fl (d := .bool true) (by simp [vals]) (fun a => nofun) (.bl _)
    · exact k _ _ (.list []) sH bx (by simp [vals]) (.inr (.inl ⟨p1, [], [], rfl, g1, by decide, (fun x h => nomatch h), .nil, rfl⟩)) fun a e => by injection e with e; rw [← e]; exact h1
    · refine k _ _ (.list [.int 1, .str "a"]) sH bx (by simp [vals]) (.inr (.inl ⟨p2, _, _, rfl, g2, by simp, fun x h => ?_, .cons (.int _) (.cons (.str _) .nil), rfl⟩)) fun a e => by injection e with e; rw [← e]; exact f2
      simp only [List.mem_cons, List.not_mem_nil, or_false] at h
      rcases h with rfl | rfl
      · exact fun a => nofun
      · exact fun a => nofun
    · refine k _ _ (.tuple [.str "x", .none]) sH bx (by simp [vals]) (.inr (.inr ⟨p3, _, _, rfl, SqT.of g3, fun x h => ?_, .cons (.str _) (.cons .non .nil), rfl⟩)) fun a e => by injection e with e; rw [← e]; exact f3
      simp only [List.mem_cons, List.not_mem_nil, or_false] at h
      rcases h with rfl | rfl
      · exact fun a => nofun
      · exact fun a => nofun
    · exact k _ _ (.tuple []) sH bx (by simp [vals]) (.inr (.inr ⟨p4, _, _, rfl, SqT.of g4, (fun x h => nomatch h), .nil, rfl⟩)) fun a e => by injection e with e; rw [← e]; exact f4
    · exact fl (d := .str "rests") (by simp [vals]) (fun a => nofun) (.str _)
end
end My
set_option maxHeartbeats 400000
namespace My
open PySem L2
open Lat
/-- the classes, by their places -/
structure ErrT (P : Program) (w : World) (K : PySem.W.Frag) (mg : Str → Option Value) (base : Heap) (B : Addr) (c : Nat → Addr) : Prop where
  e0 : ErrC P w K mg base "InvalidText" "at" (c 0)
  e1 : ErrC P w K mg base "InvalidRow" "part" (c 1)
  e2 : ErrC P w K mg base "InvalidBook" "word" (c 2)
  e3 : ErrC P w K mg base "InvalidLife" "at" (c 3)
  e4 : ErrC P w K mg base "NoStatement" "at" (c 4)
  e5 : ErrC P w K mg base "NoTotal" "name" (c 5)
  e6 : ErrC P w K mg base "NoEvent" "name" (c 6)
  e7 : ErrC P w K mg base "Refused" "word" (c 7)
  e8 : Err0 P w K mg base "InvalidVector" (c 8)
  e9 : Err0 P w K mg base "InvalidCommand" (c 9)
  e10 : Err0 P w K mg base "Mismatch" (c 10)
  kit : ∀ i j, i < 11 → j < 11 → PySem.W.kitOne K (.ref (c i)) (.ref (c j)) = some (decide (j = i))
  kitS : ∀ i, i < 11 → PySem.W.kitOne K (.ref (c i)) (.ref B) = some true
  kitV : ∀ i, i < 11 → PySem.W.kitOne K (.ref (c i)) (.type "ValueError") = some true
section
variable {P : Program} {w : World} {K : PySem.W.Frag} {mg : Str → Option Value} {base : Heap}
theorem ErrT.xc {B : Addr} {c : Nat → Addr} (T : ErrT P w K mg base B c) (i : Nat) (h : i < 11) : ExcC K (c i) :=
  match i, h with
  | 0, _ => T.e0.XC | 1, _ => T.e1.XC | 2, _ => T.e2.XC | 3, _ => T.e3.XC | 4, _ => T.e4.XC | 5, _ => T.e5.XC | 6, _ => T.e6.XC | 7, _ => T.e7.XC | 8, _ => T.e8.XC | 9, _ => T.e9.XC | 10, _ => T.e10.XC
/-- eleven errors -/
def Made (c : Nat → Addr) (H : Hp) (m : Addr) (xs : List V) : Prop := ∃ x0 x1 x2 x3 x4 x5 x6 x7 a0 a1 a2 a3 a4 a5 a6 a7 a8 a9 a10, xs = [x0, x1, x2, x3, x4, x5, x6, x7] ∧ H m = some (.lst [.ref a0, .ref a1, .ref a2, .ref a3, .ref a4, .ref a5, .ref a6, .ref a7, .ref a8, .ref a9, .ref a10]) ∧
  Err H a0 (c 0) "at" x0 ∧ Err H a1 (c 1) "part" x1 ∧ Err H a2 (c 2) "word" x2 ∧ Err H a3 (c 3) "at" x3 ∧ Err H a4 (c 4) "at" x4 ∧ Err H a5 (c 5) "name" x5 ∧ Err H a6 (c 6) "name" x6 ∧ Err H a7 (c 7) "word" x7 ∧ ExAt H a8 (c 8) ∧ ExAt H a9 (c 9) ∧ ExAt H a10 (c 10)
def Named (c : Nat → Addr) (H : Hp) (m : Addr) (xs : List V) : Prop := ∃ x0 x1 x2 x3 x4 x5 x6 x7 a0 a1 a2 a3 a4 a5 a6 a7 l, xs = [x0, x1, x2, x3, x4, x5, x6, x7] ∧ H m = some (.lst (.ref a0 :: .ref a1 :: .ref a2 :: .ref a3 :: .ref a4 :: .ref a5 :: .ref a6 :: .ref a7 :: l)) ∧
  Err H a0 (c 0) "at" x0 ∧ Err H a1 (c 1) "part" x1 ∧ Err H a2 (c 2) "word" x2 ∧ Err H a3 (c 3) "at" x3 ∧ Err H a4 (c 4) "at" x4 ∧ Err H a5 (c 5) "name" x5 ∧ Err H a6 (c 6) "name" x6 ∧ Err H a7 (c 7) "word" x7
theorem Made.same {c : Nat → Addr} {H H' : Hp} {m : Addr} {xs : List V} (h : Made c H m xs) (s : Same H H') : Made c H' m xs := by
  obtain ⟨x0, x1, x2, x3, x4, x5, x6, x7, a0, a1, a2, a3, a4, a5, a6, a7, a8, a9, a10, e, hm, h0, h1, h2, h3, h4, h5, h6, h7, h8, h9, h10⟩ := h
  exact ⟨x0, x1, x2, x3, x4, x5, x6, x7, a0, a1, a2, a3, a4, a5, a6, a7, a8, a9, a10, e, s _ _ hm, h0.same s, h1.same s, h2.same s, h3.same s, h4.same s, h5.same s, h6.same s, h7.same s, h8.same s, h9.same s, h10.same s⟩
theorem Made.named {c : Nat → Addr} {H : Hp} {m : Addr} {xs : List V} (h : Made c H m xs) : Named c H m xs := by
  obtain ⟨x0, x1, x2, x3, x4, x5, x6, x7, a0, a1, a2, a3, a4, a5, a6, a7, a8, a9, a10, e, hm, h0, h1, h2, h3, h4, h5, h6, h7, h8, h9, h10⟩ := h
  exact ⟨x0, x1, x2, x3, x4, x5, x6, x7, a0, a1, a2, a3, a4, a5, a6, a7, _, e, hm, h0, h1, h2, h3, h4, h5, h6, h7⟩
theorem Named.same {c : Nat → Addr} {H H' : Hp} {m : Addr} {xs : List V} (h : Named c H m xs) (s : Same H H') : Named c H' m xs := by
  obtain ⟨x0, x1, x2, x3, x4, x5, x6, x7, a0, a1, a2, a3, a4, a5, a6, a7, l, e, hm, h0, h1, h2, h3, h4, h5, h6, h7⟩ := h
  exact ⟨x0, x1, x2, x3, x4, x5, x6, x7, a0, a1, a2, a3, a4, a5, a6, a7, l, e, s _ _ hm, h0.same s, h1.same s, h2.same s, h3.same s, h4.same s, h5.same s, h6.same s, h7.same s⟩
theorem Made.each {c : Nat → Addr} {H : Hp} {m : Addr} {xs : List V} (h : Made c H m xs) : ∃ es : List Addr, es.length = 11 ∧ H m = some (.lst (es.map V.ref)) ∧ ∀ i, i < 11 → ∃ e, es[i]? = some e ∧ ExAt H e (c i) := by
  obtain ⟨x0, x1, x2, x3, x4, x5, x6, x7, a0, a1, a2, a3, a4, a5, a6, a7, a8, a9, a10, e, hm, h0, h1, h2, h3, h4, h5, h6, h7, h8, h9, h10⟩ := h
  refine ⟨[a0, a1, a2, a3, a4, a5, a6, a7, a8, a9, a10], rfl, hm, fun i hi => ?_⟩
  match i, hi with
  | 0, _ => exact ⟨a0, rfl, h0.at⟩
  | 1, _ => exact ⟨a1, rfl, h1.at⟩
  | 2, _ => exact ⟨a2, rfl, h2.at⟩
  | 3, _ => exact ⟨a3, rfl, h3.at⟩
  | 4, _ => exact ⟨a4, rfl, h4.at⟩
  | 5, _ => exact ⟨a5, rfl, h5.at⟩
  | 6, _ => exact ⟨a6, rfl, h6.at⟩
  | 7, _ => exact ⟨a7, rfl, h7.at⟩
  | 8, _ => exact ⟨a8, rfl, h8⟩
  | 9, _ => exact ⟨a9, rfl, h9⟩
  | 10, _ => exact ⟨a10, rfl, h10⟩
abbrev sSorts : Stmt := top 18
abbrev NSorts : List Str := ["_law_one", "_law_found"]
theorem scSorts : FnScope NSorts ["_law_one"] (defScope sSorts) := ⟨rfl, rfl, rfl, by decide +kernel, rfl, by decide +kernel, by decide +kernel⟩

def spSorts (c : Nat → Addr) : Sp := fun vs H Q _ => ∃ (e : Addr) (i : Nat), vs = [.ref e] ∧ i < 11 ∧ ExAt H e (c i) ∧ ∀ H' r, Same H H' → H' r = some (.lst ((List.range 11).map fun j => .bl (decide (j = i)))) → Q (.ref r) H'
theorem ok_Sorts {f B : Addr} {c : Nat → Addr} {fd : FuncData} (F : Fun K "_law_sorts" "_law_sorts" sSorts f fd) (Z : Bn mg) (T : ErrT P w K mg base B c) : FnOk P w K mg base CX0 1 f fd ["_law_one"] (spSorts c) := by
  have E_InvalidText := T.e0
  have E_InvalidRow := T.e1
  have E_InvalidBook := T.e2
  have E_InvalidLife := T.e3
  have E_NoStatement := T.e4
  have E_NoTotal := T.e5
  have E_NoEvent := T.e6
  have E_Refused := T.e7
  have E_InvalidVector := T.e8
  have E_InvalidCommand := T.e9
  have E_Mismatch := T.e10
  refine F.ok scSorts (fun vs H Q E h => ?_) (fun cdv A outer s H vs Q E hr h => ?_)
  · obtain ⟨e, i, rfl, _⟩ := h
    rfl
  · obtain ⟨e, i, rfl, hi, he, k⟩ := h
    refine ⟨_, (pss_cons (ps_set (i := 1) scSorts.nd rfl (Or.inl rfl) (pe_lst (pa_cons (pe_callB (call_isVK (K := K) rfl) (by rfl) Z.isinstance (by decide +kernel) (pa_cons (pv 0) (pa_cons (pe_glob (v := .ref _) (by rfl) E_InvalidText.g rfl) pa_nil))) (pa_cons (pe_callB (call_isVK (K := K) rfl) (by rfl) Z.isinstance (by decide +kernel) (pa_cons (pv 0) (pa_cons (pe_glob (v := .ref _) (by rfl) E_InvalidRow.g rfl) pa_nil))) (pa_cons (pe_callB (call_isVK (K := K) rfl) (by rfl) Z.isinstance (by decide +kernel) (pa_cons (pv 0) (pa_cons (pe_glob (v := .ref _) (by rfl) E_InvalidBook.g rfl) pa_nil))) pa_nil)))))
      (pss_cons (ps_expr (pe_bm PySem.F.plainAttrs_list PySem.F.slot_list_extend PySem.F.type_list_extend mt_extend (pv 1) (pa_cons (pe_lst (pa_cons (pe_callB (call_isVK (K := K) rfl) (by rfl) Z.isinstance (by decide +kernel) (pa_cons (pv 0) (pa_cons (pe_glob (v := .ref _) (by rfl) E_InvalidLife.g rfl) pa_nil))) (pa_cons (pe_callB (call_isVK (K := K) rfl) (by rfl) Z.isinstance (by decide +kernel) (pa_cons (pv 0) (pa_cons (pe_glob (v := .ref _) (by rfl) E_NoStatement.g rfl) pa_nil))) (pa_cons (pe_callB (call_isVK (K := K) rfl) (by rfl) Z.isinstance (by decide +kernel) (pa_cons (pv 0) (pa_cons (pe_glob (v := .ref _) (by rfl) E_NoTotal.g rfl) pa_nil))) pa_nil)))) pa_nil)))
      (pss_cons (ps_expr (pe_bm PySem.F.plainAttrs_list PySem.F.slot_list_extend PySem.F.type_list_extend mt_extend (pv 1) (pa_cons (pe_lst (pa_cons (pe_callB (call_isVK (K := K) rfl) (by rfl) Z.isinstance (by decide +kernel) (pa_cons (pv 0) (pa_cons (pe_glob (v := .ref _) (by rfl) E_NoEvent.g rfl) pa_nil))) (pa_cons (pe_callB (call_isVK (K := K) rfl) (by rfl) Z.isinstance (by decide +kernel) (pa_cons (pv 0) (pa_cons (pe_glob (v := .ref _) (by rfl) E_Refused.g rfl) pa_nil))) (pa_cons (pe_callB (call_isVK (K := K) rfl) (by rfl) Z.isinstance (by decide +kernel) (pa_cons (pv 0) (pa_cons (pe_glob (v := .ref _) (by rfl) E_InvalidVector.g rfl) pa_nil))) pa_nil)))) pa_nil)))
      (pss_one (ps_ret (pe_op op_cat (pv 1) (pe_lst (pa_cons (pe_callB (call_isVK (K := K) rfl) (by rfl) Z.isinstance (by decide +kernel) (pa_cons (pv 0) (pa_cons (pe_glob (v := .ref _) (by rfl) E_InvalidCommand.g rfl) pa_nil))) (pa_cons (pe_callB (call_isVK (K := K) rfl) (by rfl) Z.isinstance (by decide +kernel) (pa_cons (pv 0) (pa_cons (pe_glob (v := .ref _) (by rfl) E_Mismatch.g rfl) pa_nil))) pa_nil))))))))), ?_⟩
    have X := T.xc i hi
    have r0 := Same.refl H
    refine ⟨_, rfl, e, c i, _, .ref (c 0), _, rfl, he.same r0, X, (fun u r => r), T.kit i 0 hi (by decide), ⟨_, rfl, e, c i, _, .ref (c 1), _, rfl, he.same r0, X, (fun u r => r), T.kit i 1 hi (by decide), ⟨_, rfl, e, c i, _, .ref (c 2), _, rfl, he.same r0, X, (fun u r => r), T.kit i 2 hi (by decide), small_len (by simp), fun l hl => ?_⟩⟩⟩
    have s1 := same_upd (o := .lst [V.bl (decide (0 = i)), V.bl (decide (1 = i)), V.bl (decide (2 = i))]) hl
    have e1 : (upd H l (.lst [V.bl (decide (0 = i)), V.bl (decide (1 = i)), V.bl (decide (2 = i))])) l = some (.lst [V.bl (decide (0 = i)), V.bl (decide (1 = i)), V.bl (decide (2 = i))]) := upd_same
    generalize upd H l (.lst [V.bl (decide (0 = i)), V.bl (decide (1 = i)), V.bl (decide (2 = i))]) = H1 at s1 e1 ⊢
    refine ⟨_, rfl, .inl ⟨rfl, _, SqL.of e1⟩, ?_⟩
    refine ⟨_, rfl, e, c i, _, .ref (c 3), _, rfl, he.same s1, X, (fun u r => r), T.kit i 3 hi (by decide), ⟨_, rfl, e, c i, _, .ref (c 4), _, rfl, he.same s1, X, (fun u r => r), T.kit i 4 hi (by decide), ⟨_, rfl, e, c i, _, .ref (c 5), _, rfl, he.same s1, X, (fun u r => r), T.kit i 5 hi (by decide), small_len (by simp), fun m hm => ?_⟩⟩⟩
    refine ⟨l, m, _, _, rfl, rfl, same_upd hm _ _ e1, upd_same, small_len (by simp), ?_⟩
    have s2 : Same H (upd (upd H1 m (.lst [V.bl (decide (3 = i)), V.bl (decide (4 = i)), V.bl (decide (5 = i))])) l (.lst ([V.bl (decide (0 = i)), V.bl (decide (1 = i)), V.bl (decide (2 = i))] ++ [V.bl (decide (3 = i)), V.bl (decide (4 = i)), V.bl (decide (5 = i))]))) := put_new hl (s1.trans (same_upd hm))
    have e2 : (upd (upd H1 m (.lst [V.bl (decide (3 = i)), V.bl (decide (4 = i)), V.bl (decide (5 = i))])) l (.lst ([V.bl (decide (0 = i)), V.bl (decide (1 = i)), V.bl (decide (2 = i))] ++ [V.bl (decide (3 = i)), V.bl (decide (4 = i)), V.bl (decide (5 = i))]))) l = some (.lst ([V.bl (decide (0 = i)), V.bl (decide (1 = i)), V.bl (decide (2 = i))] ++ [V.bl (decide (3 = i)), V.bl (decide (4 = i)), V.bl (decide (5 = i))])) := upd_same
    generalize upd (upd H1 m (.lst [V.bl (decide (3 = i)), V.bl (decide (4 = i)), V.bl (decide (5 = i))])) l (.lst ([V.bl (decide (0 = i)), V.bl (decide (1 = i)), V.bl (decide (2 = i))] ++ [V.bl (decide (3 = i)), V.bl (decide (4 = i)), V.bl (decide (5 = i))])) = H2 at s2 e2 ⊢
    refine ⟨_, rfl, .inl ⟨rfl, _, SqL.of e2⟩, ?_⟩
    refine ⟨_, rfl, e, c i, _, .ref (c 6), _, rfl, he.same s2, X, (fun u r => r), T.kit i 6 hi (by decide), ⟨_, rfl, e, c i, _, .ref (c 7), _, rfl, he.same s2, X, (fun u r => r), T.kit i 7 hi (by decide), ⟨_, rfl, e, c i, _, .ref (c 8), _, rfl, he.same s2, X, (fun u r => r), T.kit i 8 hi (by decide), small_len (by simp), fun n hn => ?_⟩⟩⟩
    refine ⟨l, n, _, _, rfl, rfl, same_upd hn _ _ e2, upd_same, small_len (by simp), ?_⟩
    have s3 : Same H (upd (upd H2 n (.lst [V.bl (decide (6 = i)), V.bl (decide (7 = i)), V.bl (decide (8 = i))])) l (.lst ([V.bl (decide (0 = i)), V.bl (decide (1 = i)), V.bl (decide (2 = i))] ++ [V.bl (decide (3 = i)), V.bl (decide (4 = i)), V.bl (decide (5 = i))] ++ [V.bl (decide (6 = i)), V.bl (decide (7 = i)), V.bl (decide (8 = i))]))) := put_new hl (s2.trans (same_upd hn))
    have e3 : (upd (upd H2 n (.lst [V.bl (decide (6 = i)), V.bl (decide (7 = i)), V.bl (decide (8 = i))])) l (.lst ([V.bl (decide (0 = i)), V.bl (decide (1 = i)), V.bl (decide (2 = i))] ++ [V.bl (decide (3 = i)), V.bl (decide (4 = i)), V.bl (decide (5 = i))] ++ [V.bl (decide (6 = i)), V.bl (decide (7 = i)), V.bl (decide (8 = i))]))) l = some (.lst ([V.bl (decide (0 = i)), V.bl (decide (1 = i)), V.bl (decide (2 = i))] ++ [V.bl (decide (3 = i)), V.bl (decide (4 = i)), V.bl (decide (5 = i))] ++ [V.bl (decide (6 = i)), V.bl (decide (7 = i)), V.bl (decide (8 = i))])) := upd_same
    generalize upd (upd H2 n (.lst [V.bl (decide (6 = i)), V.bl (decide (7 = i)), V.bl (decide (8 = i))])) l (.lst ([V.bl (decide (0 = i)), V.bl (decide (1 = i)), V.bl (decide (2 = i))] ++ [V.bl (decide (3 = i)), V.bl (decide (4 = i)), V.bl (decide (5 = i))] ++ [V.bl (decide (6 = i)), V.bl (decide (7 = i)), V.bl (decide (8 = i))])) = H3 at s3 e3 ⊢
    refine ⟨_, rfl, ?_⟩
    refine ⟨_, rfl, e, c i, _, .ref (c 9), _, rfl, he.same s3, X, (fun u r => r), T.kit i 9 hi (by decide), ⟨_, rfl, e, c i, _, .ref (c 10), _, rfl, he.same s3, X, (fun u r => r), T.kit i 10 hi (by decide), small_len (by simp), fun o ho => ?_⟩⟩
    refine ⟨l, o, _, _, rfl, rfl, same_upd ho _ _ e3, upd_same, small_len (by simp), fun r hr' => ?_⟩
    exact k _ r (s3.trans ((same_upd ho).trans (same_upd hr'))) upd_same
abbrev sMade : Stmt := top 19
abbrev NMade : List Str := ["_law_some", "_law_found"]
theorem scMade : FnScope NMade ["_law_some"] (defScope sMade) := ⟨rfl, rfl, rfl, by decide +kernel, rfl, by decide +kernel, by decide +kernel⟩

def spMade (K : PySem.W.Frag) (c : Nat → Addr) : Sp := fun vs H Q _ => ∃ (l : Addr) (x0 x1 x2 x3 x4 x5 x6 x7 : V), vs = [.ref l] ∧ SqL K H l [x0, x1, x2, x3, x4, x5, x6, x7] ∧ ∀ H' r, Same H H' → H r = none → Made c H' r [x0, x1, x2, x3, x4, x5, x6, x7] → Q (.ref r) H'
theorem ok_Made {f B : Addr} {c : Nat → Addr} {fd : FuncData} (F : Fun K "_law_made" "_law_made" sMade f fd) (T : ErrT P w K mg base B c) : FnOk P w K mg base CX0 3 f fd ["_law_some"] (spMade K c) := by
  have E_InvalidText := T.e0
  obtain ⟨fI_InvalidText, fd_InvalidText, i_InvalidText, t_InvalidText, G_InvalidText, b_InvalidText, kb_InvalidText⟩ := E_InvalidText.ex
  have E_InvalidRow := T.e1
  obtain ⟨fI_InvalidRow, fd_InvalidRow, i_InvalidRow, t_InvalidRow, G_InvalidRow, b_InvalidRow, kb_InvalidRow⟩ := E_InvalidRow.ex
  have E_InvalidBook := T.e2
  obtain ⟨fI_InvalidBook, fd_InvalidBook, i_InvalidBook, t_InvalidBook, G_InvalidBook, b_InvalidBook, kb_InvalidBook⟩ := E_InvalidBook.ex
  have E_InvalidLife := T.e3
  obtain ⟨fI_InvalidLife, fd_InvalidLife, i_InvalidLife, t_InvalidLife, G_InvalidLife, b_InvalidLife, kb_InvalidLife⟩ := E_InvalidLife.ex
  have E_NoStatement := T.e4
  obtain ⟨fI_NoStatement, fd_NoStatement, i_NoStatement, t_NoStatement, G_NoStatement, b_NoStatement, kb_NoStatement⟩ := E_NoStatement.ex
  have E_NoTotal := T.e5
  obtain ⟨fI_NoTotal, fd_NoTotal, i_NoTotal, t_NoTotal, G_NoTotal, b_NoTotal, kb_NoTotal⟩ := E_NoTotal.ex
  have E_NoEvent := T.e6
  obtain ⟨fI_NoEvent, fd_NoEvent, i_NoEvent, t_NoEvent, G_NoEvent, b_NoEvent, kb_NoEvent⟩ := E_NoEvent.ex
  have E_Refused := T.e7
  obtain ⟨fI_Refused, fd_Refused, i_Refused, t_Refused, G_Refused, b_Refused, kb_Refused⟩ := E_Refused.ex
  have E_InvalidVector := T.e8
  obtain ⟨fI_InvalidVector, fd_InvalidVector, i_InvalidVector, t_InvalidVector, G_InvalidVector, b_InvalidVector⟩ := E_InvalidVector.ex
  have E_InvalidCommand := T.e9
  obtain ⟨fI_InvalidCommand, fd_InvalidCommand, i_InvalidCommand, t_InvalidCommand, G_InvalidCommand, b_InvalidCommand⟩ := E_InvalidCommand.ex
  have E_Mismatch := T.e10
  obtain ⟨fI_Mismatch, fd_Mismatch, i_Mismatch, t_Mismatch, G_Mismatch, b_Mismatch⟩ := E_Mismatch.ex
  refine F.ok scMade (fun vs H Q E h => ?_) (fun cdv A outer s H vs Q E hr h => ?_)
  · obtain ⟨l, x0, x1, x2, x3, x4, x5, x6, x7, rfl, _⟩ := h
    rfl
  · obtain ⟨l, x0, x1, x2, x3, x4, x5, x6, x7, rfl, hl, k⟩ := h
    refine ⟨_, (pss_cons (ps_set (i := 1) scMade.nd rfl (Or.inl rfl) (pe_lst (pa_cons (pe_mkV E_InvalidText.T i_InvalidText t_InvalidText G_InvalidText (hr.mono (by decide)) b_InvalidText pass0 (by rfl) E_InvalidText.g (pa_cons (pe_ix (ix_listK (K := K) rfl) (pv 0) pe_int (fun _ _ => rfl)) pa_nil)) (pa_cons (pe_mkV E_InvalidRow.T i_InvalidRow t_InvalidRow G_InvalidRow (hr.mono (by decide)) b_InvalidRow pass0 (by rfl) E_InvalidRow.g (pa_cons (pe_ix (ix_listK (K := K) rfl) (pv 0) pe_int (fun _ _ => rfl)) pa_nil)) (pa_cons (pe_mkV E_InvalidBook.T i_InvalidBook t_InvalidBook G_InvalidBook (hr.mono (by decide)) b_InvalidBook pass0 (by rfl) E_InvalidBook.g (pa_cons (pe_ix (ix_listK (K := K) rfl) (pv 0) pe_int (fun _ _ => rfl)) pa_nil)) (pa_cons (pe_mkV E_InvalidLife.T i_InvalidLife t_InvalidLife G_InvalidLife (hr.mono (by decide)) b_InvalidLife pass0 (by rfl) E_InvalidLife.g (pa_cons (pe_ix (ix_listK (K := K) rfl) (pv 0) pe_int (fun _ _ => rfl)) pa_nil)) pa_nil))))))
      (pss_cons (ps_expr (pe_bm PySem.F.plainAttrs_list PySem.F.slot_list_extend PySem.F.type_list_extend mt_extend (pv 1) (pa_cons (pe_lst (pa_cons (pe_mkV E_NoStatement.T i_NoStatement t_NoStatement G_NoStatement (hr.mono (by decide)) b_NoStatement pass0 (by rfl) E_NoStatement.g (pa_cons (pe_ix (ix_listK (K := K) rfl) (pv 0) pe_int (fun _ _ => rfl)) pa_nil)) (pa_cons (pe_mkV E_NoTotal.T i_NoTotal t_NoTotal G_NoTotal (hr.mono (by decide)) b_NoTotal pass0 (by rfl) E_NoTotal.g (pa_cons (pe_ix (ix_listK (K := K) rfl) (pv 0) pe_int (fun _ _ => rfl)) pa_nil)) (pa_cons (pe_mkV E_NoEvent.T i_NoEvent t_NoEvent G_NoEvent (hr.mono (by decide)) b_NoEvent pass0 (by rfl) E_NoEvent.g (pa_cons (pe_ix (ix_listK (K := K) rfl) (pv 0) pe_int (fun _ _ => rfl)) pa_nil)) (pa_cons (pe_mkV E_Refused.T i_Refused t_Refused G_Refused (hr.mono (by decide)) b_Refused pass0 (by rfl) E_Refused.g (pa_cons (pe_ix (ix_listK (K := K) rfl) (pv 0) pe_int (fun _ _ => rfl)) pa_nil)) pa_nil))))) pa_nil)))
      (pss_one (ps_ret (pe_op op_cat (pv 1) (pe_lst (pa_cons (pe_mkV0 E_InvalidVector.T i_InvalidVector t_InvalidVector G_InvalidVector (hr.mono (by decide)) b_InvalidVector pass0 (by rfl) E_InvalidVector.g) (pa_cons (pe_mkV0 E_InvalidCommand.T i_InvalidCommand t_InvalidCommand G_InvalidCommand (hr.mono (by decide)) b_InvalidCommand pass0 (by rfl) E_InvalidCommand.g) (pa_cons (pe_mkV0 E_Mismatch.T i_Mismatch t_Mismatch G_Mismatch (hr.mono (by decide)) b_Mismatch pass0 (by rfl) E_Mismatch.g) pa_nil))))))))), ?_⟩
    have ss0 := Same.refl H
    refine ⟨_, rfl, l, _, _, _, rfl, rfl, ss0.seq hl, atI_nat (j := 0) rfl, by simp, fun a0 f0 => mkE f0 fun HMade_0 s0 m0 => ⟨rfl, ?_⟩⟩
    have ss1 := ss0.trans s0
    refine ⟨_, rfl, l, _, _, _, rfl, rfl, ss1.seq hl, atI_nat (j := 1) rfl, by simp, fun a1 f1 => mkE f1 fun HMade_1 s1 m1 => ⟨rfl, ?_⟩⟩
    have ss2 := ss1.trans s1
    have m0 := m0.same s1
    refine ⟨_, rfl, l, _, _, _, rfl, rfl, ss2.seq hl, atI_nat (j := 2) rfl, by simp, fun a2 f2 => mkE f2 fun HMade_2 s2 m2 => ⟨rfl, ?_⟩⟩
    have ss3 := ss2.trans s2
    have m0 := m0.same s2
    have m1 := m1.same s2
    refine ⟨_, rfl, l, _, _, _, rfl, rfl, ss3.seq hl, atI_nat (j := 3) rfl, by simp, fun a3 f3 => mkE f3 fun HMade_3 s3 m3 => ⟨rfl, ?_⟩⟩
    have ss4 := ss3.trans s3
    have m0 := m0.same s3
    have m1 := m1.same s3
    have m2 := m2.same s3
    refine ⟨small_len (by simp), fun r hr' => ?_⟩
    have sr := same_upd (o := .lst [V.ref a0, V.ref a1, V.ref a2, V.ref a3]) hr'
    have eL : (upd HMade_3 r (.lst [V.ref a0, V.ref a1, V.ref a2, V.ref a3])) r = some (.lst [V.ref a0, V.ref a1, V.ref a2, V.ref a3]) := upd_same
    have fr : H r = none := ss4.free hr'
    have m0 := m0.same sr
    have m1 := m1.same sr
    have m2 := m2.same sr
    have m3 := m3.same sr
    have ss3x := ss4.trans sr
    generalize upd HMade_3 r (.lst [V.ref a0, V.ref a1, V.ref a2, V.ref a3]) = G0 at sr eL ss3x m0 m1 m2 m3 ⊢
    refine ⟨_, rfl, .inl ⟨rfl, _, SqL.of eL⟩, ?_⟩
    refine ⟨_, rfl, l, _, _, _, rfl, rfl, ss3x.seq hl, atI_nat (j := 4) rfl, by simp, fun a4 f4 => mkE f4 fun HMade_4 s4 m4 => ⟨rfl, ?_⟩⟩
    have ss5 := ss3x.trans s4
    have m0 := m0.same s4
    have m1 := m1.same s4
    have m2 := m2.same s4
    have m3 := m3.same s4
    have eL := s4 _ _ eL
    refine ⟨_, rfl, l, _, _, _, rfl, rfl, ss5.seq hl, atI_nat (j := 5) rfl, by simp, fun a5 f5 => mkE f5 fun HMade_5 s5 m5 => ⟨rfl, ?_⟩⟩
    have ss6 := ss5.trans s5
    have m0 := m0.same s5
    have m1 := m1.same s5
    have m2 := m2.same s5
    have m3 := m3.same s5
    have m4 := m4.same s5
    have eL := s5 _ _ eL
    refine ⟨_, rfl, l, _, _, _, rfl, rfl, ss6.seq hl, atI_nat (j := 6) rfl, by simp, fun a6 f6 => mkE f6 fun HMade_6 s6 m6 => ⟨rfl, ?_⟩⟩
    have ss7 := ss6.trans s6
    have m0 := m0.same s6
    have m1 := m1.same s6
    have m2 := m2.same s6
    have m3 := m3.same s6
    have m4 := m4.same s6
    have m5 := m5.same s6
    have eL := s6 _ _ eL
    refine ⟨_, rfl, l, _, _, _, rfl, rfl, ss7.seq hl, atI_nat (j := 7) rfl, by simp, fun a7 f7 => mkE f7 fun HMade_7 s7 m7 => ⟨rfl, ?_⟩⟩
    have ss8 := ss7.trans s7
    have m0 := m0.same s7
    have m1 := m1.same s7
    have m2 := m2.same s7
    have m3 := m3.same s7
    have m4 := m4.same s7
    have m5 := m5.same s7
    have m6 := m6.same s7
    have eL := s7 _ _ eL
    refine ⟨small_len (by simp), fun q1 hq1 => ?_⟩
    have sq1 := same_upd (o := .lst [V.ref a4, V.ref a5, V.ref a6, V.ref a7]) hq1
    refine ⟨r, q1, _, _, rfl, rfl, sq1 _ _ eL, upd_same, small_len (by simp), ?_⟩
    have sp1 : Same H (upd (upd HMade_7 q1 (.lst [V.ref a4, V.ref a5, V.ref a6, V.ref a7])) r (.lst ([V.ref a0, V.ref a1, V.ref a2, V.ref a3] ++ [V.ref a4, V.ref a5, V.ref a6, V.ref a7]))) := put_new fr (ss8.trans sq1)
    have m0 := (m0.same sq1).put (sq1 _ _ eL) (samex_upd (o := .lst ([V.ref a0, V.ref a1, V.ref a2, V.ref a3] ++ [V.ref a4, V.ref a5, V.ref a6, V.ref a7])))
    have m1 := (m1.same sq1).put (sq1 _ _ eL) (samex_upd (o := .lst ([V.ref a0, V.ref a1, V.ref a2, V.ref a3] ++ [V.ref a4, V.ref a5, V.ref a6, V.ref a7])))
    have m2 := (m2.same sq1).put (sq1 _ _ eL) (samex_upd (o := .lst ([V.ref a0, V.ref a1, V.ref a2, V.ref a3] ++ [V.ref a4, V.ref a5, V.ref a6, V.ref a7])))
    have m3 := (m3.same sq1).put (sq1 _ _ eL) (samex_upd (o := .lst ([V.ref a0, V.ref a1, V.ref a2, V.ref a3] ++ [V.ref a4, V.ref a5, V.ref a6, V.ref a7])))
    have m4 := (m4.same sq1).put (sq1 _ _ eL) (samex_upd (o := .lst ([V.ref a0, V.ref a1, V.ref a2, V.ref a3] ++ [V.ref a4, V.ref a5, V.ref a6, V.ref a7])))
    have m5 := (m5.same sq1).put (sq1 _ _ eL) (samex_upd (o := .lst ([V.ref a0, V.ref a1, V.ref a2, V.ref a3] ++ [V.ref a4, V.ref a5, V.ref a6, V.ref a7])))
    have m6 := (m6.same sq1).put (sq1 _ _ eL) (samex_upd (o := .lst ([V.ref a0, V.ref a1, V.ref a2, V.ref a3] ++ [V.ref a4, V.ref a5, V.ref a6, V.ref a7])))
    have m7 := (m7.same sq1).put (sq1 _ _ eL) (samex_upd (o := .lst ([V.ref a0, V.ref a1, V.ref a2, V.ref a3] ++ [V.ref a4, V.ref a5, V.ref a6, V.ref a7])))
    have eL : (upd (upd HMade_7 q1 (.lst [V.ref a4, V.ref a5, V.ref a6, V.ref a7])) r (.lst ([V.ref a0, V.ref a1, V.ref a2, V.ref a3] ++ [V.ref a4, V.ref a5, V.ref a6, V.ref a7]))) r = some (.lst ([V.ref a0, V.ref a1, V.ref a2, V.ref a3] ++ [V.ref a4, V.ref a5, V.ref a6, V.ref a7])) := upd_same
    generalize upd (upd HMade_7 q1 (.lst [V.ref a4, V.ref a5, V.ref a6, V.ref a7])) r (.lst ([V.ref a0, V.ref a1, V.ref a2, V.ref a3] ++ [V.ref a4, V.ref a5, V.ref a6, V.ref a7])) = G1 at sp1 eL m0 m1 m2 m3 m4 m5 m6 m7 ⊢
    refine ⟨_, rfl, ?_⟩
    refine ⟨by simp, fun a8 f8 => mkE0 f8 fun HMade_8 s8 m8 => ⟨rfl, ?_⟩⟩
    have ss9 := sp1.trans s8
    have m0 := m0.same s8
    have m1 := m1.same s8
    have m2 := m2.same s8
    have m3 := m3.same s8
    have m4 := m4.same s8
    have m5 := m5.same s8
    have m6 := m6.same s8
    have m7 := m7.same s8
    have eL := s8 _ _ eL
    refine ⟨by simp, fun a9 f9 => mkE0 f9 fun HMade_9 s9 m9 => ⟨rfl, ?_⟩⟩
    have ss10 := ss9.trans s9
    have m0 := m0.same s9
    have m1 := m1.same s9
    have m2 := m2.same s9
    have m3 := m3.same s9
    have m4 := m4.same s9
    have m5 := m5.same s9
    have m6 := m6.same s9
    have m7 := m7.same s9
    have m8 := m8.same s9
    have eL := s9 _ _ eL
    refine ⟨by simp, fun a10 f10 => mkE0 f10 fun HMade_10 s10 m10 => ⟨rfl, ?_⟩⟩
    have ss11 := ss10.trans s10
    have m0 := m0.same s10
    have m1 := m1.same s10
    have m2 := m2.same s10
    have m3 := m3.same s10
    have m4 := m4.same s10
    have m5 := m5.same s10
    have m6 := m6.same s10
    have m7 := m7.same s10
    have m8 := m8.same s10
    have m9 := m9.same s10
    have eL := s10 _ _ eL
    refine ⟨small_len (by simp), fun q hq => ?_⟩
    have sq := same_upd (o := .lst [V.ref a8, V.ref a9, V.ref a10]) hq
    refine ⟨r, q, _, _, rfl, rfl, sq _ _ eL, upd_same, small_len (by simp), fun z hz => ?_⟩
    have sz := same_upd (o := .lst ([V.ref a0, V.ref a1, V.ref a2, V.ref a3] ++ [V.ref a4, V.ref a5, V.ref a6, V.ref a7] ++ [V.ref a8, V.ref a9, V.ref a10])) hz
    have fin := sq.trans sz
    exact k _ z (ss11.trans fin) (ss11.free (sq.free hz)) ⟨x0, x1, x2, x3, x4, x5, x6, x7, a0, a1, a2, a3, a4, a5, a6, a7, a8, a9, a10, rfl, upd_same, m0.same fin, m1.same fin, m2.same fin, m3.same fin, m4.same fin, m5.same fin, m6.same fin, m7.same fin, m8.same fin, m9.same fin, m10.same fin⟩
abbrev sNamed : Stmt := top 20
abbrev NNamed : List Str := ["_law_some", "_law_found"]
theorem scNamed : FnScope NNamed ["_law_some"] (defScope sNamed) := ⟨rfl, rfl, rfl, by decide +kernel, rfl, by decide +kernel, by decide +kernel⟩

def spNamed (K : PySem.W.Frag) (c : Nat → Addr) : Sp := fun vs H Q _ => ∃ (l : Addr) (x0 x1 x2 x3 x4 x5 x6 x7 : V), vs = [.ref l] ∧ SqL K H l [x0, x1, x2, x3, x4, x5, x6, x7] ∧ ∀ H' r, Same H H' → H r = none → Named c H' r [x0, x1, x2, x3, x4, x5, x6, x7] → Q (.ref r) H'
theorem ok_Named {f B : Addr} {c : Nat → Addr} {fd : FuncData} (F : Fun K "_law_named" "_law_named" sNamed f fd) (T : ErrT P w K mg base B c) : FnOk P w K mg base CX0 3 f fd ["_law_some"] (spNamed K c) := by
  have E_InvalidText := T.e0
  obtain ⟨fI_InvalidText, fd_InvalidText, i_InvalidText, t_InvalidText, G_InvalidText, b_InvalidText, kb_InvalidText⟩ := E_InvalidText.ex
  have E_InvalidRow := T.e1
  obtain ⟨fI_InvalidRow, fd_InvalidRow, i_InvalidRow, t_InvalidRow, G_InvalidRow, b_InvalidRow, kb_InvalidRow⟩ := E_InvalidRow.ex
  have E_InvalidBook := T.e2
  obtain ⟨fI_InvalidBook, fd_InvalidBook, i_InvalidBook, t_InvalidBook, G_InvalidBook, b_InvalidBook, kb_InvalidBook⟩ := E_InvalidBook.ex
  have E_InvalidLife := T.e3
  obtain ⟨fI_InvalidLife, fd_InvalidLife, i_InvalidLife, t_InvalidLife, G_InvalidLife, b_InvalidLife, kb_InvalidLife⟩ := E_InvalidLife.ex
  have E_NoStatement := T.e4
  obtain ⟨fI_NoStatement, fd_NoStatement, i_NoStatement, t_NoStatement, G_NoStatement, b_NoStatement, kb_NoStatement⟩ := E_NoStatement.ex
  have E_NoTotal := T.e5
  obtain ⟨fI_NoTotal, fd_NoTotal, i_NoTotal, t_NoTotal, G_NoTotal, b_NoTotal, kb_NoTotal⟩ := E_NoTotal.ex
  have E_NoEvent := T.e6
  obtain ⟨fI_NoEvent, fd_NoEvent, i_NoEvent, t_NoEvent, G_NoEvent, b_NoEvent, kb_NoEvent⟩ := E_NoEvent.ex
  have E_Refused := T.e7
  obtain ⟨fI_Refused, fd_Refused, i_Refused, t_Refused, G_Refused, b_Refused, kb_Refused⟩ := E_Refused.ex
  have E_InvalidVector := T.e8
  obtain ⟨fI_InvalidVector, fd_InvalidVector, i_InvalidVector, t_InvalidVector, G_InvalidVector, b_InvalidVector⟩ := E_InvalidVector.ex
  have E_InvalidCommand := T.e9
  obtain ⟨fI_InvalidCommand, fd_InvalidCommand, i_InvalidCommand, t_InvalidCommand, G_InvalidCommand, b_InvalidCommand⟩ := E_InvalidCommand.ex
  have E_Mismatch := T.e10
  obtain ⟨fI_Mismatch, fd_Mismatch, i_Mismatch, t_Mismatch, G_Mismatch, b_Mismatch⟩ := E_Mismatch.ex
  refine F.ok scNamed (fun vs H Q E h => ?_) (fun cdv A outer s H vs Q E hr h => ?_)
  · obtain ⟨l, x0, x1, x2, x3, x4, x5, x6, x7, rfl, _⟩ := h
    rfl
  · obtain ⟨l, x0, x1, x2, x3, x4, x5, x6, x7, rfl, hl, k⟩ := h
    refine ⟨_, (pss_cons (ps_set (i := 1) scNamed.nd rfl (Or.inl rfl) (pe_lst (pa_cons (pe_mkVK E_InvalidText.T i_InvalidText t_InvalidText G_InvalidText (hr.mono (by decide)) kb_InvalidText rfl pass0 (by rfl) E_InvalidText.g (pk_cons (pe_ix (ix_listK (K := K) rfl) (pv 0) pe_int (fun _ _ => rfl)) pk_nil)) (pa_cons (pe_mkVK E_InvalidRow.T i_InvalidRow t_InvalidRow G_InvalidRow (hr.mono (by decide)) kb_InvalidRow rfl pass0 (by rfl) E_InvalidRow.g (pk_cons (pe_ix (ix_listK (K := K) rfl) (pv 0) pe_int (fun _ _ => rfl)) pk_nil)) (pa_cons (pe_mkVK E_InvalidBook.T i_InvalidBook t_InvalidBook G_InvalidBook (hr.mono (by decide)) kb_InvalidBook rfl pass0 (by rfl) E_InvalidBook.g (pk_cons (pe_ix (ix_listK (K := K) rfl) (pv 0) pe_int (fun _ _ => rfl)) pk_nil)) pa_nil)))))
      (pss_cons (ps_expr (pe_bm PySem.F.plainAttrs_list PySem.F.slot_list_extend PySem.F.type_list_extend mt_extend (pv 1) (pa_cons (pe_lst (pa_cons (pe_mkVK E_InvalidLife.T i_InvalidLife t_InvalidLife G_InvalidLife (hr.mono (by decide)) kb_InvalidLife rfl pass0 (by rfl) E_InvalidLife.g (pk_cons (pe_ix (ix_listK (K := K) rfl) (pv 0) pe_int (fun _ _ => rfl)) pk_nil)) (pa_cons (pe_mkVK E_NoStatement.T i_NoStatement t_NoStatement G_NoStatement (hr.mono (by decide)) kb_NoStatement rfl pass0 (by rfl) E_NoStatement.g (pk_cons (pe_ix (ix_listK (K := K) rfl) (pv 0) pe_int (fun _ _ => rfl)) pk_nil)) (pa_cons (pe_mkVK E_NoTotal.T i_NoTotal t_NoTotal G_NoTotal (hr.mono (by decide)) kb_NoTotal rfl pass0 (by rfl) E_NoTotal.g (pk_cons (pe_ix (ix_listK (K := K) rfl) (pv 0) pe_int (fun _ _ => rfl)) pk_nil)) pa_nil)))) pa_nil)))
      (pss_one (ps_ret (pe_op op_cat (pv 1) (pe_lst (pa_cons (pe_mkVK E_NoEvent.T i_NoEvent t_NoEvent G_NoEvent (hr.mono (by decide)) kb_NoEvent rfl pass0 (by rfl) E_NoEvent.g (pk_cons (pe_ix (ix_listK (K := K) rfl) (pv 0) pe_int (fun _ _ => rfl)) pk_nil)) (pa_cons (pe_mkVK E_Refused.T i_Refused t_Refused G_Refused (hr.mono (by decide)) kb_Refused rfl pass0 (by rfl) E_Refused.g (pk_cons (pe_ix (ix_listK (K := K) rfl) (pv 0) pe_int (fun _ _ => rfl)) pk_nil)) pa_nil)))))))), ?_⟩
    have ss0 := Same.refl H
    refine ⟨_, rfl, l, _, _, _, rfl, rfl, ss0.seq hl, atI_nat (j := 0) rfl, by simp, fun a0 f0 => mkE f0 fun HNamed_0 s0 m0 => ⟨rfl, ?_⟩⟩
    have ss1 := ss0.trans s0
    refine ⟨_, rfl, l, _, _, _, rfl, rfl, ss1.seq hl, atI_nat (j := 1) rfl, by simp, fun a1 f1 => mkE f1 fun HNamed_1 s1 m1 => ⟨rfl, ?_⟩⟩
    have ss2 := ss1.trans s1
    have m0 := m0.same s1
    refine ⟨_, rfl, l, _, _, _, rfl, rfl, ss2.seq hl, atI_nat (j := 2) rfl, by simp, fun a2 f2 => mkE f2 fun HNamed_2 s2 m2 => ⟨rfl, ?_⟩⟩
    have ss3 := ss2.trans s2
    have m0 := m0.same s2
    have m1 := m1.same s2
    refine ⟨small_len (by simp), fun r hr' => ?_⟩
    have sr := same_upd (o := .lst [V.ref a0, V.ref a1, V.ref a2]) hr'
    have eL : (upd HNamed_2 r (.lst [V.ref a0, V.ref a1, V.ref a2])) r = some (.lst [V.ref a0, V.ref a1, V.ref a2]) := upd_same
    have fr : H r = none := ss3.free hr'
    have m0 := m0.same sr
    have m1 := m1.same sr
    have m2 := m2.same sr
    have ss2x := ss3.trans sr
    generalize upd HNamed_2 r (.lst [V.ref a0, V.ref a1, V.ref a2]) = G0 at sr eL ss2x m0 m1 m2 ⊢
    refine ⟨_, rfl, .inl ⟨rfl, _, SqL.of eL⟩, ?_⟩
    refine ⟨_, rfl, l, _, _, _, rfl, rfl, ss2x.seq hl, atI_nat (j := 3) rfl, by simp, fun a3 f3 => mkE f3 fun HNamed_3 s3 m3 => ⟨rfl, ?_⟩⟩
    have ss4 := ss2x.trans s3
    have m0 := m0.same s3
    have m1 := m1.same s3
    have m2 := m2.same s3
    have eL := s3 _ _ eL
    refine ⟨_, rfl, l, _, _, _, rfl, rfl, ss4.seq hl, atI_nat (j := 4) rfl, by simp, fun a4 f4 => mkE f4 fun HNamed_4 s4 m4 => ⟨rfl, ?_⟩⟩
    have ss5 := ss4.trans s4
    have m0 := m0.same s4
    have m1 := m1.same s4
    have m2 := m2.same s4
    have m3 := m3.same s4
    have eL := s4 _ _ eL
    refine ⟨_, rfl, l, _, _, _, rfl, rfl, ss5.seq hl, atI_nat (j := 5) rfl, by simp, fun a5 f5 => mkE f5 fun HNamed_5 s5 m5 => ⟨rfl, ?_⟩⟩
    have ss6 := ss5.trans s5
    have m0 := m0.same s5
    have m1 := m1.same s5
    have m2 := m2.same s5
    have m3 := m3.same s5
    have m4 := m4.same s5
    have eL := s5 _ _ eL
    refine ⟨small_len (by simp), fun q1 hq1 => ?_⟩
    have sq1 := same_upd (o := .lst [V.ref a3, V.ref a4, V.ref a5]) hq1
    refine ⟨r, q1, _, _, rfl, rfl, sq1 _ _ eL, upd_same, small_len (by simp), ?_⟩
    have sp1 : Same H (upd (upd HNamed_5 q1 (.lst [V.ref a3, V.ref a4, V.ref a5])) r (.lst ([V.ref a0, V.ref a1, V.ref a2] ++ [V.ref a3, V.ref a4, V.ref a5]))) := put_new fr (ss6.trans sq1)
    have m0 := (m0.same sq1).put (sq1 _ _ eL) (samex_upd (o := .lst ([V.ref a0, V.ref a1, V.ref a2] ++ [V.ref a3, V.ref a4, V.ref a5])))
    have m1 := (m1.same sq1).put (sq1 _ _ eL) (samex_upd (o := .lst ([V.ref a0, V.ref a1, V.ref a2] ++ [V.ref a3, V.ref a4, V.ref a5])))
    have m2 := (m2.same sq1).put (sq1 _ _ eL) (samex_upd (o := .lst ([V.ref a0, V.ref a1, V.ref a2] ++ [V.ref a3, V.ref a4, V.ref a5])))
    have m3 := (m3.same sq1).put (sq1 _ _ eL) (samex_upd (o := .lst ([V.ref a0, V.ref a1, V.ref a2] ++ [V.ref a3, V.ref a4, V.ref a5])))
    have m4 := (m4.same sq1).put (sq1 _ _ eL) (samex_upd (o := .lst ([V.ref a0, V.ref a1, V.ref a2] ++ [V.ref a3, V.ref a4, V.ref a5])))
    have m5 := (m5.same sq1).put (sq1 _ _ eL) (samex_upd (o := .lst ([V.ref a0, V.ref a1, V.ref a2] ++ [V.ref a3, V.ref a4, V.ref a5])))
    have eL : (upd (upd HNamed_5 q1 (.lst [V.ref a3, V.ref a4, V.ref a5])) r (.lst ([V.ref a0, V.ref a1, V.ref a2] ++ [V.ref a3, V.ref a4, V.ref a5]))) r = some (.lst ([V.ref a0, V.ref a1, V.ref a2] ++ [V.ref a3, V.ref a4, V.ref a5])) := upd_same
    generalize upd (upd HNamed_5 q1 (.lst [V.ref a3, V.ref a4, V.ref a5])) r (.lst ([V.ref a0, V.ref a1, V.ref a2] ++ [V.ref a3, V.ref a4, V.ref a5])) = G1 at sp1 eL m0 m1 m2 m3 m4 m5 ⊢
    refine ⟨_, rfl, ?_⟩
    refine ⟨_, rfl, l, _, _, _, rfl, rfl, sp1.seq hl, atI_nat (j := 6) rfl, by simp, fun a6 f6 => mkE f6 fun HNamed_6 s6 m6 => ⟨rfl, ?_⟩⟩
    have ss7 := sp1.trans s6
    have m0 := m0.same s6
    have m1 := m1.same s6
    have m2 := m2.same s6
    have m3 := m3.same s6
    have m4 := m4.same s6
    have m5 := m5.same s6
    have eL := s6 _ _ eL
    refine ⟨_, rfl, l, _, _, _, rfl, rfl, ss7.seq hl, atI_nat (j := 7) rfl, by simp, fun a7 f7 => mkE f7 fun HNamed_7 s7 m7 => ⟨rfl, ?_⟩⟩
    have ss8 := ss7.trans s7
    have m0 := m0.same s7
    have m1 := m1.same s7
    have m2 := m2.same s7
    have m3 := m3.same s7
    have m4 := m4.same s7
    have m5 := m5.same s7
    have m6 := m6.same s7
    have eL := s7 _ _ eL
    refine ⟨small_len (by simp), fun q hq => ?_⟩
    have sq := same_upd (o := .lst [V.ref a6, V.ref a7]) hq
    refine ⟨r, q, _, _, rfl, rfl, sq _ _ eL, upd_same, small_len (by simp), fun z hz => ?_⟩
    have sz := same_upd (o := .lst ([V.ref a0, V.ref a1, V.ref a2] ++ [V.ref a3, V.ref a4, V.ref a5] ++ [V.ref a6, V.ref a7])) hz
    have fin := sq.trans sz
    exact k _ z (ss8.trans fin) (ss8.free (sq.free hz)) ⟨x0, x1, x2, x3, x4, x5, x6, x7, a0, a1, a2, a3, a4, a5, a6, a7, _, rfl, upd_same, m0.same fin, m1.same fin, m2.same fin, m3.same fin, m4.same fin, m5.same fin, m6.same fin, m7.same fin⟩
end
end My
set_option maxHeartbeats 400000
namespace My
open PySem L2
open Lat
section
variable {P : Program} {w : World} {K : PySem.W.Frag} {mg : Str → Option Value} {base : Heap}
theorem getF {x f : Str} {c m a : Addr} {i : Int} {ys : List V} {v : V} {σ : L2.St} {H : Hp} {Q : VK} (T : ErrC P w K mg base x f c) (h : σ[0]? = some (some (.ref m))) (hm : H m = some (.lst ys)) (hi : atI ys i = some (.ref a)) (he : Err H a c f v) (q : Q v H) : tGetV K f (tOp (rIxL K) (tVar 0) (tC (.int i))) σ H Q := by
  obtain ⟨d, h1, h2⟩ := he
  exact ⟨_, h, m, ys, i, _, rfl, rfl, SqL.of hm, hi, a, c, d, _, v, rfl, h1, h2, T.XF, T.no, by simp [List.lookup], q⟩
abbrev sKept : Stmt := top 21
abbrev NKept : List Str := ["_law_made_here", "_law_found"]
theorem scKept : FnScope NKept ["_law_made_here"] (defScope sKept) := ⟨rfl, rfl, rfl, by decide +kernel, rfl, by decide +kernel, by decide +kernel⟩

def spKept (c : Nat → Addr) : Sp := fun vs H Q _ => ∃ (m : Addr) (xs : List V), vs = [.ref m] ∧ Named c H m xs ∧ ∀ H' r, Same H H' → H' r = some (.lst xs) → H r = none → Q (.ref r) H'
theorem ok_Kept {f B : Addr} {c : Nat → Addr} {fd : FuncData} (F : Fun K "_law_kept" "_law_kept" sKept f fd) (T : ErrT P w K mg base B c) : FnOk P w K mg base CX0 1 f fd ["_law_made_here"] (spKept c) := by
  refine F.ok scKept (fun vs H Q E h => ?_) (fun cdv A outer s H vs Q E hr h => ?_)
  · obtain ⟨m, xs, rfl, _⟩ := h
    rfl
  · obtain ⟨m, xs, rfl, h, k⟩ := h
    refine ⟨_, (pss_cons (ps_set (i := 1) scKept.nd rfl (Or.inl rfl) (pe_lst (pa_cons (pe_getVK (K := K) rfl (pe_ix (ix_listK (K := K) rfl) (pv 0) pe_int (fun _ _ => rfl))) (pa_cons (pe_getVK (K := K) rfl (pe_ix (ix_listK (K := K) rfl) (pv 0) pe_int (fun _ _ => rfl))) (pa_cons (pe_getVK (K := K) rfl (pe_ix (ix_listK (K := K) rfl) (pv 0) pe_int (fun _ _ => rfl))) (pa_cons (pe_getVK (K := K) rfl (pe_ix (ix_listK (K := K) rfl) (pv 0) pe_int (fun _ _ => rfl))) (pa_cons (pe_getVK (K := K) rfl (pe_ix (ix_listK (K := K) rfl) (pv 0) pe_int (fun _ _ => rfl))) pa_nil)))))))
      (pss_one (ps_ret (pe_op op_cat (pv 1) (pe_lst (pa_cons (pe_getVK (K := K) rfl (pe_ix (ix_listK (K := K) rfl) (pv 0) pe_int (fun _ _ => rfl))) (pa_cons (pe_getVK (K := K) rfl (pe_ix (ix_listK (K := K) rfl) (pv 0) pe_int (fun _ _ => rfl))) (pa_cons (pe_getVK (K := K) rfl (pe_ix (ix_listK (K := K) rfl) (pv 0) pe_int (fun _ _ => rfl))) pa_nil)))))))), ?_⟩
    obtain ⟨x0, x1, x2, x3, x4, x5, x6, x7, a0, a1, a2, a3, a4, a5, a6, a7, l, rfl, hm, h0, h1, h2, h3, h4, h5, h6, h7⟩ := h
    have g : ∀ {j : Nat} {v : V} {ys : List V}, ys[j]? = some v → atI ys (j : Int) = some v := fun h => atI_nat h
    refine getF T.e0 rfl hm (g (j := 0) rfl) h0 <| getF T.e1 rfl hm (g (j := 1) rfl) h1 <| getF T.e2 rfl hm (g (j := 2) rfl) h2 <| getF T.e3 rfl hm (g (j := 3) rfl) h3 <| getF T.e4 rfl hm (g (j := 4) rfl) h4 <| ⟨small_len (by simp), fun l1 hl1 => ?_⟩
    have s1 : Same H (upd H l1 (.lst [x0, x1, x2, x3, x4])) := same_upd hl1
    have e1 : (upd H l1 (.lst [x0, x1, x2, x3, x4])) l1 = some (.lst [x0, x1, x2, x3, x4]) := upd_same
    generalize upd H l1 (.lst [x0, x1, x2, x3, x4]) = H1 at s1 e1 ⊢
    have hm1 := s1 _ _ hm
    refine ⟨_, rfl, ?_⟩
    refine getF T.e5 rfl hm1 (g (j := 5) rfl) (h5.same s1) <| getF T.e6 rfl hm1 (g (j := 6) rfl) (h6.same s1) <| getF T.e7 rfl hm1 (g (j := 7) rfl) (h7.same s1) <| ⟨small_len (by simp), fun l2 hl2 => ?_⟩
    refine ⟨l1, l2, _, _, rfl, rfl, same_upd hl2 _ _ e1, upd_same, small_len (by simp), fun r hr' => ?_⟩
    have f2 : H1 r = none := (same_upd hl2).free hr'
    exact k _ r (s1.trans ((same_upd hl2).trans (same_upd hr'))) upd_same (s1.free f2)
end
end My
set_option maxHeartbeats 400000
namespace My
open PySem L2 PyProof.Rows
open Lat
/-! texts of lists of drawn values -/
def okD (d : PyData) : Bool := d.showable && !d.hasDict && decide (d.depth ≤ 1) && decide (d.shown.length ≤ 40)
theorem vals_ok : vals.all okD = true := by decide +kernel
theorem val_ok {d : PyData} (h : d ∈ vals) : d.showable = true ∧ d.hasDict = false ∧ d.depth ≤ 1 ∧ d.shown.length ≤ 40 := by
  have := List.all_eq_true.mp vals_ok d h
  unfold okD at this
  simp only [Bool.and_eq_true, Bool.not_eq_true', decide_eq_true_eq] at this
  exact ⟨this.1.1.1, this.1.1.2, this.1.2, this.2⟩
theorem vals_show : ∀ {ds : List PyData}, (∀ d ∈ ds, d ∈ vals) → PyData.showableAll ds = true ∧ PyData.hasDictAll ds = false ∧ PyData.depthAll ds ≤ 1 ∧ ((PyData.shownAll ds).map (·.length)).sum ≤ 40 * ds.length ∧ (PyData.shownAll ds).length = ds.length
  | [], _ => ⟨by simp only [PyData.showableAll], by simp only [PyData.hasDictAll], by simp only [PyData.depthAll]; omega, by simp [PyData.shownAll], by simp [PyData.shownAll]⟩
  | d :: ds, h => by
    obtain ⟨a1, a2, a3, a4⟩ := val_ok (h d (.head _))
    obtain ⟨b1, b2, b3, b4, b5⟩ := vals_show (ds := ds) fun x hx => h x (.tail _ hx)
    refine ⟨by simp only [PyData.showableAll, a1, b1, Bool.and_self], by simp only [PyData.hasDictAll, a2, b2, Bool.or_self], by simp only [PyData.depthAll]; omega, ?_, by simp [PyData.shownAll, b5]⟩
    simp only [PyData.shownAll, List.map_cons, List.sum_cons, List.length_cons]
    omega
theorem list_show {ds : List PyData} (h : ∀ d ∈ ds, d ∈ vals) (hl : ds.length = 8) : (PyData.list ds).showable = true ∧ (PyData.list ds).hasDict = false ∧ (PyData.list ds).depth ≤ 64 ∧ (PyData.list ds).shown.length ≤ sizeLine := by
  obtain ⟨b1, b2, b3, b4, b5⟩ := vals_show h
  refine ⟨by simp only [PyData.showable, b1], by simp only [PyData.hasDict, b2], by simp only [PyData.depth]; omega, ?_⟩
  have := listText_len_le (PyData.shownAll ds)
  simp only [PyData.shown]
  rw [sizeLine_eq]
  omega
/-! eight of them -/
theorem eight {α : Type} {xs : List α} (h : xs.length = 8) : ∃ a b c d e f g i, xs = [a, b, c, d, e, f, g, i] := by
  match xs, h with
  | [a, b, c, d, e, f, g, i], _ => exact ⟨a, b, c, d, e, f, g, i, rfl⟩
section
variable {K : PySem.W.Frag} {H : Hp}
theorem vd_all : ∀ {ys : List V} {ds : List PyData}, Paired (Vd K H) ys ds → DpAll K H ys ds
  | _, _, .nil => .nil
  | _, _, .cons a b => .cons a.dp (vd_all b)
end
/-! which sort -/
def sortD (i : Nat) : PyData := .list ((List.range 11).map fun j => .bool (decide (j = i)))
theorem sort_eqv : ∀ i, i < 11 → PyData.eqv (sortD i) (sortD i) = true ∧ SeqAt.shaped (sortD i) = true := by decide +kernel
theorem sort_dp {K : PySem.W.Frag} {H : Hp} {r : Addr} {i : Nat} (h : H r = some (.lst ((List.range 11).map fun j => .bl (decide (j = i))))) : Dp K H (.ref r) (sortD i) := by
  refine .lst (SqL.of h) ?_
  have : ∀ l : List Nat, DpAll K H (l.map fun j => V.bl (decide (j = i))) (l.map fun j => PyData.bool (decide (j = i))) := fun l => by
    induction l with
    | nil => exact .nil
    | cons x l ih => exact .cons (.bl _) ih
  exact this _
def twoD : PyData := .list (List.replicate 8 (.list [.int 1, .int 2]))
theorem two_eqv : PyData.eqv twoD twoD = true ∧ SeqAt.shaped twoD = true := by decide +kernel
end My
set_option maxHeartbeats 400000
namespace My
open PySem L2
open Lat
section
variable {P : Program} {w : World} {K : PySem.W.Frag} {mg : Str → Option Value} {base : Heap}
theorem Named.put {c : Nat → Addr} {H H' : Hp} {m p : Addr} {xs ys : List V} (h : Named c H m xs) (hp : H p = some (.lst ys)) (ne : m ≠ p) (s : SameX p H H') : Named c H' m xs := by
  obtain ⟨x0, x1, x2, x3, x4, x5, x6, x7, a0, a1, a2, a3, a4, a5, a6, a7, l, e, hm, h0, h1, h2, h3, h4, h5, h6, h7⟩ := h
  exact ⟨x0, x1, x2, x3, x4, x5, x6, x7, a0, a1, a2, a3, a4, a5, a6, a7, l, e, s _ _ ne hm, h0.put hp s, h1.put hp s, h2.put hp s, h3.put hp s, h4.put hp s, h5.put hp s, h6.put hp s, h7.put hp s⟩
abbrev sLaw : Stmt := top 22
abbrev NLaw : List Str := ["_law_script", "_law_k", "_law_box_here", "_law_some", "_law_made_here", "_law_spot", "_law_one", "_law_row", "_law_held", "_law_turn", "_law_other"]
theorem scLaw : FnScope NLaw ["_law_script"] (defScope sLaw) := ⟨rfl, rfl, rfl, by decide +kernel, rfl, by decide +kernel, by decide +kernel⟩

def spLaw (K : PySem.W.Frag) : Sp := fun vs H Q _ => ∃ (a : Addr) (ns : List Int), vs = [.ref a] ∧ SqL K H a (ns.map V.int) ∧ ns.length ≤ 63 ∧ ∀ H', Q (.bl true) H'
theorem ok_Law {f B : Addr} {c : Nat → Addr} {fd : FuncData} {mc : Value} (F : Fun K "law" "law" sLaw f fd) (Z : Bn mg) (T : ErrT P w K mg base B c) (ST : SumT K mg B mc) (zV : mg "ValueError" = none)
    (cb : Cal P w K mg base "_law_box" 1 ["_law_script", "_law_k", "_law_own"] (spBox K)) (cv : Cal P w K mg base "_law_value" 3 ["_law_box_here"] (spValue K)) (cs : Cal P w K mg base "_law_sorts" 1 ["_law_one"] (spSorts c)) (cm : Cal P w K mg base "_law_made" 3 ["_law_some"] (spMade K c))
    (cn : Cal P w K mg base "_law_named" 3 ["_law_some"] (spNamed K c)) (ck : Cal P w K mg base "_law_kept" 1 ["_law_made_here"] (spKept c)) :
    FnG P w K mg base CX0 5 f fd ["_law_script"] (spLaw K) := by
  obtain ⟨f_law_box, fd_law_box, g_law_box, k_law_box, b_law_box, G_law_box⟩ := cb.ex
  obtain ⟨f_law_value, fd_law_value, g_law_value, k_law_value, b_law_value, G_law_value⟩ := cv.ex
  obtain ⟨f_law_sorts, fd_law_sorts, g_law_sorts, k_law_sorts, b_law_sorts, G_law_sorts⟩ := cs.ex
  obtain ⟨f_law_made, fd_law_made, g_law_made, k_law_made, b_law_made, G_law_made⟩ := cm.ex
  obtain ⟨f_law_named, fd_law_named, g_law_named, k_law_named, b_law_named, G_law_named⟩ := cn.ex
  obtain ⟨f_law_kept, fd_law_kept, g_law_kept, k_law_kept, b_law_kept, G_law_kept⟩ := ck.ex
  refine okG F scLaw (fun vs H Q E h => ?_) (fun cdv A outer s H vs Q E hA hr h => ?_)
  · obtain ⟨a, ns, rfl, _⟩ := h
    rfl
  · obtain ⟨a, ns, rfl, hs, hn, k⟩ := h
    refine ⟨_, (pss_cons (ps_for PassesOwn.never rfl (pi_range1 (by rfl) Z.range (pa_cons (pe_callB (call_max2 rfl) (by rfl) Z.max (by decide +kernel) (pa_cons pe_int (pa_cons (pe_callB (call_min2 rfl) (by rfl) Z.min (by decide +kernel) (pa_cons pe_int (pa_cons (pe_callB call_len (by rfl) Z.len PySem.boot_len (pa_cons (pv 0) pa_nil)) pa_nil))) pa_nil))) pa_nil)) (pg_name (i := 1) scLaw.nd rfl (Or.inl rfl)) (pss_cons (ps_set (i := 2) scLaw.nd rfl (Or.inr rfl) (pe_call G_law_box (hr.mono (by decide)) (by rfl) g_law_box k_law_box b_law_box .nil pass0 (pa_cons (pv 0) (pa_cons (pv 1) (pa_cons pe_int pa_nil)))))
      (pss_cons (ps_setLc (i := 3) (own := [("_law_turn", 9)]) (g := gName 9) (tt := tYes) (by rfl) scLaw.nd rfl rfl (sw_true rfl rfl rfl (by decide +kernel)) (pi_range1 (by rfl) Z.range (pa_cons pe_int pa_nil)) (blkOk_by (own := [("_law_turn", 9)]) (N := NLaw) (sc := defScope sLaw) (by decide +kernel)) (fun _ _ _ _ _ => pg_name (i := 9) scLaw.nd rfl (Or.inl rfl)) (fun _ _ _ _ _ => pts_nil) (fun _ _ _ _ _ => (pe_call G_law_value (hr.mono (by decide)) (by rfl) g_law_value k_law_value b_law_value .nil pass0 (pa_cons (pv 2) pa_nil))))
      (pss_cons (ps_set (i := 4) scLaw.nd rfl (Or.inl rfl) (pe_call G_law_made (hr.mono (by decide)) (by rfl) g_law_made k_law_made b_law_made .nil pass0 (pa_cons (pv 3) pa_nil)))
      (pss_cons (ps_for PassesOwn.never rfl (pi_enum (by rfl) Z.enumerate (pa_cons (pv 4) pa_nil)) (pg_tup rfl (pgs_cons (pg_name (i := 5) scLaw.nd rfl (Or.inr rfl)) (pgs_cons (pg_name (i := 6) scLaw.nd rfl (Or.inl rfl)) pgs_nil))) (pss_cons (ps_if (pt_cmpR (op_neDK (K := K) rfl hr.units) (pe_call G_law_sorts (hr.mono (by decide)) (by rfl) g_law_sorts k_law_sorts b_law_sorts .nil pass0 (pa_cons (pv 6) pa_nil)) (pe_lc (own := [("_law_other", 10)]) (g := gName 10) (tt := tYes) (by rfl) scLaw.nd (pi_range1 (by rfl) Z.range (pa_cons pe_int pa_nil)) (blkOk_by (own := [("_law_other", 10)]) (N := NLaw) (sc := defScope sLaw) (by decide +kernel)) (fun _ _ _ _ _ => pg_name (i := 10) scLaw.nd rfl (Or.inl rfl)) (fun _ _ _ _ _ => pts_nil) (fun _ _ _ _ _ => (pe_cmpR op_eq (pv 10) (pv 5) (nomark _)))) (nomark _)) (pss_one (ps_ret pe_bl)) pss_nil)
      (pss_one (ps_if (PW.pt (pw_or (pt_not (pt_val (pe_callB (call_isVK (K := K) rfl) (by rfl) Z.isinstance (by decide +kernel) (pa_cons (pv 6) (pa_cons (pe_glob (v := .ref B) (by rfl) ST.g rfl) pa_nil))))) (pw_or1 (pt_not (pt_val (pe_callB (call_isVK (K := K) rfl) (by rfl) Z.isinstance (by decide +kernel) (pa_cons (pv 6) (pa_cons (pe_bltn (v := .ty "ValueError") (by rfl) zV (by decide +kernel) rfl) pa_nil)))))))) (pss_one (ps_ret pe_bl)) pss_nil))))
      (pss_cons (ps_if (PW.pt (pw_or (pt_cmpR op_ne (pe_callB (call_reprDK (K := K) rfl hA (hu100 hr)) (by rfl) Z.repr (by decide +kernel) (pa_cons (pe_call G_law_kept (hr.mono (by decide)) (by rfl) g_law_kept k_law_kept b_law_kept .nil pass0 (pa_cons (pv 4) pa_nil)) pa_nil)) (pe_callB (call_reprDK (K := K) rfl hA (hu100 hr)) (by rfl) Z.repr (by decide +kernel) (pa_cons (pv 3) pa_nil)) (nomark _)) (pw_or1 (pt_cmpR op_ne (pe_callB (call_reprDK (K := K) rfl hA (hu100 hr)) (by rfl) Z.repr (by decide +kernel) (pa_cons (pe_call G_law_kept (hr.mono (by decide)) (by rfl) g_law_kept k_law_kept b_law_kept .nil pass0 (pa_cons (pe_call G_law_named (hr.mono (by decide)) (by rfl) g_law_named k_law_named b_law_named .nil pass0 (pa_cons (pv 3) pa_nil)) pa_nil)) pa_nil)) (pe_callB (call_reprDK (K := K) rfl hA (hu100 hr)) (by rfl) Z.repr (by decide +kernel) (pa_cons (pv 3) pa_nil)) (nomark _))))) (pss_one (ps_ret pe_bl)) pss_nil)
      (pss_cons (ps_set (i := 7) scLaw.nd rfl (Or.inl rfl) (pe_lst (pa_cons pe_int pa_nil)))
      (pss_cons (ps_set (i := 8) scLaw.nd rfl (Or.inl rfl) (pe_call G_law_made (hr.mono (by decide)) (by rfl) g_law_made k_law_made b_law_made .nil pass0 (pa_cons (pe_op op_rep (pe_lst (pa_cons (pv 7) pa_nil)) pe_int) pa_nil)))
      (pss_cons (ps_expr (pe_bm PySem.F.plainAttrs_list PySem.F.slot_list_append PySem.F.type_list_append mt_append (pv 7) (pa_cons pe_int pa_nil)))
      (pss_one (ps_if (pt_cmpR (op_neDK (K := K) rfl hr.units) (pe_call G_law_kept (hr.mono (by decide)) (by rfl) g_law_kept k_law_kept b_law_kept .nil pass0 (pa_cons (pv 8) pa_nil)) (pe_op op_rep (pe_lst (pa_cons (pe_lst (pa_cons pe_int (pa_cons pe_int pa_nil))) pa_nil)) pe_int) (nomark _)) (pss_one (ps_ret pe_bl)) pss_nil)))))))))))
      (pss_one (ps_ret pe_bl))), ?_⟩
    refine ⟨_, rfl, _, _, rfl, .inl ⟨_, hs, rfl⟩, _, _, rfl, _, _, rfl, _, rfl, ?_, ?_, ?_⟩
    · rw [List.length_map]; split <;> split <;> omega
    · rw [List.length_map]; split <;> split <;> omega
    refine for_it (walk_range (lo := 0)) (fun i σ H' => ∃ v1 v2 v3 v4 v5 v6 v7 v8 v9 v10 : Option V, σ = [some (.ref a), v1, v2, v3, v4, v5, v6, v7, v8, v9, v10] ∧ Same H H') ⟨none, none, none, none, none, none, none, none, none, none, rfl, Same.refl H⟩ (fun _ _ _ _ _ => trivial) ?_ ?_
    rotate_left
    · intro σ H' _
      exact k _
    rintro i x σ H0 H1 hi ⟨v1, v2, v3, v4, v5, v6, v7, v8, v9, v10, rfl, s1⟩ ⟨rfl, rfl⟩
    refine ⟨_, rfl, _, rfl, a, ns, i, 1, (by show [V.ref a, V.int (0 + (i : Nat)), V.int 1] ++ [] = [V.ref a, V.int (i : Nat), V.int (1 : Nat)]; rw [Int.zero_add]; rfl), s1.seq hs, by omega, fun H2 b s2 hb b2 => ?_⟩
    have hbH : H b = none := s1.free hb
    have s12 : Same H H2 := s1.trans s2
    -- eight values
    refine ⟨_, rfl, by decide, by decide, fun D hD => ?_⟩
    have bD : D ≠ b := box_ne b2 hD
    refine lc_it (walk_range (lo := 0)) (fun i H' => SameX b H2 H' ∧ IsBox H' b ∧ ∃ ys ds, H' D = some (.lst ys) ∧ Paired (fun v d => Vd K H' v d ∧ v ≠ .ref b ∧ v ≠ .ref D) ys ds ∧ ds.length = i ∧ ∀ d ∈ ds, d ∈ vals) ⟨samex_new hD, b2.same (same_upd hD), [], [], upd_same, .nil, rfl, fun d h => nomatch h⟩ (fun _ _ _ _ => trivial) ?_ ?_
    · rintro i x Ha Hb hi ⟨s3, b3, ys, ds, hy, pr, dl, dv⟩ ⟨rfl, rfl⟩
      refine ⟨rfl, ?_⟩
      dsimp only [tYes]
      rw [if_pos rfl]
      refine ⟨_, rfl, b, rfl, b3, fun H4 v d sx bx hd hv fr => ?_⟩
      have yl : ys.length = i := by rw [paired_len pr, dl]
      have nb : v ≠ .ref b := fun e => by
        obtain ⟨x, y, z, q⟩ := b3
        rw [fr b e] at q; cases q
      have nD : v ≠ .ref D := fun e => by rw [fr D e] at hy; cases hy
      have hyD : H4 D = some (.lst ys) := sx _ _ bD hy
      have sD : SameX D H4 (upd H4 D (.lst (ys ++ [v]))) := samex_upd
      obtain ⟨bx1, by1, bz1, qb⟩ := id b3
      refine ⟨ys, hyD, by rw [sizeLine_eq]; have : i < 8 := hi; omega, ?_, ?_, ys ++ [v], ds ++ [d], upd_same, ?_, ?_, ?_⟩
      · intro c o hc e
        rw [upd_ne (ne_of_none e hD)]
        exact sx _ _ hc (s3 _ _ hc e)
      · obtain ⟨x, y, z, q⟩ := bx
        exact ⟨x, y, z, by rw [upd_ne bD.symm]; exact q⟩
      · refine Paired.snoc ⟨Vd.x hyD nD sD hv, nb, nD⟩ (Paired.imp (fun u e q => ⟨?_, q.2⟩) pr)
        exact Vd.x hyD q.2.2 sD (Vd.x qb q.2.1 sx q.1)
      · rw [List.length_append, dl]; rfl
      · intro d' h
        rcases List.mem_append.mp h with h | h
        · exact dv d' h
        · rw [List.mem_singleton.mp h]; exact hd
    rintro H3 ⟨s3, b3, ys, ds, hy, pr, dl, dv⟩
    have s13 : Same H H3 := same_x s12 hbH s3
    have yl : ys.length = 8 := by rw [paired_len pr]; exact dl
    have dl8 : ds.length = 8 := dl
    obtain ⟨x0, x1, x2, x3, x4, x5, x6, x7, rfl⟩ := eight yl
    have pv0 : Paired (Vd K H3) [x0, x1, x2, x3, x4, x5, x6, x7] ds := Paired.imp (fun _ _ q => q.1) pr
    obtain ⟨sh1, sh2, sh3, sh4⟩ := list_show dv dl8
    have dpl : ∀ {H' : Hp} {r : Addr}, Same H3 H' → H' r = some (.lst [x0, x1, x2, x3, x4, x5, x6, x7]) → Dp K H' (.ref r) (.list ds) := fun {H' r} s h => .lst (SqL.of h) (vd_all (Paired.imp (fun _ _ q => Vd.same s q) pv0))
    dsimp only [gName]
    refine ⟨_, rfl, D, x0, x1, x2, x3, x4, x5, x6, x7, rfl, SqL.of hy, fun H4 m s4 hm hM => ?_⟩
    dsimp only [gName]
    refine seq_by (fun σ' H' => ∃ v1 v5 v6 v7 v8 v9 v10 : Option V, σ' = [some (.ref a), v1, some (.ref b), some (.ref D), some (.ref m), v5, v6, v7, v8, v9, v10] ∧ Same H4 H') (fun N hN => ?_) ?_
    · obtain ⟨es, el, em, ee⟩ := hM.each
      refine ⟨_, rfl, m, _, rfl, SqL.of em, ?_⟩
      refine for_it walk_enum (fun i σ H' => ∃ v1 v5 v6 v7 v8 v9 v10 : Option V, σ = [some (.ref a), v1, some (.ref b), some (.ref D), some (.ref m), v5, v6, v7, v8, v9, v10] ∧ Same H4 H') ⟨_, _, _, _, _, _, _, rfl, Same.refl _⟩ (fun i σ H' _ p => by obtain ⟨_, _, _, _, _, _, _, _, s⟩ := p; exact SqL.of (s _ _ em)) ?_ ?_
      rotate_left
      · exact fun σ H' p => hN σ H' p
      rintro i x σ Ha Hb hi0 ⟨v1, v5, v6, v7, v8, v9, v10, rfl, s5⟩ ⟨Tt, x1', y1, rfl, hT, rfl, hx1, hy1⟩
      cases hx1
      have hi : i < 11 := by simpa [el] using hi0
      obtain ⟨e, he, hE⟩ := ee i hi
      have ye : y1 = .ref e := by
        have hy2 : (es.map V.ref)[i]? = some y1 := hy1
        rw [List.getElem?_map, he] at hy2
        exact (Option.some.inj hy2).symm
      subst ye
      refine ⟨Tt, _, rfl, SqT.of upd_same, rfl, _, _, rfl, _, _, rfl, rfl, ?_⟩
      have s6 : Same H4 (upd Ha Tt (.tup [.int (i : Nat), .ref e])) := s5.trans (same_upd hT)
      generalize upd Ha Tt (.tup [.int (i : Nat), .ref e]) = Hc at s6 ⊢
      dsimp only [gName]
      refine ⟨_, rfl, e, i, rfl, hi, hE.same s6, fun H6 r6 s7 h6 => ?_⟩
      refine ⟨_, rfl, by decide, by decide, fun D2 hD2 => ?_⟩
      refine lc_it (walk_range (lo := 0)) (fun j H' => Same H6 H' ∧ H' D2 = some (.lst ((List.range j).map fun q => V.bl (decide (q = i))))) ⟨same_upd hD2, upd_same⟩ (fun _ _ _ _ => trivial) ?_ ?_
      · rintro j x Hd He hj ⟨s8, h8⟩ ⟨rfl, rfl⟩
        refine ⟨rfl, ?_⟩
        dsimp only [tYes]
        rw [if_pos rfl]
        refine ⟨_, rfl, _, rfl, rfl, _, h8, by rw [sizeLine_eq, List.length_map, List.length_range]; have : j < 11 := hj; omega, put_new hD2 s8, ?_⟩
        have ed : decide (V.int (0 + (j : Nat)) = V.int (i : Nat)) = decide (j = i) := by
          by_cases e : j = i
          · subst e; simp
          · have : ¬ V.int (0 + (j : Nat)) = V.int (i : Nat) := fun z => by injection z with z; omega
            rw [decide_eq_false this, decide_eq_false e]
        rw [upd_same, ed, List.range_succ, List.map_append]
        rfl
      · rintro H7 ⟨s8, h8⟩
        obtain ⟨q1, q2⟩ := sort_eqv i hi
        refine ⟨_, _, sort_dp (s8 _ _ h6), sort_dp h8, q2, q2, _, rfl, ?_⟩
        dsimp only
        rw [if_neg (show ¬ (!PyData.eqv (sortD i) (sortD i)) = true by rw [q1]; decide)]
        have sE : Same H4 H7 := s6.trans (s7.trans s8)
        refine ⟨_, rfl, e, c i, _, .ref B, true, rfl, hE.same sE, T.xc i hi, (fun u r => r), T.kitS i hi, _, rfl, ?_⟩
        dsimp only
        rw [if_neg (by decide)]
        refine ⟨_, rfl, e, c i, _, .type "ValueError", true, rfl, hE.same sE, T.xc i hi, (fun u r => r), T.kitV i hi, _, rfl, ?_⟩
        dsimp only
        rw [if_neg (by decide)]
        exact ⟨_, _, _, _, _, _, _, rfl, sE⟩
    rintro σ' H5 ⟨v1, v5, v6, v7, v8, v9, v10, rfl, s5⟩
    have s35 : Same H3 H5 := s4.trans s5
    refine ⟨_, rfl, m, _, rfl, (hM.named).same s5, fun H6 r6 s6 h6 _ => ⟨r6, .list ds, rfl, dpl (s35.trans s6) h6, sh1, sh2, sh3, sh4, _, rfl, D, .list ds, rfl, dpl (s35.trans s6) ((s35.trans s6) _ _ hy), sh1, sh2, sh3, sh4, rfl, _, rfl, ?_⟩⟩
    dsimp only
    rw [if_neg (by simp)]
    have s36 := s35.trans s6
    refine ⟨_, rfl, D, x0, x1, x2, x3, x4, x5, x6, x7, rfl, SqL.of (s36 _ _ hy), fun H7 n7 s7 _ hN7 => ⟨n7, _, rfl, hN7, fun H8 r8 s8 h8 _ => ⟨r8, .list ds, rfl, dpl (s36.trans (s7.trans s8)) h8, sh1, sh2, sh3, sh4, _, rfl, D, .list ds, rfl, dpl (s36.trans (s7.trans s8)) ((s36.trans (s7.trans s8)) _ _ hy), sh1, sh2, sh3, sh4, rfl, _, rfl, ?_⟩⟩⟩
    dsimp only
    rw [if_neg (by simp)]
    have s8H : Same H H8 := s13.trans (s36.trans (s7.trans s8))
    refine ⟨small_len (by simp), fun p hp => ?_⟩
    have sp : Same H8 (upd H8 p (.lst [V.int 1])) := same_upd hp
    have ep : (upd H8 p (.lst [V.int 1])) p = some (.lst [V.int 1]) := upd_same
    generalize upd H8 p (.lst [V.int 1]) = H9 at sp ep ⊢
    have s9 : Same H H9 := s8H.trans sp
    have hpH : H p = none := s8H.free hp
    dsimp only [gName]
    refine ⟨_, rfl, small_len (by simp), fun l1 hl1 => ⟨l1, 8, _, rfl, rfl, upd_same, by decide, by decide, (by show 1 * 8 ≤ sizeLine; rw [sizeLine_eq]; decide), fun l2 hl2 => ?_⟩⟩
    refine ⟨l2, .ref p, .ref p, .ref p, .ref p, .ref p, .ref p, .ref p, .ref p, rfl, SqL.of upd_same, fun H10 r10 s10 hr10 hM2 => ?_⟩
    have sB : Same H9 (upd (upd H9 l1 (.lst [V.ref p])) l2 (.lst (List.replicate (Int.toNat 8) [V.ref p]).flatten)) := (same_upd hl1).trans (same_upd hl2)
    have sA : Same H9 H10 := sB.trans s10
    have ep10 := sA _ _ ep
    have rp : r10 ≠ p := fun e => by
      rw [e] at hr10
      rw [sB _ _ ep] at hr10
      cases hr10
    dsimp only [gName]
    refine ⟨_, rfl, .inl ⟨rfl, _, SqL.of ep10⟩, p, [V.int 1], V.int 2, rfl, rfl, ep10, (by show 1 < sizeLine; rw [sizeLine_eq]; decide), ?_⟩
    have sx : SameX p H10 (upd H10 p (.lst ([V.int 1] ++ [V.int 2]))) := samex_upd
    have e11 : (upd H10 p (.lst ([V.int 1] ++ [V.int 2]))) p = some (.lst [V.int 1, V.int 2]) := upd_same
    have hN : Named c (upd H10 p (.lst ([V.int 1] ++ [V.int 2]))) r10 [.ref p, .ref p, .ref p, .ref p, .ref p, .ref p, .ref p, .ref p] := (hM2.named).put ep10 rp sx
    have s11 : Same H (upd H10 p (.lst ([V.int 1] ++ [V.int 2]))) := put_new hpH (s9.trans sA)
    generalize upd H10 p (.lst ([V.int 1] ++ [V.int 2])) = H11 at e11 hN s11 ⊢
    refine ⟨_, rfl, r10, _, rfl, hN, fun H12 r12 s12' h12 _ => ?_⟩
    refine ⟨small_len (by simp), fun i1 hi1 => ⟨small_len (by simp), fun i2 hi2 => ⟨i2, 8, _, rfl, rfl, upd_same, by decide, by decide, (by show 1 * 8 ≤ sizeLine; rw [sizeLine_eq]; decide), fun i3 hi3 => ?_⟩⟩⟩
    have t1 := same_upd (o := .lst [V.int 1, V.int 2]) hi1
    have t2 := same_upd (o := .lst [V.ref i1]) hi2
    have t3 := same_upd (o := .lst (List.replicate (Int.toNat 8) [V.ref i1]).flatten) hi3
    have g1 := (t2.trans t3) i1 _ upd_same
    have g3 : (upd (upd (upd H12 i1 (.lst [V.int 1, V.int 2])) i2 (.lst [V.ref i1])) i3 (.lst (List.replicate (Int.toNat 8) [V.ref i1]).flatten)) i3 = some (.lst [V.ref i1, V.ref i1, V.ref i1, V.ref i1, V.ref i1, V.ref i1, V.ref i1, V.ref i1]) := upd_same
    have tt : Same H11 (upd (upd (upd H12 i1 (.lst [V.int 1, V.int 2])) i2 (.lst [V.ref i1])) i3 (.lst (List.replicate (Int.toNat 8) [V.ref i1]).flatten)) := s12'.trans (t1.trans (t2.trans t3))
    have gp := tt _ _ e11
    have gr := (t1.trans (t2.trans t3)) _ _ h12
    generalize (upd (upd (upd H12 i1 (.lst [V.int 1, V.int 2])) i2 (.lst [V.ref i1])) i3 (.lst (List.replicate (Int.toNat 8) [V.ref i1]).flatten)) = H13 at g1 g3 tt gp gr ⊢
    have one : ∀ {q : Addr}, H13 q = some (.lst [V.int 1, V.int 2]) → Dp K H13 (.ref q) (.list [.int 1, .int 2]) := fun h => .lst (SqL.of h) (.cons (.int _) (.cons (.int _) .nil))
    have all8 : ∀ {q r : Addr}, H13 q = some (.lst [V.int 1, V.int 2]) → H13 r = some (.lst [V.ref q, V.ref q, V.ref q, V.ref q, V.ref q, V.ref q, V.ref q, V.ref q]) → Dp K H13 (.ref r) twoD := fun h h' => .lst (SqL.of h') (.cons (one h) (.cons (one h) (.cons (one h) (.cons (one h) (.cons (one h) (.cons (one h) (.cons (one h) (.cons (one h) .nil))))))))
    refine ⟨twoD, twoD, all8 gp gr, all8 g1 g3, two_eqv.2, two_eqv.2, _, rfl, ?_⟩
    dsimp only
    rw [if_neg (show ¬ (!PyData.eqv twoD twoD) = true by rw [two_eqv.1]; decide)]
    exact ⟨_, _, _, _, _, _, _, _, _, _, rfl, s11.trans tt⟩
end
end My
set_option maxHeartbeats 4000000
namespace My
open PySem L2 PyProof.Rows
/-- the end, where the written part is told by the head's run -/
theorem walkE {l : PySem.W.OpenLaw} {n k : Nat} {q : Program} {loose : List Str} {XP : (Str → Option Value) → Heap → Prop} {YP : World → Heap → Prop} {d : DefRec} {CX : World → CXT} {x : Str}
    (hn : l.most = some n) (hn2 : n ≤ sizeLine) (hdf : d.params.defaults = []) (hr : Room k callerA) (hi : importsNone q = true)
    (F : ∀ (w : World) (mg : Str → Option Value) (fa : Addr) (h : Heap), YP w h → h.Ns mainGlobals mg → mg d.name = some (.ref fa) → ∃ (K : PySem.W.Frag) (fd : FuncData) (sp : Sp), K.In h ∧ (∀ (s : Shared) (u : Value), BindsTo s fd ⟨[u], []⟩ [(x, u)]) ∧
      (∀ (H : Hp) (a : Addr) (ns : List Int), ns.length ≤ n → SqL K H a (ns.map V.int) → sp [.ref a] H (fun v _ => v = .bl true) fun _ _ _ => False) ∧ ∀ base : Heap, K.In base → base.Ns mainGlobals mg → base.NoSeer → FnG l.prog w K mg base (CX w) k fa fd [x] sp)
    (hCX : ∀ (w : World) (H : Hp) (s : Shared) (e : Value) (s' : Shared), CX w [] H s (fun _ _ _ => False) e s' → False) : PySem.W.WalkO q loose XP YP l.row.toRowW d [] (fun f vs => PySem.call f vs) := by
  refine Att.attach_call hn hdf fun w s₀ s₁ mg mb fa o pm cd doc a vs ns G Y ho hd hcd hmg hobj hints hlen hg => ?_
  obtain ⟨K, fd, sp, hK, hb, hsp, hF⟩ := F w mg fa _ Y G.T.g hmg
  exact callS hK G.T.g G.T.b G.T.builtins G.T.nolimit (G.T.seer hi) hg hobj hints (Nat.le_trans hlen hn2) hr hF hb (fun H _ hS => hsp H a ns hlen hS) fun H e s' => hCX w H s₁ e s'
end My
namespace Pu
open PySem L2 PyProof.Rows He He5
instance tb0 : TBc := ⟨[]⟩
def clN : List Str := ["InvalidText", "InvalidRow", "InvalidBook", "InvalidLife", "NoStatement", "NoTotal", "NoEvent", "Refused", "InvalidVector", "InvalidCommand", "Mismatch"]
def cA (K : PySem.W.Frag) (i : Nat) : Addr := ga K (clN.getD i "")
def excZ (K : PySem.W.Frag) (C : Addr) : Bool := xfB K C && plB K C
theorem excZ_ok {K : PySem.W.Frag} {C : Addr} (h : excZ K C = true) : ExcC K C := by
  obtain ⟨h1, h2⟩ := ba h
  obtain ⟨p1, p2, p3, p4⟩ := plB_ok h2
  have z := xfB_ok h1
  exact ⟨z.ga, z.gg, z.exC, z.hdC, p1, p2, p3, p4⟩
def sumZ (K : PySem.W.Frag) : Bool := gloB K "SumError" && (eqO (PySem.W.specialIn K (.ref (ga K "SumError")) "__getattribute__") (some (some (.builtin "type.__getattribute__"))) && (PySem.W.readsIn K (ga K "SumError") (.type "type") && (match PySem.W.findCls K (.ref (ga K "SumError")) (.type "type") "__init__" with
  | some (.val (.builtin n)) => n == "ValueError.__init__"
  | _ => false)))
theorem sumZ_ok {K : PySem.W.Frag} {h : Heap} {mg : Str → Option Value} (X : K.In h) (G : h.Ns mainGlobals mg) (e : sumZ K = true) : My.SumT K mg (ga K "SumError") (.type "type") := by
  obtain ⟨e1, e⟩ := ba e
  obtain ⟨e2, e⟩ := ba e
  obtain ⟨e3, e4⟩ := ba e
  refine ⟨glo_at X G e1, eqO_ok e2, e3, ?_⟩
  split at e4
  · rename_i n q
    rw [q, eq_of_beq e4]
  · cases e4
def d_XInvalidText : DefA := ⟨fun K => ma K (ga K "InvalidText") "__init__", "__init__", "InvalidText.__init__", defArgs My.sXInvalidText, defBody My.sXInvalidText, defScope My.sXInvalidText, [], []⟩
def d_XInvalidRow : DefA := ⟨fun K => ma K (ga K "InvalidRow") "__init__", "__init__", "InvalidRow.__init__", defArgs My.sXInvalidRow, defBody My.sXInvalidRow, defScope My.sXInvalidRow, [], []⟩
def d_XInvalidBook : DefA := ⟨fun K => ma K (ga K "InvalidBook") "__init__", "__init__", "InvalidBook.__init__", defArgs My.sXInvalidBook, defBody My.sXInvalidBook, defScope My.sXInvalidBook, [], []⟩
def d_XInvalidLife : DefA := ⟨fun K => ma K (ga K "InvalidLife") "__init__", "__init__", "InvalidLife.__init__", defArgs My.sXInvalidLife, defBody My.sXInvalidLife, defScope My.sXInvalidLife, [], []⟩
def d_XNoStatement : DefA := ⟨fun K => ma K (ga K "NoStatement") "__init__", "__init__", "NoStatement.__init__", defArgs My.sXNoStatement, defBody My.sXNoStatement, defScope My.sXNoStatement, [], []⟩
def d_XNoTotal : DefA := ⟨fun K => ma K (ga K "NoTotal") "__init__", "__init__", "NoTotal.__init__", defArgs My.sXNoTotal, defBody My.sXNoTotal, defScope My.sXNoTotal, [], []⟩
def d_XNoEvent : DefA := ⟨fun K => ma K (ga K "NoEvent") "__init__", "__init__", "NoEvent.__init__", defArgs My.sXNoEvent, defBody My.sXNoEvent, defScope My.sXNoEvent, [], []⟩
def d_XRefused : DefA := ⟨fun K => ma K (ga K "Refused") "__init__", "__init__", "Refused.__init__", defArgs My.sXRefused, defBody My.sXRefused, defScope My.sXRefused, [], []⟩
def d_XInvalidVector : DefA := ⟨fun K => ma K (ga K "InvalidVector") "__init__", "__init__", "InvalidVector.__init__", defArgs My.sXInvalidVector, defBody My.sXInvalidVector, defScope My.sXInvalidVector, [], []⟩
def d_XInvalidCommand : DefA := ⟨fun K => ma K (ga K "InvalidCommand") "__init__", "__init__", "InvalidCommand.__init__", defArgs My.sXInvalidCommand, defBody My.sXInvalidCommand, defScope My.sXInvalidCommand, [], []⟩
def d_XMismatch : DefA := ⟨fun K => ma K (ga K "Mismatch") "__init__", "__init__", "Mismatch.__init__", defArgs My.sXMismatch, defBody My.sXMismatch, defScope My.sXMismatch, [], []⟩
def d_Box : DefA := ⟨fun K => ga K "_law_box", "_law_box", "_law_box", defArgs My.sBox, defBody My.sBox, defScope My.sBox, [], []⟩
def d_Take : DefA := ⟨fun K => ga K "_law_take", "_law_take", "_law_take", defArgs My.sTake, defBody My.sTake, defScope My.sTake, [], []⟩
def d_Pick : DefA := ⟨fun K => ga K "_law_pick", "_law_pick", "_law_pick", defArgs My.sPick, defBody My.sPick, defScope My.sPick, [], []⟩
def d_Value : DefA := ⟨fun K => ga K "_law_value", "_law_value", "_law_value", defArgs My.sValue, defBody My.sValue, defScope My.sValue, [], []⟩
def d_Sorts : DefA := ⟨fun K => ga K "_law_sorts", "_law_sorts", "_law_sorts", defArgs My.sSorts, defBody My.sSorts, defScope My.sSorts, [], []⟩
def d_Made : DefA := ⟨fun K => ga K "_law_made", "_law_made", "_law_made", defArgs My.sMade, defBody My.sMade, defScope My.sMade, [], []⟩
def d_Named : DefA := ⟨fun K => ga K "_law_named", "_law_named", "_law_named", defArgs My.sNamed, defBody My.sNamed, defScope My.sNamed, [], []⟩
def d_Kept : DefA := ⟨fun K => ga K "_law_kept", "_law_kept", "_law_kept", defArgs My.sKept, defBody My.sKept, defScope My.sKept, [], []⟩
def d_Law : DefA := ⟨fun K => ga K "law", "law", "law", defArgs My.sLaw, defBody My.sLaw, defScope My.sLaw, [], []⟩
def fnL : List DefA := [d_XInvalidText, d_XInvalidRow, d_XInvalidBook, d_XInvalidLife, d_XNoStatement, d_XNoTotal, d_XNoEvent, d_XRefused, d_XInvalidVector, d_XInvalidCommand, d_XMismatch, d_Box, d_Take, d_Pick, d_Value, d_Sorts, d_Made, d_Named, d_Kept, d_Law]
def exL0 (K : PySem.W.Frag) : List Bool := [((Fa.free "zip").ok K), ((Fa.free "tuple").ok K), ((Fa.free "list").ok K), ((Fa.free "dict").ok K), ((Fa.free "abs").ok K), ((Fa.free "int").ok K), ((Fa.free "bool").ok K), ((Fa.free "str").ok K), ((Fa.free "sum").ok K), ((Fa.free "len").ok K), ((Fa.free "min").ok K), ((Fa.free "max").ok K)]
def exL1 (K : PySem.W.Frag) : List Bool := [((Fa.free "all").ok K), ((Fa.free "any").ok K), ((Fa.free "isinstance").ok K), ((Fa.free "range").ok K), ((Fa.free "repr").ok K), ((Fa.free "enumerate").ok K), ((Fa.free "sorted").ok K), (sumZ K), (gloB K "InvalidText"), (oexB K (ga K "InvalidText")), (excZ K (ga K "InvalidText")), (eqO (PySem.W.findIn K (.ref (ga K "InvalidText")) "__init__") (some (some (.ref (ma K (ga K "InvalidText") "__init__")))))]
def exL2 (K : PySem.W.Frag) : List Bool := [(decide (PySem.W.typeIn K (.ref (ma K (ga K "InvalidText") "__init__")) = some (.type "function"))), (eqO (PySem.W.findIn K (.ref (ga K "InvalidText")) "at") (some none)), (xfB K (ga K "InvalidText")), (gloB K "InvalidRow"), (oexB K (ga K "InvalidRow")), (excZ K (ga K "InvalidRow")), (eqO (PySem.W.findIn K (.ref (ga K "InvalidRow")) "__init__") (some (some (.ref (ma K (ga K "InvalidRow") "__init__"))))), (decide (PySem.W.typeIn K (.ref (ma K (ga K "InvalidRow") "__init__")) = some (.type "function"))), (eqO (PySem.W.findIn K (.ref (ga K "InvalidRow")) "part") (some none)), (xfB K (ga K "InvalidRow")), (gloB K "InvalidBook"), (oexB K (ga K "InvalidBook"))]
def exL3 (K : PySem.W.Frag) : List Bool := [(excZ K (ga K "InvalidBook")), (eqO (PySem.W.findIn K (.ref (ga K "InvalidBook")) "__init__") (some (some (.ref (ma K (ga K "InvalidBook") "__init__"))))), (decide (PySem.W.typeIn K (.ref (ma K (ga K "InvalidBook") "__init__")) = some (.type "function"))), (eqO (PySem.W.findIn K (.ref (ga K "InvalidBook")) "word") (some none)), (xfB K (ga K "InvalidBook")), (gloB K "InvalidLife"), (oexB K (ga K "InvalidLife")), (excZ K (ga K "InvalidLife")), (eqO (PySem.W.findIn K (.ref (ga K "InvalidLife")) "__init__") (some (some (.ref (ma K (ga K "InvalidLife") "__init__"))))), (decide (PySem.W.typeIn K (.ref (ma K (ga K "InvalidLife") "__init__")) = some (.type "function"))), (eqO (PySem.W.findIn K (.ref (ga K "InvalidLife")) "at") (some none)), (xfB K (ga K "InvalidLife"))]
def exL4 (K : PySem.W.Frag) : List Bool := [(gloB K "NoStatement"), (oexB K (ga K "NoStatement")), (excZ K (ga K "NoStatement")), (eqO (PySem.W.findIn K (.ref (ga K "NoStatement")) "__init__") (some (some (.ref (ma K (ga K "NoStatement") "__init__"))))), (decide (PySem.W.typeIn K (.ref (ma K (ga K "NoStatement") "__init__")) = some (.type "function"))), (eqO (PySem.W.findIn K (.ref (ga K "NoStatement")) "at") (some none)), (xfB K (ga K "NoStatement")), (gloB K "NoTotal"), (oexB K (ga K "NoTotal")), (excZ K (ga K "NoTotal")), (eqO (PySem.W.findIn K (.ref (ga K "NoTotal")) "__init__") (some (some (.ref (ma K (ga K "NoTotal") "__init__"))))), (decide (PySem.W.typeIn K (.ref (ma K (ga K "NoTotal") "__init__")) = some (.type "function")))]
def exL5 (K : PySem.W.Frag) : List Bool := [(eqO (PySem.W.findIn K (.ref (ga K "NoTotal")) "name") (some none)), (xfB K (ga K "NoTotal")), (gloB K "NoEvent"), (oexB K (ga K "NoEvent")), (excZ K (ga K "NoEvent")), (eqO (PySem.W.findIn K (.ref (ga K "NoEvent")) "__init__") (some (some (.ref (ma K (ga K "NoEvent") "__init__"))))), (decide (PySem.W.typeIn K (.ref (ma K (ga K "NoEvent") "__init__")) = some (.type "function"))), (eqO (PySem.W.findIn K (.ref (ga K "NoEvent")) "name") (some none)), (xfB K (ga K "NoEvent")), (gloB K "Refused"), (oexB K (ga K "Refused")), (excZ K (ga K "Refused"))]
def exL6 (K : PySem.W.Frag) : List Bool := [(eqO (PySem.W.findIn K (.ref (ga K "Refused")) "__init__") (some (some (.ref (ma K (ga K "Refused") "__init__"))))), (decide (PySem.W.typeIn K (.ref (ma K (ga K "Refused") "__init__")) = some (.type "function"))), (eqO (PySem.W.findIn K (.ref (ga K "Refused")) "word") (some none)), (xfB K (ga K "Refused")), (gloB K "InvalidVector"), (oexB K (ga K "InvalidVector")), (excZ K (ga K "InvalidVector")), (eqO (PySem.W.findIn K (.ref (ga K "InvalidVector")) "__init__") (some (some (.ref (ma K (ga K "InvalidVector") "__init__"))))), (decide (PySem.W.typeIn K (.ref (ma K (ga K "InvalidVector") "__init__")) = some (.type "function"))), (gloB K "InvalidCommand"), (oexB K (ga K "InvalidCommand")), (excZ K (ga K "InvalidCommand"))]
def exL7 (K : PySem.W.Frag) : List Bool := [(eqO (PySem.W.findIn K (.ref (ga K "InvalidCommand")) "__init__") (some (some (.ref (ma K (ga K "InvalidCommand") "__init__"))))), (decide (PySem.W.typeIn K (.ref (ma K (ga K "InvalidCommand") "__init__")) = some (.type "function"))), (gloB K "Mismatch"), (oexB K (ga K "Mismatch")), (excZ K (ga K "Mismatch")), (eqO (PySem.W.findIn K (.ref (ga K "Mismatch")) "__init__") (some (some (.ref (ma K (ga K "Mismatch") "__init__"))))), (decide (PySem.W.typeIn K (.ref (ma K (ga K "Mismatch") "__init__")) = some (.type "function"))), ((List.range 11).all fun i => (List.range 11).all fun j => decide (PySem.W.kitOne K (.ref (cA K i)) (.ref (cA K j)) = some (decide (j = i)))), ((List.range 11).all fun i => decide (PySem.W.kitOne K (.ref (cA K i)) (.ref (ga K "SumError")) = some true)), ((List.range 11).all fun i => decide (PySem.W.kitOne K (.ref (cA K i)) (.type "ValueError") = some true)), (gloB K "_law_box"), (gloB K "_law_take")]
def exL8 (K : PySem.W.Frag) : List Bool := [(gloB K "_law_pick"), (gloB K "_law_value"), (gloB K "_law_sorts"), (gloB K "_law_made"), (gloB K "_law_named"), (gloB K "_law_kept"), (gloB K "law"), ((Fa.free "ValueError").ok K)]
def exL (K : PySem.W.Frag) : List Bool := exL0 K ++ exL1 K ++ exL2 K ++ exL3 K ++ exL4 K ++ exL5 K ++ exL6 K ++ exL7 K ++ exL8 K
def exB (K : PySem.W.Frag) : Bool := (exL K).all id
theorem ex_at {K : PySem.W.Frag} (c : exB K = true) (i : Nat) {b : Bool} (h : (exL K)[i]? = some b) : b = true := List.all_eq_true.mp c b (List.mem_of_getElem? h)
abbrev PP : Program := (PySem.Challenge.rw_sumlives_k01_errors).prog
theorem facts {w : World} {K : PySem.W.Frag} {h : Heap} {mg : Str → Option Value} {f : Addr} (X : K.In h) (G : h.Ns mainGlobals mg) (hfa : mg ("law" : Str) = some (.ref f)) (c : SaysP fnL exB K) : ∃ fd : FuncData, (∀ (s : Shared) (v : Value), BindsTo s fd ⟨[v], []⟩ [("_law_script", v)]) ∧ ∀ base : Heap, K.In base → base.Ns mainGlobals mg → base.NoSeer → My.FnG PP w K mg base CX0 5 f fd ["_law_script"] (My.spLaw K) := by
  have e := c.more
  have Z : My.Bn mg := ⟨free_ok X G (ex_at e 0 rfl), free_ok X G (ex_at e 1 rfl), free_ok X G (ex_at e 2 rfl), free_ok X G (ex_at e 3 rfl), free_ok X G (ex_at e 4 rfl), free_ok X G (ex_at e 5 rfl), free_ok X G (ex_at e 6 rfl), free_ok X G (ex_at e 7 rfl), free_ok X G (ex_at e 8 rfl), free_ok X G (ex_at e 9 rfl), free_ok X G (ex_at e 10 rfl), free_ok X G (ex_at e 11 rfl), free_ok X G (ex_at e 12 rfl), free_ok X G (ex_at e 13 rfl), free_ok X G (ex_at e 14 rfl), free_ok X G (ex_at e 15 rfl), free_ok X G (ex_at e 16 rfl), free_ok X G (ex_at e 17 rfl), free_ok X G (ex_at e 18 rfl)⟩
  have ST : My.SumT K mg (ga K "SumError") (.type "type") := sumZ_ok X G (ex_at e 19 rfl)
  obtain ⟨fd0, F0⟩ := c.def_ 0 (d := d_XInvalidText)
  obtain ⟨oc0, od0, kV0, doc0, pm0, an0, cdv0, ct0, osl0, rfl, lk0, hcd0⟩ := (He5.fun_of (K := K) (x := "__init__") (qual := "InvalidText.__init__") (st := My.sXInvalidText) F0).ex
  have E0 : ∀ base, My.ErrC PP w K mg base "InvalidText" "at" (ga K "InvalidText") := fun base => ⟨glo_at X G (ex_at e 20 rfl), (oexB_ok (ex_at e 21 rfl)), (excZ_ok (ex_at e 22 rfl)), (xfB_ok (ex_at e 26 rfl)), (eqO_ok (ex_at e 25 rfl)), _, _, (eqO_ok (ex_at e 23 rfl)), (of_decide_eq_true (ex_at e 24 rfl)), My.ok_XInvalidText (He5.fun_of F0) ST (oexB_ok (ex_at e 21 rfl)) (eqO_ok (ex_at e 25 rfl)), (F0.bindsN fun _ _ _ _ _ _ us hl => match us, hl with | [_, _], _ => rfl), fun s' u v => .of_eq rfl⟩
  obtain ⟨fd1, F1⟩ := c.def_ 1 (d := d_XInvalidRow)
  obtain ⟨oc1, od1, kV1, doc1, pm1, an1, cdv1, ct1, osl1, rfl, lk1, hcd1⟩ := (He5.fun_of (K := K) (x := "__init__") (qual := "InvalidRow.__init__") (st := My.sXInvalidRow) F1).ex
  have E1 : ∀ base, My.ErrC PP w K mg base "InvalidRow" "part" (ga K "InvalidRow") := fun base => ⟨glo_at X G (ex_at e 27 rfl), (oexB_ok (ex_at e 28 rfl)), (excZ_ok (ex_at e 29 rfl)), (xfB_ok (ex_at e 33 rfl)), (eqO_ok (ex_at e 32 rfl)), _, _, (eqO_ok (ex_at e 30 rfl)), (of_decide_eq_true (ex_at e 31 rfl)), My.ok_XInvalidRow (He5.fun_of F1) ST (oexB_ok (ex_at e 28 rfl)) (eqO_ok (ex_at e 32 rfl)), (F1.bindsN fun _ _ _ _ _ _ us hl => match us, hl with | [_, _], _ => rfl), fun s' u v => .of_eq rfl⟩
  obtain ⟨fd2, F2⟩ := c.def_ 2 (d := d_XInvalidBook)
  obtain ⟨oc2, od2, kV2, doc2, pm2, an2, cdv2, ct2, osl2, rfl, lk2, hcd2⟩ := (He5.fun_of (K := K) (x := "__init__") (qual := "InvalidBook.__init__") (st := My.sXInvalidBook) F2).ex
  have E2 : ∀ base, My.ErrC PP w K mg base "InvalidBook" "word" (ga K "InvalidBook") := fun base => ⟨glo_at X G (ex_at e 34 rfl), (oexB_ok (ex_at e 35 rfl)), (excZ_ok (ex_at e 36 rfl)), (xfB_ok (ex_at e 40 rfl)), (eqO_ok (ex_at e 39 rfl)), _, _, (eqO_ok (ex_at e 37 rfl)), (of_decide_eq_true (ex_at e 38 rfl)), My.ok_XInvalidBook (He5.fun_of F2) ST (oexB_ok (ex_at e 35 rfl)) (eqO_ok (ex_at e 39 rfl)), (F2.bindsN fun _ _ _ _ _ _ us hl => match us, hl with | [_, _], _ => rfl), fun s' u v => .of_eq rfl⟩
  obtain ⟨fd3, F3⟩ := c.def_ 3 (d := d_XInvalidLife)
  obtain ⟨oc3, od3, kV3, doc3, pm3, an3, cdv3, ct3, osl3, rfl, lk3, hcd3⟩ := (He5.fun_of (K := K) (x := "__init__") (qual := "InvalidLife.__init__") (st := My.sXInvalidLife) F3).ex
  have E3 : ∀ base, My.ErrC PP w K mg base "InvalidLife" "at" (ga K "InvalidLife") := fun base => ⟨glo_at X G (ex_at e 41 rfl), (oexB_ok (ex_at e 42 rfl)), (excZ_ok (ex_at e 43 rfl)), (xfB_ok (ex_at e 47 rfl)), (eqO_ok (ex_at e 46 rfl)), _, _, (eqO_ok (ex_at e 44 rfl)), (of_decide_eq_true (ex_at e 45 rfl)), My.ok_XInvalidLife (He5.fun_of F3) ST (oexB_ok (ex_at e 42 rfl)) (eqO_ok (ex_at e 46 rfl)), (F3.bindsN fun _ _ _ _ _ _ us hl => match us, hl with | [_, _], _ => rfl), fun s' u v => .of_eq rfl⟩
  obtain ⟨fd4, F4⟩ := c.def_ 4 (d := d_XNoStatement)
  obtain ⟨oc4, od4, kV4, doc4, pm4, an4, cdv4, ct4, osl4, rfl, lk4, hcd4⟩ := (He5.fun_of (K := K) (x := "__init__") (qual := "NoStatement.__init__") (st := My.sXNoStatement) F4).ex
  have E4 : ∀ base, My.ErrC PP w K mg base "NoStatement" "at" (ga K "NoStatement") := fun base => ⟨glo_at X G (ex_at e 48 rfl), (oexB_ok (ex_at e 49 rfl)), (excZ_ok (ex_at e 50 rfl)), (xfB_ok (ex_at e 54 rfl)), (eqO_ok (ex_at e 53 rfl)), _, _, (eqO_ok (ex_at e 51 rfl)), (of_decide_eq_true (ex_at e 52 rfl)), My.ok_XNoStatement (He5.fun_of F4) ST (oexB_ok (ex_at e 49 rfl)) (eqO_ok (ex_at e 53 rfl)), (F4.bindsN fun _ _ _ _ _ _ us hl => match us, hl with | [_, _], _ => rfl), fun s' u v => .of_eq rfl⟩
  obtain ⟨fd5, F5⟩ := c.def_ 5 (d := d_XNoTotal)
  obtain ⟨oc5, od5, kV5, doc5, pm5, an5, cdv5, ct5, osl5, rfl, lk5, hcd5⟩ := (He5.fun_of (K := K) (x := "__init__") (qual := "NoTotal.__init__") (st := My.sXNoTotal) F5).ex
  have E5 : ∀ base, My.ErrC PP w K mg base "NoTotal" "name" (ga K "NoTotal") := fun base => ⟨glo_at X G (ex_at e 55 rfl), (oexB_ok (ex_at e 56 rfl)), (excZ_ok (ex_at e 57 rfl)), (xfB_ok (ex_at e 61 rfl)), (eqO_ok (ex_at e 60 rfl)), _, _, (eqO_ok (ex_at e 58 rfl)), (of_decide_eq_true (ex_at e 59 rfl)), My.ok_XNoTotal (He5.fun_of F5) ST (oexB_ok (ex_at e 56 rfl)) (eqO_ok (ex_at e 60 rfl)), (F5.bindsN fun _ _ _ _ _ _ us hl => match us, hl with | [_, _], _ => rfl), fun s' u v => .of_eq rfl⟩
  obtain ⟨fd6, F6⟩ := c.def_ 6 (d := d_XNoEvent)
  obtain ⟨oc6, od6, kV6, doc6, pm6, an6, cdv6, ct6, osl6, rfl, lk6, hcd6⟩ := (He5.fun_of (K := K) (x := "__init__") (qual := "NoEvent.__init__") (st := My.sXNoEvent) F6).ex
  have E6 : ∀ base, My.ErrC PP w K mg base "NoEvent" "name" (ga K "NoEvent") := fun base => ⟨glo_at X G (ex_at e 62 rfl), (oexB_ok (ex_at e 63 rfl)), (excZ_ok (ex_at e 64 rfl)), (xfB_ok (ex_at e 68 rfl)), (eqO_ok (ex_at e 67 rfl)), _, _, (eqO_ok (ex_at e 65 rfl)), (of_decide_eq_true (ex_at e 66 rfl)), My.ok_XNoEvent (He5.fun_of F6) ST (oexB_ok (ex_at e 63 rfl)) (eqO_ok (ex_at e 67 rfl)), (F6.bindsN fun _ _ _ _ _ _ us hl => match us, hl with | [_, _], _ => rfl), fun s' u v => .of_eq rfl⟩
  obtain ⟨fd7, F7⟩ := c.def_ 7 (d := d_XRefused)
  obtain ⟨oc7, od7, kV7, doc7, pm7, an7, cdv7, ct7, osl7, rfl, lk7, hcd7⟩ := (He5.fun_of (K := K) (x := "__init__") (qual := "Refused.__init__") (st := My.sXRefused) F7).ex
  have E7 : ∀ base, My.ErrC PP w K mg base "Refused" "word" (ga K "Refused") := fun base => ⟨glo_at X G (ex_at e 69 rfl), (oexB_ok (ex_at e 70 rfl)), (excZ_ok (ex_at e 71 rfl)), (xfB_ok (ex_at e 75 rfl)), (eqO_ok (ex_at e 74 rfl)), _, _, (eqO_ok (ex_at e 72 rfl)), (of_decide_eq_true (ex_at e 73 rfl)), My.ok_XRefused (He5.fun_of F7) ST (oexB_ok (ex_at e 70 rfl)) (eqO_ok (ex_at e 74 rfl)), (F7.bindsN fun _ _ _ _ _ _ us hl => match us, hl with | [_, _], _ => rfl), fun s' u v => .of_eq rfl⟩
  obtain ⟨fd8, F8⟩ := c.def_ 8 (d := d_XInvalidVector)
  obtain ⟨oc8, od8, kV8, doc8, pm8, an8, cdv8, ct8, osl8, rfl, lk8, hcd8⟩ := (He5.fun_of (K := K) (x := "__init__") (qual := "InvalidVector.__init__") (st := My.sXInvalidVector) F8).ex
  have E8 : ∀ base, My.Err0 PP w K mg base "InvalidVector" (ga K "InvalidVector") := fun base => ⟨glo_at X G (ex_at e 76 rfl), (oexB_ok (ex_at e 77 rfl)), (excZ_ok (ex_at e 78 rfl)), _, _, (eqO_ok (ex_at e 79 rfl)), (of_decide_eq_true (ex_at e 80 rfl)), My.ok_XInvalidVector (He5.fun_of F8) ST (oexB_ok (ex_at e 77 rfl)), (F8.bindsN fun _ _ _ _ _ _ us hl => match us, hl with | [_], _ => rfl)⟩
  obtain ⟨fd9, F9⟩ := c.def_ 9 (d := d_XInvalidCommand)
  obtain ⟨oc9, od9, kV9, doc9, pm9, an9, cdv9, ct9, osl9, rfl, lk9, hcd9⟩ := (He5.fun_of (K := K) (x := "__init__") (qual := "InvalidCommand.__init__") (st := My.sXInvalidCommand) F9).ex
  have E9 : ∀ base, My.Err0 PP w K mg base "InvalidCommand" (ga K "InvalidCommand") := fun base => ⟨glo_at X G (ex_at e 81 rfl), (oexB_ok (ex_at e 82 rfl)), (excZ_ok (ex_at e 83 rfl)), _, _, (eqO_ok (ex_at e 84 rfl)), (of_decide_eq_true (ex_at e 85 rfl)), My.ok_XInvalidCommand (He5.fun_of F9) ST (oexB_ok (ex_at e 82 rfl)), (F9.bindsN fun _ _ _ _ _ _ us hl => match us, hl with | [_], _ => rfl)⟩
  obtain ⟨fd10, F10⟩ := c.def_ 10 (d := d_XMismatch)
  obtain ⟨oc10, od10, kV10, doc10, pm10, an10, cdv10, ct10, osl10, rfl, lk10, hcd10⟩ := (He5.fun_of (K := K) (x := "__init__") (qual := "Mismatch.__init__") (st := My.sXMismatch) F10).ex
  have E10 : ∀ base, My.Err0 PP w K mg base "Mismatch" (ga K "Mismatch") := fun base => ⟨glo_at X G (ex_at e 86 rfl), (oexB_ok (ex_at e 87 rfl)), (excZ_ok (ex_at e 88 rfl)), _, _, (eqO_ok (ex_at e 89 rfl)), (of_decide_eq_true (ex_at e 90 rfl)), My.ok_XMismatch (He5.fun_of F10) ST (oexB_ok (ex_at e 87 rfl)), (F10.bindsN fun _ _ _ _ _ _ us hl => match us, hl with | [_], _ => rfl)⟩
  have k1 := (ex_at e 91 rfl)
  have k2 := (ex_at e 92 rfl)
  have k3 := (ex_at e 93 rfl)
  have T : ∀ base, My.ErrT PP w K mg base (ga K "SumError") (cA K) := fun base => ⟨E0 base, E1 base, E2 base, E3 base, E4 base, E5 base, E6 base, E7 base, E8 base, E9 base, E10 base, fun i j hi hj => of_decide_eq_true (List.all_eq_true.mp (List.all_eq_true.mp k1 i (List.mem_range.mpr hi)) j (List.mem_range.mpr hj)), fun i hi => of_decide_eq_true (List.all_eq_true.mp k2 i (List.mem_range.mpr hi)), fun i hi => of_decide_eq_true (List.all_eq_true.mp k3 i (List.mem_range.mpr hi))⟩
  obtain ⟨fd11, F11⟩ := c.def_ 11 (d := d_Box)
  have C_law_box : ∀ base, My.Cal PP w K mg base "_law_box" 1 ["_law_script", "_law_k", "_law_own"] (My.spBox K) := fun base => ⟨_, fd11, glo_at X G (ex_at e 94 rfl), F11.kp, (F11.bindsN fun _ _ _ _ _ _ us hl => match us, hl with | [_, _, _], _ => rfl), My.ok_Box (He5.fun_of F11) Z⟩
  obtain ⟨fd12, F12⟩ := c.def_ 12 (d := d_Take)
  have C_law_take : ∀ base, My.Cal PP w K mg base "_law_take" 1 ["_law_box_here", "_law_many"] My.spTake := fun base => ⟨_, fd12, glo_at X G (ex_at e 95 rfl), F12.kp, (F12.bindsN fun _ _ _ _ _ _ us hl => match us, hl with | [_, _], _ => rfl), My.ok_Take (He5.fun_of F12) Z⟩
  obtain ⟨fd13, F13⟩ := c.def_ 13 (d := d_Pick)
  have C_law_pick : ∀ base, My.Cal PP w K mg base "_law_pick" 2 ["_law_box_here", "_law_items"] (My.spPick K) := fun base => ⟨_, fd13, glo_at X G (ex_at e 96 rfl), F13.kp, (F13.bindsN fun _ _ _ _ _ _ us hl => match us, hl with | [_, _], _ => rfl), My.ok_Pick (He5.fun_of F13) Z (C_law_take base)⟩
  obtain ⟨fd14, F14⟩ := c.def_ 14 (d := d_Value)
  have C_law_value : ∀ base, My.Cal PP w K mg base "_law_value" 3 ["_law_box_here"] (My.spValue K) := fun base => ⟨_, fd14, glo_at X G (ex_at e 97 rfl), F14.kp, (F14.bindsN fun _ _ _ _ _ _ us hl => match us, hl with | [_], _ => rfl), My.ok_Value (He5.fun_of F14) (C_law_pick base)⟩
  obtain ⟨fd15, F15⟩ := c.def_ 15 (d := d_Sorts)
  have C_law_sorts : ∀ base, My.Cal PP w K mg base "_law_sorts" 1 ["_law_one"] (My.spSorts (cA K)) := fun base => ⟨_, fd15, glo_at X G (ex_at e 98 rfl), F15.kp, (F15.bindsN fun _ _ _ _ _ _ us hl => match us, hl with | [_], _ => rfl), My.ok_Sorts (He5.fun_of F15) Z (T base)⟩
  obtain ⟨fd16, F16⟩ := c.def_ 16 (d := d_Made)
  have C_law_made : ∀ base, My.Cal PP w K mg base "_law_made" 3 ["_law_some"] (My.spMade K (cA K)) := fun base => ⟨_, fd16, glo_at X G (ex_at e 99 rfl), F16.kp, (F16.bindsN fun _ _ _ _ _ _ us hl => match us, hl with | [_], _ => rfl), My.ok_Made (He5.fun_of F16) (T base)⟩
  obtain ⟨fd17, F17⟩ := c.def_ 17 (d := d_Named)
  have C_law_named : ∀ base, My.Cal PP w K mg base "_law_named" 3 ["_law_some"] (My.spNamed K (cA K)) := fun base => ⟨_, fd17, glo_at X G (ex_at e 100 rfl), F17.kp, (F17.bindsN fun _ _ _ _ _ _ us hl => match us, hl with | [_], _ => rfl), My.ok_Named (He5.fun_of F17) (T base)⟩
  obtain ⟨fd18, F18⟩ := c.def_ 18 (d := d_Kept)
  have C_law_kept : ∀ base, My.Cal PP w K mg base "_law_kept" 1 ["_law_made_here"] (My.spKept (cA K)) := fun base => ⟨_, fd18, glo_at X G (ex_at e 101 rfl), F18.kp, (F18.bindsN fun _ _ _ _ _ _ us hl => match us, hl with | [_], _ => rfl), My.ok_Kept (He5.fun_of F18) (T base)⟩
  obtain ⟨fd19, F19⟩ := c.def_ 19 (d := d_Law)
  have ef := hfa.symm.trans (glo_at X G (ex_at e 102 rfl))
  cases ef
  have b := FunD.bindsA (ps := ["_law_script"]) F19 fun _ _ _ _ _ _ us hl => match us, hl with | [_], _ => rfl
  exact ⟨fd19, fun s v => b s [v] rfl, fun base _ _ _ => My.ok_Law (He5.fun_of F19) Z (T base) ST (free_ok X G (ex_at e 103 rfl)) (C_law_box base) (C_law_value base) (C_law_sorts base) (C_law_made base) (C_law_named base) (C_law_kept base)⟩
def names : List PySem.Str := ["__name__", "SumError", "InvalidVector", "InvalidText", "InvalidRow", "InvalidBook", "InvalidLife", "InvalidCommand", "NoStatement", "NoTotal", "NoEvent", "Mismatch", "Refused", "__name__", "_law_box", "_law_take", "_law_pick", "_law_value", "_law_sorts", "_law_made", "_law_named", "_law_kept"]
abbrev RR : PySem.W.OpenRow := PySem.W.OpenLaw.row PySem.Challenge.rw_sumlives_k01_errors
abbrev hk : PySem.W.Hook := hookP 5 fnL exB
def ob (s : PySem.W.SharedT) : He.AlD := obsPG 5 fnL exB (HandSHeadRun.getT s)
theorem ob_eq (s : PySem.W.SharedT) : ob s = hk.obs s.abs := obsPG_eq (HandSHeadRun.getT_eq s)
theorem run (w : World) : HandSHeadRun.RunEq RR (PySem.W.view RR.prog [22]) hk ob 8000 names w := by
  intro os
  kernel_rfl
end Pu
open PySem PySem.W PySem.Calls PyProof.Rows
set_option maxRecDepth 100000 in
set_option maxHeartbeats 0 in
theorem PySem.Challenge.cw_sumlives_k01_errors_holds : PySem.Challenge.rw_sumlives_k01_errors.Holds := by
  w_on; o_law
  refine HandSHeadRun.head_any (r := OpenLaw.row PySem.Challenge.rw_sumlives_k01_errors) (q := view (OpenLaw.row PySem.Challenge.rw_sumlives_k01_errors).prog [22]) (H := Pu.hk) (ob := Pu.ob) (M := 8000) (loose := Pu.names) (d := HandSHeadRun.topDef (OpenLaw.row PySem.Challenge.rw_sumlives_k01_errors).prog 22) (kwd := []) Pu.ob_eq
    (by kernel_rfl) (fun s => by kernel_rfl) Pu.run (by kernel_rfl) (by kernel_rfl) (by kernel_rfl) (by rfl) (by first | assumption | decide +kernel) (by decide +kernel) ⟨rfl, rfl, rfl, rfl, rfl, by decide +kernel⟩ ?hw ?hc
  case hw => w_witness2
  case hc =>
    refine My.walkE (l := PySem.Challenge.rw_sumlives_k01_errors) (n := 63) (k := 5) (x := "_law_script") (CX := fun _ => L2.CX0) rfl (by decide) (by kernel_rfl) ⟨rfl, by decide, by decide⟩ (by kernel_rfl) ?F (fun _ _ _ _ _ z => z)
    intro w mg fa h Y G hmg0
    obtain ⟨K, KX, c⟩ := Y
    have hmg : mg ("law" : PySem.Str) = some (.ref fa) := by
      have e : (HandSHeadRun.topDef (OpenLaw.row PySem.Challenge.rw_sumlives_k01_errors).prog 22).name = ("law" : PySem.Str) := by kernel_rfl
      rw [← e]
      exact hmg0
    obtain ⟨fd, hb, hF⟩ := Pu.facts (w := w) KX G hmg c
    exact ⟨K, fd, My.spLaw K, KX, hb, fun H a ns hl hS => ⟨a, ns, rfl, hS, hl, fun _ => rfl⟩, hF⟩
