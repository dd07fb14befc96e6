import PyProof.Rows.All
import Wide.All
import OpenK.AllK
import Wide.FinOn
import HandS.ForMost
import HandS.Strs
import HandS.ForExc
import HandS.CallSlots
import HandS.TryMany
import HandS.Defaults
import HandS.Small
import HandS.More
import HandS.Comp
import HandS.Iter
import HandS.ExcInit
import HandS.IsInst
import HandS.Ends
import HandS.Deep
import HandS.RaiseMore
import HandS.HeadEnd
import PyProof.ReprRoads
import HandS.TupAny
import HandS.SortRule
import HandS.SortInts
import HandS.Steps
import HandS.Set
import HandS.SetFor
import HandS.Zip
import HandS.Zip0
import KE.KDictZip
import KE.GoesMore
import HandS.Style
import HandS.ExcField
import HandS.HeadHook2
import HandS.Words
import KE.KEqDeep
import KE.KStateDown
import Lean
import HandS.Exc
import HandS.Head0
import HandS.Head1
import HandS.Head2
import HandS.HeadHook1
import HandS.HeadHook3
import HandS.HeadHook4
import PySem.Challenge.RW_bothleast_k74_whole_matching_faults
set_option Elab.async false
set_option linter.all false
set_option maxRecDepth 100000
set_option maxHeartbeats 4000000
/-! DL1: data (D), owned things (OD), what a heap holds of them (Rep, OwnsP, holds). -/
namespace DL
open PySem PySem.Spec PyProof.Rows L2

/-! ### data -/
inductive D where
  | non | bl (b : Bool) | int (i : Int) | str (x : Str) | ty (n : String)
  | lst (ds : List D) | tup (ds : List D)
  | dK (kvs : List (Key × D)) | dT (kvs : List (List Key × D))
  | set (xs : List Int)
  | ins (c : Str) (fs : List (Str × D))
  | obj (a : Addr)
  | any
  | ro (ds : List D)
/-- a thing that one owns (or a datum that stands for ever) -/
inductive OD where
  | dat (d : D)
  | lst (xs : List OD)
  | dK (kvs : List (Key × OD))
  | dT (kvs : List (List Key × OD))
  | set (xs : List Int)
  | ins (c : Str) (fs : List (Str × OD))

/-- where the classes stand, and the world -/
structure CA where
  at_ : Str → Addr
  w : World
instance : CoeFun CA fun _ => Str → Addr := ⟨CA.at_⟩
def Ex (H H' : Hp) : Prop := ∀ a o, H a = some o → H' a = some o
theorem Ex.refl (H : Hp) : Ex H H := fun _ _ h => h
theorem Ex.trans {H H1 H2 : Hp} (a : Ex H H1) (b : Ex H1 H2) : Ex H H2 := fun x o h => b x o (a x o h)
theorem Ex.new {H : Hp} {p : Addr} {o : HO} (h : H p = none) : Ex H (upd H p o) := fun a u e => by
  rw [upd_ne (ne_of_none e h)]
  exact e

abbrev FP := Addr → Prop

mutual
/-- the value v stands for the datum d, by what stands in F for ever -/
inductive Rep (K : PySem.W.Frag) (ca : CA) (F : Hp) : D → V → Prop
  | non : Rep K ca F .non .non
  | bl (b : Bool) : Rep K ca F (.bl b) (.bl b)
  | int (i : Int) : Rep K ca F (.int i) (.int i)
  | str (x : Str) : Rep K ca F (.str x) (.str x)
  | ty (n : String) : Rep K ca F (.ty n) (.ty n)
  | lst {ds : List D} {vs : List V} {a : Addr} : F a = some (.lst vs) → Reps K ca F ds vs → Rep K ca F (.lst ds) (.ref a)
  | ro {ds : List D} {vs : List V} {a : Addr} : SqL K F a vs → Reps K ca F ds vs → Rep K ca F (.ro ds) (.ref a)
  | tup {ds : List D} {vs : List V} {a : Addr} : F a = some (.tup vs) → Reps K ca F ds vs → Rep K ca F (.tup ds) (.ref a)
  | dK {kvs : List (Key × D)} {ps : List (Key × V)} {a : Addr} : F a = some (.dK ps) → RepK K ca F kvs ps → Rep K ca F (.dK kvs) (.ref a)
  | dT {kvs : List (List Key × D)} {ps : List (List Key × V)} {a : Addr} : F a = some (.dT ps) → RepT K ca F kvs ps → Rep K ca F (.dT kvs) (.ref a)
  | set {xs : List Int} {S : Int → Bool} {n : Nat} {a : Addr} : F a = some (SetO ca.w a S n) → (∀ i, S i = decide (i ∈ xs)) → n ≤ xs.length → Rep K ca F (.set xs) (.ref a)
  | ins {c : Str} {gs : List (Str × D)} {a dx : Addr} {fs : List (Str × V)} : F a = some (.ins (ca c) dx fs) → RepF K ca F gs fs → Rep K ca F (.ins c gs) (.ref a)
  | obj (a : Addr) : Rep K ca F (.obj a) (.ref a)
  | any (v : V) : Rep K ca F .any v
inductive Reps (K : PySem.W.Frag) (ca : CA) (F : Hp) : List D → List V → Prop
  | nil : Reps K ca F [] []
  | cons {d : D} {v : V} {ds : List D} {vs : List V} : Rep K ca F d v → Reps K ca F ds vs → Reps K ca F (d :: ds) (v :: vs)
inductive RepK (K : PySem.W.Frag) (ca : CA) (F : Hp) : List (Key × D) → List (Key × V) → Prop
  | nil : RepK K ca F [] []
  | cons {k : Key} {d : D} {v : V} {ds : List (Key × D)} {vs : List (Key × V)} : Rep K ca F d v → RepK K ca F ds vs → RepK K ca F ((k, d) :: ds) ((k, v) :: vs)
inductive RepT (K : PySem.W.Frag) (ca : CA) (F : Hp) : List (List Key × D) → List (List Key × V) → Prop
  | nil : RepT K ca F [] []
  | cons {k : List Key} {d : D} {v : V} {ds : List (List Key × D)} {vs : List (List Key × V)} : Rep K ca F d v → RepT K ca F ds vs → RepT K ca F ((k, d) :: ds) ((k, v) :: vs)
inductive RepF (K : PySem.W.Frag) (ca : CA) (F : Hp) : List (Str × D) → List (Str × V) → Prop
  | nil : RepF K ca F [] []
  | cons {k : Str} {d : D} {v : V} {ds : List (Str × D)} {vs : List (Str × V)} : Rep K ca F d v → RepF K ca F ds vs → RepF K ca F ((k, d) :: ds) ((k, v) :: vs)
end

section
variable {K : PySem.W.Frag} {ca : CA} {F F' H H' : Hp}
theorem Ex.sqL (e : Ex F F') {a : Addr} {vs : List V} (h : SqL K F a vs) : SqL K F' a vs := by
  rcases h with (h | ⟨o, h⟩) | h
  · exact .inl (.inl (e _ _ h))
  · exact .inl (.inr ⟨o, e _ _ h⟩)
  · exact .inr h
theorem Ex.sqT (e : Ex F F') {a : Addr} {vs : List V} (h : SqT K F a vs) : SqT K F' a vs := by
  rcases h with (h | ⟨o, h⟩) | h
  · exact .inl (.inl (e _ _ h))
  · exact .inl (.inr ⟨o, e _ _ h⟩)
  · exact .inr h
mutual
theorem Rep.mono (e : Ex F F') : ∀ {d : D} {v : V}, Rep K ca F d v → Rep K ca F' d v
  | _, _, .non => .non
  | _, _, .bl b => .bl b
  | _, _, .int i => .int i
  | _, _, .str x => .str x
  | _, _, .ty n => .ty n
  | _, _, .lst h r => .lst (e _ _ h) (Reps.mono e r)
  | _, _, .ro h r => .ro (e.sqL h) (Reps.mono e r)
  | _, _, .tup h r => .tup (e _ _ h) (Reps.mono e r)
  | _, _, .dK h r => .dK (e _ _ h) (RepK.mono e r)
  | _, _, .dT h r => .dT (e _ _ h) (RepT.mono e r)
  | _, _, .set h a b => .set (e _ _ h) a b
  | _, _, .ins h r => .ins (e _ _ h) (RepF.mono e r)
  | _, _, .obj a => .obj a
  | _, _, .any v => .any v
theorem Reps.mono (e : Ex F F') : ∀ {ds : List D} {vs : List V}, Reps K ca F ds vs → Reps K ca F' ds vs
  | _, _, .nil => .nil
  | _, _, .cons h r => .cons (Rep.mono e h) (Reps.mono e r)
theorem RepK.mono (e : Ex F F') : ∀ {ds : List (Key × D)} {vs : List (Key × V)}, RepK K ca F ds vs → RepK K ca F' ds vs
  | _, _, .nil => .nil
  | _, _, .cons h r => .cons (Rep.mono e h) (RepK.mono e r)
theorem RepT.mono (e : Ex F F') : ∀ {ds : List (List Key × D)} {vs : List (List Key × V)}, RepT K ca F ds vs → RepT K ca F' ds vs
  | _, _, .nil => .nil
  | _, _, .cons h r => .cons (Rep.mono e h) (RepT.mono e r)
theorem RepF.mono (e : Ex F F') : ∀ {ds : List (Str × D)} {vs : List (Str × V)}, RepF K ca F ds vs → RepF K ca F' ds vs
  | _, _, .nil => .nil
  | _, _, .cons h r => .cons (Rep.mono e h) (RepF.mono e r)
end
end

/-! ### owned things -/
mutual
/-- v is the owned thing od: its objects stand in H at addresses that P allows, the data within it in F -/
def OwnsP (K : PySem.W.Frag) (ca : CA) (F H : Hp) : OD → V → FP → Prop
  | .dat d, v, _ => Rep K ca F d v
  | .lst xs, v, P => ∃ p vs, v = .ref p ∧ P p ∧ H p = some (.lst vs) ∧ OwnsL K ca F H xs vs (fun a => P a ∧ a ≠ p)
  | .dK kvs, v, P => ∃ p ps, v = .ref p ∧ P p ∧ H p = some (.dK ps) ∧ OwnsK K ca F H kvs ps (fun a => P a ∧ a ≠ p)
  | .dT kvs, v, P => ∃ p ps, v = .ref p ∧ P p ∧ H p = some (.dT ps) ∧ OwnsT K ca F H kvs ps (fun a => P a ∧ a ≠ p)
  | .set xs, v, P => ∃ p S n, v = .ref p ∧ P p ∧ H p = some (SetO ca.w p S n) ∧ (∀ i, S i = decide (i ∈ xs)) ∧ n ≤ xs.length
  | .ins c gs, v, P => ∃ p dx fs, v = .ref p ∧ P p ∧ P dx ∧ dx ≠ p ∧ H p = some (.ins (ca c) dx fs) ∧ H dx = some (.own p) ∧ OwnsF K ca F H gs fs (fun a => P a ∧ a ≠ p ∧ a ≠ dx)
def OwnsL (K : PySem.W.Frag) (ca : CA) (F H : Hp) : List OD → List V → FP → Prop
  | [], vs, _ => vs = []
  | x :: xs, vs, P => ∃ (v : V) (r : List V) (P1 P2 : FP), vs = v :: r ∧ (∀ a, P1 a → P a) ∧ (∀ a, P2 a → P a) ∧ (∀ a, P1 a → P2 a → False) ∧ OwnsP K ca F H x v P1 ∧ OwnsL K ca F H xs r P2
def OwnsK (K : PySem.W.Frag) (ca : CA) (F H : Hp) : List (Key × OD) → List (Key × V) → FP → Prop
  | [], vs, _ => vs = []
  | (k, x) :: xs, vs, P => ∃ (v : V) (r : List (Key × V)) (P1 P2 : FP), vs = (k, v) :: r ∧ (∀ a, P1 a → P a) ∧ (∀ a, P2 a → P a) ∧ (∀ a, P1 a → P2 a → False) ∧ OwnsP K ca F H x v P1 ∧ OwnsK K ca F H xs r P2
def OwnsT (K : PySem.W.Frag) (ca : CA) (F H : Hp) : List (List Key × OD) → List (List Key × V) → FP → Prop
  | [], vs, _ => vs = []
  | (k, x) :: xs, vs, P => ∃ (v : V) (r : List (List Key × V)) (P1 P2 : FP), vs = (k, v) :: r ∧ (∀ a, P1 a → P a) ∧ (∀ a, P2 a → P a) ∧ (∀ a, P1 a → P2 a → False) ∧ OwnsP K ca F H x v P1 ∧ OwnsT K ca F H xs r P2
def OwnsF (K : PySem.W.Frag) (ca : CA) (F H : Hp) : List (Str × OD) → List (Str × V) → FP → Prop
  | [], vs, _ => vs = []
  | (k, x) :: xs, vs, P => ∃ (v : V) (r : List (Str × V)) (P1 P2 : FP), vs = (k, v) :: r ∧ (∀ a, P1 a → P a) ∧ (∀ a, P2 a → P a) ∧ (∀ a, P1 a → P2 a → False) ∧ OwnsP K ca F H x v P1 ∧ OwnsF K ca F H xs r P2
end

mutual
/-- a thing, let go of: it stands for ever from now on -/
def OD.frz : OD → D
  | .dat d => d
  | .lst xs => .lst (frzL xs)
  | .dK kvs => .dK (frzK kvs)
  | .dT kvs => .dT (frzT kvs)
  | .set xs => .set xs
  | .ins c fs => .ins c (frzF fs)
def frzL : List OD → List D
  | [] => []
  | x :: xs => x.frz :: frzL xs
def frzK : List (Key × OD) → List (Key × D)
  | [] => []
  | (k, x) :: xs => (k, x.frz) :: frzK xs
def frzT : List (List Key × OD) → List (List Key × D)
  | [] => []
  | (k, x) :: xs => (k, x.frz) :: frzT xs
def frzF : List (Str × OD) → List (Str × D)
  | [] => []
  | (k, x) :: xs => (k, x.frz) :: frzF xs
end

section
variable {K : PySem.W.Frag} {ca : CA} {F F' H H' : Hp}
mutual
/-- what an owned thing leans on -/
theorem owns_imp (eF : Ex F F') : ∀ {od : OD} {v : V} {P P' : FP}, (∀ a o, P a → H a = some o → H' a = some o ∧ P' a) → OwnsP K ca F H od v P → OwnsP K ca F' H' od v P'
  | .dat d, v, P, P', h, x => Rep.mono eF (show Rep K ca F d v by rw [OwnsP] at x; exact x) |> fun y => by rw [OwnsP]; exact y
  | .lst xs, v, P, P', h, x => by
    rw [OwnsP] at x ⊢
    obtain ⟨p, vs, rfl, hp, hH, hx⟩ := x
    obtain ⟨h1, h2⟩ := h p _ hp hH
    exact ⟨p, vs, rfl, h2, h1, ownsL_imp eF (fun a o pa ha => ⟨(h a o pa.1 ha).1, (h a o pa.1 ha).2, pa.2⟩) hx⟩
  | .dK xs, v, P, P', h, x => by
    rw [OwnsP] at x ⊢
    obtain ⟨p, vs, rfl, hp, hH, hx⟩ := x
    obtain ⟨h1, h2⟩ := h p _ hp hH
    exact ⟨p, vs, rfl, h2, h1, ownsK_imp eF (fun a o pa ha => ⟨(h a o pa.1 ha).1, (h a o pa.1 ha).2, pa.2⟩) hx⟩
  | .dT xs, v, P, P', h, x => by
    rw [OwnsP] at x ⊢
    obtain ⟨p, vs, rfl, hp, hH, hx⟩ := x
    obtain ⟨h1, h2⟩ := h p _ hp hH
    exact ⟨p, vs, rfl, h2, h1, ownsT_imp eF (fun a o pa ha => ⟨(h a o pa.1 ha).1, (h a o pa.1 ha).2, pa.2⟩) hx⟩
  | .set xs, v, P, P', h, x => by
    rw [OwnsP] at x ⊢
    obtain ⟨p, S, n, rfl, hp, hH, hx⟩ := x
    obtain ⟨h1, h2⟩ := h p _ hp hH
    exact ⟨p, S, n, rfl, h2, h1, hx⟩
  | .ins c gs, v, P, P', h, x => by
    rw [OwnsP] at x ⊢
    obtain ⟨p, dx, fs, rfl, hp, hd, ne, hH, hD, hx⟩ := x
    obtain ⟨h1, h2⟩ := h p _ hp hH
    obtain ⟨h3, h4⟩ := h dx _ hd hD
    exact ⟨p, dx, fs, rfl, h2, h4, ne, h1, h3, ownsF_imp eF (fun a o pa ha => ⟨(h a o pa.1 ha).1, (h a o pa.1 ha).2, pa.2⟩) hx⟩
theorem ownsL_imp (eF : Ex F F') : ∀ {xs : List OD} {vs : List V} {P P' : FP}, (∀ a o, P a → H a = some o → H' a = some o ∧ P' a) → OwnsL K ca F H xs vs P → OwnsL K ca F' H' xs vs P'
  | [], vs, P, P', h, x => by rw [OwnsL] at x ⊢; exact x
  | y :: ys, vs, P, P', h, x => by
    rw [OwnsL] at x ⊢
    obtain ⟨v, r, P1, P2, e, i1, i2, dj, x1, x2⟩ := x
    exact ⟨v, r, fun a => P1 a ∧ P' a, fun a => P2 a ∧ P' a, e, fun a z => z.2, fun a z => z.2, fun a z w => dj a z.1 w.1,
      owns_imp eF (fun a o pa ha => ⟨(h a o (i1 a pa) ha).1, pa, (h a o (i1 a pa) ha).2⟩) x1, ownsL_imp eF (fun a o pa ha => ⟨(h a o (i2 a pa) ha).1, pa, (h a o (i2 a pa) ha).2⟩) x2⟩
theorem ownsK_imp (eF : Ex F F') : ∀ {xs : List (Key × OD)} {vs : List (Key × V)} {P P' : FP}, (∀ a o, P a → H a = some o → H' a = some o ∧ P' a) → OwnsK K ca F H xs vs P → OwnsK K ca F' H' xs vs P'
  | [], vs, P, P', h, x => by rw [OwnsK] at x ⊢; exact x
  | (k, y) :: ys, vs, P, P', h, x => by
    rw [OwnsK] at x ⊢
    obtain ⟨v, r, P1, P2, e, i1, i2, dj, x1, x2⟩ := x
    exact ⟨v, r, fun a => P1 a ∧ P' a, fun a => P2 a ∧ P' a, e, fun a z => z.2, fun a z => z.2, fun a z w => dj a z.1 w.1,
      owns_imp eF (fun a o pa ha => ⟨(h a o (i1 a pa) ha).1, pa, (h a o (i1 a pa) ha).2⟩) x1, ownsK_imp eF (fun a o pa ha => ⟨(h a o (i2 a pa) ha).1, pa, (h a o (i2 a pa) ha).2⟩) x2⟩
theorem ownsT_imp (eF : Ex F F') : ∀ {xs : List (List Key × OD)} {vs : List (List Key × V)} {P P' : FP}, (∀ a o, P a → H a = some o → H' a = some o ∧ P' a) → OwnsT K ca F H xs vs P → OwnsT K ca F' H' xs vs P'
  | [], vs, P, P', h, x => by rw [OwnsT] at x ⊢; exact x
  | (k, y) :: ys, vs, P, P', h, x => by
    rw [OwnsT] at x ⊢
    obtain ⟨v, r, P1, P2, e, i1, i2, dj, x1, x2⟩ := x
    exact ⟨v, r, fun a => P1 a ∧ P' a, fun a => P2 a ∧ P' a, e, fun a z => z.2, fun a z => z.2, fun a z w => dj a z.1 w.1,
      owns_imp eF (fun a o pa ha => ⟨(h a o (i1 a pa) ha).1, pa, (h a o (i1 a pa) ha).2⟩) x1, ownsT_imp eF (fun a o pa ha => ⟨(h a o (i2 a pa) ha).1, pa, (h a o (i2 a pa) ha).2⟩) x2⟩
theorem ownsF_imp (eF : Ex F F') : ∀ {xs : List (Str × OD)} {vs : List (Str × V)} {P P' : FP}, (∀ a o, P a → H a = some o → H' a = some o ∧ P' a) → OwnsF K ca F H xs vs P → OwnsF K ca F' H' xs vs P'
  | [], vs, P, P', h, x => by rw [OwnsF] at x ⊢; exact x
  | (k, y) :: ys, vs, P, P', h, x => by
    rw [OwnsF] at x ⊢
    obtain ⟨v, r, P1, P2, e, i1, i2, dj, x1, x2⟩ := x
    exact ⟨v, r, fun a => P1 a ∧ P' a, fun a => P2 a ∧ P' a, e, fun a z => z.2, fun a z => z.2, fun a z w => dj a z.1 w.1,
      owns_imp eF (fun a o pa ha => ⟨(h a o (i1 a pa) ha).1, pa, (h a o (i1 a pa) ha).2⟩) x1, ownsF_imp eF (fun a o pa ha => ⟨(h a o (i2 a pa) ha).1, pa, (h a o (i2 a pa) ha).2⟩) x2⟩
end
mutual
/-- an owned thing is let go of -/
theorem owns_frz (eF : Ex F F') : ∀ {od : OD} {v : V} {P : FP}, (∀ a o, P a → H a = some o → F' a = some o) → OwnsP K ca F H od v P → Rep K ca F' od.frz v
  | .dat d, v, P, h, x => by
    rw [OwnsP] at x
    exact Rep.mono eF x
  | .lst xs, v, P, h, x => by
    rw [OwnsP] at x
    obtain ⟨p, vs, rfl, hp, hH, hx⟩ := x
    exact .lst (h p _ hp hH) (ownsL_frz eF (fun a o pa ha => h a o pa.1 ha) hx)
  | .dK xs, v, P, h, x => by
    rw [OwnsP] at x
    obtain ⟨p, vs, rfl, hp, hH, hx⟩ := x
    exact .dK (h p _ hp hH) (ownsK_frz eF (fun a o pa ha => h a o pa.1 ha) hx)
  | .dT xs, v, P, h, x => by
    rw [OwnsP] at x
    obtain ⟨p, vs, rfl, hp, hH, hx⟩ := x
    exact .dT (h p _ hp hH) (ownsT_frz eF (fun a o pa ha => h a o pa.1 ha) hx)
  | .set xs, v, P, h, x => by
    rw [OwnsP] at x
    obtain ⟨p, S, n, rfl, hp, hH, a, b⟩ := x
    exact .set (h p _ hp hH) a b
  | .ins c gs, v, P, h, x => by
    rw [OwnsP] at x
    obtain ⟨p, dx, fs, rfl, hp, hd, ne, hH, hD, hx⟩ := x
    exact .ins (h p _ hp hH) (ownsF_frz eF (fun a o pa ha => h a o pa.1 ha) hx)
theorem ownsL_frz (eF : Ex F F') : ∀ {xs : List OD} {vs : List V} {P : FP}, (∀ a o, P a → H a = some o → F' a = some o) → OwnsL K ca F H xs vs P → Reps K ca F' (frzL xs) vs
  | [], vs, P, h, x => by
    rw [OwnsL] at x
    subst x
    exact .nil
  | y :: ys, vs, P, h, x => by
    rw [OwnsL] at x
    obtain ⟨v, r, P1, P2, rfl, i1, i2, dj, x1, x2⟩ := x
    exact .cons (owns_frz eF (fun a o pa ha => h a o (i1 a pa) ha) x1) (ownsL_frz eF (fun a o pa ha => h a o (i2 a pa) ha) x2)
theorem ownsK_frz (eF : Ex F F') : ∀ {xs : List (Key × OD)} {vs : List (Key × V)} {P : FP}, (∀ a o, P a → H a = some o → F' a = some o) → OwnsK K ca F H xs vs P → RepK K ca F' (frzK xs) vs
  | [], vs, P, h, x => by
    rw [OwnsK] at x
    subst x
    exact .nil
  | (k, y) :: ys, vs, P, h, x => by
    rw [OwnsK] at x
    obtain ⟨v, r, P1, P2, rfl, i1, i2, dj, x1, x2⟩ := x
    exact .cons (owns_frz eF (fun a o pa ha => h a o (i1 a pa) ha) x1) (ownsK_frz eF (fun a o pa ha => h a o (i2 a pa) ha) x2)
theorem ownsT_frz (eF : Ex F F') : ∀ {xs : List (List Key × OD)} {vs : List (List Key × V)} {P : FP}, (∀ a o, P a → H a = some o → F' a = some o) → OwnsT K ca F H xs vs P → RepT K ca F' (frzT xs) vs
  | [], vs, P, h, x => by
    rw [OwnsT] at x
    subst x
    exact .nil
  | (k, y) :: ys, vs, P, h, x => by
    rw [OwnsT] at x
    obtain ⟨v, r, P1, P2, rfl, i1, i2, dj, x1, x2⟩ := x
    exact .cons (owns_frz eF (fun a o pa ha => h a o (i1 a pa) ha) x1) (ownsT_frz eF (fun a o pa ha => h a o (i2 a pa) ha) x2)
theorem ownsF_frz (eF : Ex F F') : ∀ {xs : List (Str × OD)} {vs : List (Str × V)} {P : FP}, (∀ a o, P a → H a = some o → F' a = some o) → OwnsF K ca F H xs vs P → RepF K ca F' (frzF xs) vs
  | [], vs, P, h, x => by
    rw [OwnsF] at x
    subst x
    exact .nil
  | (k, y) :: ys, vs, P, h, x => by
    rw [OwnsF] at x
    obtain ⟨v, r, P1, P2, rfl, i1, i2, dj, x1, x2⟩ := x
    exact .cons (owns_frz eF (fun a o pa ha => h a o (i1 a pa) ha) x1) (ownsF_frz eF (fun a o pa ha => h a o (i2 a pa) ha) x2)
end
end

/-! ### a frame's state -/
/-- a slot: nothing is said of it | it holds a thing -/
inductive Sl where
  | no
  | v (od : OD)
/-- a value on its way: a thing | another name of the thing in slot i -/
inductive Tm where
  | v (od : OD)
  | al (i : Nat)
abbrev Own := Sum Nat Nat
/-- where a call began: what stands for ever, the heap, what it may change, what is locked, the slots of its owned arguments (they are not set anew), the arguments -/
structure Base where
  F0 : Hp
  H0 : Hp
  foot : Addr → Prop
  lk : Addr → Option Obj
  pr : Nat → Bool
  v0 : List V
def lock (L : Addr → Option Obj) (H : Hp) : Hp := fun a => match L a, H a with
  | some ob, some u => some (.frz ob u)
  | _, x => x
def isDict : HO → Prop
  | .dK _ => True
  | .dT _ => True
  | _ => False

/-- the things on their way, the last one first; the k-th from below is owned by inr k -/
def TmsR (K : PySem.W.Frag) (ca : CA) (F H : Hp) (ow : Addr → Option Own) (σ : L2.St) : List (V × Tm) → Prop
  | [] => True
  | (v, .v od) :: ts => OwnsP K ca F H od v (fun a => ow a = some (.inr ts.length)) ∧ TmsR K ca F H ow σ ts
  | (v, .al i) :: ts => σ[i]? = some (some v) ∧ TmsR K ca F H ow σ ts
structure Core (K : PySem.W.Frag) (ca : CA) (B : Base) (ds : List Sl) (ts : List (V × Tm)) (σ : L2.St) (F Hu : Hp) (ow : Addr → Option Own) : Prop where
  f0 : Ex B.F0 F
  fh : Ex F Hu
  lks : ∀ a ob, B.lk a = some ob → ∃ u, F a = some u ∧ isDict u
  fresh : ∀ a o, F a = some o → B.F0 a = none → B.H0 a = none
  keep : ∀ a o, B.H0 a = some o → ¬ B.foot a → Hu a = some o
  stay : ∀ a o, B.H0 a = some o → ∃ o', Hu a = some o'
  own : ∀ a x, ow a = some x → F a = none
  ownS : ∀ a i, ow a = some (.inl i) → B.H0 a = none ∨ (B.foot a ∧ B.pr i = true)
  ownT : ∀ a k, ow a = some (.inr k) → B.H0 a = none
  prs : ∀ i, B.pr i = true → ∃ v, B.v0[i]? = some v ∧ σ[i]? = some (some v)
  len : σ.length = ds.length
  sl : ∀ i od, ds[i]? = some (.v od) → ∃ v, σ[i]? = some (some v) ∧ OwnsP K ca F Hu od v (fun a => ow a = some (.inl i))
  tm : TmsR K ca F Hu ow σ ts
def holds (K : PySem.W.Frag) (ca : CA) (B : Base) (ds : List Sl) (ts : List (V × Tm)) (σ : L2.St) (H : Hp) : Prop :=
  ∃ (F Hu : Hp) (ow : Addr → Option Own), H = lock B.lk Hu ∧ Core K ca B ds ts σ F Hu ow

section
variable {K : PySem.W.Frag} {ca : CA} {B : Base} {ds : List Sl} {ts : List (V × Tm)} {σ : L2.St} {F F' Hu Hu' H : Hp} {ow ow' : Addr → Option Own}

theorem tms_imp (eF : Ex F F') : ∀ {ts : List (V × Tm)}, (∀ a o k, k < ts.length → ow a = some (.inr k) → Hu a = some o → Hu' a = some o ∧ ow' a = some (.inr k)) → TmsR K ca F Hu ow σ ts → TmsR K ca F' Hu' ow' σ ts
  | [], _, _ => True.intro
  | (v, .v od) :: ts, h, x => by
    have x1 : OwnsP K ca F Hu od v (fun a => ow a = some (.inr ts.length)) ∧ TmsR K ca F Hu ow σ ts := x
    exact ⟨owns_imp eF (fun a o pa ha => h a o ts.length (Nat.lt_succ_self _) pa ha) x1.1, tms_imp eF (fun a o k hk pa ha => h a o k (Nat.lt_succ_of_lt hk) pa ha) x1.2⟩
  | (v, .al i) :: ts, h, x => by
    have x1 : σ[i]? = some (some v) ∧ TmsR K ca F Hu ow σ ts := x
    exact ⟨x1.1, tms_imp eF (fun a o k hk pa ha => h a o k (Nat.lt_succ_of_lt hk) pa ha) x1.2⟩

/-- F has what H has of lists, tuples, instances -/
theorem Core.at (C : Core K ca B ds ts σ F Hu ow) {a : Addr} {o : HO} (h : F a = some o) (nd : ¬ isDict o) : (lock B.lk Hu) a = some o := by
  have e := C.fh a o h
  unfold lock
  cases q : B.lk a with
  | none => simp [e]
  | some ob =>
    obtain ⟨u, h2, h3⟩ := C.lks a ob q
    rw [h] at h2
    cases h2
    exact absurd h3 nd
theorem Core.rd (C : Core K ca B ds ts σ F Hu ow) {a : Addr} {o : HO} (h : F a = some o) : Rd (lock B.lk Hu) a o := by
  have e := C.fh a o h
  unfold lock
  cases q : B.lk a with
  | none => exact .inl (by simp [q, e])
  | some ob => exact .inr ⟨ob, by simp [q, e]⟩
theorem Core.sqL (C : Core K ca B ds ts σ F Hu ow) {a : Addr} {vs : List V} (h : SqL K F a vs) : SqL K (lock B.lk Hu) a vs := by
  rcases h with (h | ⟨o, h⟩) | h
  · exact .inl (.inl (C.at h (fun z => z)))
  · exact .inl (.inr ⟨o, C.at h (fun z => z)⟩)
  · exact .inr h
theorem Core.sqT (C : Core K ca B ds ts σ F Hu ow) {a : Addr} {vs : List V} (h : SqT K F a vs) : SqT K (lock B.lk Hu) a vs := by
  rcases h with (h | ⟨o, h⟩) | h
  · exact .inl (.inl (C.at h (fun z => z)))
  · exact .inl (.inr ⟨o, C.at h (fun z => z)⟩)
  · exact .inr h
/-- an owned object is not locked -/
theorem Core.nolk (C : Core K ca B ds ts σ F Hu ow) {a : Addr} {x : Own} (h : ow a = some x) : B.lk a = none := by
  cases q : B.lk a with
  | none => rfl
  | some ob =>
    obtain ⟨u, h2, _⟩ := C.lks a ob q
    rw [C.own a x h] at h2
    cases h2
theorem lock_none {L : Addr → Option Obj} {H : Hp} {a : Addr} (h : L a = none) : lock L H a = H a := by
  unfold lock
  rw [h]
theorem lock_isNone {L : Addr → Option Obj} {H : Hp} {a : Addr} (h : lock L H a = none) : H a = none := by
  unfold lock at h
  cases q : L a with
  | none => rw [q] at h; exact h
  | some ob =>
    rw [q] at h
    cases r : H a with
    | none => rfl
    | some u => rw [r] at h; cases h
theorem lock_upd {L : Addr → Option Obj} {H : Hp} {a : Addr} {o : HO} (h : L a = none) : upd (lock L H) a o = lock L (upd H a o) := by
  funext b
  by_cases e : b = a
  · rw [e, upd_same, lock_none h, upd_same]
  · rw [upd_ne e]
    unfold lock
    rw [upd_ne e]
/-- a free address is not locked -/
theorem Core.nolk0 (C : Core K ca B ds ts σ F Hu ow) {a : Addr} (h : lock B.lk Hu a = none) : B.lk a = none := by
  cases q : B.lk a with
  | none => rfl
  | some ob =>
    obtain ⟨u, h2, _⟩ := C.lks a ob q
    have := C.fh _ _ h2
    rw [lock_isNone h] at this
    cases this
theorem Core.free (C : Core K ca B ds ts σ F Hu ow) {a : Addr} (h : Hu a = none) : F a = none := by
  cases q : F a with
  | none => rfl
  | some u =>
    rw [C.fh _ _ q] at h
    cases h

/-! ### the moves -/
theorem holds.pop {t : V × Tm} (h : holds K ca B ds (t :: ts) σ H) : holds K ca B ds ts σ H := by
  obtain ⟨F, Hu, ow, e, C⟩ := h
  refine ⟨F, Hu, ow, e, C.f0, C.fh, C.lks, C.fresh, C.keep, C.stay, C.own, C.ownS, C.ownT, C.prs, C.len, C.sl, ?_⟩
  have x := C.tm
  obtain ⟨v, (od | i)⟩ := t
  · exact x.2
  · exact x.2
/-- the value of a slot that holds a datum -/
theorem holds.var {i : Nat} {d : D} (h : holds K ca B ds ts σ H) (hi : ds[i]? = some (.v (.dat d))) : ∃ v, σ[i]? = some (some v) ∧ holds K ca B ds ((v, .v (.dat d)) :: ts) σ H := by
  obtain ⟨F, Hu, ow, e, C⟩ := h
  obtain ⟨v, hv, x⟩ := C.sl i _ hi
  refine ⟨v, hv, F, Hu, ow, e, C.f0, C.fh, C.lks, C.fresh, C.keep, C.stay, C.own, C.ownS, C.ownT, C.prs, C.len, C.sl, ?_, C.tm⟩
  rw [OwnsP] at x ⊢
  exact x
/-- another name of a slot's thing -/
theorem holds.alias {i : Nat} {od : OD} (h : holds K ca B ds ts σ H) (hi : ds[i]? = some (.v od)) : ∃ v, σ[i]? = some (some v) ∧ holds K ca B ds ((v, .al i) :: ts) σ H := by
  obtain ⟨F, Hu, ow, e, C⟩ := h
  obtain ⟨v, hv, x⟩ := C.sl i _ hi
  exact ⟨v, hv, F, Hu, ow, e, C.f0, C.fh, C.lks, C.fresh, C.keep, C.stay, C.own, C.ownS, C.ownT, C.prs, C.len, C.sl, hv, C.tm⟩
/-- a plain value -/
theorem holds.val {d : D} {v : V} (h : holds K ca B ds ts σ H) (r : ∀ F : Hp, Rep K ca F d v) : holds K ca B ds ((v, .v (.dat d)) :: ts) σ H := by
  obtain ⟨F, Hu, ow, e, C⟩ := h
  refine ⟨F, Hu, ow, e, C.f0, C.fh, C.lks, C.fresh, C.keep, C.stay, C.own, C.ownS, C.ownT, C.prs, C.len, C.sl, ?_, C.tm⟩
  rw [OwnsP]
  exact r F
/-- what a datum's value is -/
theorem holds.rep {d : D} {v : V} (h : holds K ca B ds ((v, .v (.dat d)) :: ts) σ H) : ∃ (F Hu : Hp) (ow : Addr → Option Own), H = lock B.lk Hu ∧ Core K ca B ds ((v, .v (.dat d)) :: ts) σ F Hu ow ∧ Rep K ca F d v := by
  obtain ⟨F, Hu, ow, e, C⟩ := h
  refine ⟨F, Hu, ow, e, C, ?_⟩
  have x := C.tm
  have x1 : OwnsP K ca F Hu (.dat d) v (fun a => ow a = some (.inr ts.length)) := x.1
  rw [OwnsP] at x1
  exact x1
theorem holds.int {i : Int} {v : V} (h : holds K ca B ds ((v, .v (.dat (.int i))) :: ts) σ H) : v = .int i := by
  obtain ⟨_, _, _, _, _, r⟩ := h.rep
  cases r
  rfl
theorem holds.bl {b : Bool} {v : V} (h : holds K ca B ds ((v, .v (.dat (.bl b))) :: ts) σ H) : v = .bl b := by
  obtain ⟨_, _, _, _, _, r⟩ := h.rep
  cases r
  rfl
theorem holds.str {x : Str} {v : V} (h : holds K ca B ds ((v, .v (.dat (.str x))) :: ts) σ H) : v = .str x := by
  obtain ⟨_, _, _, _, _, r⟩ := h.rep
  cases r
  rfl
theorem holds.non {v : V} (h : holds K ca B ds ((v, .v (.dat .non)) :: ts) σ H) : v = .non := by
  obtain ⟨_, _, _, _, _, r⟩ := h.rep
  cases r
  rfl
/-- a slot is forgotten -/
theorem holds.forget {i : Nat} (h : holds K ca B ds ts σ H) : holds K ca B (ds.set i .no) ts σ H := by
  obtain ⟨F, Hu, ow, e, C⟩ := h
  refine ⟨F, Hu, ow, e, C.f0, C.fh, C.lks, C.fresh, C.keep, C.stay, C.own, C.ownS, C.ownT, C.prs, by rw [List.length_set]; exact C.len, fun j od hj => ?_, C.tm⟩
  by_cases hij : i = j
  · subst hij
    by_cases hl : i < ds.length
    · rw [List.getElem?_set_self hl] at hj
      cases hj
    · rw [List.getElem?_eq_none (by rw [List.length_set]; omega)] at hj
      cases hj
  · rw [List.getElem?_set_ne hij] at hj
    exact C.sl j od hj
end
end DL
/-! DL2: the moves over holds: new things, slots set, things changed, things let go of. -/
namespace DL
open PySem PySem.Spec PyProof.Rows L2

def pushAll : List V → List Tm → List (V × Tm) → List (V × Tm)
  | v :: vs, o :: os, ts => pushAll vs os ((v, o) :: ts)
  | _, _, ts => ts
abbrev tds (ds : List D) : List Tm := ds.map fun d => .v (.dat d)
abbrev tvs (xs : List OD) : List Tm := xs.map .v
def noAl (i : Nat) (ts : List (V × Tm)) : Prop := ∀ v, (v, Tm.al i) ∉ ts

section
variable {K : PySem.W.Frag} {ca : CA} {B : Base} {ds : List Sl} {ts : List (V × Tm)} {σ : L2.St} {F F' Hu Hu' H : Hp} {ow ow' : Addr → Option Own}

/-- the last things on their way, all owned, make one -/
theorem tms_pushAll : ∀ {xs : List OD} {vs : List V} {ts : List (V × Tm)}, xs.length = vs.length → TmsR K ca F Hu ow σ (pushAll vs (tvs xs) ts) →
    OwnsL K ca F Hu xs vs (fun a => ∃ k, ts.length ≤ k ∧ ow a = some (.inr k)) ∧ TmsR K ca F Hu ow σ ts
  | [], [], ts, _, h => ⟨by rw [OwnsL], h⟩
  | x :: xs, v :: vs, ts, hl, h => by
    have h1 : TmsR K ca F Hu ow σ (pushAll vs (tvs xs) ((v, .v x) :: ts)) := h
    obtain ⟨h2, h3⟩ := tms_pushAll (xs := xs) (vs := vs) (by simpa using hl) h1
    have h4 : OwnsP K ca F Hu x v (fun a => ow a = some (.inr ts.length)) ∧ TmsR K ca F Hu ow σ ts := h3
    refine ⟨?_, h4.2⟩
    rw [OwnsL]
    refine ⟨v, vs, _, _, rfl, fun a ha => ⟨ts.length, Nat.le_refl _, ha⟩, fun a ⟨k, hk, ha⟩ => ⟨k, ?_, ha⟩, fun a h1 ⟨k, hk, h2⟩ => ?_, h4.1, h2⟩
    · exact Nat.le_of_succ_le hk
    · have e : ow a = some (.inr ts.length) := h1
      rw [e] at h2
      cases h2
      exact absurd hk (Nat.not_succ_le_self _)
theorem reps_of_ownsL : ∀ {xs : List D} {vs : List V} {P : FP}, OwnsL K ca F Hu (xs.map .dat) vs P → Reps K ca F xs vs
  | [], vs, P, h => by
    have h' : OwnsL K ca F Hu [] vs P := h
    rw [OwnsL] at h'
    subst h'
    exact .nil
  | x :: xs, vs, P, h => by
    have h' : OwnsL K ca F Hu (.dat x :: xs.map .dat) vs P := h
    rw [OwnsL] at h'
    obtain ⟨v, r, P1, P2, rfl, _, _, _, h1, h2⟩ := h'
    rw [OwnsP] at h1
    exact .cons h1 (reps_of_ownsL h2)
theorem ownsL_of_reps : ∀ {xs : List D} {vs : List V} {P : FP}, Reps K ca F xs vs → OwnsL K ca F Hu (xs.map .dat) vs P
  | _, _, P, .nil => by
    show OwnsL K ca F Hu [] [] P
    rw [OwnsL]
  | _, _, P, .cons (d := d) (ds := ds) h r => by
    show OwnsL K ca F Hu (.dat d :: ds.map .dat) _ P
    rw [OwnsL]
    refine ⟨_, _, fun _ => False, fun a => P a, rfl, fun a z => z.elim, fun a z => z, fun a z _ => z, ?_, ownsL_of_reps r⟩
    rw [OwnsP]
    exact h
theorem tds_tvs (xs : List D) : tds xs = tvs (xs.map .dat) := by
  simp [tds, tvs]
/-- the other part of a list of things on their way -/
theorem tms_rest : ∀ {os : List Tm} {vs : List V} {ts : List (V × Tm)}, TmsR K ca F Hu ow σ (pushAll vs os ts) → TmsR K ca F Hu ow σ ts
  | [], [], ts, h => h
  | [], _ :: _, ts, h => h
  | _ :: _, [], ts, h => h
  | o :: os, v :: vs, ts, h => by
    have h3 : TmsR K ca F Hu ow σ ((v, o) :: ts) := tms_rest (os := os) (vs := vs) h
    cases o with
    | v od => exact h3.2
    | al i => exact h3.2

/-- a state by another owner function -/
theorem Core.relabel (C : Core K ca B ds ts σ F Hu ow) (h1 : ∀ a i, ow' a = some (.inl i) → ow a = some (.inl i)) (h1' : ∀ a k, ow' a = some (.inr k) → ∃ j, ow a = some (.inr j)) (h2 : ∀ a i, ow a = some (.inl i) → ow' a = some (.inl i)) (ts' : List (V × Tm)) (h3 : TmsR K ca F Hu ow' σ ts') : Core K ca B ds ts' σ F Hu ow' := by
  refine ⟨C.f0, C.fh, C.lks, C.fresh, C.keep, C.stay, fun a x hx => ?_, fun a i h => C.ownS a i (h1 a i h), fun a k h => ?_, C.prs, C.len, fun i od hi => ?_, h3⟩
  · cases x with
    | inl i => exact C.own a _ (h1 a i hx)
    | inr k =>
      obtain ⟨j, e⟩ := h1' a k hx
      exact C.own a _ e
  · obtain ⟨j, e⟩ := h1' a k h
    exact C.ownT a j e
  · obtain ⟨v, hv, o⟩ := C.sl i od hi
    exact ⟨v, hv, owns_imp (Ex.refl _) (fun a o pa ha => ⟨ha, h2 a i pa⟩) o⟩
/-- others things on their way -/
theorem Core.tms (C : Core K ca B ds ts σ F Hu ow) (ts' : List (V × Tm)) (h3 : TmsR K ca F Hu ow σ ts') : Core K ca B ds ts' σ F Hu ow :=
  C.relabel (fun a x h => h) (fun a k h => ⟨k, h⟩) (fun _ _ h => h) ts' h3

theorem Core.h0free (C : Core K ca B ds ts σ F Hu ow) {p : Addr} (hp : Hu p = none) : B.H0 p = none := by
  cases q : B.H0 p with
  | none => rfl
  | some u =>
    obtain ⟨o, e⟩ := C.stay _ _ q
    rw [hp] at e
    cases e
/-- a new thing stands for ever -/
theorem Core.newF {p : Addr} {o : HO} (C : Core K ca B ds ts σ F Hu ow) (hp : Hu p = none) : Core K ca B ds ts σ (upd F p o) (upd Hu p o) (fun a => if a = p then none else ow a) := by
  have hF := C.free hp
  have hB := C.h0free hp
  have np : ∀ {a : Addr} {x : Own}, (if a = p then none else ow a) = some x → a ≠ p ∧ ow a = some x := fun {a x} h => by
    by_cases e : a = p
    · rw [if_pos e] at h
      cases h
    · rw [if_neg e] at h
      exact ⟨e, h⟩
  refine ⟨C.f0.trans (Ex.new hF), fun a u h => ?_, fun a ob h => ?_, fun a u h hn => ?_, fun a u h hf => ?_, fun a u h => ?_, fun a x h => ?_, fun a i h => C.ownS a i (np h).2, fun a k h => C.ownT a k (np h).2, C.prs, C.len, fun i od hi => ?_, ?_⟩
  · by_cases e : a = p
    · subst e
      rw [upd_same] at h ⊢
      exact h
    · rw [upd_ne e] at h ⊢
      exact C.fh _ _ h
  · obtain ⟨u, h2, h3⟩ := C.lks a ob h
    exact ⟨u, Ex.new hF _ _ h2, h3⟩
  · by_cases e : a = p
    · rw [e]
      exact hB
    · rw [upd_ne e] at h
      exact C.fresh a u h hn
  · rw [upd_ne (ne_of_none h hB)]
    exact C.keep a u h hf
  · rw [upd_ne (ne_of_none h hB)]
    exact C.stay a u h
  · rw [upd_ne (np h).1]
    exact C.own a x (np h).2
  · obtain ⟨v, hv, x⟩ := C.sl i od hi
    exact ⟨v, hv, owns_imp (Ex.new hF) (fun a o pa ha => ⟨Ex.new hp _ _ ha, by show (if a = p then none else ow a) = _; rw [if_neg (ne_of_none ha hp)]; exact pa⟩) x⟩
  · exact tms_imp (Ex.new hF) (fun a o k _ pa ha => ⟨Ex.new hp _ _ ha, by rw [if_neg (ne_of_none ha hp)]; exact pa⟩) C.tm
/-- a new object that one owns -/
theorem Core.newO {p : Addr} {o : HO} {k : Nat} (C : Core K ca B ds ts σ F Hu ow) (hp : Hu p = none) : Core K ca B ds ts σ F (upd Hu p o) (fun a => if a = p then some (.inr k) else ow a) := by
  have hF := C.free hp
  have hB := C.h0free hp
  refine ⟨C.f0, fun a u h => ?_, C.lks, C.fresh, fun a u h hf => ?_, fun a u h => ?_, fun a x h => ?_, fun a i h => ?_, fun a j h => ?_, C.prs, C.len, fun i od hi => ?_, ?_⟩
  · rw [upd_ne (ne_of_none h hF)]
    exact C.fh _ _ h
  · rw [upd_ne (ne_of_none h hB)]
    exact C.keep a u h hf
  · rw [upd_ne (ne_of_none h hB)]
    exact C.stay a u h
  · by_cases e : a = p
    · rw [e]
      exact hF
    · rw [if_neg e] at h
      exact C.own a x h
  · by_cases e : a = p
    · rw [if_pos e] at h
      cases h
    · rw [if_neg e] at h
      exact C.ownS a i h
  · by_cases e : a = p
    · rw [e]
      exact hB
    · rw [if_neg e] at h
      exact C.ownT a j h
  · obtain ⟨v, hv, x⟩ := C.sl i od hi
    exact ⟨v, hv, owns_imp (Ex.refl _) (fun a o pa ha => ⟨Ex.new hp _ _ ha, by show (if a = p then some (Sum.inr k) else ow a) = _; rw [if_neg (ne_of_none ha hp)]; exact pa⟩) x⟩
  · exact tms_imp (Ex.refl _) (fun a o k _ pa ha => ⟨Ex.new hp _ _ ha, by rw [if_neg (ne_of_none ha hp)]; exact pa⟩) C.tm

/-! ### new things -/
theorem holds.newTup {xs : List D} {vs : List V} {p : Addr} (h : holds K ca B ds (pushAll vs (tds xs) ts) σ H) (hl : vs.length = xs.length) (hp : H p = none) : holds K ca B ds ((.ref p, .v (.dat (.tup xs))) :: ts) σ (upd H p (.tup vs)) := by
  obtain ⟨F, Hu, ow, rfl, C⟩ := h
  have hu := lock_isNone hp
  have C1 := C.newF (o := .tup vs) hu
  refine ⟨_, _, _, lock_upd (C.nolk0 hp), C1.tms _ ?_⟩
  have t1 := C1.tm
  rw [tds_tvs] at t1
  obtain ⟨r, t2⟩ := tms_pushAll (by rw [List.length_map]; exact hl.symm) t1
  refine ⟨?_, t2⟩
  rw [OwnsP]
  exact .tup upd_same (reps_of_ownsL r)
theorem holds.newLst {xs : List OD} {vs : List V} {p : Addr} (h : holds K ca B ds (pushAll vs (tvs xs) ts) σ H) (hl : vs.length = xs.length) (hp : H p = none) : holds K ca B ds ((.ref p, .v (.lst xs)) :: ts) σ (upd H p (.lst vs)) := by
  obtain ⟨F, Hu, ow, rfl, C⟩ := h
  have hu := lock_isNone hp
  obtain ⟨r0, t0⟩ := tms_pushAll hl.symm C.tm
  let ow2 : Addr → Option Own := fun a => match ow a with
    | some (.inr k) => if ts.length ≤ k then some (.inr ts.length) else some (.inr k)
    | x => x
  have C0 : Core K ca B ds ts σ F Hu ow2 := C.relabel (fun a i hx => by
      cases q : ow a with
      | none => simp [ow2, q] at hx
      | some y =>
        cases y with
        | inl j => simp [ow2, q] at hx; simp [hx]
        | inr j =>
          by_cases hj : ts.length ≤ j
          · simp [ow2, q, hj] at hx
          · simp [ow2, q, hj] at hx) (fun a k hx => by
      cases q : ow a with
      | none => simp [ow2, q] at hx
      | some y =>
        cases y with
        | inl j => simp [ow2, q] at hx
        | inr j => exact ⟨j, rfl⟩) (fun a i hi => by simp [ow2, hi]) ts (tms_imp (Ex.refl _) (fun a o k hk pa ha => ⟨ha, by simp [ow2, pa]; omega⟩) t0)
  have r1 : OwnsL K ca F Hu xs vs (fun a => ow2 a = some (.inr ts.length)) := ownsL_imp (Ex.refl _) (fun a o pa ha => by
    obtain ⟨k, hk, e⟩ := pa
    exact ⟨ha, by simp [ow2, e, hk]⟩) r0
  have C1 := C0.newO (o := .lst vs) (k := ts.length) hu
  refine ⟨_, _, _, lock_upd (C.nolk0 hp), C1.tms _ ⟨?_, C1.tm⟩⟩
  rw [OwnsP]
  refine ⟨p, vs, rfl, if_pos rfl, upd_same, ownsL_imp (Ex.refl _) (fun a o pa ha => ⟨Ex.new hu _ _ ha, ?_, ne_of_none ha hu⟩) r1⟩
  show (if a = p then some (Sum.inr ts.length) else ow2 a) = _
  rw [if_neg (ne_of_none ha hu)]
  exact pa
theorem holds.newDK {p : Addr} (h : holds K ca B ds ts σ H) (hp : H p = none) : holds K ca B ds ((.ref p, .v (.dK [])) :: ts) σ (upd H p (.dK [])) := by
  obtain ⟨F, Hu, ow, rfl, C⟩ := h
  have hu := lock_isNone hp
  have C1 := C.newO (o := .dK []) (k := ts.length) hu
  refine ⟨_, _, _, lock_upd (C.nolk0 hp), C1.tms _ ⟨?_, C1.tm⟩⟩
  rw [OwnsP]
  exact ⟨p, [], rfl, if_pos rfl, upd_same, by rw [OwnsK]⟩
theorem holds.newDT {p : Addr} (h : holds K ca B ds ts σ H) (hp : H p = none) : holds K ca B ds ((.ref p, .v (.dT [])) :: ts) σ (upd H p (.dT [])) := by
  obtain ⟨F, Hu, ow, rfl, C⟩ := h
  have hu := lock_isNone hp
  have C1 := C.newO (o := .dT []) (k := ts.length) hu
  refine ⟨_, _, _, lock_upd (C.nolk0 hp), C1.tms _ ⟨?_, C1.tm⟩⟩
  rw [OwnsP]
  exact ⟨p, [], rfl, if_pos rfl, upd_same, by rw [OwnsT]⟩
theorem holds.newSet {p : Addr} {xs : List Int} {S : Int → Bool} {n : Nat} (h : holds K ca B ds ts σ H) (hp : H p = none) (hS : ∀ i, S i = decide (i ∈ xs)) (hn : n ≤ xs.length) : holds K ca B ds ((.ref p, .v (.set xs)) :: ts) σ (upd H p (SetO ca.w p S n)) := by
  obtain ⟨F, Hu, ow, rfl, C⟩ := h
  have hu := lock_isNone hp
  have C1 := C.newO (o := SetO ca.w p S n) (k := ts.length) hu
  refine ⟨_, _, _, lock_upd (C.nolk0 hp), C1.tms _ ⟨?_, C1.tm⟩⟩
  rw [OwnsP]
  exact ⟨p, S, n, rfl, if_pos rfl, upd_same, hS, hn⟩
theorem holds.newIns {c : Str} {p dx : Addr} (h : holds K ca B ds ts σ H) (hp : H p = none) (hd : H dx = none) (ne : dx ≠ p) : holds K ca B ds ((.ref p, .v (.ins c [])) :: ts) σ (upd (upd H dx (.own p)) p (.ins (ca c) dx [])) := by
  obtain ⟨F, Hu, ow, rfl, C⟩ := h
  have hu := lock_isNone hp
  have hud := lock_isNone hd
  have C1 := C.newO (o := .own p) (k := ts.length) hud
  have hu1 : upd Hu dx (.own p) p = none := by rw [upd_ne ne.symm]; exact hu
  have C2 := C1.newO (o := .ins (ca c) dx []) (k := ts.length) hu1
  refine ⟨_, _, _, by rw [lock_upd (C.nolk0 hd), lock_upd (C.nolk0 hp)], C2.tms _ ⟨?_, C2.tm⟩⟩
  rw [OwnsP]
  exact ⟨p, dx, [], rfl, if_pos rfl, by show (if dx = p then _ else if dx = dx then _ else _) = _; rw [if_neg ne, if_pos rfl], ne, upd_same, by rw [upd_ne ne, upd_same], by rw [OwnsF]⟩

/-! ### letting go -/
/-- what P picks of the owned things stands for ever from now on -/
theorem Core.letgo (C : Core K ca B ds ts σ F Hu ow) (w : Own) (hw : ∀ a, ow a = some w → B.H0 a = none) :
    Ex F (fun a => if ow a = some w then Hu a else F a) ∧ Ex B.F0 (fun a => if ow a = some w then Hu a else F a) ∧ Ex (fun a => if ow a = some w then Hu a else F a) Hu ∧
    (∀ a ob, B.lk a = some ob → ∃ u, (if ow a = some w then Hu a else F a) = some u ∧ isDict u) ∧ (∀ a o, (if ow a = some w then Hu a else F a) = some o → B.F0 a = none → B.H0 a = none) ∧
    (∀ a x, (if ow a = some w then none else ow a) = some x → ow a = some x ∧ x ≠ w ∧ (if ow a = some w then Hu a else F a) = none) := by
  have eF : Ex F (fun a => if ow a = some w then Hu a else F a) := fun a o e => by
    by_cases q : ow a = some w
    · rw [C.own a _ q] at e
      cases e
    · show (if ow a = some w then Hu a else F a) = some o
      rw [if_neg q]
      exact e
  refine ⟨eF, C.f0.trans eF, fun a o e => ?_, fun a ob e => ?_, fun a o e hn => ?_, fun a x e => ?_⟩
  · by_cases q : ow a = some w
    · have e' : (if ow a = some w then Hu a else F a) = some o := e
      rw [if_pos q] at e'
      exact e'
    · have e' : (if ow a = some w then Hu a else F a) = some o := e
      rw [if_neg q] at e'
      exact C.fh _ _ e'
  · obtain ⟨u, h2, h3⟩ := C.lks a ob e
    exact ⟨u, eF _ _ h2, h3⟩
  · by_cases q : ow a = some w
    · exact hw a q
    · rw [if_neg q] at e
      exact C.fresh a o e hn
  · by_cases q : ow a = some w
    · rw [if_pos q] at e
      cases e
    · rw [if_neg q] at e ⊢
      exact ⟨e, fun z => q (by rw [e, z]), C.own a x e⟩
theorem holds.frz {v : V} {od : OD} (h : holds K ca B ds ((v, .v od) :: ts) σ H) : holds K ca B ds ((v, .v (.dat od.frz)) :: ts) σ H := by
  obtain ⟨F, Hu, ow, rfl, C⟩ := h
  have t := C.tm
  have t1 : OwnsP K ca F Hu od v (fun a => ow a = some (.inr ts.length)) := t.1
  have t2 : TmsR K ca F Hu ow σ ts := t.2
  obtain ⟨e1, e2, e3, e4, e5, e6⟩ := C.letgo (.inr ts.length) (fun a q => C.ownT a _ q)
  refine ⟨_, Hu, fun a => if ow a = some (.inr ts.length) then none else ow a, rfl, e2, e3, e4, e5, C.keep, C.stay, fun a x e => (e6 a x e).2.2, fun a i e => C.ownS a i (e6 a _ e).1, fun a k e => C.ownT a k (e6 a _ e).1, C.prs, C.len, fun i od hi => ?_, ?_, ?_⟩
  · obtain ⟨v, hv, x⟩ := C.sl i od hi
    refine ⟨v, hv, owns_imp e1 (fun a o pa ha => ⟨ha, ?_⟩) x⟩
    have pa' : ow a = some (.inl i) := pa
    show (if ow a = some (Sum.inr ts.length) then none else ow a) = some (Sum.inl i)
    rw [if_neg (by rw [pa']; intro z; cases z)]
    exact pa'
  · rw [OwnsP]
    exact owns_frz e1 (fun a o pa ha => by
      have pa' : ow a = some (.inr ts.length) := pa
      show (if ow a = some (Sum.inr ts.length) then Hu a else F a) = some o
      rw [if_pos pa']
      exact ha) t1
  · refine tms_imp e1 (fun a o k hk pa ha => ⟨ha, ?_⟩) t2
    rw [if_neg (by rw [pa]; intro z; cases z; exact Nat.lt_irrefl _ hk)]
    exact pa
/-- the thing in a slot is let go of -/
theorem holds.frzS {i : Nat} {od : OD} (h : holds K ca B ds ts σ H) (hi : ds[i]? = some (.v od)) (hp : B.pr i = false) : holds K ca B (ds.set i (.v (.dat od.frz))) ts σ H := by
  obtain ⟨F, Hu, ow, rfl, C⟩ := h
  obtain ⟨e1, e2, e3, e4, e5, e6⟩ := C.letgo (.inl i) (fun a q => (C.ownS a _ q).elim id fun z => by rw [hp] at z; exact absurd z.2 (by decide))
  refine ⟨_, Hu, fun a => if ow a = some (.inl i) then none else ow a, rfl, e2, e3, e4, e5, C.keep, C.stay, fun a x e => (e6 a x e).2.2, fun a i e => C.ownS a i (e6 a _ e).1, fun a k e => C.ownT a k (e6 a _ e).1, C.prs, by rw [List.length_set]; exact C.len, fun j od' hj => ?_, ?_⟩
  · by_cases hij : i = j
    · subst hij
      have hl : i < ds.length := (List.getElem?_eq_some_iff.mp hi).1
      rw [List.getElem?_set_self hl] at hj
      cases hj
      obtain ⟨v, hv, x⟩ := C.sl i od hi
      refine ⟨v, hv, ?_⟩
      rw [OwnsP]
      exact owns_frz e1 (fun a o pa ha => by
        have pa' : ow a = some (.inl i) := pa
        show (if ow a = some (Sum.inl i) then Hu a else F a) = some o
        rw [if_pos pa']
        exact ha) x
    · rw [List.getElem?_set_ne hij] at hj
      obtain ⟨v, hv, x⟩ := C.sl j od' hj
      refine ⟨v, hv, owns_imp e1 (fun a o pa ha => ⟨ha, ?_⟩) x⟩
      have pa' : ow a = some (.inl j) := pa
      show (if ow a = some (Sum.inl i) then none else ow a) = some (Sum.inl j)
      rw [if_neg (by rw [pa']; intro z; cases z; exact hij rfl)]
      exact pa'
  · refine tms_imp e1 (fun a o k hk pa ha => ⟨ha, ?_⟩) C.tm
    rw [if_neg (by rw [pa]; intro z; cases z)]
    exact pa

/-! ### slots are set -/
theorem tms_set {v : V} {i : Nat} : ∀ {ts : List (V × Tm)}, noAl i ts → TmsR K ca F Hu ow σ ts → TmsR K ca F Hu ow (σ.set i (some v)) ts
  | [], _, h => h
  | (u, .v od) :: ts, n, h => ⟨h.1, tms_set (fun w hw => n w (List.mem_cons_of_mem _ hw)) h.2⟩
  | (u, .al j) :: ts, n, h => by
    have h1 : σ[j]? = some (some u) ∧ TmsR K ca F Hu ow σ ts := h
    refine ⟨?_, tms_set (fun w hw => n w (List.mem_cons_of_mem _ hw)) h1.2⟩
    have hij : i ≠ j := fun e => n u (by rw [e]; exact List.mem_cons_self ..)
    rw [List.getElem?_set_ne hij]
    exact h1.1
theorem holds.set {v : V} {od : OD} {i : Nat} (h : holds K ca B ds ((v, .v od) :: ts) σ H) (hi : i < ds.length) (hp : B.pr i = false) (na : noAl i ts) : holds K ca B (ds.set i (.v od)) ts (σ.set i (some v)) H := by
  obtain ⟨F, Hu, ow, rfl, C⟩ := h
  have t := C.tm
  have t1 : OwnsP K ca F Hu od v (fun a => ow a = some (.inr ts.length)) := t.1
  have t2 : TmsR K ca F Hu ow σ ts := t.2
  let ow2 : Addr → Option Own := fun a => if ow a = some (.inl i) then none else if ow a = some (.inr ts.length) then some (.inl i) else ow a
  have o1 : ∀ {a : Addr}, ow a = some (.inr ts.length) → ow2 a = some (.inl i) := fun {a} q => by
    show (if ow a = some (Sum.inl i) then none else if ow a = some (Sum.inr ts.length) then some (Sum.inl i) else ow a) = _
    rw [if_neg (by rw [q]; intro z; cases z), if_pos q]
  have o2 : ∀ {a : Addr} {x : Own}, x ≠ .inl i → x ≠ .inr ts.length → ow a = some x → ow2 a = some x := fun {a x} h1 h2 q => by
    show (if ow a = some (Sum.inl i) then none else if ow a = some (Sum.inr ts.length) then some (Sum.inl i) else ow a) = _
    rw [if_neg (by rw [q]; intro z; cases z; exact h1 rfl), if_neg (by rw [q]; intro z; cases z; exact h2 rfl)]
    exact q
  have o3 : ∀ {a : Addr} {x : Own}, ow2 a = some x → (x = .inl i ∧ ow a = some (.inr ts.length)) ∨ (x ≠ .inl i ∧ ow a = some x) := fun {a x} e => by
    have e' : (if ow a = some (Sum.inl i) then none else if ow a = some (Sum.inr ts.length) then some (Sum.inl i) else ow a) = some x := e
    by_cases q1 : ow a = some (Sum.inl i)
    · rw [if_pos q1] at e'
      cases e'
    · rw [if_neg q1] at e'
      by_cases q2 : ow a = some (Sum.inr ts.length)
      · rw [if_pos q2] at e'
        cases e'
        exact .inl ⟨rfl, q2⟩
      · rw [if_neg q2] at e'
        exact .inr ⟨fun z => q1 (by rw [e', z]), e'⟩
  refine ⟨F, Hu, ow2, rfl, C.f0, C.fh, C.lks, C.fresh, C.keep, C.stay, fun a x e => ?_, fun a j e => ?_, fun a k e => ?_, fun j hj => ?_, by rw [List.length_set, List.length_set]; exact C.len, fun j od' hj => ?_, ?_⟩
  · rcases o3 e with ⟨_, q⟩ | ⟨_, q⟩
    · exact C.own a _ q
    · exact C.own a _ q
  · rcases o3 e with ⟨_, q⟩ | ⟨_, q⟩
    · exact .inl (C.ownT a _ q)
    · exact C.ownS a _ q
  · rcases o3 e with ⟨z, _⟩ | ⟨_, q⟩
    · cases z
    · exact C.ownT a _ q
  · obtain ⟨u, h1, h2⟩ := C.prs j hj
    have hij : i ≠ j := fun e => by rw [e, hj] at hp; cases hp
    exact ⟨u, h1, by rw [List.getElem?_set_ne hij]; exact h2⟩
  · by_cases hij : i = j
    · subst hij
      rw [List.getElem?_set_self hi] at hj
      cases hj
      exact ⟨v, by rw [List.getElem?_set_self (by rw [C.len]; exact hi)], owns_imp (Ex.refl _) (fun a o pa ha => ⟨ha, o1 pa⟩) t1⟩
    · rw [List.getElem?_set_ne hij] at hj
      obtain ⟨u, hv, x⟩ := C.sl j od' hj
      exact ⟨u, by rw [List.getElem?_set_ne hij]; exact hv, owns_imp (Ex.refl _) (fun a o pa ha => ⟨ha, o2 (fun z => by cases z; exact hij rfl) (fun z => by cases z) pa⟩) x⟩
  · exact tms_set na (tms_imp (Ex.refl _) (fun a o k hk pa ha => ⟨ha, o2 (fun z => by cases z) (fun z => by cases z; exact Nat.lt_irrefl _ hk) pa⟩) t2)
end
end DL
/-! DL3: what an expression comes to, by data: EV, ET, EA, and the rules of names, constants, operators, tests. -/
namespace DL
open PySem PySem.Spec PyProof.Rows L2

/-! ### the weakest readings -/
def WE (X : Cx) (e : Expr) (σ : L2.St) (H : Hp) (Q : VK) : Prop := ∀ pins s, Inv X pins σ H s → wpAny (model X.prog X.w) X.A (eval e X.env) (EP X pins σ Q) X.xe s
theorem pe_we {X : Cx} {e : Expr} : PE X e (WE X e) := ⟨fun pins s _ _ _ I h => h pins s I⟩
theorem we_of {X : Cx} {e : Expr} {t : TE} (h : PE X e t) {σ : L2.St} {H : Hp} {Q : VK} (q : t σ H Q) : WE X e σ H Q := fun pins s I => h.run pins s σ H Q I q
def WT (X : Cx) (e : Expr) (σ : L2.St) (H : Hp) (Q : Bool → Hp → Prop) : Prop := ∀ pins s, Inv X pins σ H s → wpAny (model X.prog X.w) X.A (isTrue e X.env (eval e X.env)) (TP X pins σ Q) X.xe s
theorem pt_wt {X : Cx} {e : Expr} : PT X e (WT X e) := ⟨fun pins s _ _ _ I h => h pins s I⟩
theorem wt_of {X : Cx} {e : Expr} {t : TT} (h : PT X e t) {σ : L2.St} {H : Hp} {Q : Bool → Hp → Prop} (q : t σ H Q) : WT X e σ H Q := fun pins s I => h.run pins s σ H Q I q
def WW (X : Cx) (e : Expr) (σ : L2.St) (H : Hp) (Q : Bool → Hp → Prop) : Prop := ∀ whole pins s, Inv X pins σ H s → wpAny (model X.prog X.w) X.A (isTrue e X.env whole) (TP X pins σ Q) X.xe s
theorem pw_ww {X : Cx} {e : Expr} : PW X e (WW X e) := ⟨fun whole pins s _ _ _ I h => h whole pins s I⟩
theorem ww_of {X : Cx} {e : Expr} {t : TT} (h : PW X e t) {σ : L2.St} {H : Hp} {Q : Bool → Hp → Prop} (q : t σ H Q) : WW X e σ H Q := fun whole pins s I => h.run whole pins s σ H Q I q
def WA (X : Cx) (es : List Expr) (σ : L2.St) (H : Hp) (Q : List V → Hp → Prop) : Prop := ∀ pos pins s, Inv X pins σ H s → wpAny (model X.prog X.w) X.A (spliced (backTo pos (starEach es X.env))) (AP X pins σ Q) X.xe s
theorem pa_wa {X : Cx} {es : List Expr} : PA X es (WA X es) := ⟨fun pos pins s _ _ _ I h => h pos pins s I⟩
theorem wa_of {X : Cx} {es : List Expr} {t : TA} (h : PA X es t) {σ : L2.St} {H : Hp} {Q : List V → Hp → Prop} (q : t σ H Q) : WA X es σ H Q := fun pos pins s I => h.run pos pins s σ H Q I q

/-! ### judgements over data -/
section
variable (X : Cx) (ca : CA) (B : Base)
/-- e comes to o, the slots then are ds' -/
def EV (e : Expr) (ds : List Sl) (o : Tm) (ds' : List Sl) : Prop :=
  ∀ ts σ H Q, holds X.K ca B ds ts σ H → (∀ v H', holds X.K ca B ds' ((v, o) :: ts) σ H' → Q v H') → WE X e σ H Q
def ET (e : Expr) (ds : List Sl) (b : Bool) (ds' : List Sl) : Prop :=
  ∀ ts σ H Q, holds X.K ca B ds ts σ H → (∀ H', holds X.K ca B ds' ts σ H' → Q b H') → WT X e σ H Q
def EW (e : Expr) (ds : List Sl) (b : Bool) (ds' : List Sl) : Prop :=
  ∀ ts σ H Q, holds X.K ca B ds ts σ H → (∀ H', holds X.K ca B ds' ts σ H' → Q b H') → WW X e σ H Q
def EA (es : List Expr) (ds : List Sl) (os : List Tm) (ds' : List Sl) : Prop :=
  ∀ ts σ H Q, holds X.K ca B ds ts σ H → (∀ vs H', vs.length = os.length → holds X.K ca B ds' (pushAll vs os ts) σ H' → Q vs H') → WA X es σ H Q
/-- an operation on two values that are on their way -/
def RO (r : R2) (o1 o2 : Tm) (ds : List Sl) (o : Tm) (ds' : List Sl) : Prop :=
  ∀ ts σ H x y Q, holds X.K ca B ds ((y, o2) :: (x, o1) :: ts) σ H → (∀ v H', holds X.K ca B ds' ((v, o) :: ts) σ H' → Q v H') → r x y H Q
def RU (r : V → Hp → VK → Prop) (o1 : Tm) (ds : List Sl) (o : Tm) (ds' : List Sl) : Prop :=
  ∀ ts σ H x Q, holds X.K ca B ds ((x, o1) :: ts) σ H → (∀ v H', holds X.K ca B ds' ((v, o) :: ts) σ H' → Q v H') → r x H Q
def RC (r : List V → Hp → VK → Prop) (os : List Tm) (ds : List Sl) (o : Tm) (ds' : List Sl) : Prop :=
  ∀ ts σ H vs Q, vs.length = os.length → holds X.K ca B ds (pushAll vs os ts) σ H → (∀ v H', holds X.K ca B ds' ((v, o) :: ts) σ H' → Q v H') → r vs H Q
/-- a method of a built-in type: the receiver first -/
def RM (r : V → List V → Hp → VK → Prop) (T : String) (o1 : Tm) (ds1 : List Sl) (os : List Tm) (ds : List Sl) (o : Tm) (ds' : List Sl) : Prop :=
  (∀ ts σ H x, holds X.K ca B ds1 ((x, o1) :: ts) σ H → tyV X.K T x H) ∧
  ∀ ts σ H x vs Q, vs.length = os.length → holds X.K ca B ds (pushAll vs os ((x, o1) :: ts)) σ H → (∀ v H', holds X.K ca B ds' ((v, o) :: ts) σ H' → Q v H') → r x vs H Q
end
abbrev Tm.d (d : D) : Tm := .v (.dat d)
abbrev Tm.int (i : Int) : Tm := .v (.dat (.int i))
abbrev Tm.bl (b : Bool) : Tm := .v (.dat (.bl b))
abbrev Tm.str (x : Str) : Tm := .v (.dat (.str x))
abbrev Tm.non : Tm := .v (.dat .non)
abbrev Sl.d (d : D) : Sl := .v (.dat d)

section
variable {X : Cx} {ca : CA} {B : Base} {ds ds1 ds2 ds3 : List Sl} {o o1 o2 o3 : Tm} {os : List Tm} {a b c e : Expr} {es : List Expr} {pos : Pos} {b1 b2 : Bool}

/-! ### names and constants -/
theorem ev_var (i : Nat) {x : Str} {d : D} (h : ds[i]? = some (.v (.dat d)) := by rfl) (hN : X.N[i]? = some x := by rfl) (hv : Vis X.env.scope x := by first | exact Or.inl rfl | exact Or.inr (Or.inl rfl) | exact Or.inr (Or.inr rfl)) (hd : (x == ("__debug__" : Str)) = false := by decide)
    (hcd : (x == ("__classdict__" : Str)) = false := by decide) : EV X ca B (.Name x pos) ds (.v (.dat d)) ds := fun ts σ H Q h0 q => by
  obtain ⟨v, hv', h1⟩ := h0.var h
  exact we_of (pe_var hN hv hd hcd) ⟨v, hv', q v H h1⟩
/-- another name of the thing in the slot -/
theorem ev_al (i : Nat) {x : Str} {od : OD} (h : ds[i]? = some (.v od) := by rfl) (hN : X.N[i]? = some x := by rfl) (hv : Vis X.env.scope x := by first | exact Or.inl rfl | exact Or.inr (Or.inl rfl) | exact Or.inr (Or.inr rfl)) (hd : (x == ("__debug__" : Str)) = false := by decide)
    (hcd : (x == ("__classdict__" : Str)) = false := by decide) : EV X ca B (.Name x pos) ds (.al i) ds := fun ts σ H Q h0 q => by
  obtain ⟨v, hv', h1⟩ := h0.alias h
  exact we_of (pe_var hN hv hd hcd) ⟨v, hv', q v H h1⟩
/-- the thing in the slot is let go of -/
theorem ev_frz (i : Nat) {x : Str} {od : OD} {d : D} {ds1 : List Sl} (h : ds[i]? = some (.v od) := by rfl) (hd1 : od.frz = d) (hs : ds.set i (.v (.dat d)) = ds1 := by rfl) (hp : B.pr i = false := by rfl) (hN : X.N[i]? = some x := by rfl) (hv : Vis X.env.scope x := by first | exact Or.inl rfl | exact Or.inr (Or.inl rfl) | exact Or.inr (Or.inr rfl)) (hd : (x == ("__debug__" : Str)) = false := by decide)
    (hcd : (x == ("__classdict__" : Str)) = false := by decide) : EV X ca B (.Name x pos) ds (.v (.dat d)) ds1 := fun ts σ H Q h0 q => by
  have h1 := h0.frzS h hp
  have hl : i < ds.length := (List.getElem?_eq_some_iff.mp h).1
  obtain ⟨v, hv', h2⟩ := h1.var (d := od.frz) (by rw [List.getElem?_set_self hl])
  rw [hd1, hs] at h2
  exact we_of (pe_var hN hv hd hcd) ⟨v, hv', q v H h2⟩
theorem ev_int {i : Int} {j : Nat} : EV X ca B (.Constant (.int i) j pos) ds (.int i) ds := fun ts σ H Q h0 q => we_of pe_int (q _ H (h0.val fun F => .int i))
theorem ev_bl {k : Bool} {j : Nat} : EV X ca B (.Constant (.bool k) j pos) ds (.bl k) ds := fun ts σ H Q h0 q => we_of pe_bl (q _ H (h0.val fun F => .bl k))
theorem ev_non {j : Nat} : EV X ca B (.Constant .none j pos) ds .non ds := fun ts σ H Q h0 q => we_of pe_non (q _ H (h0.val fun F => .non))
theorem ev_str {x : Str} {j : Nat} : EV X ca B (.Constant (.str x) j pos) ds (.str x) ds := fun ts σ H Q h0 q => we_of pe_str (q _ H (h0.val fun F => .str x))
/-- a module's number | text -/
theorem ev_gint {x : Str} {i : Int} {t : Tok} (hm : X.mg x = some (.int i t)) (hg : Gl X x := by rfl) (hd : (x == ("__debug__" : Str)) = false := by decide) : EV X ca B (.Name x pos) ds (.int i) ds := fun ts σ H Q h0 q =>
  we_of (pe_glob (v := .int i) hg hm ⟨t, rfl⟩ hd) (q _ H (h0.val fun F => .int i))
theorem ev_gstr {x z : Str} {t : Tok} (hm : X.mg x = some (.str z t)) (hg : Gl X x := by rfl) (hd : (x == ("__debug__" : Str)) = false := by decide) : EV X ca B (.Name x pos) ds (.str z) ds := fun ts σ H Q h0 q =>
  we_of (pe_glob (v := .str z) hg hm ⟨t, rfl⟩ hd) (q _ H (h0.val fun F => .str z))
/-- a module's object (a class, a def, a table) -/
theorem ev_gref {x : Str} {f : Addr} (hm : X.mg x = some (.ref f)) (hg : Gl X x := by rfl) (hd : (x == ("__debug__" : Str)) = false := by decide) : EV X ca B (.Name x pos) ds (.d (.obj f)) ds := fun ts σ H Q h0 q =>
  we_of (pe_glob (v := .ref f) hg hm rfl hd) (q _ H (h0.val fun F => .obj f))
/-- a built-in type as a value -/
theorem ev_gty {x : Str} {n : String} (hm : X.mg x = none) (hv : bootBuiltins x = some (.type n)) (hg : Gl X x := by rfl) (hn : x ≠ "__name__" := by decide) (hd : (x == ("__debug__" : Str)) = false := by decide) : EV X ca B (.Name x pos) ds (.d (.ty n)) ds := fun ts σ H Q h0 q =>
  we_of (pe_bltn (v := .ty n) hg hm hv rfl hn hd) (q _ H (h0.val fun F => .ty n))
/-- .. is let go of -/
theorem EV.frz {od : OD} (h : EV X ca B e ds (.v od) ds1) {d : D} (hd : od.frz = d) : EV X ca B e ds (.v (.dat d)) ds1 := fun ts σ H Q h0 q => h ts σ H Q h0 fun v H' h1 => q v H' (by rw [← hd]; exact h1.frz)
theorem EV.cast {ds1' : List Sl} (h : EV X ca B e ds o ds1) (ho : o = o1) (hds : ds1 = ds1') : EV X ca B e ds o1 ds1' := by
  rw [← ho, ← hds]
  exact h

/-! ### operators -/
theorem ev_op {op : Operator} {r : R2} (ho : OpR X (binaryOp op) r) (ha : EV X ca B a ds o1 ds1) (hb : EV X ca B b ds1 o2 ds2) (hr : RO X ca B r o1 o2 ds2 o ds3) : EV X ca B (.BinOp a op b pos) ds o ds3 := fun ts σ H Q h0 q =>
  we_of (pe_op ho pe_we pe_we) (ha ts σ H _ h0 fun x H1 h1 => hb _ σ H1 _ h1 fun y H2 h2 => hr ts σ H2 x y Q h2 q)
theorem ev_un {op : UnaryOp} {r : V → Hp → VK → Prop} (ho : UnR X (unaryOp op) r) (ha : EV X ca B a ds o1 ds1) (hr : RU X ca B r o1 ds1 o ds2) : EV X ca B (.UnaryOp op a pos) ds o ds2 := fun ts σ H Q h0 q =>
  we_of (pe_un ho pe_we) (ha ts σ H _ h0 fun x H1 h1 => hr ts σ H1 x Q h1 q)
theorem ev_cmp {op : CmpOp} {r : R2} (ho : OpR X (compareOp op) r) (ha : EV X ca B a ds o1 ds1) (hb : EV X ca B b ds1 o2 ds2) (hr : RO X ca B r o1 o2 ds2 o ds3) (hm : behindInMarks op b = false := by first | exact nomark _ | rfl | with_unfolding_all rfl) : EV X ca B (.Compare a [op] [b] pos) ds o ds3 := fun ts σ H Q h0 q =>
  we_of (pe_cmpR ho pe_we pe_we hm) (ha ts σ H _ h0 fun x H1 h1 => hb _ σ H1 _ h1 fun y H2 h2 => hr ts σ H2 x y Q h2 q)
theorem et_cmp {op : CmpOp} {r : R2} (ho : OpR X (compareOp op) r) (ha : EV X ca B a ds o1 ds1) (hb : EV X ca B b ds1 o2 ds2) (hr : RO X ca B r o1 o2 ds2 (.bl b1) ds3) (hm : behindInMarks op b = false := by first | exact nomark _ | rfl | with_unfolding_all rfl) : ET X ca B (.Compare a [op] [b] pos) ds b1 ds3 := fun ts σ H Q h0 q =>
  wt_of (pt_cmpR ho pe_we pe_we hm) (ha ts σ H _ h0 fun x H1 h1 => hb _ σ H1 _ h1 fun y H2 h2 => hr ts σ H2 x y _ h2 fun v H' h3 => ⟨b1, h3.bl, q H' h3.pop⟩)
/-- two values, ints -/
theorem holds.int2 {i j : Int} {x y : V} {ts : List (V × Tm)} {σ : L2.St} {H : Hp} {K : PySem.W.Frag} (h : holds K ca B ds ((y, .int j) :: (x, .int i) :: ts) σ H) : x = .int i ∧ y = .int j ∧ holds K ca B ds ts σ H := ⟨h.pop.int, h.int, h.pop.pop⟩
/-- a < b <= c, of ints -/
theorem ev_chain {op op' : CmpOp} {p p' : Int → Int → Bool} {i j k : Int} (ho : OpR X (compareOp op) (rI0 fun i j => .bl (p i j))) (ho' : OpR X (compareOp op') (rI0 fun i j => .bl (p' i j))) (ha : EV X ca B a ds (.int i) ds1) (hb : EV X ca B b ds1 (.int j) ds2)
    (hc : EV X ca B c ds2 (.int k) ds2) (hm : lastMarks [op, op'] [b, c] = false := by with_unfolding_all rfl) : EV X ca B (.Compare a [op, op'] [b, c] pos) ds (.bl (p i j && p' j k)) ds2 := fun ts σ H Q h0 q =>
  we_of (pe_chain ho ho' pe_we pe_we pe_we hm) (ha ts σ H _ h0 fun x H1 h1 => hb _ σ H1 _ h1 fun y H2 h2 => by
    obtain ⟨rfl, rfl, h3⟩ := h2.int2
    refine ⟨i, j, rfl, rfl, p i j, rfl, ?_⟩
    cases hb1 : p i j with
    | false =>
      rw [hb1] at q
      exact iteF (q _ _ (h3.val fun F => .bl _))
    | true =>
      rw [hb1] at q
      refine iteT (hc _ σ H2 _ h3 fun z H3 h4 => ?_)
      obtain rfl := h4.int
      exact ⟨j, k, rfl, rfl, q _ _ (h4.pop.val fun F => .bl _)⟩)
theorem et_chain {op op' : CmpOp} {p p' : Int → Int → Bool} {i j k : Int} (ho : OpR X (compareOp op) (rI0 fun i j => .bl (p i j))) (ho' : OpR X (compareOp op') (rI0 fun i j => .bl (p' i j))) (ha : EV X ca B a ds (.int i) ds1) (hb : EV X ca B b ds1 (.int j) ds2)
    (hc : EV X ca B c ds2 (.int k) ds2) (hm : lastMarks [op, op'] [b, c] = false := by with_unfolding_all rfl) : ET X ca B (.Compare a [op, op'] [b, c] pos) ds (p i j && p' j k) ds2 := fun ts σ H Q h0 q =>
  wt_of (pt_chain ho ho' pe_we pe_we pe_we hm) (ha ts σ H _ h0 fun x H1 h1 => hb _ σ H1 _ h1 fun y H2 h2 => by
    obtain ⟨rfl, rfl, h3⟩ := h2.int2
    refine ⟨i, j, rfl, rfl, p i j, rfl, ?_⟩
    cases hb1 : p i j with
    | false =>
      rw [hb1] at q
      exact iteF ⟨false, rfl, q _ h3⟩
    | true =>
      rw [hb1] at q
      refine iteT (hc _ σ H2 _ h3 fun z H3 h4 => ?_)
      obtain rfl := h4.int
      exact ⟨j, k, rfl, rfl, _, rfl, q _ h4.pop⟩)
theorem EV.add {i j : Int} (ha : EV X ca B a ds (.int i) ds1) (hb : EV X ca B b ds1 (.int j) ds2) : EV X ca B (.BinOp a .Add b pos) ds (.int (i + j)) ds2 := ev_op op_add ha hb fun ts σ H x y Q h q => by
  obtain ⟨rfl, rfl, h3⟩ := h.int2
  exact ⟨i, j, rfl, rfl, q _ _ (h3.val fun F => .int _)⟩
theorem EV.sub {i j : Int} (ha : EV X ca B a ds (.int i) ds1) (hb : EV X ca B b ds1 (.int j) ds2) : EV X ca B (.BinOp a .Sub b pos) ds (.int (i - j)) ds2 := ev_op op_sub ha hb fun ts σ H x y Q h q => by
  obtain ⟨rfl, rfl, h3⟩ := h.int2
  exact ⟨i, j, rfl, rfl, q _ _ (h3.val fun F => .int _)⟩
theorem EV.mul {i j : Int} (ha : EV X ca B a ds (.int i) ds1) (hb : EV X ca B b ds1 (.int j) ds2) (hc : CMul i j) : EV X ca B (.BinOp a .Mult b pos) ds (.int (i * j)) ds2 := ev_op op_mul ha hb fun ts σ H x y Q h q => by
  obtain ⟨rfl, rfl, h3⟩ := h.int2
  exact ⟨i, j, rfl, rfl, hc, q _ _ (h3.val fun F => .int _)⟩
theorem EV.fdiv {i j : Int} (ha : EV X ca B a ds (.int i) ds1) (hb : EV X ca B b ds1 (.int j) ds2) (hc : 0 < j ∧ j < 1073741824) : EV X ca B (.BinOp a .FloorDiv b pos) ds (.int (i / j)) ds2 := ev_op op_fdiv ha hb fun ts σ H x y Q h q => by
  obtain ⟨rfl, rfl, h3⟩ := h.int2
  exact ⟨i, j, rfl, rfl, hc, q _ _ (h3.val fun F => .int _)⟩
theorem EV.mod {i j : Int} (ha : EV X ca B a ds (.int i) ds1) (hb : EV X ca B b ds1 (.int j) ds2) (hc : 0 < j) : EV X ca B (.BinOp a .Mod b pos) ds (.int (i % j)) ds2 := ev_op op_mod ha hb fun ts σ H x y Q h q => by
  obtain ⟨rfl, rfl, h3⟩ := h.int2
  exact ⟨i, j, rfl, rfl, hc, q _ _ (h3.val fun F => .int _)⟩
theorem EV.pow {i j : Int} (ha : EV X ca B a ds (.int i) ds1) (hb : EV X ca B b ds1 (.int j) ds2) (hc : CPow i j) : EV X ca B (.BinOp a .Pow b pos) ds (.int (i ^ j.toNat)) ds2 := ev_op op_pow ha hb fun ts σ H x y Q h q => by
  obtain ⟨rfl, rfl, h3⟩ := h.int2
  exact ⟨i, j, rfl, rfl, hc, q _ _ (h3.val fun F => .int _)⟩
theorem EV.shl {i j : Int} (ha : EV X ca B a ds (.int i) ds1) (hb : EV X ca B b ds1 (.int j) ds2) (hc : CPow i j) : EV X ca B (.BinOp a .LShift b pos) ds (.int (i * 2 ^ j.toNat)) ds2 := ev_op op_shl ha hb fun ts σ H x y Q h q => by
  obtain ⟨rfl, rfl, h3⟩ := h.int2
  exact ⟨i, j, rfl, rfl, hc, q _ _ (h3.val fun F => .int _)⟩
theorem EV.neg {i : Int} (ha : EV X ca B a ds (.int i) ds1) : EV X ca B (.UnaryOp .USub a pos) ds (.int (-i)) ds1 := ev_un un_neg ha fun ts σ H x Q h q => by
  obtain rfl := h.int
  exact ⟨i, rfl, q _ _ (h.pop.val fun F => .int _)⟩
theorem EV.addS {x y : Str} (ha : EV X ca B a ds (.str x) ds1) (hb : EV X ca B b ds1 (.str y) ds2) (hz : x.length + y.length ≤ sizeLine) : EV X ca B (.BinOp a .Add b pos) ds (.str (x ++ y)) ds2 := ev_op op_add_str ha hb fun ts σ H v w Q h q => by
  obtain rfl := h.str
  obtain rfl := h.pop.str
  exact ⟨x, y, rfl, rfl, hz, q _ _ (h.pop.pop.val fun F => .str _)⟩
/-- comparisons of ints, as a reading -/
theorem ro_cmpI {p : Int → Int → Bool} {i j : Int} : RO X ca B (rI0 fun i j => .bl (p i j)) (.int i) (.int j) ds (.bl (p i j)) ds := fun ts σ H x y Q h q => by
  obtain ⟨rfl, rfl, h3⟩ := h.int2
  exact ⟨i, j, rfl, rfl, q _ _ (h3.val fun F => .bl _)⟩
/-- a scalar -/
inductive Sc : D → V → Prop
  | int (i : Int) : Sc (.int i) (.int i)
  | bl (b : Bool) : Sc (.bl b) (.bl b)
  | str (x : Str) : Sc (.str x) (.str x)
  | non : Sc .non .non
theorem Sc.at {d : D} {v u : V} {K : PySem.W.Frag} {F : Hp} (s : Sc d v) (r : Rep K ca F d u) : u = v := by
  cases s <;> cases r <;> rfl
theorem Sc.rep {d : D} {v : V} {K : PySem.W.Frag} (s : Sc d v) (F : Hp) : Rep K ca F d v := by
  cases s
  · exact .int _
  · exact .bl _
  · exact .str _
  · exact .non
theorem holds.sc {d : D} {v u : V} {K : PySem.W.Frag} {ts : List (V × Tm)} {σ : L2.St} {H : Hp} (h : holds K ca B ds ((u, .v (.dat d)) :: ts) σ H) (s : Sc d v) : u = v := by
  obtain ⟨_, _, _, _, _, r⟩ := h.rep
  exact s.at r
theorem ro_eq {d d' : D} {v w : V} (s : Sc d v) (s' : Sc d' w) (hs : scal v w = true) : RO X ca B rEq (.d d) (.d d') ds (.bl (decide (v = w))) ds := fun ts σ H x y Q h q => by
  obtain rfl := h.sc s'
  obtain rfl := h.pop.sc s
  exact ⟨hs, q _ _ (h.pop.pop.val fun F => .bl _)⟩
theorem ro_ne {d d' : D} {v w : V} (s : Sc d v) (s' : Sc d' w) (hs : scal v w = true) : RO X ca B rNe (.d d) (.d d') ds (.bl (!decide (v = w))) ds := fun ts σ H x y Q h q => by
  obtain rfl := h.sc s'
  obtain rfl := h.pop.sc s
  exact ⟨hs, q _ _ (h.pop.pop.val fun F => .bl _)⟩
theorem dec_i {i j : Int} : decide (V.int i = V.int j) = decide (i = j) := by
  by_cases h : i = j <;> simp [h]
theorem dec_s {i j : Str} : decide (V.str i = V.str j) = decide (i = j) := by
  by_cases h : i = j <;> simp [h]
theorem dec_b {i j : Bool} : decide (V.bl i = V.bl j) = decide (i = j) := by
  by_cases h : i = j <;> simp [h]
theorem ro_eqI {i j : Int} : RO X ca B rEq (.int i) (.int j) ds (.bl (decide (i = j))) ds := by
  have h := ro_eq (X := X) (B := B) (ds := ds) (ca := ca) (.int i) (.int j) rfl
  rw [dec_i] at h
  exact h
theorem ro_neI {i j : Int} : RO X ca B rNe (.int i) (.int j) ds (.bl (!decide (i = j))) ds := by
  have h := ro_ne (X := X) (B := B) (ds := ds) (ca := ca) (.int i) (.int j) rfl
  rw [dec_i] at h
  exact h
theorem ro_eqS {i j : Str} : RO X ca B rEq (.str i) (.str j) ds (.bl (decide (i = j))) ds := by
  have h := ro_eq (X := X) (B := B) (ds := ds) (ca := ca) (.str i) (.str j) rfl
  rw [dec_s] at h
  exact h
theorem ro_neS {i j : Str} : RO X ca B rNe (.str i) (.str j) ds (.bl (!decide (i = j))) ds := by
  have h := ro_ne (X := X) (B := B) (ds := ds) (ca := ca) (.str i) (.str j) rfl
  rw [dec_s] at h
  exact h
theorem ro_eqB {i j : Bool} : RO X ca B rEq (.bl i) (.bl j) ds (.bl (decide (i = j))) ds := by
  have h := ro_eq (X := X) (B := B) (ds := ds) (ca := ca) (.bl i) (.bl j) rfl
  rw [dec_b] at h
  exact h
/-- is None: anything that is a datum -/
def isNonD : D → Bool
  | .non => true
  | _ => false
theorem ro_isN {d : D} (hd : d ≠ .any := by intro h; cases h) : RO X ca B (fun x y H Q => y = .non ∧ Q (.bl (decide (x = .non))) H) (.d d) .non ds (.bl (isNonD d)) ds := fun ts σ H x y Q h q => by
  obtain rfl := h.non
  obtain ⟨_, _, _, _, _, r⟩ := h.pop.rep
  refine ⟨rfl, ?_⟩
  have e : decide (x = V.non) = isNonD d := by cases r <;> first | rfl | exact absurd rfl hd
  rw [e]
  exact q _ _ (h.pop.pop.val fun F => .bl _)
theorem ro_notN {d : D} (hd : d ≠ .any := by intro h; cases h) : RO X ca B (fun x y H Q => y = .non ∧ Q (.bl (!decide (x = .non))) H) (.d d) .non ds (.bl (!isNonD d)) ds := fun ts σ H x y Q h q => by
  obtain rfl := h.non
  obtain ⟨_, _, _, _, _, r⟩ := h.pop.rep
  refine ⟨rfl, ?_⟩
  have e : decide (x = V.non) = isNonD d := by cases r <;> first | rfl | exact absurd rfl hd
  rw [e]
  exact q _ _ (h.pop.pop.val fun F => .bl _)

/-! ### tests -/
theorem ET.cast {ds1' : List Sl} (h : ET X ca B e ds b1 ds1) (hb : b1 = b2) (hds : ds1 = ds1') : ET X ca B e ds b2 ds1' := by
  rw [← hb, ← hds]
  exact h
theorem et_val (h : EV X ca B e ds (.bl b1) ds1) (he : ∀ whole, isTrue e X.env whole = (do let v ← whole; standAt e.pos; holding [v] (truthy v)) := by intro _; rfl) : ET X ca B e ds b1 ds1 := fun ts σ H Q h0 q =>
  wt_of (pt_val pe_we he) (h ts σ H _ h0 fun v H' h1 => ⟨b1, h1.bl, q H' h1.pop⟩)
theorem EW.pt (h : EW X ca B e ds b1 ds1) : ET X ca B e ds b1 ds1 := fun ts σ H Q h0 q => wt_of pw_ww.pt (h ts σ H Q h0 q)
theorem ew_and1 (h : ET X ca B a ds b1 ds1) : EW X ca B (.BoolOp .And [a] pos) ds b1 ds1 := fun ts σ H Q h0 q => ww_of (pw_and1 pt_wt) (h ts σ H Q h0 q)
theorem ew_or1 (h : ET X ca B a ds b1 ds1) : EW X ca B (.BoolOp .Or [a] pos) ds b1 ds1 := fun ts σ H Q h0 q => ww_of (pw_or1 pt_wt) (h ts σ H Q h0 q)
theorem ew_and (h1 : ET X ca B a ds b1 ds1) (h2 : b1 = true → EW X ca B (.BoolOp .And (b :: es) pos) ds1 b2 ds2) (h3 : b1 = false → ds2 = ds1) : EW X ca B (.BoolOp .And (a :: b :: es) pos) ds (b1 && b2) ds2 := fun ts σ H Q h0 q =>
  ww_of (pw_and pt_wt pw_ww) (h1 ts σ H _ h0 fun H' h => by
    cases hb : b1 with
    | true =>
      rw [hb] at q
      exact iteT (h2 hb ts σ H' Q h q)
    | false =>
      rw [hb] at q
      refine iteF (q H' ?_)
      rw [h3 hb]
      exact h)
theorem ew_or (h1 : ET X ca B a ds b1 ds1) (h2 : b1 = false → EW X ca B (.BoolOp .Or (b :: es) pos) ds1 b2 ds2) (h3 : b1 = true → ds2 = ds1) : EW X ca B (.BoolOp .Or (a :: b :: es) pos) ds (b1 || b2) ds2 := fun ts σ H Q h0 q =>
  ww_of (pw_or pt_wt pw_ww) (h1 ts σ H _ h0 fun H' h => by
    cases hb : b1 with
    | false =>
      rw [hb] at q
      exact iteF (h2 hb ts σ H' Q h q)
    | true =>
      rw [hb] at q
      refine iteT (q H' ?_)
      rw [h3 hb]
      exact h)
theorem et_not (h : ET X ca B a ds b1 ds1) : ET X ca B (.UnaryOp .Not a pos) ds (!b1) ds1 := fun ts σ H Q h0 q => wt_of (pt_not pt_wt) (h ts σ H _ h0 fun H' h1 => q H' h1)
/-- .. as values -/
theorem ev_one {op : PySem.BoolOp} (h : EV X ca B a ds o ds1) : EV X ca B (.BoolOp op [a] pos) ds o ds1 := fun ts σ H Q h0 q => we_of (pe_one pe_we) (h ts σ H Q h0 q)
theorem ev_and (h1 : EV X ca B a ds (.bl b1) ds1) (h2 : b1 = true → EV X ca B (.BoolOp .And (b :: es) pos) ds1 (.bl b2) ds2) (h3 : b1 = false → ds2 = ds1) : EV X ca B (.BoolOp .And (a :: b :: es) pos) ds (.bl (b1 && b2)) ds2 := fun ts σ H Q h0 q =>
  we_of (pe_and pe_we pe_we) (h1 ts σ H _ h0 fun v H' h => by
    obtain rfl := h.bl
    refine ⟨b1, rfl, ?_⟩
    cases hb : b1 with
    | true =>
      rw [hb] at q
      exact iteT (h2 hb ts σ H' Q h.pop q)
    | false =>
      rw [hb] at q
      refine iteF (q _ H' ?_)
      rw [h3 hb]
      exact h.pop.val fun F => .bl _)
theorem ev_or (h1 : EV X ca B a ds (.bl b1) ds1) (h2 : b1 = false → EV X ca B (.BoolOp .Or (b :: es) pos) ds1 (.bl b2) ds2) (h3 : b1 = true → ds2 = ds1) : EV X ca B (.BoolOp .Or (a :: b :: es) pos) ds (.bl (b1 || b2)) ds2 := fun ts σ H Q h0 q =>
  we_of (pe_or pe_we pe_we) (h1 ts σ H _ h0 fun v H' h => by
    obtain rfl := h.bl
    refine ⟨b1, rfl, ?_⟩
    cases hb : b1 with
    | false =>
      rw [hb] at q
      exact iteF (h2 hb ts σ H' Q h.pop q)
    | true =>
      rw [hb] at q
      refine iteT (q _ H' ?_)
      rw [h3 hb]
      exact h.pop.val fun F => .bl _)
theorem ev_not (h : EV X ca B a ds (.bl b1) ds1) : EV X ca B (.UnaryOp .Not a pos) ds (.bl (!b1)) ds1 := fun ts σ H Q h0 q =>
  we_of (pe_not pe_we) (h ts σ H _ h0 fun v H' h1 => by
    obtain rfl := h1.bl
    exact ⟨b1, rfl, q _ H' (h1.pop.val fun F => .bl _)⟩)
/-- a if t else b, by its test -/
theorem ev_ifT (h1 : ET X ca B c ds true ds1) (h2 : EV X ca B a ds1 o ds2) : EV X ca B (.IfExp c a b pos) ds o ds2 := fun ts σ H Q h0 q =>
  we_of (pe_ifExp pt_wt pe_we pe_we) (h1 ts σ H _ h0 fun H' h => iteT (h2 ts σ H' Q h q))
theorem ev_ifF (h1 : ET X ca B c ds false ds1) (h2 : EV X ca B b ds1 o ds2) : EV X ca B (.IfExp c a b pos) ds o ds2 := fun ts σ H Q h0 q =>
  we_of (pe_ifExp pt_wt pe_we pe_we) (h1 ts σ H _ h0 fun H' h => iteF (h2 ts σ H' Q h q))
theorem ev_if {k : Bool} (h1 : ET X ca B c ds k ds1) (h2 : k = true → EV X ca B a ds1 o ds2) (h3 : k = false → EV X ca B b ds1 o ds2) : EV X ca B (.IfExp c a b pos) ds o ds2 := by
  cases k with
  | true => exact ev_ifT h1 (h2 rfl)
  | false => exact ev_ifF h1 (h3 rfl)

/-! ### arguments -/
theorem ea_nil : EA X ca B [] ds [] ds := fun ts σ H Q h0 q => wa_of pa_nil (q [] H rfl h0)
theorem ea_cons (h1 : EV X ca B e ds o ds1) (h2 : EA X ca B es ds1 os ds2) (hs : starEach (e :: es) X.env = (false, eval e X.env) :: starEach es X.env := by rfl) : EA X ca B (e :: es) ds (o :: os) ds2 := fun ts σ H Q h0 q =>
  wa_of (pa_cons pe_we pa_wa hs) (h1 ts σ H _ h0 fun v H1 h => h2 _ σ H1 _ h fun vs H2 hl h' => q (v :: vs) H2 (congrArg Nat.succ hl) h')
/-! ### displays -/
theorem ev_tup {xs : List D} {k : Nat} (h : EA X ca B es ds (tds xs) ds1) (hz : xs.length ≤ 1000 := by simp) : EV X ca B (.Tuple es k pos) ds (.d (.tup xs)) ds1 := fun ts σ H Q h0 q =>
  we_of (pe_tup pa_wa) (h ts σ H _ h0 fun vs H1 hl h1 => by
    have hl' : vs.length = xs.length := by rw [hl]; simp [tds]
    exact ⟨by rw [hl', sizeLine_eq]; omega, fun p hp => q _ _ (h1.newTup hl' hp)⟩)
theorem ev_lst {xs : List OD} (h : EA X ca B es ds (tvs xs) ds1) (hz : xs.length ≤ 1000 := by simp) : EV X ca B (.List es pos) ds (.v (.lst xs)) ds1 := fun ts σ H Q h0 q =>
  we_of (pe_lst pa_wa) (h ts σ H _ h0 fun vs H1 hl h1 => by
    have hl' : vs.length = xs.length := by rw [hl]; simp [tvs]
    exact ⟨by rw [hl', sizeLine_eq]; omega, fun p hp => q _ _ (h1.newLst hl' hp)⟩)
end
end DL
/-! DL4: lists and tuples read; built-in calls. -/
namespace DL
open PySem PySem.Spec PyProof.Rows L2

section
variable {K : PySem.W.Frag} {ca : CA} {F H : Hp}
theorem Reps.length : ∀ {ds : List D} {vs : List V}, Reps K ca F ds vs → ds.length = vs.length
  | _, _, .nil => rfl
  | _, _, .cons _ r => congrArg Nat.succ r.length
theorem Reps.get : ∀ {ds : List D} {vs : List V} {i : Nat} {d : D}, Reps K ca F ds vs → ds[i]? = some d → ∃ v, vs[i]? = some v ∧ Rep K ca F d v
  | _, _, _, _, .nil, h => by simp at h
  | _, _, 0, _, .cons h r, e => by simp at e; subst e; exact ⟨_, rfl, h⟩
  | _, _, i + 1, d, .cons h r, e => by
    obtain ⟨v, h1, h2⟩ := Reps.get (i := i) (d := d) r (by simpa using e)
    exact ⟨v, by simpa using h1, h2⟩
theorem Reps.getV : ∀ {ds : List D} {vs : List V} {i : Nat} {v : V}, Reps K ca F ds vs → vs[i]? = some v → ∃ d, ds[i]? = some d ∧ Rep K ca F d v
  | _, _, _, _, .nil, h => by simp at h
  | _, _, 0, _, .cons h r, e => by simp at e; subst e; exact ⟨_, rfl, h⟩
  | _, _, i + 1, d, .cons h r, e => by
    obtain ⟨v, h1, h2⟩ := Reps.getV (i := i) r (by simpa using e)
    exact ⟨v, by simpa using h1, h2⟩
theorem Reps.atI {ds : List D} {vs : List V} {i : Int} {d : D} (r : Reps K ca F ds vs) (h : atI ds i = some d) : ∃ v, atI vs i = some v ∧ Rep K ca F d v := by
  unfold L2.atI at h ⊢
  rw [r.length] at h
  cases e : ixN vs.length i with
  | none => rw [e] at h; cases h
  | some j =>
    rw [e] at h
    exact r.get h
theorem Reps.append : ∀ {ds es : List D} {vs ws : List V}, Reps K ca F ds vs → Reps K ca F es ws → Reps K ca F (ds ++ es) (vs ++ ws)
  | _, _, _, _, .nil, s => s
  | _, _, _, _, .cons h r, s => .cons h (Reps.append r s)
theorem Reps.take : ∀ {ds : List D} {vs : List V} (n : Nat), Reps K ca F ds vs → Reps K ca F (ds.take n) (vs.take n)
  | _, _, 0, _ => by simpa using .nil
  | _, _, n + 1, .nil => by simpa using .nil
  | _, _, n + 1, .cons h r => by simpa using .cons h (Reps.take n r)
theorem Reps.drop : ∀ {ds : List D} {vs : List V} (n : Nat), Reps K ca F ds vs → Reps K ca F (ds.drop n) (vs.drop n)
  | _, _, 0, r => by simpa using r
  | _, _, n + 1, .nil => by simpa using .nil
  | _, _, n + 1, .cons h r => by simpa using Reps.drop n r
theorem Reps.set : ∀ {ds : List D} {vs : List V} {d : D} {v : V} (n : Nat), Rep K ca F d v → Reps K ca F ds vs → Reps K ca F (ds.set n d) (vs.set n v)
  | _, _, _, _, _, _, .nil => by simpa using .nil
  | _, _, _, _, 0, x, .cons h r => .cons x r
  | _, _, _, _, n + 1, x, .cons h r => .cons h (Reps.set n x r)
theorem Reps.eraseIdx : ∀ {ds : List D} {vs : List V} (n : Nat), Reps K ca F ds vs → Reps K ca F (ds.eraseIdx n) (vs.eraseIdx n)
  | _, _, _, .nil => by simpa using .nil
  | _, _, 0, .cons h r => r
  | _, _, n + 1, .cons h r => .cons h (Reps.eraseIdx n r)
theorem Reps.reverse {ds : List D} {vs : List V} (r : Reps K ca F ds vs) : Reps K ca F ds.reverse vs.reverse := by
  induction ds generalizing vs with
  | nil => cases r; exact .nil
  | cons d ds ih =>
    cases r with
    | cons h r =>
      rw [List.reverse_cons, List.reverse_cons]
      exact Reps.append (ih r) (.cons h .nil)
theorem Reps.dropLast {ds : List D} {vs : List V} (r : Reps K ca F ds vs) : Reps K ca F ds.dropLast vs.dropLast := by
  rw [List.dropLast_eq_take, List.dropLast_eq_take, r.length]
  exact r.take _
end

/-- a list's items xs[lo:hi], data -/
def cutD {α : Type} (xs : List α) (lo hi : Option Int) : List α := (xs.drop (HT.sIx xs.length 0 lo)).take (HT.sIx xs.length xs.length hi - HT.sIx xs.length 0 lo)
theorem Reps.cut {K : PySem.W.Frag} {ca : CA} {F : Hp} {ds : List D} {vs : List V} {lo hi : Option Int} (r : Reps K ca F ds vs) : Reps K ca F (cutD ds lo hi) (cutV vs lo hi) := by
  unfold cutD cutV
  rw [r.length]
  exact (r.drop _).take _

/-- o is a list (true) or a tuple (false) of the data xs -/
inductive Seq (ds : List Sl) : Tm → Bool → List D → Prop
  | lst (xs : List D) : Seq ds (.v (.dat (.lst xs))) true xs
  | ro (xs : List D) : Seq ds (.v (.dat (.ro xs))) true xs
  | tup (xs : List D) : Seq ds (.v (.dat (.tup xs))) false xs
  | own (xs : List D) : Seq ds (.v (.lst (xs.map .dat))) true xs
  | al {i : Nat} {od : OD} {k : Bool} {xs : List D} (h : ds[i]? = some (.v od)) (s : Seq ds (.v od) k xs) : Seq ds (.al i) k xs
abbrev OD.l (xs : List D) : OD := .lst (xs.map .dat)
theorem frzL_dat : ∀ xs : List D, frzL (xs.map .dat) = xs
  | [] => rfl
  | x :: xs => by
    show x :: frzL (xs.map .dat) = x :: xs
    rw [frzL_dat xs]
theorem frz_l (xs : List D) : (OD.l xs).frz = .lst xs := by
  show D.lst (frzL (xs.map .dat)) = _
  rw [frzL_dat]

section
variable {K : PySem.W.Frag} {ca : CA} {B : Base} {ds : List Sl} {ts : List (V × Tm)} {σ : L2.St} {H F Hu : Hp} {ow : Addr → Option Own} {v : V} {o : Tm} {xs : List D}
theorem owns_l {P : FP} (h : OwnsP K ca F Hu (OD.l xs) v P) : ∃ p vs, v = .ref p ∧ P p ∧ Hu p = some (.lst vs) ∧ Reps K ca F xs vs := by
  rw [OwnsP] at h
  obtain ⟨p, vs, e, hp, hH, hx⟩ := h
  exact ⟨p, vs, e, hp, hH, reps_of_ownsL hx⟩
theorem owns_l_mk {P : FP} {p : Addr} {vs : List V} (hp : P p) (hH : Hu p = some (.lst vs)) (r : Reps K ca F xs vs) : OwnsP K ca F Hu (OD.l xs) (.ref p) P := by
  rw [OwnsP]
  exact ⟨p, vs, rfl, hp, hH, ownsL_of_reps r⟩
theorem Core.seqL (C : Core K ca B ds ((v, o) :: ts) σ F Hu ow) (s : Seq ds o true xs) : ∃ a vs, v = .ref a ∧ SqL K (lock B.lk Hu) a vs ∧ Reps K ca F xs vs := by
  have t := C.tm
  have own : ∀ {xs : List D} {v : V} {w : Own}, OwnsP K ca F Hu (OD.l xs) v (fun a => ow a = some w) → ∃ a vs, v = .ref a ∧ SqL K (lock B.lk Hu) a vs ∧ Reps K ca F xs vs := fun {xs v w} h => by
    obtain ⟨p, vs, e, hp, hH, r⟩ := owns_l h
    exact ⟨p, vs, e, .inl (.inl (by rw [lock_none (C.nolk hp)]; exact hH)), r⟩
  have dat : ∀ {xs : List D} {v : V}, Rep K ca F (.lst xs) v → ∃ a vs, v = .ref a ∧ SqL K (lock B.lk Hu) a vs ∧ Reps K ca F xs vs := fun {xs v} h => by
    cases h with
    | lst h r => exact ⟨_, _, rfl, .inl (.inl (C.at h fun z => z)), r⟩
  have ro : ∀ {xs : List D} {v : V}, Rep K ca F (.ro xs) v → ∃ a vs, v = .ref a ∧ SqL K (lock B.lk Hu) a vs ∧ Reps K ca F xs vs := fun {xs v} h => by
    cases h with
    | ro h r => exact ⟨_, _, rfl, C.sqL h, r⟩
  cases s with
  | lst _ =>
    have t1 : OwnsP K ca F Hu (.dat (.lst xs)) v (fun a => ow a = some (.inr ts.length)) := t.1
    rw [OwnsP] at t1
    exact dat t1
  | ro _ =>
    have t1 : OwnsP K ca F Hu (.dat (.ro xs)) v (fun a => ow a = some (.inr ts.length)) := t.1
    rw [OwnsP] at t1
    exact ro t1
  | own xs => exact own (show OwnsP K ca F Hu (OD.l xs) v (fun a => ow a = some (.inr ts.length)) from t.1)
  | @al i od _ _ h s =>
    have t1 : σ[i]? = some (some v) := t.1
    obtain ⟨u, hu, x⟩ := C.sl i od h
    rw [t1] at hu
    cases hu
    cases s with
    | lst _ =>
      rw [OwnsP] at x
      exact dat x
    | ro _ =>
      rw [OwnsP] at x
      exact ro x
    | own xs => exact own x
theorem Core.seqT (C : Core K ca B ds ((v, o) :: ts) σ F Hu ow) (s : Seq ds o false xs) : ∃ a vs, v = .ref a ∧ SqT K (lock B.lk Hu) a vs ∧ Reps K ca F xs vs := by
  have t := C.tm
  have dat : ∀ {xs : List D} {v : V}, Rep K ca F (.tup xs) v → ∃ a vs, v = .ref a ∧ SqT K (lock B.lk Hu) a vs ∧ Reps K ca F xs vs := fun {xs v} h => by
    cases h with
    | tup h r => exact ⟨_, _, rfl, .inl (.inl (C.at h fun z => z)), r⟩
  cases s with
  | tup _ =>
    have t1 : OwnsP K ca F Hu (.dat (.tup xs)) v (fun a => ow a = some (.inr ts.length)) := t.1
    rw [OwnsP] at t1
    exact dat t1
  | @al i od _ _ h s =>
    have t1 : σ[i]? = some (some v) := t.1
    obtain ⟨u, hu, x⟩ := C.sl i od h
    rw [t1] at hu
    cases hu
    cases s with
    | tup _ =>
      rw [OwnsP] at x
      exact dat x
theorem Core.seq {k : Bool} (C : Core K ca B ds ((v, o) :: ts) σ F Hu ow) (s : Seq ds o k xs) : ∃ a vs, v = .ref a ∧ (SqL K (lock B.lk Hu) a vs ∨ SqT K (lock B.lk Hu) a vs) ∧ Reps K ca F xs vs := by
  cases k with
  | true =>
    obtain ⟨a, vs, e, h, r⟩ := C.seqL s
    exact ⟨a, vs, e, .inl h, r⟩
  | false =>
    obtain ⟨a, vs, e, h, r⟩ := C.seqT s
    exact ⟨a, vs, e, .inr h, r⟩
/-- a datum is put on its way -/
theorem Core.give {d : D} (C : Core K ca B ds ts σ F Hu ow) (r : Rep K ca F d v) : holds K ca B ds ((v, .v (.dat d)) :: ts) σ (lock B.lk Hu) := ⟨F, Hu, ow, rfl, C.tms _ ⟨by rw [OwnsP]; exact r, C.tm⟩⟩
theorem Core.h (C : Core K ca B ds ts σ F Hu ow) : holds K ca B ds ts σ (lock B.lk Hu) := ⟨F, Hu, ow, rfl, C⟩
theorem Core.rest {t : V × Tm} (C : Core K ca B ds (t :: ts) σ F Hu ow) : Core K ca B ds ts σ F Hu ow := C.tms _ (by
  have x := C.tm
  obtain ⟨v, (od | i)⟩ := t
  · exact x.2
  · exact x.2)
end

section
variable {X : Cx} {ca : CA} {B : Base} {ds ds1 ds2 ds3 : List Sl} {o o1 o2 o3 : Tm} {os : List Tm} {a b c e : Expr} {es : List Expr} {pos p : Pos} {b1 b2 : Bool} {xs ys : List D} {d : D} {k : Bool} {x : Str} {id T : String}

/-! ### built-ins called by their names -/
theorem ev_callB {r : List V → Hp → VK → Prop} (hc : CallR X (.builtin id) r) (hm : X.mg x = none) (hv : bootBuiltins x = some (.builtin id)) (ha : EA X ca B (e :: es) ds os ds1) (hr : RC X ca B r os ds1 o ds2) (hg : Gl X x := by rfl) (hn : x ≠ "__name__" := by decide) (hdb : (x == ("__debug__" : Str)) = false := by decide)
    (he : starEach (e :: es) X.env = (false, eval e X.env) :: starEach es X.env := by rfl) (hpl : (backTo pos (starEach es X.env)).any (·.1) = false := by rfl) : EV X ca B (.Call (.Name x p) (e :: es) [] pos) ds o ds2 := fun ts σ H Q h0 q =>
  we_of (pe_callB hc hg hm hv pa_wa hn hdb he hpl) (ha ts σ H _ h0 fun vs H1 hl h1 => hr ts σ H1 vs Q hl h1 q)
theorem ev_callTy {r : List V → Hp → VK → Prop} (hc : CallR X (.type T) r) (hm : X.mg x = none) (hv : bootBuiltins x = some (.type T)) (ha : EA X ca B (e :: es) ds os ds1) (hr : RC X ca B r os ds1 o ds2) (hg : Gl X x := by rfl) (hn : x ≠ "__name__" := by decide) (hdb : (x == ("__debug__" : Str)) = false := by decide)
    (he : starEach (e :: es) X.env = (false, eval e X.env) :: starEach es X.env := by rfl) (hpl : (backTo pos (starEach es X.env)).any (·.1) = false := by rfl) : EV X ca B (.Call (.Name x p) (e :: es) [] pos) ds o ds2 := fun ts σ H Q h0 q =>
  we_of (pe_callTy hc hg hm hv pa_wa hn hdb he hpl) (ha ts σ H _ h0 fun vs H1 hl h1 => hr ts σ H1 vs Q hl h1 q)
theorem ev_callTy0 {r : List V → Hp → VK → Prop} (hc : CallR X (.type T) r) (hm : X.mg x = none) (hv : bootBuiltins x = some (.type T)) (hr : RC X ca B r [] ds o ds2) (hg : Gl X x := by rfl) (hn : x ≠ "__name__" := by decide) (hdb : (x == ("__debug__" : Str)) = false := by decide) : EV X ca B (.Call (.Name x p) [] [] pos) ds o ds2 := fun ts σ H Q h0 q =>
  we_of (pe_callTy0 hc hg hm hv hn hdb) (hr ts σ H [] Q rfl h0 q)
theorem vs1 {vs : List V} {o : Tm} (h : vs.length = [o].length) : ∃ v, vs = [v] := by
  match vs, h with
  | [v], _ => exact ⟨v, rfl⟩
theorem vs2 {vs : List V} {o o' : Tm} (h : vs.length = [o, o'].length) : ∃ v w, vs = [v, w] := by
  match vs, h with
  | [v, w], _ => exact ⟨v, w, rfl⟩
theorem vs3 {vs : List V} {o o' o2 : Tm} (h : vs.length = [o, o', o2].length) : ∃ v w u, vs = [v, w, u] := by
  match vs, h with
  | [v, w, u], _ => exact ⟨v, w, u, rfl⟩

/-! ### len, list, tuple, items, slices -/
theorem EV.len (ha : EV X ca B a ds o ds1) (hs : Seq ds1 o k xs) (hm : X.mg "len" = none) (hg : Gl X "len" := by rfl) (he : starEach [a] X.env = (false, eval a X.env) :: starEach [] X.env := by rfl) : EV X ca B (.Call (.Name "len" p) [a] [] pos) ds (.int xs.length) ds1 :=
  ev_callB call_len_seq hm boot_len (ea_cons ha ea_nil he) (fun ts σ H vs Q hl h q => by
    obtain ⟨v, rfl⟩ := vs1 hl
    obtain ⟨F, Hu, ow, rfl, C⟩ := h
    obtain ⟨a, vs, rfl, h, r⟩ := C.seq hs
    refine ⟨a, vs, rfl, h, ?_⟩
    rw [← r.length]
    exact q _ _ (C.rest.give (.int _))) hg (he := he)
theorem EV.lenS {z : Str} (ha : EV X ca B a ds (.str z) ds1) (hz : z.length ≤ sizeLine) (hm : X.mg "len" = none) (hg : Gl X "len" := by rfl) (he : starEach [a] X.env = (false, eval a X.env) :: starEach [] X.env := by rfl) : EV X ca B (.Call (.Name "len" p) [a] [] pos) ds (.int z.length) ds1 :=
  ev_callB call_len_str hm boot_len (ea_cons ha ea_nil he) (fun ts σ H vs Q hl h q => by
    obtain ⟨v, rfl⟩ := vs1 hl
    have h' : holds X.K ca B ds1 ((v, .str z) :: ts) σ H := h
    obtain rfl := h'.str
    exact ⟨z, rfl, hz, q _ _ (h'.pop.val fun F => .int _)⟩) hg (he := he)
/-- list(xs): a new list -/
theorem EV.list (ha : EV X ca B a ds o ds1) (hs : Seq ds1 o k xs) (hm : X.mg "list" = none) (hg : Gl X "list" := by rfl) (he : starEach [a] X.env = (false, eval a X.env) :: starEach [] X.env := by rfl) : EV X ca B (.Call (.Name "list" p) [a] [] pos) ds (.v (OD.l xs)) ds1 :=
  ev_callTy call_list_of hm (by decide +kernel) (ea_cons ha ea_nil he) (fun ts σ H vs Q hl h q => by
    obtain ⟨v, rfl⟩ := vs1 hl
    obtain ⟨F, Hu, ow, rfl, C⟩ := h
    obtain ⟨a, vs, rfl, h, r⟩ := C.seq hs
    refine ⟨a, vs, rfl, h, fun l hl => q _ _ ?_⟩
    have C1 : Core X.K ca B ds1 ts σ F Hu ow := C.rest
    have hu := lock_isNone hl
    have C2 := C1.newO (o := .lst vs) (k := ts.length) hu
    refine ⟨_, _, _, lock_upd (C1.nolk0 hl), C2.tms _ ⟨owns_l_mk (if_pos rfl) upd_same r, C2.tm⟩⟩) hg (he := he)
/-- tuple(xs) -/
theorem EV.tuple (ha : EV X ca B a ds o ds1) (hs : Seq ds1 o k xs) (hm : X.mg "tuple" = none) (hg : Gl X "tuple" := by rfl) (he : starEach [a] X.env = (false, eval a X.env) :: starEach [] X.env := by rfl) : EV X ca B (.Call (.Name "tuple" p) [a] [] pos) ds (.d (.tup xs)) ds1 :=
  ev_callTy call_tuple_of hm (by decide +kernel) (ea_cons ha ea_nil he) (fun ts σ H vs Q hl h q => by
    obtain ⟨v, rfl⟩ := vs1 hl
    obtain ⟨F, Hu, ow, rfl, C⟩ := h
    cases k with
    | true =>
      obtain ⟨a, vs, rfl, h, r⟩ := C.seqL hs
      refine ⟨a, vs, rfl, .inl ⟨h, fun l hl => q _ _ ?_⟩⟩
      have C1 : Core X.K ca B ds1 ts σ F Hu ow := C.rest
      have hu := lock_isNone hl
      have C2 := C1.newF (o := .tup vs) hu
      refine ⟨_, _, _, lock_upd (C1.nolk0 hl), C2.tms _ ⟨?_, C2.tm⟩⟩
      rw [OwnsP]
      exact .tup upd_same (Reps.mono (Ex.new (C.free hu)) r)
    | false =>
      have s2 := hs
      obtain ⟨a, vs, rfl, h, r⟩ := C.seqT hs
      refine ⟨a, vs, rfl, .inr ⟨h, q _ _ ?_⟩⟩
      have C1 : Core X.K ca B ds1 ts σ F Hu ow := C.rest
      have t := C.tm
      cases s2 with
      | tup _ => exact C.h
      | @al i od _ _ hi s =>
        cases s with
        | tup _ =>
          have t1 : σ[i]? = some (some (V.ref a)) := t.1
          obtain ⟨u, hu, x⟩ := C.sl i _ hi
          rw [t1] at hu
          cases hu
          rw [OwnsP] at x
          exact C1.give x) hg (he := he)
theorem EV.ix {i : Int} (ha : EV X ca B a ds o ds1) (hb : EV X ca B b ds1 (.int i) ds2) (hs : Seq ds2 o k xs) (h : atI xs i = some d) (hp : PlainIx b := by exact fun _ _ => rfl) : EV X ca B (.Subscript a b pos) ds (.d d) ds2 := fun ts σ H Q h0 q =>
  we_of (pe_ix ix_seq pe_we pe_we hp) (ha ts σ H _ h0 fun x H1 h1 => hb _ σ H1 _ h1 fun y H2 h2 => by
    obtain rfl := h2.int
    obtain ⟨F, Hu, ow, rfl, C⟩ := h2.pop
    cases k with
    | true =>
      obtain ⟨a, vs, rfl, hq, r⟩ := C.seqL hs
      obtain ⟨v, h3, h4⟩ := r.atI h
      exact .inl ⟨a, vs, i, v, rfl, rfl, hq, h3, q _ _ (C.rest.give h4)⟩
    | false =>
      obtain ⟨a, vs, rfl, hq, r⟩ := C.seqT hs
      obtain ⟨v, h3, h4⟩ := r.atI h
      exact .inr (.inl ⟨a, vs, i, v, rfl, rfl, hq, h3, q _ _ (C.rest.give h4)⟩))
theorem EV.ixS {z : Str} {i : Int} {c : Nat} (ha : EV X ca B a ds (.str z) ds1) (hb : EV X ca B b ds1 (.int i) ds2) (hz : z.length ≤ sizeLine) (h : atI z.cps.toList i = some c) (hp : PlainIx b := by exact fun _ _ => rfl) : EV X ca B (.Subscript a b pos) ds (.str ⟨#[c]⟩) ds2 := fun ts σ H Q h0 q =>
  we_of (pe_ix ix_seq pe_we pe_we hp) (ha ts σ H _ h0 fun x H1 h1 => hb _ σ H1 _ h1 fun y H2 h2 => by
    obtain rfl := h2.int
    obtain rfl := h2.pop.str
    exact .inr (.inr ⟨z, i, c, rfl, rfl, hz, h, q _ _ (h2.pop.pop.val fun F => .str _)⟩))
/-- a part of a slice -/
def EO (X : Cx) (ca : CA) (B : Base) (e : Option Expr) (ds : List Sl) (i : Option Int) : Prop := match e with
  | none => i = none
  | some e => ∃ j, i = some j ∧ EV X ca B e ds (.int j) ds
theorem eo_none : EO X ca B none ds none := rfl
theorem eo_some {i : Int} (h : EV X ca B e ds (.int i) ds) : EO X ca B (some e) ds (some i) := ⟨i, rfl, h⟩
theorem po_of {lo : Option Expr} : PO X lo (match lo with
  | none => tNoPart
  | some e => tPart (WE X e)) := by
  cases lo with
  | none => exact po_none
  | some e => exact po_some pe_we
theorem EO.go {lo : Option Expr} {i : Option Int} (h : EO X ca B lo ds i) {ts : List (V × Tm)} {σ : L2.St} {H : Hp} {Q : Option Int → Hp → Prop} (h0 : holds X.K ca B ds ts σ H) (q : ∀ H', holds X.K ca B ds ts σ H' → Q i H') :
    (match lo with
  | none => tNoPart
  | some e => tPart (WE X e)) σ H Q := by
  cases lo with
  | none =>
    obtain rfl : i = none := h
    exact q H h0
  | some e =>
    obtain ⟨j, rfl, h⟩ := h
    exact h ts σ H _ h0 fun v H' h1 => ⟨j, h1.int, q H' h1.pop⟩
/-- xs[lo:hi], a list: a new list -/
theorem EV.sl {lo hi : Option Expr} {i j : Option Int} {p2 : Pos} (ha : EV X ca B a ds o ds1) (hl : EO X ca B lo ds1 i) (hh : EO X ca B hi ds1 j) (hs : Seq ds1 o true xs) : EV X ca B (.Subscript a (.Slice lo hi none p2) pos) ds (.v (OD.l (cutD xs i j))) ds1 := fun ts σ H Q h0 q =>
  we_of (pe_slice sl_list pe_we po_of po_of) (ha ts σ H _ h0 fun x H1 h1 => hl.go h1 fun H2 h2 => hh.go h2 fun H3 h3 => by
    obtain ⟨F, Hu, ow, rfl, C⟩ := h3
    obtain ⟨a, vs, rfl, h, r⟩ := C.seqL hs
    refine ⟨a, vs, rfl, h, fun l hl => q _ _ ?_⟩
    have C1 : Core X.K ca B ds1 ts σ F Hu ow := C.rest
    have hu := lock_isNone hl
    have C2 := C1.newO (o := .lst (cutV vs i j)) (k := ts.length) hu
    exact ⟨_, _, _, lock_upd (C1.nolk0 hl), C2.tms _ ⟨owns_l_mk (if_pos rfl) upd_same r.cut, C2.tm⟩⟩)
/-- xs + ys, of lists: a new list -/
theorem holds.lst2 {ts : List (V × Tm)} {σ : L2.St} {H : Hp} {v w : V} {K : PySem.W.Frag} (h : holds K ca B ds ((w, o2) :: (v, o1) :: ts) σ H) (h1 : Seq ds o1 true xs) (h2 : Seq ds o2 true ys) :
    ∃ F Hu ow, H = lock B.lk Hu ∧ Core K ca B ds ts σ F Hu ow ∧ (∃ a vs, v = .ref a ∧ SqL K (lock B.lk Hu) a vs ∧ Reps K ca F xs vs) ∧ ∃ a vs, w = .ref a ∧ SqL K (lock B.lk Hu) a vs ∧ Reps K ca F ys vs := by
  obtain ⟨F, Hu, ow, rfl, C⟩ := h
  exact ⟨F, Hu, ow, rfl, C.rest.rest, C.rest.seqL h1, C.seqL h2⟩
end
end DL
/-! DL5: blocks (BS), what a def promises (spD), the rule of a def, the rule of a call. -/
namespace DL
open PySem PySem.Spec PyProof.Rows L2

/-! ### blocks -/
inductive Out where
  | nx (ds : List Sl) | rt (o : OD) (ds : List Sl) | bk (ds : List Sl) | ct (ds : List Sl) | ex (c : Str) (fs : List (Str × D)) (ds : List Sl)
def plain (ts : List (V × Tm)) : Prop := ∀ v i, (v, Tm.al i) ∉ ts
/-- an exception is on its way, its fields at d -/
def holdsE (K : PySem.W.Frag) (ca : CA) (B : Base) (ds : List Sl) (ts : List (V × Tm)) (fs : List (Str × D)) (d : Addr) (σ : L2.St) (H : Hp) : Prop :=
  ∃ (F Hu : Hp) (ow : Addr → Option Own), H = lock B.lk Hu ∧ Core K ca B ds ts σ F Hu ow ∧ ∃ vs, F d = some (.xd vs) ∧ RepF K ca F fs vs
def Post (X : Cx) (ca : CA) (B : Base) (D : Ends) (W : WX) (ts : List (V × Tm)) : Out → Prop
  | .nx ds => ∀ σ H, holds X.K ca B ds ts σ H → D.nx σ H
  | .bk ds => ∀ σ H, holds X.K ca B ds ts σ H → D.bk σ H
  | .ct ds => ∀ σ H, holds X.K ca B ds ts σ H → D.ct σ H
  | .rt o ds => ∀ v σ H, holds X.K ca B ds ((v, .v o) :: ts) σ H → D.rt v H
  | .ex c fs ds => ∀ d σ H, holdsE X.K ca B ds ts fs d σ H → W (.ref (ca c)) (some d) σ H
def WS (X : Cx) (st : Stmt) (D : Ends) (σ : L2.St) (H : Hp) : Prop := ∀ pins s, Inv X pins σ H s → wpAny (model X.prog X.w) X.A (exec st X.env) (SP X pins D) X.xe s
theorem ps_ws {X : Cx} {st : Stmt} : PS X st (WS X st) := ⟨fun pins s _ _ _ I h => h pins s I⟩
theorem ws_of {X : Cx} {st : Stmt} {t : TS} (h : PS X st t) {D : Ends} {σ : L2.St} {H : Hp} (q : t D σ H) : WS X st D σ H := fun pins s I => h.run pins s σ H D I q
def WB (X : Cx) (st : List Stmt) (D : Ends) (σ : L2.St) (H : Hp) : Prop := ∀ pins s, Inv X pins σ H s → wpAny (model X.prog X.w) X.A (execs st X.env) (SP X pins D) X.xe s
theorem pss_wb {X : Cx} {st : List Stmt} : PSs X st (WB X st) := ⟨fun pins s _ _ _ I h => h pins s I⟩
theorem wb_of {X : Cx} {st : List Stmt} {t : TS} (h : PSs X st t) {D : Ends} {σ : L2.St} {H : Hp} (q : t D σ H) : WB X st D σ H := fun pins s I => h.run pins s σ H D I q
section
variable (X : Cx) (ca : CA) (B : Base)
def B1 (st : Stmt) (ds : List Sl) (out : Out) : Prop := ∀ ts σ H D W, plain ts → Takes X W → holds X.K ca B ds ts σ H → Post X ca B D W ts out → WS X st D σ H
def BS (st : List Stmt) (ds : List Sl) (out : Out) : Prop := ∀ ts σ H D W, plain ts → Takes X W → holds X.K ca B ds ts σ H → Post X ca B D W ts out → WB X st D σ H
/-- e raises -/
def EX (e : Expr) (ds : List Sl) (c : Str) (fs : List (Str × D)) (ds' : List Sl) : Prop :=
  ∀ ts σ H Q W, Takes X W → holds X.K ca B ds ts σ H → (∀ d H', holdsE X.K ca B ds' ts fs d σ H' → W (.ref (ca c)) (some d) σ H') → WE X e σ H Q
end
def Out.isNx : Out → Bool
  | .nx _ => true
  | _ => false
section
variable {X : Cx} {ca : CA} {B : Base} {ds ds1 ds2 ds3 : List Sl} {o o1 o2 o3 : Tm} {os : List Tm} {a b c e : Expr} {es : List Expr} {pos p : Pos} {b1 b2 : Bool} {st : Stmt} {sts rest : List Stmt} {out out' : Out} {x : Str}

theorem Post.nx' {D : Ends} {W : WX} {ts : List (V × Tm)} {n : L2.St → Hp → Prop} (h : out.isNx = false) (q : Post X ca B D W ts out) : Post X ca B { D with nx := n } W ts out := by
  cases out with
  | nx ds => cases h
  | rt o ds => exact q
  | bk ds => exact q
  | ct ds => exact q
  | ex c fs ds => exact q
theorem bs_nil : BS X ca B [] ds (.nx ds) := fun ts σ H D W pl tk h0 q => wb_of pss_nil (q σ H h0)
theorem bs_next (h1 : B1 X ca B st ds (.nx ds1)) (h2 : BS X ca B rest ds1 out) : BS X ca B (st :: rest) ds out := fun ts σ H D W pl tk h0 q =>
  wb_of (pss_cons ps_ws pss_wb) (h1 ts σ H { D with nx := WB X rest D } W pl tk h0 fun σ' H' h' => h2 ts σ' H' D W pl tk h' q)
theorem bs_stop (h1 : B1 X ca B st ds out) (hn : out.isNx = false := by rfl) : BS X ca B (st :: rest) ds out := fun ts σ H D W pl tk h0 q =>
  wb_of (pss_cons ps_ws pss_wb) (h1 ts σ H { D with nx := WB X rest D } W pl tk h0 (q.nx' hn))
theorem bs_one (h1 : B1 X ca B st ds out) : BS X ca B [st] ds out := fun ts σ H D W pl tk h0 q => wb_of (pss_one ps_ws) (h1 ts σ H D W pl tk h0 q)
/-- slots that are forgotten -/
inductive Wk : List Sl → List Sl → Prop
  | nil : Wk [] []
  | keep {s : Sl} {a b : List Sl} : Wk a b → Wk (s :: a) (s :: b)
  | drop {s : Sl} {a b : List Sl} : Wk a b → Wk (s :: a) (.no :: b)
theorem Wk.refl : ∀ ds : List Sl, Wk ds ds
  | [] => .nil
  | _ :: ds => .keep (Wk.refl ds)
theorem Wk.len : ∀ {a b : List Sl}, Wk a b → a.length = b.length
  | _, _, .nil => rfl
  | _, _, .keep w => congrArg Nat.succ w.len
  | _, _, .drop w => congrArg Nat.succ w.len
theorem Wk.at : ∀ {a b : List Sl} {i : Nat} {od : OD}, Wk a b → b[i]? = some (.v od) → a[i]? = some (.v od)
  | _, _, _, _, .nil, h => h
  | _, _, 0, _, .keep w, h => by simpa using h
  | _, _, i + 1, _, .keep w, h => by
    have := Wk.at (i := i) w (by simpa using h)
    simpa using this
  | _, _, 0, _, .drop w, h => by simp at h
  | _, _, i + 1, _, .drop w, h => by
    have := Wk.at (i := i) w (by simpa using h)
    simpa using this
theorem Core.wk {K : PySem.W.Frag} {ts : List (V × Tm)} {σ : L2.St} {F Hu : Hp} {ow : Addr → Option Own} (C : Core K ca B ds ts σ F Hu ow) (w : Wk ds ds1) : Core K ca B ds1 ts σ F Hu ow :=
  ⟨C.f0, C.fh, C.lks, C.fresh, C.keep, C.stay, C.own, C.ownS, C.ownT, C.prs, C.len.trans w.len, fun i od h => C.sl i od (w.at h), C.tm⟩
theorem holds.wk {K : PySem.W.Frag} {ts : List (V × Tm)} {σ : L2.St} {H : Hp} (h : holds K ca B ds ts σ H) (w : Wk ds ds1) : holds K ca B ds1 ts σ H := by
  obtain ⟨F, Hu, ow, e, C⟩ := h
  exact ⟨F, Hu, ow, e, C.wk w⟩
theorem bs_wk (h : BS X ca B sts ds (.nx ds1)) (w : Wk ds1 ds2) : BS X ca B sts ds (.nx ds2) := fun ts σ H D W pl tk h0 q => h ts σ H D W pl tk h0 fun σ' H' h' => q σ' H' (h'.wk w)
theorem b1_wk (h : B1 X ca B st ds (.nx ds1)) (w : Wk ds1 ds2) : B1 X ca B st ds (.nx ds2) := fun ts σ H D W pl tk h0 q => h ts σ H D W pl tk h0 fun σ' H' h' => q σ' H' (h'.wk w)
theorem bs_pre (w : Wk ds ds1) (h : BS X ca B sts ds1 out) : BS X ca B sts ds out := fun ts σ H D W pl tk h0 q => h ts σ H D W pl tk (h0.wk w) q
theorem noAl_of {ts : List (V × Tm)} {i : Nat} (h : plain ts) : noAl i ts := fun v hv => h v i hv
theorem plain_cons {ts : List (V × Tm)} {v : V} {od : OD} (h : plain ts) : plain ((v, .v od) :: ts) := fun u i hm => by
  rcases List.mem_cons.mp hm with e | hm
  · cases e
  · exact h u i hm

/-! ### simple statements -/
theorem b1_set {od : OD} {p' : Pos} (i : Nat) (he : EV X ca B e ds (.v od) ds1) (hN : X.N.Nodup) (hx : Loc X.env.scope x := by first | exact .inl rfl | exact .inr rfl) (hs : ds1.set i (.v od) = ds2 := by rfl) (hl : i < ds1.length := by simp) (hp : B.pr i = false := by rfl) (hi : X.N[i]? = some x := by rfl)
    (hsw : swapsWith e (some (.Name x p')) pos.line X.env = pure false := by rfl) (hf : X.fn x = true ∨ X.env.scope.names.lookup x = some .local := by first | exact .inl rfl | exact .inr rfl) : B1 X ca B (.Assign [.Name x p'] e pos) ds (.nx ds2) := fun ts σ H D W pl tk h0 q =>
  ws_of (ps_set hN hi hx pe_we hsw hf) (he ts σ H _ h0 fun v H' h => by
    rw [← hs] at q
    exact q _ _ (h.set hl hp (noAl_of pl)))
theorem b1_ret {od : OD} (he : EV X ca B e ds (.v od) ds1) : B1 X ca B (.Return (some e) pos) ds (.rt od ds1) := fun ts σ H D W pl tk h0 q => ws_of (ps_ret pe_we) (he ts σ H _ h0 fun v H' h => q v σ H' h)
theorem b1_retN : B1 X ca B (.Return none pos) ds (.rt (.dat .non) ds) := fun ts σ H D W pl tk h0 q => ws_of ps_retN (q _ σ H (h0.val fun F => .non))
theorem b1_retX {cl : Str} {fs : List (Str × D)} (he : EX X ca B e ds cl fs ds1) : B1 X ca B (.Return (some e) pos) ds (.ex cl fs ds1) := fun ts σ H D W pl tk h0 q => ws_of (ps_ret pe_we) (he ts σ H _ W tk h0 fun d H' h => q d σ H' h)
theorem b1_expr (he : EV X ca B e ds o ds1) (hs : swapsWith e none pos.line X.env = pure false := by rfl) : B1 X ca B (.Expr e pos) ds (.nx ds1) := fun ts σ H D W pl tk h0 q => ws_of (ps_expr pe_we hs) (he ts σ H _ h0 fun v H' h => q σ H' h.pop)
theorem b1_exprX {cl : Str} {fs : List (Str × D)} (he : EX X ca B e ds cl fs ds1) (hs : swapsWith e none pos.line X.env = pure false := by rfl) : B1 X ca B (.Expr e pos) ds (.ex cl fs ds1) := fun ts σ H D W pl tk h0 q => ws_of (ps_expr pe_we hs) (he ts σ H _ W tk h0 fun d H' h => q d σ H' h)
theorem b1_setX {p' : Pos} {cl : Str} {fs : List (Str × D)} (i : Nat) (he : EX X ca B e ds cl fs ds1) (hN : X.N.Nodup) (hx : Loc X.env.scope x := by first | exact .inl rfl | exact .inr rfl) (hi : X.N[i]? = some x := by rfl)
    (hsw : swapsWith e (some (.Name x p')) pos.line X.env = pure false := by rfl) (hf : X.fn x = true ∨ X.env.scope.names.lookup x = some .local := by first | exact .inl rfl | exact .inr rfl) : B1 X ca B (.Assign [.Name x p'] e pos) ds (.ex cl fs ds1) := fun ts σ H D W pl tk h0 q =>
  ws_of (ps_set hN hi hx pe_we hsw hf) (he ts σ H _ W tk h0 fun d H' h => q d σ H' h)
theorem b1_pass : B1 X ca B (.Pass pos) ds (.nx ds) := fun ts σ H D W pl tk h0 q => ws_of ps_pass (q σ H h0)
theorem b1_break : B1 X ca B (.Break pos) ds (.bk ds) := fun ts σ H D W pl tk h0 q => ws_of ps_break (q σ H h0)
theorem b1_continue : B1 X ca B (.Continue pos) ds (.ct ds) := fun ts σ H D W pl tk h0 q => ws_of ps_continue (q σ H h0)
theorem b1_if {k : Bool} {s1 s2 : List Stmt} (hc : ET X ca B c ds k ds1) (ht : k = true → BS X ca B s1 ds1 out) (hf : k = false → BS X ca B s2 ds1 out) : B1 X ca B (.If c s1 s2 pos) ds out := fun ts σ H D W pl tk h0 q =>
  ws_of (ps_if pt_wt pss_wb pss_wb) (hc ts σ H _ h0 fun H' h => by
    cases hk : k with
    | true => exact iteT (ht hk ts σ H' D W pl tk h q)
    | false => exact iteF (hf hk ts σ H' D W pl tk h q))
theorem b1_ifT {s1 s2 : List Stmt} (hc : ET X ca B c ds true ds1) (ht : BS X ca B s1 ds1 out) : B1 X ca B (.If c s1 s2 pos) ds out := b1_if hc (fun _ => ht) fun h => by cases h
theorem b1_ifF {s1 s2 : List Stmt} (hc : ET X ca B c ds false ds1) (hf : BS X ca B s2 ds1 out) : B1 X ca B (.If c s1 s2 pos) ds out := b1_if hc (fun h => by cases h) fun _ => hf
end

/-! ### what a def promises -/
/-- how a call ends: what it hands back, what its owned argument has become | an exception -/
inductive Res where
  | ok (r : OD) (od : OD)
  | ex (c : Str) (fs : List (Str × D)) (od : OD)
/-- the state at a def's entry -/
def Start (K : PySem.W.Frag) (ca : CA) (B : Base) (ods : List OD) (vs : List V) (H : Hp) : Prop :=
  ∃ ow : Addr → Option Own, H = lock B.lk B.H0 ∧ Core K ca B (ods.map .v) [] (vs.map some) B.F0 B.H0 ow ∧ B.v0 = vs
/-- the owned argument is the one at place al, if it is below the number of arguments -/
def prOf (al : Option Nat) : Nat → Bool := fun i => decide (al = some i)
/-- R: from the arguments to the end; al: the place of the owned argument -/
def spD (K : PySem.W.Frag) (ca : CA) (n : Nat) (al : Option Nat) (R : List OD → Res → Prop) : Sp := fun vs H Q E =>
  ∃ (B : Base) (ods : List OD) (res : Res), R ods res ∧ ods.length = n ∧ B.pr = prOf al ∧ Start K ca B ods vs H ∧ match res with
    | .ok r od => ∀ v ds σ H', holds K ca B ds [(v, .v r)] σ H' → (∀ i, al = some i → ds[i]? = some (.v od)) → Q v H'
    | .ex c fs od => ∀ d ds σ H', holdsE K ca B ds [] fs d σ H' → (∀ i, al = some i → ds[i]? = some (.v od)) → E (.ref (ca c)) (some d) H'
theorem Start.len {K : PySem.W.Frag} {ca : CA} {B : Base} {ods : List OD} {vs : List V} {H : Hp} (h : Start K ca B ods vs H) : vs.length = ods.length := by
  obtain ⟨ow, _, C, _⟩ := h
  have := C.len
  simpa using this
theorem Core.more {K : PySem.W.Frag} {ca : CA} {B : Base} {ds : List Sl} {σ : L2.St} {F Hu : Hp} {ow : Addr → Option Own} (C : Core K ca B ds [] σ F Hu ow) (n : Nat) : Core K ca B (ds ++ List.replicate n .no) [] (σ ++ List.replicate n none) F Hu ow := by
  refine ⟨C.f0, C.fh, C.lks, C.fresh, C.keep, C.stay, C.own, C.ownS, C.ownT, fun i hi => ?_, by simp [C.len], fun i od h => ?_, True.intro⟩
  · obtain ⟨v, h1, h2⟩ := C.prs i hi
    have hl : i < σ.length := (List.getElem?_eq_some_iff.mp h2).1
    exact ⟨v, h1, by rw [List.getElem?_append_left hl]; exact h2⟩
  · by_cases hl : i < ds.length
    · rw [List.getElem?_append_left hl] at h
      obtain ⟨v, h1, h2⟩ := C.sl i od h
      exact ⟨v, by rw [List.getElem?_append_left (by rw [C.len]; exact hl)]; exact h1, h2⟩
    · rw [List.getElem?_append_right (by omega), List.getElem?_replicate] at h
      split at h <;> cases h

section
variable {P : Program} {w : World} {K : PySem.W.Frag} {mg : Str → Option Value} {base : Heap}
/-- THE RULE of a def -/
theorem ok_def {x qual : Str} {params : Arguments} {body : List Stmt} {scope : Scope} {dvs : List V} {kws : List (Str × V)} {f : Addr} {fd : FuncData} {ca : CA} {N ps : List Str} {k : Nat} {al : Option Nat} {R : List OD → Res → Prop}
    (F : FunD K x qual params body scope dvs kws f fd) (S : FnScope N ps scope)
    (hb : ∀ (cdv : Value) (A : Around) (outer : List Env) (s : Shared) (H : Hp) (E : XK) (B : Base) (ods : List OD) (res : Res), Room k (A.deeper (envOfC qual scope s.heap.objs.size f cdv)) → B.pr = prOf al → R ods res → ods.length = ps.length →
      match res with
      | .ok r od => (∃ ds, (∀ i, al = some i → ds[i]? = some (.v od)) ∧ BS (cxOf (CX P w) P w K mg base N qual scope f cdv A outer s H E) ca B body (ods.map .v ++ List.replicate (N.length - ps.length) .no) (.rt r ds)) ∨
          (r = .dat .non ∧ ∃ ds, (∀ i, al = some i → ds[i]? = some (.v od)) ∧ BS (cxOf (CX P w) P w K mg base N qual scope f cdv A outer s H E) ca B body (ods.map .v ++ List.replicate (N.length - ps.length) .no) (.nx ds))
      | .ex c fs od => ∃ ds, (∀ i, al = some i → ds[i]? = some (.v od)) ∧ BS (cxOf (CX P w) P w K mg base N qual scope f cdv A outer s H E) ca B body (ods.map .v ++ List.replicate (N.length - ps.length) .no) (.ex c fs ds)) :
    FnOk P w K mg base (CX P w) (k + 1) f fd ps (spD K ca ps.length al R) := by
  refine F.ok S (fun vs H Q E h => ?_) (fun cdv A outer s H vs Q E hr h => ?_)
  · obtain ⟨B, ods, res, _, hn, _, hs, _⟩ := h
    rw [hs.len, hn]
  · obtain ⟨B, ods, res, hR, hn, hpr, hs, hq⟩ := h
    have hlen := hs.len
    obtain ⟨ow, rfl, C, hv⟩ := hs
    have h0 : holds K ca B (ods.map .v ++ List.replicate (N.length - ps.length) .no) [] (L2.start N vs) (lock B.lk B.H0) := by
      refine ⟨B.F0, B.H0, ow, rfl, ?_⟩
      unfold L2.start
      rw [hlen, hn]
      exact C.more _
    have hbody := hb cdv A outer s (lock B.lk B.H0) E B ods res hr hpr hR hn
    have pl : plain [] := fun v i hm => by cases hm
    refine ⟨_, pss_wb, ?_⟩
    cases res with
    | ok r od =>
      rcases hbody with ⟨ds, hd, bs⟩ | ⟨rfl, ds, hd, bs⟩
      · exact bs [] _ _ _ (fun _ _ _ _ => False) pl takes_none5 h0 fun v σ H' h' => hq v ds σ H' h' hd
      · exact bs [] _ _ _ (fun _ _ _ _ => False) pl takes_none5 h0 fun σ H' h' => hq .non ds σ H' (h'.val fun F => .non) hd
    | ex c fs od =>
      obtain ⟨ds, hd, bs⟩ := hbody
      exact bs [] _ _ _ (fun cls d _ H => E cls d H) pl (takes_of rfl rfl rfl rfl) h0 fun d σ H' h' => hq d ds σ H' h' hd
end
end DL
/-! DL6: calls of the program's own defs. -/
namespace DL
open PySem PySem.Spec PyProof.Rows L2

/-- the arguments: data, and at most one owned thing, the one of slot j, at place al -/
inductive Args (ds : List Sl) (j : Nat) : Option Nat → List Tm → List OD → Prop
  | nil : Args ds j none [] []
  | dat {d : D} {al : Option Nat} {os : List Tm} {ods : List OD} : Args ds j al os ods → Args ds j (al.map (· + 1)) (.v (.dat d) :: os) (.dat d :: ods)
  | own {od : OD} {os : List Tm} {ods : List OD} : ds[j]? = some (.v od) → Args ds j none os ods → Args ds j (some 0) (.al j :: os) (od :: ods)
theorem Args.len {ds : List Sl} {j : Nat} : ∀ {al : Option Nat} {os : List Tm} {ods : List OD}, Args ds j al os ods → ods.length = os.length
  | _, _, _, .nil => rfl
  | _, _, _, .dat h => congrArg Nat.succ h.len
  | _, _, _, .own _ h => congrArg Nat.succ h.len
theorem Args.at {K : PySem.W.Frag} {ca : CA} {F Hu : Hp} {ow : Addr → Option Own} {σ : L2.St} {ds : List Sl} {j : Nat} : ∀ {al : Option Nat} {os : List Tm} {ods : List OD} {vs : List V} {ts : List (V × Tm)}, Args ds j al os ods → vs.length = os.length → TmsR K ca F Hu ow σ (pushAll vs os ts) →
    ∀ i od, ods[i]? = some od → ∃ v, vs[i]? = some v ∧ ((al = some i ∧ σ[j]? = some (some v) ∧ ds[j]? = some (.v od)) ∨ (al ≠ some i ∧ ∃ d, od = .dat d ∧ Rep K ca F d v))
  | _, _, _, vs, ts, .nil, hl, t, i, od, h => by simp at h
  | _, _, _, v :: vs, ts, .dat (al := al) h, hl, t, 0, od, ho => by
    simp at ho
    have t1 := tms_rest (ts := (v, _) :: ts) t
    have t2 : OwnsP K ca F Hu (.dat _) v (fun a => ow a = some (.inr ts.length)) := t1.1
    rw [OwnsP] at t2
    refine ⟨v, rfl, .inr ⟨?_, _, ho.symm, t2⟩⟩
    cases al <;> simp
  | _, _, _, v :: vs, ts, .dat (al := al) h, hl, t, i + 1, od, ho => by
    obtain ⟨u, h1, h2⟩ := h.at (ts := (v, _) :: ts) (by simpa using hl) t i od (by simpa using ho)
    refine ⟨u, by simpa using h1, ?_⟩
    rcases h2 with ⟨e, h2⟩ | ⟨e, h2⟩
    · exact .inl ⟨by rw [e]; rfl, h2⟩
    · refine .inr ⟨?_, h2⟩
      cases al with
      | none => simp
      | some k =>
        intro z
        exact e (by simpa using z)
  | _, _, _, v :: vs, ts, .own hj h, hl, t, 0, od, ho => by
    simp at ho
    have t1 := tms_rest (ts := (v, _) :: ts) t
    have t2 : σ[j]? = some (some v) := t1.1
    exact ⟨v, rfl, .inl ⟨rfl, t2, by rw [← ho]; exact hj⟩⟩
  | _, _, _, v :: vs, ts, .own hj h, hl, t, i + 1, od, ho => by
    obtain ⟨u, h1, h2⟩ := h.at (ts := (v, _) :: ts) (by simpa using hl) t i od (by simpa using ho)
    refine ⟨u, by simpa using h1, ?_⟩
    rcases h2 with ⟨e, h2⟩ | ⟨e, h2⟩
    · cases e
    · exact .inr ⟨(by intro z; cases z), h2⟩
theorem Args.has {ds : List Sl} {j : Nat} : ∀ {al : Option Nat} {os : List Tm} {ods : List OD} {i : Nat}, Args ds j al os ods → al = some i → ∃ od, ods[i]? = some od ∧ ds[j]? = some (.v od)
  | _, _, _, _, .nil, e => by cases e
  | _, _, _, i, .dat (al := al) h, e => by
    cases al with
    | none => cases e
    | some k =>
      cases e
      obtain ⟨od, h1, h2⟩ := h.has rfl
      exact ⟨od, by simpa using h1, h2⟩
  | _, _, _, _, .own hj h, e => by
    cases e
    exact ⟨_, rfl, hj⟩
/-- the slots behind the call -/
def setAl (al : Option Nat) (j : Nat) (od : OD) (ds : List Sl) : List Sl := match al with
  | none => ds
  | some _ => ds.set j (.v od)

/-- who owns what at the callee's entry -/
def stOw (al : Option Nat) (ow : Addr → Option Own) (j : Nat) : Addr → Option Own := fun a => match al with
  | none => none
  | some i => if ow a = some (.inl j) then some (.inl i) else none
/-- the callee's base -/
def callB (B : Base) (F Hu : Hp) (ow : Addr → Option Own) (al : Option Nat) (j : Nat) (vs : List V) : Base := { F0 := F, H0 := Hu, foot := fun a => al.isSome = true ∧ ow a = some (.inl j), lk := B.lk, pr := prOf al, v0 := vs }
section
variable {K : PySem.W.Frag} {ca : CA} {B : Base} {ds : List Sl} {ts : List (V × Tm)} {σ : L2.St} {F Hu : Hp} {ow : Addr → Option Own} {al : Option Nat} {j : Nat} {os : List Tm} {ods : List OD} {vs : List V}

theorem Core.start (C : Core K ca B ds (pushAll vs os ts) σ F Hu ow) (ar : Args ds j al os ods) (hl : vs.length = os.length) : Start K ca (callB B F Hu ow al j vs) ods vs (lock B.lk Hu) := by
  have at_ := ar.at hl C.tm
  refine ⟨stOw al ow j, rfl, ⟨Ex.refl _, C.fh, C.lks, fun a o h hn => ?_, fun a o h _ => h, fun a o h => ⟨o, h⟩, fun a x h => ?_, fun a i h => ?_, fun a k h => ?_, fun i hi => ?_, ?_, fun i od h => ?_, True.intro⟩, rfl⟩
  · rw [h] at hn
    cases hn
  · cases al with
    | none => cases h
    | some i =>
      have h' : (if ow a = some (Sum.inl j) then some (Sum.inl i) else none) = some x := h
      by_cases q : ow a = some (.inl j)
      · exact C.own a _ q
      · rw [if_neg q] at h'
        cases h'
  · cases al with
    | none => cases h
    | some i0 =>
      have h' : (if ow a = some (Sum.inl j) then some (Sum.inl i0) else none) = some (.inl i) := h
      by_cases q : ow a = some (.inl j)
      · rw [if_pos q] at h'
        cases h'
        exact .inr ⟨⟨rfl, q⟩, decide_eq_true rfl⟩
      · rw [if_neg q] at h'
        cases h'
  · cases al with
    | none => cases h
    | some i0 =>
      have h' : (if ow a = some (Sum.inl j) then some (Sum.inl i0) else none) = some (.inr k) := h
      by_cases q : ow a = some (.inl j)
      · rw [if_pos q] at h'
        cases h'
      · rw [if_neg q] at h'
        cases h'
  · have e : al = some i := of_decide_eq_true hi
    obtain ⟨od, h1, _⟩ := ar.has e
    obtain ⟨v, h2, _⟩ := at_ i od h1
    refine ⟨v, h2, ?_⟩
    rw [List.getElem?_map, h2]
    rfl
  · rw [List.length_map, List.length_map, hl, ar.len]
  · have h1 : ods[i]? = some od := by
      rw [List.getElem?_map] at h
      cases q : ods[i]? with
      | none => rw [q] at h; cases h
      | some z => rw [q] at h; cases h; rfl
    obtain ⟨v, h2, h3⟩ := at_ i od h1
    refine ⟨v, by rw [List.getElem?_map, h2]; rfl, ?_⟩
    rcases h3 with ⟨e, h4, h5⟩ | ⟨_, d, rfl, h4⟩
    · obtain ⟨u, h6, h7⟩ := C.sl j od h5
      rw [h4] at h6
      cases h6
      exact owns_imp (Ex.refl _) (fun a o pa ha => ⟨ha, by
        have pa' : ow a = some (.inl j) := pa
        show stOw al ow j a = some (.inl i)
        rw [e]
        show (if ow a = some (Sum.inl j) then some (Sum.inl i) else none) = _
        rw [if_pos pa']⟩) h7
    · rw [OwnsP]
      exact h4
/-- behind the call; T: what is on its way then -/
theorem Core.back {dsc : List Sl} {tc : List (V × Tm)} {σc : L2.St} {F' Hu' : Hp} {ow' : Addr → Option Own} {od' : OD} (C : Core K ca B ds (pushAll vs os ts) σ F Hu ow) (ar : Args ds j al os ods) (hl : vs.length = os.length)
    (C' : Core K ca (callB B F Hu ow al j vs) dsc tc σc F' Hu' ow') (hd : ∀ i, al = some i → dsc[i]? = some (.v od')) :
    ∃ ow3 : Addr → Option Own, Core K ca B (setAl al j od' ds) ts σ F' Hu' ow3 ∧ ∀ a, ow' a = some (.inr 0) → ow3 a = some (.inr ts.length) := by
  have at_ := ar.at hl C.tm
  have t0 : TmsR K ca F Hu ow σ ts := tms_rest C.tm
  -- an address that the callee owns is new, or of the owned argument
  have fr : ∀ {a : Addr} {x : Own}, ow' a = some x → Hu a = none ∨ (al.isSome = true ∧ ow a = some (.inl j) ∧ ∃ i, al = some i ∧ x = .inl i) := fun {a x} h => by
    cases x with
    | inl i =>
      rcases C'.ownS a i h with q | ⟨q, z⟩
      · exact .inl q
      · exact .inr ⟨q.1, q.2, i, of_decide_eq_true z, rfl⟩
    | inr k => exact .inl (C'.ownT a k h)
  have kp : ∀ {a : Addr} {o : HO}, Hu a = some o → ¬ (al.isSome = true ∧ ow a = some (.inl j)) → Hu' a = some o := fun {a o} h n => C'.keep a o h n
  let ow3 : Addr → Option Own := fun a => match ow' a with
    | some (.inl i) => if al = some i then some (.inl j) else none
    | some (.inr 0) => some (.inr ts.length)
    | some (.inr (_ + 1)) => none
    | none => if Hu a = none ∨ (al.isSome = true ∧ ow a = some (.inl j)) then none else match ow a with
      | some (.inr k) => if k < ts.length then some (.inr k) else none
      | x => x
  -- what ow3 tells
  have o3 : ∀ {a : Addr} {x : Own}, ow3 a = some x → (∃ i, ow' a = some (.inl i) ∧ al = some i ∧ x = .inl j) ∨ (ow' a = some (.inr 0) ∧ x = .inr ts.length) ∨ (ow' a = none ∧ Hu a ≠ none ∧ ¬ (al.isSome = true ∧ ow a = some (.inl j)) ∧ ow a = some x ∧ ∀ k, x = .inr k → k < ts.length) := fun {a x} h => by
    have h' : (match ow' a with
    | some (.inl i) => if al = some i then some (.inl j) else none
    | some (.inr 0) => some (.inr ts.length)
    | some (.inr (_ + 1)) => none
    | none => if Hu a = none ∨ (al.isSome = true ∧ ow a = some (.inl j)) then none else match ow a with
      | some (.inr k) => if k < ts.length then some (.inr k) else none
      | x => x) = some x := h
    cases q : ow' a with
    | none =>
      rw [q] at h'
      by_cases c : Hu a = none ∨ (al.isSome = true ∧ ow a = some (.inl j))
      · simp only [if_pos c] at h'
        cases h'
      · simp only [if_neg c] at h'
        refine .inr (.inr ⟨rfl, fun z => c (.inl z), fun z => c (.inr z), ?_⟩)
        cases r : ow a with
        | none => rw [r] at h'; cases h'
        | some y =>
          rw [r] at h'
          cases y with
          | inl i =>
            cases h'
            exact ⟨rfl, fun k e => by cases e⟩
          | inr k =>
            by_cases hk : k < ts.length
            · simp only [if_pos hk] at h'
              cases h'
              exact ⟨rfl, fun k' e => by cases e; exact hk⟩
            · simp only [if_neg hk] at h'
              cases h'
    | some y =>
      rw [q] at h'
      cases y with
      | inl i =>
        by_cases c : al = some i
        · simp only [if_pos c] at h'
          cases h'
          exact .inl ⟨i, rfl, c, rfl⟩
        · simp only [if_neg c] at h'
          cases h'
      | inr k =>
        cases k with
        | zero =>
          cases h'
          exact .inr (.inl ⟨rfl, rfl⟩)
        | succ k => cases h'
  -- others keep what is theirs
  have oth : ∀ {a : Addr} {o : HO} {x : Own}, Hu a = some o → ow a = some x → ¬ (al.isSome = true ∧ x = .inl j) → (∀ k, x = .inr k → k < ts.length) → Hu' a = some o ∧ ow3 a = some x := fun {a o x} h1 h2 h3 h4 => by
    have n1 : ¬ (al.isSome = true ∧ ow a = some (.inl j)) := fun z => h3 ⟨z.1, by rw [h2] at z; exact Option.some.inj z.2⟩
    refine ⟨kp h1 n1, ?_⟩
    have n2 : ow' a = none := by
      cases q : ow' a with
      | none => rfl
      | some y =>
        rcases fr q with z | ⟨z1, z2, _⟩
        · rw [h1] at z; cases z
        · exact absurd ⟨z1, z2⟩ n1
    have n3 : ¬ (Hu a = none ∨ (al.isSome = true ∧ ow a = some (.inl j))) := fun z => z.elim (fun z => by rw [h1] at z; cases z) n1
    show (match ow' a with
    | some (.inl i) => if al = some i then some (.inl j) else none
    | some (.inr 0) => some (.inr ts.length)
    | some (.inr (_ + 1)) => none
    | none => if Hu a = none ∨ (al.isSome = true ∧ ow a = some (.inl j)) then none else match ow a with
      | some (.inr k) => if k < ts.length then some (.inr k) else none
      | x => x) = some x
    rw [n2]
    simp only
    rw [if_neg n3, h2]
    cases x with
    | inl i => rfl
    | inr k =>
      simp only
      rw [if_pos (h4 k rfl)]
  refine ⟨ow3, ⟨C.f0.trans C'.f0, C'.fh, C'.lks, fun a o h hn => ?_, fun a o h hf => ?_, fun a o h => ?_, fun a x h => ?_, fun a i h => ?_, fun a k h => ?_, C.prs, ?_, fun i od h => ?_, ?_⟩, fun a h => ?_⟩
  · cases q : F a with
    | some u => exact C.fresh a u q hn
    | none => exact C.h0free (C'.fresh a o h q)
  · refine kp (C.keep a o h hf) fun z => ?_
    rcases C.ownS a j z.2 with q | ⟨q, _⟩
    · rw [h] at q; cases q
    · exact hf q
  · obtain ⟨u, q⟩ := C.stay a o h
    exact C'.stay a u q
  · rcases o3 h with ⟨i, q, _, _⟩ | ⟨q, _⟩ | ⟨q, q1, _, q2, _⟩
    · exact C'.own a _ q
    · exact C'.own a _ q
    · cases r : F' a with
      | none => rfl
      | some u => exact absurd (C'.fresh a u r (C.own a x q2)) q1
  · rcases o3 h with ⟨i', q, e, z⟩ | ⟨_, z⟩ | ⟨_, _, _, q2, _⟩
    · cases z
      rcases fr q with z | ⟨_, z, _⟩
      · exact .inl (C.h0free z)
      · exact C.ownS a j z
    · cases z
    · exact C.ownS a i q2
  · rcases o3 h with ⟨_, _, _, z⟩ | ⟨q, _⟩ | ⟨_, _, _, q2, _⟩
    · cases z
    · exact C.h0free (C'.ownT a _ q)
    · exact C.ownT a k q2
  · cases al with
    | none => exact C.len
    | some i => show σ.length = (ds.set j _).length; rw [List.length_set]; exact C.len
  · by_cases hij : al.isSome = true ∧ i = j
    · obtain ⟨h1, rfl⟩ := hij
      obtain ⟨i0, e⟩ := Option.isSome_iff_exists.mp h1
      obtain ⟨od0, h2, h3⟩ := ar.has e
      have hlt : i < ds.length := (List.getElem?_eq_some_iff.mp h3).1
      have e1 : od = od' := by
        rw [e] at h
        have h' : (ds.set i (.v od'))[i]? = some (.v od) := h
        rw [List.getElem?_set_self hlt] at h'
        cases h'
        rfl
      subst e1
      obtain ⟨v, h4, h5⟩ := C'.sl i0 _ (hd i0 e)
      obtain ⟨v', h6, h7⟩ := C'.prs i0 (decide_eq_true e)
      rw [h4] at h7
      cases h7
      obtain ⟨v2, h8, h9⟩ := at_ i0 od0 h2
      have h6' : vs[i0]? = some v := h6
      rw [h8] at h6'
      cases h6'
      rcases h9 with ⟨_, h10, _⟩ | ⟨z, _⟩
      · refine ⟨_, h10, owns_imp (Ex.refl _) (fun a o pa ha => ⟨ha, ?_⟩) h5⟩
        have pa' : ow' a = some (.inl i0) := pa
        simp only [ow3, pa', if_pos e]
      · exact absurd e z
    · have h' : ds[i]? = some (.v od) := by
        cases al with
        | none => exact h
        | some i0 =>
          have h1 : (ds.set j (.v od'))[i]? = some (.v od) := h
          rw [List.getElem?_set_ne (fun z => hij ⟨rfl, z.symm⟩)] at h1
          exact h1
      obtain ⟨v, h1, h2⟩ := C.sl i od h'
      refine ⟨v, h1, owns_imp C'.f0 (fun a o pa ha => ?_) h2⟩
      exact oth ha pa (fun z => hij ⟨z.1, by cases z.2; rfl⟩) (fun k z => by cases z)
  · exact tms_imp C'.f0 (fun a o k hk pa ha => oth ha pa (fun z => by cases z.2) (fun k' z => by cases z; exact hk)) t0
  · simp only [ow3, h]
end

section
variable {X : Cx} {ca : CA} {B : Base} {ds ds1 ds2 : List Sl} {os : List Tm} {ods : List OD} {e : Expr} {es : List Expr} {pos p : Pos} {x : Str} {k : Nat} {f : Addr} {fd : FuncData} {ps : List Str} {al : Option Nat} {j n : Nat} {R : List OD → Res → Prop}
/-- f(e, ..) hands back r -/
theorem ev_call {r od' : OD} (G : FnOk X.prog X.w X.K X.mg X.base (CX X.prog X.w) k f fd ps (spD X.K ca n al R)) (hr : Room k X.A) (hm : X.mg x = some (.ref f)) (hk : PySem.W.keepIn X.K (.ref f) = true) (hb : Binds X.K fd ps [])
    (ha : EA X ca B (e :: es) ds os ds1) (ar : Args ds1 j al os ods) (hR : R ods (.ok r od')) (hn : os.length = n := by rfl) (hs : setAl al j od' ds1 = ds2 := by rfl) (hg : Gl X x := by rfl) (hdb : (x == ("__debug__" : Str)) = false := by decide)
    (he : starEach (e :: es) X.env = (false, eval e X.env) :: starEach es X.env := by rfl) (hpl : (backTo pos (starEach es X.env)).any (·.1) = false := by rfl) : EV X ca B (.Call (.Name x p) (e :: es) [] pos) ds (.v r) ds2 := fun ts σ H Q h0 q =>
  we_of (pe_call (E := fun _ _ _ => False) G hr hg hm hk hb .nil (passes_call (W := fun _ _ _ _ => False) takes_none5 fun _ _ _ _ z => z) pa_wa hdb he hpl) (ha ts σ H _ h0 fun vs H1 hl h1 => by
    obtain ⟨F, Hu, ow, rfl, C⟩ := h1
    rw [List.append_nil]
    refine ⟨callB B F Hu ow al j vs, ods, .ok r od', hR, ar.len.trans hn, rfl, C.start ar hl, fun v dsc σc H' hc hd => ?_⟩
    obtain ⟨F', Hu', ow', rfl, C'⟩ := hc
    obtain ⟨ow3, C3, hw⟩ := C.back ar hl C' hd
    rw [hs] at C3
    have t := C'.tm
    have t1 : OwnsP X.K ca F' Hu' r v (fun a => ow' a = some (.inr 0)) := t.1
    exact q v _ ⟨F', Hu', ow3, rfl, C3.tms _ ⟨owns_imp (Ex.refl _) (fun a o pa ha => ⟨ha, hw a pa⟩) t1, C3.tm⟩⟩)
/-- f(e, ..) raises -/
theorem ex_call {c : Str} {fs : List (Str × D)} {od' : OD} (G : FnOk X.prog X.w X.K X.mg X.base (CX X.prog X.w) k f fd ps (spD X.K ca n al R)) (hr : Room k X.A) (hm : X.mg x = some (.ref f)) (hk : PySem.W.keepIn X.K (.ref f) = true) (hb : Binds X.K fd ps [])
    (ha : EA X ca B (e :: es) ds os ds1) (ar : Args ds1 j al os ods) (hR : R ods (.ex c fs od')) (hn : os.length = n := by rfl) (hs : setAl al j od' ds1 = ds2 := by rfl) (hg : Gl X x := by rfl) (hdb : (x == ("__debug__" : Str)) = false := by decide)
    (he : starEach (e :: es) X.env = (false, eval e X.env) :: starEach es X.env := by rfl) (hpl : (backTo pos (starEach es X.env)).any (·.1) = false := by rfl) : EX X ca B (.Call (.Name x p) (e :: es) [] pos) ds c fs ds2 := fun ts σ H Q W tk h0 q =>
  we_of (pe_callSD (E := fun σ cls d H => W cls d σ H) G hr hg hm hk hb .nil (fun σ pins H s e s' I z => tk e s' (XE.of_call I (fun _ _ _ h => h) z)) pa_wa hdb he hpl) (ha ts σ H _ h0 fun vs H1 hl h1 => by
    obtain ⟨F, Hu, ow, rfl, C⟩ := h1
    rw [List.append_nil]
    refine ⟨callB B F Hu ow al j vs, ods, .ex c fs od', hR, ar.len.trans hn, rfl, C.start ar hl, fun d dsc σc H' hc hd => ?_⟩
    obtain ⟨F', Hu', ow', rfl, C', xs, hx, hrep⟩ := hc
    obtain ⟨ow3, C3, hw⟩ := C.back ar hl C' hd
    rw [hs] at C3
    exact q d _ ⟨F', Hu', ow3, rfl, C3, xs, hx, hrep⟩)
end
end DL
/-! DL7: blocks one behind another (BP), targets, what is walked (IV), for loops. -/
namespace DL
open PySem PySem.Spec PyProof.Rows L2

section
variable (X : Cx) (ca : CA) (B : Base)
/-- the blocks one behind another -/
def BK : List (List Stmt) → List Sl → Out → Prop
  | [], ds, out => out = .nx ds
  | b :: bs, ds, out => ∃ o1, BS X ca B b ds o1 ∧ match o1 with
    | .nx ds1 => BK bs ds1 out
    | o => out = o
def BP (bs : List (List Stmt)) (ds : List Sl) (P : Out → Prop) : Prop := ∃ out, BK X ca B bs ds out ∧ P out
end
section
variable {X : Cx} {ca : CA} {B : Base} {ds ds1 ds2 ds3 : List Sl} {o o1 o2 o3 : Tm} {os : List Tm} {a b c e : Expr} {es : List Expr} {pos p : Pos} {b1 b2 : Bool} {st : Stmt} {sts rest : List Stmt} {bs : List (List Stmt)} {out out' : Out} {x : Str} {P Q : Out → Prop}

theorem BK.one (h : BK X ca B [sts] ds out) : BS X ca B sts ds out := by
  obtain ⟨o1, h1, h2⟩ := h
  cases o1 with
  | nx ds1 =>
    have h3 : out = .nx ds1 := h2
    rw [h3]
    exact h1
  | rt o d => rw [show out = _ from h2]; exact h1
  | bk d => rw [show out = _ from h2]; exact h1
  | ct d => rw [show out = _ from h2]; exact h1
  | ex c f d => rw [show out = _ from h2]; exact h1
theorem BP.one (h : BP X ca B [sts] ds P) : ∃ out, BS X ca B sts ds out ∧ P out := by
  obtain ⟨out, h1, h2⟩ := h
  exact ⟨out, h1.one, h2⟩
theorem BP.imp (h : BP X ca B bs ds P) (i : ∀ out, P out → Q out) : BP X ca B bs ds Q := by
  obtain ⟨out, h1, h2⟩ := h
  exact ⟨out, h1, i out h2⟩
theorem bp_end (h : P (.nx ds)) : BP X ca B [] ds P := ⟨_, rfl, h⟩
theorem bp_nil (h : BP X ca B bs ds P) : BP X ca B ([] :: bs) ds P := by
  obtain ⟨out, h1, h2⟩ := h
  exact ⟨out, ⟨.nx ds, bs_nil, h1⟩, h2⟩
theorem bp_next (h1 : B1 X ca B st ds (.nx ds1)) (h : BP X ca B (rest :: bs) ds1 P) : BP X ca B ((st :: rest) :: bs) ds P := by
  obtain ⟨out, ⟨o1, h2, h3⟩, h4⟩ := h
  exact ⟨out, ⟨o1, bs_next h1 h2, h3⟩, h4⟩
theorem bp_stop (h1 : B1 X ca B st ds out) (hn : out.isNx = false) (h : P out) : BP X ca B ((st :: rest) :: bs) ds P := by
  refine ⟨out, ⟨out, bs_stop h1 hn, ?_⟩, h⟩
  cases out with
  | nx d => cases hn
  | rt o d => rfl
  | bk d => rfl
  | ct d => rfl
  | ex c f d => rfl
theorem bp_pre (w : Wk ds ds1) (h : BP X ca B bs ds1 P) (hb : bs ≠ [] := by simp) : BP X ca B bs ds P := by
  obtain ⟨out, h1, h2⟩ := h
  cases bs with
  | nil => exact absurd rfl hb
  | cons b bs =>
    obtain ⟨o1, h3, h4⟩ := h1
    exact ⟨out, ⟨o1, bs_pre w h3, h4⟩, h2⟩
/-- an if: both ways go on behind it -/
theorem bp_if {k : Bool} {s1 s2 : List Stmt} (hc : ET X ca B c ds k ds1) (ht : k = true → BP X ca B (s1 :: rest :: bs) ds1 P) (hf : k = false → BP X ca B (s2 :: rest :: bs) ds1 P) : BP X ca B ((.If c s1 s2 pos :: rest) :: bs) ds P := by
  have go : ∀ {s : List Stmt}, (∀ out, BS X ca B s ds1 out → B1 X ca B (.If c s1 s2 pos) ds out) → BP X ca B (s :: rest :: bs) ds1 P → BP X ca B ((.If c s1 s2 pos :: rest) :: bs) ds P := fun {s} i h => by
    obtain ⟨out, ⟨o1, h1, h2⟩, h3⟩ := h
    cases o1 with
    | nx ds2 => exact bp_next (i _ h1) ⟨out, h2, h3⟩
    | rt o d => exact bp_stop (i _ h1) rfl (by rw [show out = _ from h2] at h3; exact h3)
    | bk d => exact bp_stop (i _ h1) rfl (by rw [show out = _ from h2] at h3; exact h3)
    | ct d => exact bp_stop (i _ h1) rfl (by rw [show out = _ from h2] at h3; exact h3)
    | ex cl f d => exact bp_stop (i _ h1) rfl (by rw [show out = _ from h2] at h3; exact h3)
  cases hk : k with
  | true =>
    rw [hk] at hc
    exact go (fun out h => b1_ifT hc h) (ht hk)
  | false =>
    rw [hk] at hc
    exact go (fun out h => b1_ifF hc h) (hf hk)
/-- an if whose ways come together in ds2 -/
theorem bp_join {k : Bool} {s1 s2 : List Stmt} (hc : ET X ca B c ds k ds1) (ht : k = true → BP X ca B [s1] ds1 (fun out => ∃ d, out = .nx d ∧ Wk d ds2)) (hf : k = false → BP X ca B [s2] ds1 (fun out => ∃ d, out = .nx d ∧ Wk d ds2)) (h : BP X ca B (rest :: bs) ds2 P) : BP X ca B ((.If c s1 s2 pos :: rest) :: bs) ds P :=
  bp_next (b1_if hc (fun hk => by
    obtain ⟨out, h1, d, rfl, w⟩ := (ht hk).one
    exact bs_wk h1 w) (fun hk => by
    obtain ⟨out, h1, d, rfl, w⟩ := (hf hk).one
    exact bs_wk h1 w)) h
theorem bp_ret {od : OD} (he : EV X ca B e ds (.v od) ds1) (h : P (.rt od ds1)) : BP X ca B ((.Return (some e) pos :: rest) :: bs) ds P := bp_stop (b1_ret he) rfl h

/-! ### a def's end -/
def Ends (al : Option Nat) (res : Res) (out : Out) : Prop := match res, out with
  | .ok r od, .rt o ds => r = o ∧ ∀ i, al = some i → ds[i]? = some (.v od)
  | .ok r od, .nx ds => r = .dat .non ∧ ∀ i, al = some i → ds[i]? = some (.v od)
  | .ex c fs od, .ex c' fs' ds => c = c' ∧ fs = fs' ∧ ∀ i, al = some i → ds[i]? = some (.v od)
  | _, _ => False
end
section
variable {P : Program} {w : World} {K : PySem.W.Frag} {mg : Str → Option Value} {base : Heap}
/-- THE RULE of a def, by its blocks -/
theorem okD {x qual : Str} {params : Arguments} {body : List Stmt} {scope : Scope} {dvs : List V} {kws : List (Str × V)} {f : Addr} {fd : FuncData} {ca : CA} {N ps : List Str} {k : Nat} {al : Option Nat} {R : List OD → Res → Prop}
    (F : FunD K x qual params body scope dvs kws f fd) (S : FnScope N ps scope)
    (hb : ∀ (X : Cx) (B : Base) (ods : List OD) (res : Res), (∃ (cdv : Value) (A : Around) (outer : List Env) (s : Shared) (H : Hp) (E : XK), X = cxOf (CX P w) P w K mg base N qual scope f cdv A outer s H E) → Room k X.A → B.pr = prOf al → R ods res → ods.length = ps.length →
      BP X ca B [body] (ods.map .v ++ List.replicate (N.length - ps.length) .no) (Ends al res)) : FnOk P w K mg base (CX P w) (k + 1) f fd ps (spD K ca ps.length al R) :=
  ok_def F S fun cdv A outer s H E B ods res hr hpr hR hl => by
    obtain ⟨out, h1, h2⟩ := (hb _ B ods res ⟨cdv, A, outer, s, H, E, rfl⟩ hr hpr hR hl).one
    cases res with
    | ok r od =>
      cases out with
      | rt o ds =>
        obtain ⟨rfl, h3⟩ : r = o ∧ ∀ i, al = some i → ds[i]? = some (.v od) := h2
        exact .inl ⟨ds, h3, h1⟩
      | nx ds =>
        obtain ⟨h4, h3⟩ : r = .dat .non ∧ ∀ i, al = some i → ds[i]? = some (.v od) := h2
        exact .inr ⟨h4, ds, h3, h1⟩
      | bk ds => exact False.elim h2
      | ct ds => exact False.elim h2
      | ex c f ds => exact False.elim h2
    | ex c fs od =>
      cases out with
      | ex c' fs' ds =>
        obtain ⟨rfl, rfl, h3⟩ : c = c' ∧ fs = fs' ∧ ∀ i, al = some i → ds[i]? = some (.v od) := h2
        exact ⟨ds, h3, h1⟩
      | rt o ds => exact False.elim h2
      | nx ds => exact False.elim h2
      | bk ds => exact False.elim h2
      | ct ds => exact False.elim h2
end

/-! ### targets -/
/-- only the slots ws differ -/
def OnlyAt (ws : List Nat) (σ σ' : L2.St) : Prop := σ'.length = σ.length ∧ ∀ i, i ∉ ws → σ'[i]? = σ[i]?
theorem OnlyAt.refl (σ : L2.St) : OnlyAt [] σ σ := ⟨rfl, fun _ _ => rfl⟩
theorem OnlyAt.set {σ : L2.St} {i : Nat} {v : Option V} : OnlyAt [i] σ (σ.set i v) := ⟨List.length_set, fun j hj => List.getElem?_set_ne fun e => hj (by rw [e]; exact List.mem_singleton_self _)⟩
theorem OnlyAt.trans {σ σ1 σ2 : L2.St} {ws us : List Nat} (h : OnlyAt ws σ σ1) (k : OnlyAt us σ1 σ2) : OnlyAt (ws ++ us) σ σ2 := ⟨k.1.trans h.1, fun i hi => by
  simp only [List.mem_append, not_or] at hi
  exact (k.2 i hi.2).trans (h.2 i hi.1)⟩
def zipT : List V → List D → List (V × Tm) → List (V × Tm)
  | v :: vs, d :: xs, ts => (v, .v (.dat d)) :: zipT vs xs ts
  | _, _, ts => ts
theorem plain_zipT {ts : List (V × Tm)} (h : plain ts) : ∀ {vs : List V} {xs : List D}, plain (zipT vs xs ts)
  | [], [] => h
  | [], _ :: _ => h
  | _ :: _, [] => h
  | _ :: vs, _ :: xs => plain_cons (plain_zipT h (vs := vs) (xs := xs))
theorem Core.zipT {K : PySem.W.Frag} {ca : CA} {B : Base} {ds : List Sl} {ts : List (V × Tm)} {σ : L2.St} {F Hu : Hp} {ow : Addr → Option Own} (C : Core K ca B ds ts σ F Hu ow) {xs : List D} {vs : List V} (r : Reps K ca F xs vs) : Core K ca B ds (zipT vs xs ts) σ F Hu ow := C.tms _ (by
  have t := C.tm
  induction xs generalizing vs with
  | nil =>
    cases r
    exact t
  | cons d xs ih =>
    cases r with
    | cons h r =>
      refine ⟨?_, ih r⟩
      rw [OwnsP]
      exact h)
theorem tms_popN {K : PySem.W.Frag} {ca : CA} {F Hu : Hp} {ow : Addr → Option Own} {σ : L2.St} {ts : List (V × Tm)} : ∀ {T : List (V × Tm)}, TmsR K ca F Hu ow σ (T ++ ts) → TmsR K ca F Hu ow σ ts
  | [], h => h
  | (v, .v od) :: T, h => tms_popN (T := T) h.2
  | (v, .al i) :: T, h => tms_popN (T := T) h.2
/-- the things between are dropped -/
theorem holds.drop {K : PySem.W.Frag} {ca : CA} {B : Base} {ds : List Sl} {v : V} {od : OD} {T ts : List (V × Tm)} {σ : L2.St} {H : Hp} (h : holds K ca B ds ((v, .v od) :: (T ++ ts)) σ H) : holds K ca B ds ((v, .v od) :: ts) σ H := by
  obtain ⟨F, Hu, ow, rfl, C⟩ := h
  have t := C.tm
  have t1 : OwnsP K ca F Hu od v (fun a => ow a = some (.inr (T ++ ts).length)) := t.1
  have t2 : TmsR K ca F Hu ow σ ts := tms_popN t.2
  let ow2 : Addr → Option Own := fun a => match ow a with
    | some (.inr k) => if k = (T ++ ts).length then some (.inr ts.length) else if k < ts.length then some (.inr k) else none
    | x => x
  have hlen : ts.length ≤ (T ++ ts).length := by rw [List.length_append]; omega
  refine ⟨F, Hu, ow2, rfl, C.relabel (fun a i hx => ?_) (fun a k hx => ?_) (fun a i hi => by simp [ow2, hi]) _ ⟨?_, ?_⟩⟩
  · cases q : ow a with
    | none => simp [ow2, q] at hx
    | some y =>
      cases y with
      | inl j => simp [ow2, q] at hx; simp [hx]
      | inr j =>
        simp only [ow2, q] at hx
        by_cases h1 : j = (T ++ ts).length
        · rw [if_pos h1] at hx; cases hx
        · rw [if_neg h1] at hx
          by_cases h2 : j < ts.length
          · rw [if_pos h2] at hx; cases hx
          · rw [if_neg h2] at hx; cases hx
  · cases q : ow a with
    | none => simp [ow2, q] at hx
    | some y =>
      cases y with
      | inl j => simp [ow2, q] at hx
      | inr j => exact ⟨j, rfl⟩
  · exact owns_imp (Ex.refl _) (fun a o pa ha => ⟨ha, by
      have pa' : ow a = some (.inr (T ++ ts).length) := pa
      show ow2 a = some (.inr ts.length)
      simp only [ow2, pa', if_true]⟩) t1
  · refine tms_imp (Ex.refl _) (fun a o k hk pa ha => ⟨ha, ?_⟩) t2
    simp only [ow2, pa]
    rw [if_neg (by omega), if_pos hk]
def WG (X : Cx) (tg : Expr) (v : V) (σ : L2.St) (H : Hp) (Q : L2.St → Hp → Prop) : Prop := ∀ pins s u, Inv X pins σ H s → RelV v u → wpAny (model X.prog X.w) X.A (assign tg X.env u) (fun _ s' => ∃ σ' H', Inv X pins σ' H' s' ∧ Q σ' H') X.xe s
theorem pg_wg {X : Cx} {tg : Expr} : PG X tg (WG X tg) := ⟨fun pins s _ _ _ u _ I r h => h pins s u I r⟩
theorem wg_of {X : Cx} {tg : Expr} {t : TG} (h : PG X tg t) {v : V} {σ : L2.St} {H : Hp} {Q : L2.St → Hp → Prop} (q : t v σ H Q) : WG X tg v σ H Q := fun pins s u I r => h.run pins s σ H v u Q I r q
def WGs (X : Cx) (ts : List Expr) (vs : List V) (σ : L2.St) (H : Hp) (Q : L2.St → Hp → Prop) : Prop := ∀ pins s us, Inv X pins σ H s → Vals vs us → wpAny (model X.prog X.w) X.A (assignInOrder ((assignEach ts X.env).map (·.2)) us) (fun _ s' => ∃ σ' H', Inv X pins σ' H' s' ∧ Q σ' H') X.xe s
theorem pgs_wgs {X : Cx} {ts : List Expr} : PGs X ts (WGs X ts) := ⟨fun pins s _ _ _ us _ I r h => h pins s us I r⟩
theorem wgs_of {X : Cx} {ts : List Expr} {t : TGs} (h : PGs X ts t) {vs : List V} {σ : L2.St} {H : Hp} {Q : L2.St → Hp → Prop} (q : t vs σ H Q) : WGs X ts vs σ H Q := fun pins s us I r => h.run pins s σ H vs us Q I r q
section
variable (X : Cx) (ca : CA) (B : Base)
/-- the thing od is stored to the target; ws: the slots that are set -/
def TG1 (tg : Expr) (od : OD) (ds : List Sl) (ws : List Nat) (ds' : List Sl) : Prop := ∀ ts σ H v Q, plain ts → holds X.K ca B ds ((v, .v od) :: ts) σ H → (∀ σ' H', OnlyAt ws σ σ' → holds X.K ca B ds' ts σ' H' → Q σ' H') → WG X tg v σ H Q
/-- the data xs are stored to the targets, one by one -/
def TGS (tgs : List Expr) (xs : List D) (ds : List Sl) (ws : List Nat) (ds' : List Sl) : Prop := ∀ ts σ H vs Q, plain ts → vs.length = xs.length → holds X.K ca B ds (zipT vs xs ts) σ H → (∀ σ' H', OnlyAt ws σ σ' → holds X.K ca B ds' ts σ' H' → Q σ' H') → WGs X tgs vs σ H Q
end
section
variable {X : Cx} {ca : CA} {B : Base} {ds ds1 ds2 : List Sl} {od : OD} {x : Str} {e tg : Expr} {es : List Expr} {pos : Pos} {d : D} {xs : List D}
theorem tg_name (i : Nat) (hN : X.N.Nodup) (hx : Loc X.env.scope x := by first | exact .inl rfl | exact .inr rfl) (hs : ds.set i (.v od) = ds1 := by rfl) (hl : i < ds.length := by simp) (hp : B.pr i = false := by rfl) (hi : X.N[i]? = some x := by rfl) (hf : X.fn x = true ∨ X.env.scope.names.lookup x = some .local := by first | exact .inl rfl | exact .inr rfl) :
    TG1 X ca B (.Name x pos) od ds [i] ds1 := fun ts σ H v Q pl h q => wg_of (pg_name hN hi hx hf) (by
    rw [← hs] at q
    exact q _ _ .set (h.set hl hp (noAl_of pl)))
theorem tgs_nil : TGS X ca B [] [] ds [] ds := fun ts σ H vs Q pl hl h q => wgs_of pgs_nil (by
  cases vs with
  | nil => exact ⟨rfl, q _ _ (.refl _) h⟩
  | cons v vs => cases hl)
theorem tgs_cons {ws us : List Nat} (h1 : TG1 X ca B e (.dat d) ds ws ds1) (h2 : TGS X ca B es xs ds1 us ds2) (hs : (assignEach (e :: es) X.env).map (·.2) = assign e X.env :: (assignEach es X.env).map (·.2) := by rfl) : TGS X ca B (e :: es) (d :: xs) ds (ws ++ us) ds2 := fun ts σ H vs Q pl hl h q => wgs_of (pgs_cons pg_wg pgs_wgs hs) (by
  cases vs with
  | nil => cases hl
  | cons v vs => exact ⟨v, vs, rfl, h1 _ σ H v _ (plain_zipT pl) h fun σ1 H1 w1 h' => h2 ts σ1 H1 vs Q pl (by simpa using hl) h' fun σ2 H2 w2 h2 => q σ2 H2 (w1.trans w2) h2⟩)
/-- a tuple target takes a tuple of that length -/
theorem tg_tup {k n : Nat} {ws : List Nat} (hc : X.calm = true) (h : TGS X ca B es xs ds ws ds1) (hl : xs.length = n) (hn : (assignEach es X.env).length = n := by rfl) (hst : (assignEach es X.env).findIdx? (·.1) = none := by rfl) : TG1 X ca B (.Tuple es k pos) (.dat (.tup xs)) ds ws ds1 := fun ts σ H v Q pl h0 q => wg_of (pg_tup hc pgs_wgs hn hst) (by
  obtain ⟨F, Hu, ow, rfl, C⟩ := h0
  obtain ⟨a, vs, rfl, hq, r⟩ := C.seqT (.tup xs)
  exact ⟨a, vs, rfl, hq, by rw [← r.length]; exact hl, h ts σ _ vs Q pl r.length.symm (C.rest.zipT r).h q⟩)
end

/-! ### what is walked -/
def WI (X : Cx) (tg e : Expr) (σ : L2.St) (H : Hp) (R : It → Hp → Prop) : Prop := ∀ pins s, Inv X pins σ H s → wpAny (model X.prog X.w) X.A (eval e X.env) (fun v s1 => wpAny (model X.prog X.w) X.A (pyIter v) (PIE X pins σ tg R) X.xe s1) X.xe s
theorem pi_wi {X : Cx} {tg e : Expr} : PI X tg e (WI X tg e) := ⟨fun pins s _ _ _ I h => h pins s I⟩
theorem wi_of {X : Cx} {tg e : Expr} {t : TI} (h : PI X tg e t) {σ : L2.St} {H : Hp} {R : It → Hp → Prop} (q : t σ H R) : WI X tg e σ H R := fun pins s I => h.run pins s σ H R I q
section
variable (X : Cx) (ca : CA) (B : Base)
/-- J walks the data xs while the temps T stand -/
def Walks (J : It) (T : List (V × Tm)) (xs : List D) : Prop := ∀ ds ts σ H i, (∀ t ∈ T, t ∈ ts) → holds X.K ca B ds ts σ H →
  (∀ d, xs[i]? = some d → J.go i H ∧ ∀ x H', J.yld i H x H' → holds X.K ca B ds ((x, .v (.dat d)) :: ts) σ H') ∧ (xs.length ≤ i → J.stop i H)
def IV (tg e : Expr) (ds : List Sl) (xs : List D) (ds1 : List Sl) : Prop := ∀ ts σ H R, holds X.K ca B ds ts σ H →
  (∀ J T H1, plain T → Walks X ca B J T xs → holds X.K ca B ds1 (T ++ ts) σ H1 → R J H1) → WI X tg e σ H R
/-- the turns of a loop -/
def LP (tg : Expr) (body : List Stmt) : List D → List Sl → Out → Prop
  | [], ds, out => ∃ d, Wk ds d ∧ out = .nx d
  | d :: xs, ds, out => ∃ ds1 o ws, TG1 X ca B tg (.dat d) ds ws ds1 ∧ BS X ca B body ds1 o ∧ match o with
    | .nx ds2 => LP tg body xs ds2 out
    | .ct ds2 => LP tg body xs ds2 out
    | .bk ds2 => ∃ d, Wk ds2 d ∧ out = .nx d
    | o => out = o
end
section
variable {X : Cx} {ca : CA} {B : Base} {ds ds1 ds2 : List Sl} {od : OD} {x : Str} {e a tg : Expr} {es : List Expr} {pos p : Pos} {d : D} {xs ys : List D} {o o1 o2 : Tm} {body : List Stmt} {out : Out}
theorem Core.push {K : PySem.W.Frag} {ts : List (V × Tm)} {σ : L2.St} {F Hu : Hp} {ow : Addr → Option Own} {v : V} (C : Core K ca B ds ts σ F Hu ow) (r : Rep K ca F d v) : Core K ca B ds ((v, .v (.dat d)) :: ts) σ F Hu ow := C.tms _ ⟨by rw [OwnsP]; exact r, C.tm⟩
theorem plain_app {T ts : List (V × Tm)} (h : plain T) (h' : plain ts) : plain (T ++ ts) := fun v i hm => (List.mem_append.mp hm).elim (h v i) (h' v i)
theorem plain_nil : plain [] := fun v i hm => by cases hm
theorem holds.popN {K : PySem.W.Frag} {ts : List (V × Tm)} {σ : L2.St} {H : Hp} : ∀ {T : List (V × Tm)}, holds K ca B ds (T ++ ts) σ H → holds K ca B ds ts σ H
  | [], h => h
  | _ :: _, h => holds.popN h.pop
theorem holdsE.popN {K : PySem.W.Frag} {T ts : List (V × Tm)} {fs : List (Str × D)} {a : Addr} {σ : L2.St} {H : Hp} (h : holdsE K ca B ds (T ++ ts) fs a σ H) : holdsE K ca B ds ts fs a σ H := by
  obtain ⟨F, Hu, ow, e, C, r⟩ := h
  refine ⟨F, Hu, ow, e, ?_, r⟩
  have go : ∀ {T : List (V × Tm)}, Core K ca B ds (T ++ ts) σ F Hu ow → Core K ca B ds ts σ F Hu ow := fun {T} => by
    induction T with
    | nil => exact id
    | cons t T ih => exact fun C => ih C.rest
  exact go C
theorem Core.tmRep {K : PySem.W.Frag} {σ : L2.St} {F Hu : Hp} {ow : Addr → Option Own} {v : V} : ∀ {ts : List (V × Tm)}, TmsR K ca F Hu ow σ ts → (v, .v (.dat d)) ∈ ts → Rep K ca F d v
  | [], _, hm => by cases hm
  | (u, .v od) :: ts, h, hm => by
    rcases List.mem_cons.mp hm with e | hm
    · cases e
      have h1 : OwnsP K ca F Hu (.dat d) v _ := h.1
      rw [OwnsP] at h1
      exact h1
    · exact Core.tmRep h.2 hm
  | (u, .al i) :: ts, h, hm => by
    rcases List.mem_cons.mp hm with e | hm
    · cases e
    · exact Core.tmRep h.2 hm
theorem Walks.list {K : PySem.W.Frag} (hK : X.K = K) {a : Addr} : Walks X ca B (Itl K a) [(.ref a, .v (.dat (.lst xs)))] xs := fun ds ts σ H i hT h => by
  subst hK
  obtain ⟨F, Hu, ow, rfl, C⟩ := h
  obtain ⟨a', vs, e, hq, r⟩ := (C.push (Core.tmRep C.tm (hT _ (List.mem_cons_self ..)))).seqL (.lst xs)
  cases e
  refine ⟨fun d hd => ?_, fun hl => ⟨vs, hq, by rw [← r.length]; exact hl⟩⟩
  obtain ⟨v, h1, h2⟩ := r.get hd
  refine ⟨⟨vs, v, hq, h1⟩, fun x H' y => ?_⟩
  obtain ⟨rfl, y⟩ := y
  have := y vs hq
  rw [h1] at this
  cases this
  exact C.give h2
theorem Walks.tup {K : PySem.W.Frag} (hK : X.K = K) {a : Addr} : Walks X ca B (Itt K a) [(.ref a, .v (.dat (.tup xs)))] xs := fun ds ts σ H i hT h => by
  subst hK
  obtain ⟨F, Hu, ow, rfl, C⟩ := h
  obtain ⟨a', vs, e, hq, r⟩ := (C.push (Core.tmRep C.tm (hT _ (List.mem_cons_self ..)))).seqT (.tup xs)
  cases e
  refine ⟨fun d hd => ?_, fun hl => ⟨vs, hq, by rw [← r.length]; exact hl⟩⟩
  obtain ⟨v, h1, h2⟩ := r.get hd
  refine ⟨⟨vs, v, hq, h1⟩, fun x H' y => ?_⟩
  obtain ⟨rfl, y⟩ := y
  have := y vs hq
  rw [h1] at this
  cases this
  exact C.give h2
theorem plain1 {v : V} {od : OD} : plain [(v, .v od)] := plain_cons plain_nil
theorem iv_list (he : EV X ca B e ds (.d (.lst xs)) ds1) : IV X ca B tg e ds xs ds1 := fun ts σ H R h0 q => wi_of (pi_list pe_we) (he ts σ H _ h0 fun v H1 h1 => by
  have h2 := h1
  obtain ⟨F, Hu, ow, rfl, C⟩ := h2
  obtain ⟨a, vs, rfl, hq, r⟩ := C.seqL (.lst xs)
  exact ⟨a, rfl, ⟨vs, hq⟩, q _ [_] _ plain1 (Walks.list rfl) h1⟩)
theorem iv_tup (he : EV X ca B e ds (.d (.tup xs)) ds1) : IV X ca B tg e ds xs ds1 := fun ts σ H R h0 q => wi_of (pi_tup pe_we) (he ts σ H _ h0 fun v H1 h1 => by
  have h2 := h1
  obtain ⟨F, Hu, ow, rfl, C⟩ := h2
  obtain ⟨a, vs, rfl, hq, r⟩ := C.seqT (.tup xs)
  exact ⟨a, rfl, ⟨vs, hq⟩, q _ [_] _ plain1 (Walks.tup rfl) h1⟩)
def rngD (lo : Int) (n : Nat) : List D := (List.range n).map fun i => .int (lo + (i : Nat))
theorem Walks.range {lo : Int} {n : Nat} : Walks X ca B (Itr lo n) [] (rngD lo n) := fun ds ts σ H i hT h => by
  refine ⟨fun d hd => ?_, fun hl => show n ≤ i by simpa [rngD] using hl⟩
  have hi : i < n := by
    have := (List.getElem?_eq_some_iff.mp hd).1
    simpa [rngD] using this
  refine ⟨hi, fun x H' y => ?_⟩
  obtain ⟨rfl, rfl⟩ := y
  have e : d = .int (lo + (i : Nat)) := by
    simp [rngD, List.getElem?_range hi] at hd
    exact hd.symm
  rw [e]
  exact h.val fun F => .int _
theorem iv_range1 {j : Int} (he : EV X ca B e ds (.int j) ds1) (hm : X.mg "range" = none) (hj : -(2 ^ 62) ≤ j ∧ j < 2 ^ 62) (hg : Gl X "range" := by rfl) (hs : starEach [e] X.env = [(false, eval e X.env)] := by rfl) : IV X ca B tg (.Call (.Name "range" p) [e] [] pos) ds (rngD 0 j.toNat) ds1 := fun ts σ H R h0 q =>
  wi_of (pi_range1 hg hm pa_wa hs) (ea_cons he ea_nil hs ts σ H _ h0 fun vs H1 hl h1 => by
    obtain ⟨v, rfl⟩ := vs1 hl
    have h1' : holds X.K ca B ds1 ((v, .int j) :: ts) σ H1 := h1
    obtain rfl := h1'.int
    exact ⟨j, rfl, hj.1, hj.2, q _ [] _ plain_nil Walks.range h1'.pop⟩)
theorem iv_range2 {b : Expr} {i j : Int} (ha : EV X ca B a ds (.int i) ds1) (hb : EV X ca B b ds1 (.int j) ds2) (hm : X.mg "range" = none) (hj : -(2 ^ 62) ≤ i ∧ i < 2 ^ 62 ∧ -(2 ^ 62) ≤ j ∧ j < 2 ^ 62) (hg : Gl X "range" := by rfl) (hs : starEach [a, b] X.env = [(false, eval a X.env), (false, eval b X.env)] := by rfl) (hs2 : starEach [b] X.env = [(false, eval b X.env)] := by rfl) :
    IV X ca B tg (.Call (.Name "range" p) [a, b] [] pos) ds (rngD i (j - i).toNat) ds2 := fun ts σ H R h0 q =>
  wi_of (pi_range2 hg hm pa_wa hs hs2) (ea_cons ha (ea_cons hb ea_nil hs2) (by rw [hs, hs2]) ts σ H _ h0 fun vs H1 hl h1 => by
    obtain ⟨v, w, rfl⟩ := vs2 hl
    have h1' : holds X.K ca B ds2 ((w, .int j) :: (v, .int i) :: ts) σ H1 := h1
    obtain ⟨rfl, rfl, h2⟩ := h1'.int2
    exact ⟨i, j, rfl, hj, q _ [] _ plain_nil Walks.range h2⟩)
/-- a new tuple of data -/
theorem Core.newT {K : PySem.W.Frag} {ts : List (V × Tm)} {σ : L2.St} {F Hu : Hp} {ow : Addr → Option Own} {vs : List V} {T : Addr} (C : Core K ca B ds ts σ F Hu ow) (r : Reps K ca F xs vs) (hT : lock B.lk Hu T = none) : holds K ca B ds ((.ref T, .v (.dat (.tup xs))) :: ts) σ (upd (lock B.lk Hu) T (.tup vs)) := by
  have hu := lock_isNone hT
  refine ⟨_, _, _, lock_upd (C.nolk0 hT), (C.newF (o := .tup vs) hu).tms _ ⟨?_, (C.newF (o := .tup vs) hu).tm⟩⟩
  rw [OwnsP]
  exact .tup upd_same (r.mono (Ex.new (C.free hu)))
def enumD (i : Nat) : List D → List D
  | [] => []
  | d :: ds => .tup [.int (i : Nat), d] :: enumD (i + 1) ds
theorem enumD_length : ∀ (xs : List D) (n : Nat), (enumD n xs).length = xs.length
  | [], _ => rfl
  | _ :: xs, n => congrArg Nat.succ (enumD_length xs (n + 1))
theorem enumD_get : ∀ {xs : List D} {n i : Nat} {d : D}, (enumD n xs)[i]? = some d → ∃ x, xs[i]? = some x ∧ d = .tup [.int ((n + i : Nat) : Int), x]
  | [], _, _, _, h => by simp [enumD] at h
  | x :: xs, n, 0, d, h => ⟨x, rfl, by simpa [enumD] using h.symm⟩
  | x :: xs, n, i + 1, d, h => by
    obtain ⟨y, h1, h2⟩ := enumD_get (xs := xs) (n := n + 1) (i := i) (by simpa [enumD] using h)
    exact ⟨y, by simpa using h1, by rw [h2, show n + 1 + i = n + (i + 1) by omega]⟩
theorem Walks.enum {K : PySem.W.Frag} (hK : X.K = K) {a : Addr} : Walks X ca B (Ite K a) [(.ref a, .v (.dat (.lst xs)))] (enumD 0 xs) := fun ds ts σ H i hT h => by
  subst hK
  obtain ⟨F, Hu, ow, rfl, C⟩ := h
  obtain ⟨a', vs, e, hq, r⟩ := (C.push (Core.tmRep C.tm (hT _ (List.mem_cons_self ..)))).seqL (.lst xs)
  cases e
  refine ⟨fun d hd => ?_, fun hl => ⟨vs, hq, by rw [← r.length, ← enumD_length xs 0]; exact hl⟩⟩
  obtain ⟨x, h1, rfl⟩ := enumD_get hd
  obtain ⟨v, h2, h3⟩ := r.get h1
  refine ⟨⟨vs, v, hq, h2⟩, fun y H' yy => ?_⟩
  obtain ⟨T, u, rfl, hT, rfl, hy⟩ := yy
  have := hy vs hq
  rw [h2] at this
  cases this
  rw [Nat.zero_add]
  exact C.newT (.cons (.int _) (.cons h3 .nil)) hT
theorem iv_enum {elts : List Expr} {kk : Nat} {tpos : Pos} (he : EV X ca B e ds (.d (.lst xs)) ds1) (hm : X.mg "enumerate" = none) (hg : Gl X "enumerate" := by rfl) (hs : starEach [e] X.env = [(false, eval e X.env)] := by rfl) : IV X ca B (.Tuple elts kk tpos) (.Call (.Name "enumerate" p) [e] [] pos) ds (enumD 0 xs) ds1 := fun ts σ H R h0 q =>
  wi_of (pi_enum hg hm pa_wa hs) (ea_cons he ea_nil hs ts σ H _ h0 fun vs H1 hl h1 => by
    obtain ⟨v, rfl⟩ := vs1 hl
    have h1' : holds X.K ca B ds1 ((v, .d (.lst xs)) :: ts) σ H1 := h1
    have h2 := h1'
    obtain ⟨F, Hu, ow, rfl, C⟩ := h2
    obtain ⟨a, vs, rfl, hq, r⟩ := C.seqL (.lst xs)
    exact ⟨a, vs, rfl, hq, q _ [_] _ plain1 (Walks.enum rfl) h1'⟩)
/-- FOR, at a state -/
theorem for_at (hp : PassesOwn (model X.prog X.w) X.A X.env X.xe) (hc : X.calm = true) {ts : List (V × Tm)} {σ : L2.St} {H : Hp} {D : L2.Ends} {W : WX} (hi : ∀ R, (∀ J T H1, plain T → Walks X ca B J T xs → holds X.K ca B ds1 (T ++ ts) σ H1 → R J H1) → WI X tg e σ H R)
    (hl : LP X ca B tg body xs ds1 out) (pl : plain ts) (tk : Takes X W) (q : Post X ca B D W ts out) (hs : ∀ x, foldedSetIterable e X.env x = pure x := by intro _; rfl) : WS X (.For tg e body [] pos) D σ H :=
  ws_of (ps_for hp hc pi_wi pg_wg pss_wb hs) (hi _ fun J T H1 pT wk h1 => by
    refine ⟨fun i m σ H => m = xs.length - i ∧ i ≤ xs.length ∧ ∃ ds, holds X.K ca B ds (T ++ ts) σ H ∧ LP X ca B tg body (xs.drop i) ds out, ⟨xs.length, by simp, Nat.zero_le _, ds1, h1, hl⟩, ?_⟩
    rintro i m σ1 H2 ⟨rfl, hi, ds2, h2, l2⟩
    obtain ⟨w1, w2⟩ := wk ds2 (T ++ ts) σ1 H2 i (fun t ht => List.mem_append_left _ ht) h2
    by_cases hlt : i < xs.length
    · rw [List.drop_eq_getElem_cons hlt] at l2
      obtain ⟨ds3, o3, ws, g3, b3, l3⟩ := l2
      obtain ⟨w3, w4⟩ := w1 xs[i] (by simp [hlt])
      refine .inr ⟨w3, fun σ' H' => ∃ ds', holds X.K ca B ds' (T ++ ts) σ' H' ∧ LP X ca B tg body (xs.drop (i + 1)) ds' out, fun σ' H' ⟨ds', h', l'⟩ => ⟨xs.length - (i + 1), by omega, rfl, hlt, ds', h', l'⟩, fun x H' y => ?_⟩
      refine g3 _ σ1 H' x _ (plain_app pT pl) (w4 x H' y) fun σ4 H4 _ h4 => b3 _ σ4 H4 _ W (plain_app pT pl) tk h4 ?_
      cases o3 with
      | nx d => exact fun σ' H' h' => ⟨d, h', l3⟩
      | ct d => exact fun σ' H' h' => ⟨d, h', l3⟩
      | bk d =>
        obtain ⟨d', w4, l4⟩ : ∃ d', Wk d d' ∧ out = .nx d' := l3
        rw [l4] at q
        exact fun σ' H' h' => q σ' H' (h'.wk w4).popN
      | rt o d =>
        have l4 : out = .rt o d := l3
        rw [l4] at q
        exact fun v σ' H' h' => q v σ' H' (holds.drop h')
      | ex c f d =>
        have l4 : out = .ex c f d := l3
        rw [l4] at q
        exact fun v σ' H' h' => q v σ' H' h'.popN
    · have e : i = xs.length := by omega
      subst e
      rw [List.drop_length] at l2
      obtain ⟨d', w3, l3⟩ : ∃ d', Wk ds2 d' ∧ out = .nx d' := l2
      rw [l3] at q
      exact .inl ⟨w2 (Nat.le_refl _), q _ _ (h2.wk w3).popN⟩)
/-- FOR -/
theorem b1_for (hp : PassesOwn (model X.prog X.w) X.A X.env X.xe) (hc : X.calm = true) (hi : IV X ca B tg e ds xs ds1) (hl : LP X ca B tg body xs ds1 out) (hs : ∀ x, foldedSetIterable e X.env x = pure x := by intro _; rfl) : B1 X ca B (.For tg e body [] pos) ds out := fun ts σ H D W pl tk h0 q =>
  for_at hp hc (fun R hR => hi ts σ H R h0 hR) hl pl tk q hs
end
end DL
/-! DL8: owned things are changed: lists, dicts. -/
namespace DL
open PySem PySem.Spec PyProof.Rows L2

section
variable {K : PySem.W.Frag} {ca : CA} {B : Base} {ds : List Sl} {ts : List (V × Tm)} {σ : L2.St} {H F Hu : Hp} {ow : Addr → Option Own} {v : V} {o : Tm} {xs : List D}
/-- an object of the thing in slot i is changed -/
theorem Core.mut {p : Addr} {i : Nat} {u : HO} {od : OD} (C : Core K ca B ds ts σ F Hu ow) (hp : ow p = some (.inl i)) (hi : i < ds.length) (hu : ∃ u0, Hu p = some u0) (hv : σ[i]? = some (some v)) (hn : OwnsP K ca F (upd Hu p u) od v (fun a => ow a = some (.inl i))) :
    Core K ca B (ds.set i (.v od)) ts σ F (upd Hu p u) ow := by
  have hF := C.own p _ hp
  refine ⟨C.f0, fun a o h => ?_, C.lks, C.fresh, fun a o h hf => ?_, fun a o h => ?_, C.own, C.ownS, C.ownT, C.prs, by rw [List.length_set]; exact C.len, fun j od' hj => ?_, ?_⟩
  · rw [upd_ne (ne_of_none h hF)]
    exact C.fh a o h
  · by_cases e : a = p
    · subst e
      rcases C.ownS a i hp with q | ⟨q, _⟩
      · rw [h] at q; cases q
      · exact absurd q hf
    · rw [upd_ne e]
      exact C.keep a o h hf
  · by_cases e : a = p
    · rw [e]
      exact ⟨u, upd_same⟩
    · rw [upd_ne e]
      exact C.stay a o h
  · by_cases hij : i = j
    · subst hij
      rw [List.getElem?_set_self hi] at hj
      cases hj
      exact ⟨v, hv, hn⟩
    · rw [List.getElem?_set_ne hij] at hj
      obtain ⟨w, h1, h2⟩ := C.sl j od' hj
      refine ⟨w, h1, owns_imp (Ex.refl _) (fun a o pa ha => ⟨?_, pa⟩) h2⟩
      have pa' : ow a = some (.inl j) := pa
      rw [upd_ne (fun e => by rw [e, hp] at pa'; cases pa'; exact hij rfl)]
      exact ha
  · refine tms_imp (Ex.refl _) (fun a o k hk pa ha => ⟨?_, pa⟩) C.tm
    rw [upd_ne (fun e => by rw [e, hp] at pa; cases pa)]
    exact ha
/-- a list in slot i -/
theorem holds.alL {i : Nat} (h : holds K ca B ds ts σ H) (hi : ds[i]? = some (.v (OD.l xs))) (hv : σ[i]? = some (some v)) : ∃ p vs F Hu ow, v = .ref p ∧ H = lock B.lk Hu ∧ Core K ca B ds ts σ F Hu ow ∧ ow p = some (.inl i) ∧ Hu p = some (.lst vs) ∧ H p = some (.lst vs) ∧ Reps K ca F xs vs := by
  obtain ⟨F, Hu, ow, rfl, C⟩ := h
  obtain ⟨w, h1, h2⟩ := C.sl i _ hi
  rw [hv] at h1
  cases h1
  obtain ⟨p, vs, e, hp, hH, r⟩ := owns_l h2
  exact ⟨p, vs, F, Hu, ow, e, rfl, C, hp, hH, by rw [lock_none (C.nolk hp)]; exact hH, r⟩
theorem Core.mutL {p : Addr} {i : Nat} {vs : List V} (C : Core K ca B ds ts σ F Hu ow) (hp : ow p = some (.inl i)) (hi : i < ds.length) (hu : ∃ u0, Hu p = some u0) (hv : σ[i]? = some (some (.ref p))) (r : Reps K ca F xs vs) :
    holds K ca B (ds.set i (.v (OD.l xs))) ts σ (upd (lock B.lk Hu) p (.lst vs)) :=
  ⟨F, _, ow, lock_upd (C.nolk hp), C.mut hp hi hu hv (owns_l_mk hp upd_same r)⟩
/-- a dict in slot i, its keys ints or texts; the values data -/
abbrev OD.k (kvs : List (Key × D)) : OD := .dK (kvs.map fun kv => (kv.1, .dat kv.2))
abbrev OD.t (kvs : List (List Key × D)) : OD := .dT (kvs.map fun kv => (kv.1, .dat kv.2))
theorem ownsK_of_reps : ∀ {kvs : List (Key × D)} {ps : List (Key × V)} {P : FP}, RepK K ca F kvs ps → OwnsK K ca F Hu (kvs.map fun kv => (kv.1, .dat kv.2)) ps P
  | _, _, P, .nil => by
    show OwnsK K ca F Hu [] [] P
    rw [OwnsK]
  | _, _, P, .cons (k := k) (d := d) (ds := ds) h r => by
    show OwnsK K ca F Hu ((k, .dat d) :: ds.map fun kv => (kv.1, .dat kv.2)) _ P
    rw [OwnsK]
    refine ⟨_, _, fun _ => False, fun a => P a, rfl, fun a z => z.elim, fun a z => z, fun a z _ => z, ?_, ownsK_of_reps r⟩
    rw [OwnsP]
    exact h
theorem reps_of_ownsK : ∀ {kvs : List (Key × D)} {ps : List (Key × V)} {P : FP}, OwnsK K ca F Hu (kvs.map fun kv => (kv.1, .dat kv.2)) ps P → RepK K ca F kvs ps
  | [], vs, P, h => by
    have h' : OwnsK K ca F Hu [] vs P := h
    rw [OwnsK] at h'
    subst h'
    exact .nil
  | (k, x) :: xs, vs, P, h => by
    have h' : OwnsK K ca F Hu ((k, .dat x) :: xs.map fun kv => (kv.1, .dat kv.2)) vs P := h
    rw [OwnsK] at h'
    obtain ⟨v, r, P1, P2, rfl, _, _, _, h1, h2⟩ := h'
    rw [OwnsP] at h1
    exact .cons h1 (reps_of_ownsK h2)
theorem owns_k {kvs : List (Key × D)} {P : FP} (h : OwnsP K ca F Hu (OD.k kvs) v P) : ∃ p ps, v = .ref p ∧ P p ∧ Hu p = some (.dK ps) ∧ RepK K ca F kvs ps := by
  rw [OwnsP] at h
  obtain ⟨p, vs, e, hp, hH, hx⟩ := h
  exact ⟨p, vs, e, hp, hH, reps_of_ownsK hx⟩
theorem owns_k_mk {kvs : List (Key × D)} {P : FP} {p : Addr} {ps : List (Key × V)} (hp : P p) (hH : Hu p = some (.dK ps)) (r : RepK K ca F kvs ps) : OwnsP K ca F Hu (OD.k kvs) (.ref p) P := by
  rw [OwnsP]
  exact ⟨p, ps, rfl, hp, hH, ownsK_of_reps r⟩
theorem holds.alK {i : Nat} {kvs : List (Key × D)} (h : holds K ca B ds ts σ H) (hi : ds[i]? = some (.v (OD.k kvs))) (hv : σ[i]? = some (some v)) : ∃ p vs F Hu ow, v = .ref p ∧ H = lock B.lk Hu ∧ Core K ca B ds ts σ F Hu ow ∧ ow p = some (.inl i) ∧ Hu p = some (.dK vs) ∧ H p = some (.dK vs) ∧ RepK K ca F kvs vs := by
  obtain ⟨F, Hu, ow, rfl, C⟩ := h
  obtain ⟨w, h1, h2⟩ := C.sl i _ hi
  rw [hv] at h1
  cases h1
  obtain ⟨p, vs, e, hp, hH, r⟩ := owns_k h2
  exact ⟨p, vs, F, Hu, ow, e, rfl, C, hp, hH, by rw [lock_none (C.nolk hp)]; exact hH, r⟩
theorem Core.mutK {p : Addr} {i : Nat} {ps : List (Key × V)} {kvs : List (Key × D)} (C : Core K ca B ds ts σ F Hu ow) (hp : ow p = some (.inl i)) (hi : i < ds.length) (hu : ∃ u0, Hu p = some u0) (hv : σ[i]? = some (some (.ref p))) (r : RepK K ca F kvs ps) :
    holds K ca B (ds.set i (.v (OD.k kvs))) ts σ (upd (lock B.lk Hu) p (.dK ps)) :=
  ⟨F, _, ow, lock_upd (C.nolk hp), C.mut hp hi hu hv (owns_k_mk hp upd_same r)⟩
theorem frzK_dat : ∀ kvs : List (Key × D), frzK (kvs.map fun kv => (kv.1, .dat kv.2)) = kvs
  | [] => rfl
  | (k, x) :: xs => by
    show (k, x) :: frzK (xs.map fun kv => (kv.1, .dat kv.2)) = (k, x) :: xs
    rw [frzK_dat xs]
theorem frz_k (kvs : List (Key × D)) : (OD.k kvs).frz = .dK kvs := by
  show D.dK (frzK _) = _
  rw [frzK_dat]
/-! ### dicts as data -/
def putD {κ : Type} [DecidableEq κ] (kvs : List (κ × D)) (k : κ) (d : D) : List (κ × D) :=
  if (kvs.any fun kv => decide (kv.1 = k)) = true then kvs.map (fun kv => if kv.1 = k then (kv.1, d) else kv) else kvs ++ [(k, d)]
def getD? {κ : Type} [DecidableEq κ] (kvs : List (κ × D)) (k : κ) : Option D := (kvs.find? fun kv => decide (kv.1 = k)).map (·.2)
theorem RepK.any {kvs : List (Key × D)} {ps : List (Key × V)} (r : RepK K ca F kvs ps) (f : Key → Bool) : ps.any (fun kv => f kv.1) = kvs.any (fun kv => f kv.1) := by
  induction kvs generalizing ps with
  | nil => cases r; rfl
  | cons kv kvs ih =>
    cases r with
    | cons h r => simp only [List.any_cons]; rw [ih r]
theorem RepK.snoc {kvs : List (Key × D)} {ps : List (Key × V)} {k : Key} {d : D} (r : RepK K ca F kvs ps) (h : Rep K ca F d v) : RepK K ca F (kvs ++ [(k, d)]) (ps ++ [(k, v)]) := by
  induction kvs generalizing ps with
  | nil => cases r; exact .cons h .nil
  | cons kv kvs ih =>
    cases r with
    | cons h r => exact .cons h (ih r)
theorem RepK.upd {kvs : List (Key × D)} {ps : List (Key × V)} {k : Key} {d : D} (r : RepK K ca F kvs ps) (h : Rep K ca F d v) : RepK K ca F (kvs.map fun kv => if kv.1 = k then (kv.1, d) else kv) (ps.map fun kv => if kv.1 = k then (kv.1, v) else kv) := by
  induction kvs generalizing ps with
  | nil => cases r; exact .nil
  | cons kv kvs ih =>
    cases r with
    | @cons k' d' v' _ _ h' r =>
      simp only [List.map_cons]
      by_cases e : k' = k
      · simp only [if_pos e]
        exact .cons h (ih r)
      · simp only [if_neg e]
        exact .cons h' (ih r)
theorem RepK.put {kvs : List (Key × D)} {ps : List (Key × V)} {k : Key} {d : D} (r : RepK K ca F kvs ps) (h : Rep K ca F d v) : RepK K ca F (putD kvs k d) (putK ps k v) := by
  unfold putD L2.putK
  rw [r.any fun k' => decide (k' = k)]
  split
  · exact r.upd h
  · exact r.snoc h
theorem RepK.len {kvs : List (Key × D)} {ps : List (Key × V)} (r : RepK K ca F kvs ps) : kvs.length = ps.length := by
  induction kvs generalizing ps with
  | nil => cases r; rfl
  | cons kv kvs ih =>
    cases r with
    | cons h r => exact congrArg Nat.succ (ih r)
end

section
variable {X : Cx} {ca : CA} {B : Base} {ds ds1 ds2 ds3 : List Sl} {o o1 o2 o3 : Tm} {os : List Tm} {a b c e : Expr} {es : List Expr} {pos p : Pos} {b1 b2 : Bool} {xs xs0 ys : List D} {d : D} {k : Bool} {x : Str} {id T : String} {ap cp : Pos} {n : Nat}
/-- the type of an owned list -/
theorem holds.tyL {ts : List (V × Tm)} {σ : L2.St} {H : Hp} {v : V} {i : Nat} (h : holds X.K ca B ds ((v, .al i) :: ts) σ H) (hi : ds[i]? = some (.v (OD.l xs))) : tyV X.K "list" v H := by
  have t : σ[i]? = some (some v) := by
    obtain ⟨_, _, _, _, C⟩ := h
    exact C.tm.1
  obtain ⟨p, vs, F, Hu, ow, rfl, _, C, hp, _, hH, r⟩ := h.alL hi t
  exact .inl ⟨rfl, vs, .inl (.inl hH)⟩
theorem holds.alV {ts : List (V × Tm)} {σ : L2.St} {H : Hp} {v : V} {i : Nat} {K : PySem.W.Frag} (h : holds K ca B ds ((v, .al i) :: ts) σ H) : σ[i]? = some (some v) := by
  obtain ⟨_, _, _, _, C⟩ := h
  exact C.tm.1
theorem EV.append (i : Nat) (he : EV X ca B e ds (.d d) ds1) (h1 : ds1[i]? = some (.v (OD.l xs))) (hz : xs.length < 16777216) (hs : ds1.set i (.v (OD.l (xs ++ [d]))) = ds2 := by rfl)
    (h0 : ds[i]? = some (.v (OD.l xs0)) := by rfl) (hN : X.N[i]? = some x := by rfl) (hv : Vis X.env.scope x := by first | exact Or.inl rfl | exact Or.inr (Or.inl rfl) | exact Or.inr (Or.inr rfl)) (hd : (x == ("__debug__" : Str)) = false := by decide)
    (hcd : (x == ("__classdict__" : Str)) = false := by decide) (hb : attributeBase (.Name x p) "append" X.env (eval (.Name x p) X.env) = eval (.Name x p) X.env := by rfl)
    (hfew : ((backTo cp (starEach [e] X.env)).all (fun x => !x.1) && (backToKw cp (keywordEach [] X.env)).all (fun x => x.1.isSome)
      && decide ([e].length + ([] : List Keyword).length + (if ([] : List Keyword).isEmpty then 0 else 1) < 30)) = true := by rfl)
    (hline : (ap.endLine == cp.line) = true := by rfl) (hst : starEach [e] X.env = (false, eval e X.env) :: starEach [] X.env := by rfl) :
    EV X ca B (.Call (.Attribute (.Name x p) "append" ap) [e] [] cp) ds .non ds2 := fun ts σ H Q h q =>
  we_of (pe_bm PySem.F.plainAttrs_list PySem.F.slot_list_append PySem.F.type_list_append mt_append pe_we pa_wa hb hfew hline hst rfl) (ev_al i h0 hN hv hd hcd ts σ H _ h fun v H1 g1 => ⟨g1.tyL h0, ea_cons he ea_nil hst _ σ H1 _ g1 fun vs H2 hl g2 => by
    obtain ⟨w, rfl⟩ := vs1 hl
    have g3 : holds X.K ca B ds1 ((w, .d d) :: (v, .al i) :: ts) σ H2 := g2
    obtain ⟨l, vs, F, Hu, ow, rfl, rfl, C, hp, hu, hH, r⟩ := g3.alL h1 g3.pop.alV
    have t := C.tm
    have t1 : OwnsP X.K ca F Hu (.dat d) w _ := t.1
    rw [OwnsP] at t1
    refine ⟨l, vs, w, rfl, rfl, hH, by rw [← r.length, sizeLine_eq]; exact hz, ?_⟩
    refine q _ _ (holds.val ?_ fun F => .non)
    rw [← hs]
    exact (C.rest.rest.mutL hp (List.getElem?_eq_some_iff.mp h1).1 ⟨_, hu⟩ g3.pop.alV (r.append (.cons t1 .nil)))⟩)
/-- xs.pop() -/
theorem EV.pop (i : Nat) (h0 : ds[i]? = some (.v (OD.l xs)) := by rfl) (hd1 : xs.getLast? = some d) (hs : ds.set i (.v (OD.l xs.dropLast)) = ds2 := by rfl)
    (hN : X.N[i]? = some x := by rfl) (hv : Vis X.env.scope x := by first | exact Or.inl rfl | exact Or.inr (Or.inl rfl) | exact Or.inr (Or.inr rfl)) (hd : (x == ("__debug__" : Str)) = false := by decide)
    (hcd : (x == ("__classdict__" : Str)) = false := by decide) (hb : attributeBase (.Name x p) "pop" X.env (eval (.Name x p) X.env) = eval (.Name x p) X.env := by rfl)
    (hline : (ap.endLine == cp.line) = true := by rfl) :
    EV X ca B (.Call (.Attribute (.Name x p) "pop" ap) [] [] cp) ds (.d d) ds2 := fun ts σ H Q h q =>
  we_of (pe_bm0 PySem.F.plainAttrs_list PySem.F.slot_list_pop PySem.F.type_list_pop mt_pop pe_we hb hline) (ev_al i h0 hN hv hd hcd ts σ H _ h fun v H1 g1 => ⟨g1.tyL h0, by
    obtain ⟨l, vs, F, Hu, ow, rfl, rfl, C, hp, hu, hH, r⟩ := g1.alL h0 g1.alV
    rw [List.getLast?_eq_getElem?] at hd1
    obtain ⟨w, h2, h3⟩ := r.get hd1
    rw [r.length] at h2
    refine ⟨l, vs, w, rfl, rfl, hH, h2, ?_⟩
    refine q _ _ ?_
    rw [← hs]
    exact (C.rest.push h3).mutL hp (List.getElem?_eq_some_iff.mp h0).1 ⟨_, hu⟩ g1.alV r.dropLast⟩)
/-- xs.pop(i) -/
theorem EV.popAt {j : Int} {n : Nat} (i : Nat) (he : EV X ca B e ds (.int j) ds1) (h1 : ds1[i]? = some (.v (OD.l xs))) (hj : ixN xs.length j = some n) (hd1 : xs[n]? = some d) (hz : xs.length < 16777216) (hs : ds1.set i (.v (OD.l (xs.eraseIdx n))) = ds2 := by rfl)
    (h0 : ds[i]? = some (.v (OD.l xs0)) := by rfl) (hN : X.N[i]? = some x := by rfl) (hv : Vis X.env.scope x := by first | exact Or.inl rfl | exact Or.inr (Or.inl rfl) | exact Or.inr (Or.inr rfl)) (hd : (x == ("__debug__" : Str)) = false := by decide)
    (hcd : (x == ("__classdict__" : Str)) = false := by decide) (hb : attributeBase (.Name x p) "pop" X.env (eval (.Name x p) X.env) = eval (.Name x p) X.env := by rfl)
    (hfew : ((backTo cp (starEach [e] X.env)).all (fun x => !x.1) && (backToKw cp (keywordEach [] X.env)).all (fun x => x.1.isSome)
      && decide ([e].length + ([] : List Keyword).length + (if ([] : List Keyword).isEmpty then 0 else 1) < 30)) = true := by rfl)
    (hline : (ap.endLine == cp.line) = true := by rfl) (hst : starEach [e] X.env = (false, eval e X.env) :: starEach [] X.env := by rfl) :
    EV X ca B (.Call (.Attribute (.Name x p) "pop" ap) [e] [] cp) ds (.d d) ds2 := fun ts σ H Q h q =>
  we_of (pe_bm PySem.F.plainAttrs_list PySem.F.slot_list_pop PySem.F.type_list_pop mt_popAt pe_we pa_wa hb hfew hline hst rfl) (ev_al i h0 hN hv hd hcd ts σ H _ h fun v H1 g1 => ⟨g1.tyL h0, ea_cons he ea_nil hst _ σ H1 _ g1 fun vs H2 hl g2 => by
    obtain ⟨w, rfl⟩ := vs1 hl
    have g3 : holds X.K ca B ds1 ((w, .int j) :: (v, .al i) :: ts) σ H2 := g2
    obtain rfl := g3.int
    obtain ⟨l, vs, F, Hu, ow, rfl, rfl, C, hp, hu, hH, r⟩ := g3.alL h1 g3.pop.alV
    obtain ⟨h2, h3, h4, h5⟩ := ixN_seq hj
    obtain ⟨u, h6, h7⟩ := r.get hd1
    rw [r.length] at h2
    refine ⟨l, vs, j, n, u, rfl, rfl, hH, by omega, by omega, h2, h6, ?_⟩
    refine q _ _ ?_
    rw [← hs]
    exact (C.rest.rest.push h7).mutL hp (List.getElem?_eq_some_iff.mp h1).1 ⟨_, hu⟩ g3.pop.alV (r.eraseIdx n)⟩)
/-- a statement target = e -/
theorem b1_asg {od : OD} {tg : Expr} {ws : List Nat} (he : EV X ca B e ds (.v od) ds1) (hg : TG1 X ca B tg od ds1 ws ds2) (hs : swapsWithSole [tg] e pos.line X.env = pure false := by rfl) (hw : swappedStores [tg] e X.env = pure none := by rfl)
    (h1 : (assignEach [tg] X.env).map (·.2) = [assign tg X.env] := by rfl) : B1 X ca B (.Assign [tg] e pos) ds (.nx ds2) := fun ts σ H D W pl tk h0 q =>
  ws_of (ps_asg pe_we pg_wg hs hw h1) (he ts σ H _ h0 fun v H1 h => hg ts σ H1 v _ pl h fun σ' H' _ h' => q σ' H' h')
/-- xs[j] = a datum -/
theorem tg_ixL {j : Int} {n : Nat} (i : Nat) (hi : EV X ca B e ds (.int j) ds) (hj : ixN xs.length j = some n) (h0 : ds[i]? = some (.v (OD.l xs)) := by rfl) (hs : ds.set i (.v (OD.l (xs.set n d))) = ds1 := by rfl)
    (hN : X.N[i]? = some x := by rfl) (hv : Vis X.env.scope x := by first | exact Or.inl rfl | exact Or.inr (Or.inl rfl) | exact Or.inr (Or.inr rfl)) (hd : (x == ("__debug__" : Str)) = false := by decide)
    (hcd : (x == ("__classdict__" : Str)) = false := by decide)
    (ha : ∀ v, assign (.Subscript (.Name x p) e pos) X.env v = (do
      let ov ← holding [v] (eval (.Name x p) X.env)
      let iv ← holding [v, ov] (eval e X.env)
      standAt pos
      holding [v, ov, iv] (setItem ov iv v)
      release [v, ov, iv] []) := by intro _; rfl) : TG1 X ca B (.Subscript (.Name x p) e pos) (.dat d) ds [] ds1 := fun ts σ H v Q pl h q => wg_of (pg_sub pe_we pe_we set_list ha) (by
  refine ev_al i h0 hN hv hd hcd _ σ H _ h fun v1 H1 g1 => hi _ σ H1 _ g1 fun v2 H2 g2 => ?_
  obtain rfl := g2.int
  obtain ⟨l, vs, F, Hu, ow, rfl, rfl, C, hp, hu, hH, r⟩ := g2.alL h0 g2.pop.alV
  refine ⟨l, vs, j, n, rfl, rfl, hH, by rw [← r.length]; exact hj, q σ _ (.refl _) ?_⟩
  rw [← hs]
  have t := C.rest.rest.tm
  have t1 : OwnsP X.K ca F Hu (.dat d) v _ := t.1
  rw [OwnsP] at t1
  exact C.rest.rest.rest.mutL hp (List.getElem?_eq_some_iff.mp h0).1 ⟨_, hu⟩ g2.pop.alV (r.set n t1))
/-- a key -/
def keyD : Key → D
  | .inl i => .int i
  | .inr z => .str z
theorem rep_key {K : PySem.W.Frag} {F : Hp} (k : Key) : Rep K ca F (keyD k) (kV k) := by
  cases k
  · exact .int _
  · exact .str _
theorem holds.key {ts : List (V × Tm)} {σ : L2.St} {H : Hp} {v : V} {K : PySem.W.Frag} {k : Key} (h : holds K ca B ds ((v, .v (.dat (keyD k))) :: ts) σ H) : v = kV k := by
  cases k
  · exact h.int
  · exact h.str
/-- d[k] = a datum -/
theorem tg_ixK {kvs : List (Key × D)} {k : Key} (i : Nat) (hi : EV X ca B e ds (.d (keyD k)) ds) (hu : X.A.units + 1 < cLine) (hz : kvs.length < 16777216) (h0 : ds[i]? = some (.v (OD.k kvs)) := by rfl) (hs : ds.set i (.v (OD.k (putD kvs k d))) = ds1 := by rfl)
    (hN : X.N[i]? = some x := by rfl) (hv : Vis X.env.scope x := by first | exact Or.inl rfl | exact Or.inr (Or.inl rfl) | exact Or.inr (Or.inr rfl)) (hd : (x == ("__debug__" : Str)) = false := by decide)
    (hcd : (x == ("__classdict__" : Str)) = false := by decide)
    (ha : ∀ v, assign (.Subscript (.Name x p) e pos) X.env v = (do
      let ov ← holding [v] (eval (.Name x p) X.env)
      let iv ← holding [v, ov] (eval e X.env)
      standAt pos
      holding [v, ov, iv] (setItem ov iv v)
      release [v, ov, iv] []) := by intro _; rfl) : TG1 X ca B (.Subscript (.Name x p) e pos) (.dat d) ds [] ds1 := fun ts σ H v Q pl h q => wg_of (pg_sub pe_we pe_we (set_dict hu) ha) (by
  refine ev_al i h0 hN hv hd hcd _ σ H _ h fun v1 H1 g1 => hi _ σ H1 _ g1 fun v2 H2 g2 => ?_
  obtain rfl := g2.key
  obtain ⟨l, vs, F, Hu, ow, rfl, rfl, C, hp, hu, hH, r⟩ := g2.alK h0 g2.pop.alV
  refine ⟨l, _, rfl, .inl ⟨vs, k, hH, rfl, by rw [← r.len, sizeLine_eq]; exact hz, rfl⟩, q σ _ (.refl _) ?_⟩
  rw [← hs]
  have t := C.rest.rest.tm
  have t1 : OwnsP X.K ca F Hu (.dat d) v _ := t.1
  rw [OwnsP] at t1
  exact C.rest.rest.rest.mutK hp (List.getElem?_eq_some_iff.mp h0).1 ⟨_, hu⟩ g2.pop.alV (r.put t1))
/-- o is a dict with int or text keys -/
inductive Dk (ds : List Sl) : Tm → List (Key × D) → Prop
  | dat (kvs : List (Key × D)) : Dk ds (.v (.dat (.dK kvs))) kvs
  | own (kvs : List (Key × D)) : Dk ds (.v (OD.k kvs)) kvs
  | al {i : Nat} {od : OD} {kvs : List (Key × D)} (h : ds[i]? = some (.v od)) (s : Dk ds (.v od) kvs) : Dk ds (.al i) kvs
theorem Core.dk {K : PySem.W.Frag} {ts : List (V × Tm)} {σ : L2.St} {F Hu : Hp} {ow : Addr → Option Own} {v : V} {kvs : List (Key × D)} (C : Core K ca B ds ((v, o) :: ts) σ F Hu ow) (s : Dk ds o kvs) : ∃ a ps, v = .ref a ∧ Rd (lock B.lk Hu) a (.dK ps) ∧ RepK K ca F kvs ps := by
  have t := C.tm
  have own : ∀ {kvs : List (Key × D)} {v : V} {w : Own}, OwnsP K ca F Hu (OD.k kvs) v (fun a => ow a = some w) → ∃ a ps, v = .ref a ∧ Rd (lock B.lk Hu) a (.dK ps) ∧ RepK K ca F kvs ps := fun {kvs v w} h => by
    obtain ⟨p, ps, e, hp, hH, r⟩ := owns_k h
    exact ⟨p, ps, e, .inl (by rw [lock_none (C.nolk hp)]; exact hH), r⟩
  have dat : ∀ {kvs : List (Key × D)} {v : V}, Rep K ca F (.dK kvs) v → ∃ a ps, v = .ref a ∧ Rd (lock B.lk Hu) a (.dK ps) ∧ RepK K ca F kvs ps := fun {kvs v} h => by
    cases h with
    | dK h r => exact ⟨_, _, rfl, C.rd h, r⟩
  cases s with
  | dat _ =>
    have t1 : OwnsP K ca F Hu (.dat (.dK kvs)) v (fun a => ow a = some (.inr ts.length)) := t.1
    rw [OwnsP] at t1
    exact dat t1
  | own _ => exact own (show OwnsP K ca F Hu (OD.k kvs) v (fun a => ow a = some (.inr ts.length)) from t.1)
  | @al i od _ h s =>
    have t1 : σ[i]? = some (some v) := t.1
    obtain ⟨u, hu, x⟩ := C.sl i od h
    rw [t1] at hu
    cases hu
    cases s with
    | dat _ =>
      rw [OwnsP] at x
      exact dat x
    | own _ => exact own x
theorem RepK.get {K : PySem.W.Frag} {F : Hp} {kvs : List (Key × D)} {ps : List (Key × V)} {k : Key} (r : RepK K ca F kvs ps) (h : getD? kvs k = some d) : ∃ v, valV ps k = some v ∧ Rep K ca F d v := by
  induction kvs generalizing ps with
  | nil => simp [getD?] at h
  | cons kv kvs ih =>
    cases r with
    | @cons k' d' v' _ _ h' r =>
      unfold getD? at h
      unfold L2.valV
      rw [List.find?_cons] at h ⊢
      by_cases e : k' = k
      · simp only [e, decide_true, Option.map_some] at h ⊢
        cases h
        exact ⟨_, rfl, h'⟩
      · simp only [e, decide_false] at h ⊢
        exact ih r h
/-- d[k] -/
theorem EV.ixK {kvs : List (Key × D)} {k : Key} (hu : X.A.units + 1 < cLine) (ha : EV X ca B a ds o ds1) (hb : EV X ca B b ds1 (.d (keyD k)) ds2) (hs : Dk ds2 o kvs) (h : getD? kvs k = some d) (hp : NoSl b := by exact fun _ _ => rfl) : EV X ca B (.Subscript a b pos) ds (.d d) ds2 := fun ts σ H Q h0 q =>
  we_of (pe_dget hu pe_we pe_we hp) (ha ts σ H _ h0 fun x H1 h1 => hb _ σ H1 _ h1 fun y H2 h2 => by
    obtain rfl := h2.key
    obtain ⟨F, Hu, ow, rfl, C⟩ := h2.pop
    obtain ⟨a, ps, rfl, hr, r⟩ := C.dk hs
    obtain ⟨v, h3, h4⟩ := r.get h
    exact ⟨a, v, rfl, .inl ⟨ps, k, hr, rfl, h3.symm⟩, q _ _ (C.rest.give h4)⟩)
theorem ev_dnew {t : Nat} : EV X ca B (.Dict [] [] pos) ds (.v (OD.k [])) ds := fun ts σ H Q h0 q => we_of pe_dnewK fun p hp => q _ _ (h0.newDK hp)
/-- dict(d): a new dict -/
theorem EV.dict {kvs : List (Key × D)} (ha : EV X ca B a ds o ds1) (hs : Dk ds1 o kvs) (hm : X.mg "dict" = none) (hg : Gl X "dict" := by rfl) (he : starEach [a] X.env = (false, eval a X.env) :: starEach [] X.env := by rfl) : EV X ca B (.Call (.Name "dict" p) [a] [] pos) ds (.v (OD.k kvs)) ds1 :=
  ev_callTy call_dictD hm (by decide +kernel) (ea_cons ha ea_nil he) (fun ts σ H vs Q hl h q => by
    obtain ⟨v, rfl⟩ := vs1 hl
    obtain ⟨F, Hu, ow, rfl, C⟩ := h
    obtain ⟨a, ps, rfl, hr, r⟩ := C.dk hs
    refine ⟨a, ps, rfl, hr, fun l hl => q _ _ ?_⟩
    have C1 : Core X.K ca B ds1 ts σ F Hu ow := C.rest
    have hu := lock_isNone hl
    have C2 := C1.newO (o := .dK ps) (k := ts.length) hu
    exact ⟨_, _, _, lock_upd (C1.nolk0 hl), C2.tms _ ⟨owns_k_mk (if_pos rfl) upd_same r, C2.tm⟩⟩) hg (he := he)
end
end DL
/-! DL9: list comprehensions. -/
namespace DL
open PySem PySem.Spec PyProof.Rows L2

/-- the aliases are not told -/
def blur : List (V × Tm) → List (V × Tm)
  | [] => []
  | (v, .v od) :: ts => (v, .v od) :: blur ts
  | (v, .al _) :: ts => (v, .v (.dat .any)) :: blur ts
theorem blur_len : ∀ ts : List (V × Tm), (blur ts).length = ts.length
  | [] => rfl
  | (_, .v _) :: ts => congrArg Nat.succ (blur_len ts)
  | (_, .al _) :: ts => congrArg Nat.succ (blur_len ts)
theorem plain_blur : ∀ ts : List (V × Tm), plain (blur ts)
  | [] => fun v i hm => by cases hm
  | (_, .v _) :: ts => plain_cons (plain_blur ts)
  | (_, .al _) :: ts => plain_cons (plain_blur ts)
section
variable {K : PySem.W.Frag} {ca : CA} {B : Base} {ds ds1 : List Sl} {ts : List (V × Tm)} {σ σ' : L2.St} {H F Hu : Hp} {ow : Addr → Option Own} {v : V} {o : Tm} {xs : List D} {vs : List Nat}
theorem tms_blur : ∀ {ts : List (V × Tm)}, TmsR K ca F Hu ow σ ts → TmsR K ca F Hu ow σ' (blur ts)
  | [], _ => True.intro
  | (v, .v od) :: ts, h => ⟨by rw [blur_len]; exact h.1, tms_blur h.2⟩
  | (v, .al i) :: ts, h => ⟨by rw [OwnsP]; exact .any v, tms_blur h.2⟩
def tAls (σ : L2.St) (ts : List (V × Tm)) : Prop := ∀ v i, (v, Tm.al i) ∈ ts → σ[i]? = some (some v)
theorem tms_als : ∀ {ts : List (V × Tm)}, TmsR K ca F Hu ow σ ts → tAls σ ts
  | [], _ => fun v i hm => by cases hm
  | (u, .v od) :: ts, h => fun v i hm => by
    rcases List.mem_cons.mp hm with e | hm
    · cases e
    · exact tms_als h.2 v i hm
  | (u, .al j) :: ts, h => fun v i hm => by
    rcases List.mem_cons.mp hm with e | hm
    · cases e
      exact h.1
    · exact tms_als h.2 v i hm
theorem tms_unblur : ∀ {ts : List (V × Tm)}, tAls σ ts → TmsR K ca F Hu ow σ' (blur ts) → TmsR K ca F Hu ow σ ts
  | [], _, _ => True.intro
  | (v, .v od) :: ts, a, h => by
    have h1 : OwnsP K ca F Hu od v (fun a => ow a = some (.inr (blur ts).length)) ∧ TmsR K ca F Hu ow σ' (blur ts) := h
    rw [blur_len] at h1
    exact ⟨h1.1, tms_unblur (fun v i hm => a v i (List.mem_cons_of_mem _ hm)) h1.2⟩
  | (v, .al i) :: ts, a, h => ⟨a v i (List.mem_cons_self ..), tms_unblur (fun v i hm => a v i (List.mem_cons_of_mem _ hm)) h.2⟩
theorem wipe_get {σ : L2.St} : ∀ {vs : List Nat} {i : Nat}, i ∉ vs → (wipe σ vs)[i]? = σ[i]?
  | [], _, _ => rfl
  | v :: vs, i, h => by
    simp only [List.mem_cons, not_or] at h
    show ((wipe σ vs).set v none)[i]? = _
    rw [List.getElem?_set_ne (fun e => h.1 e.symm), wipe_get h.2]
theorem wipe_set {v : Nat} {u : Option V} : ∀ {vs : List Nat} {σ : L2.St}, v ∈ vs → wipe (σ.set v u) vs = wipe σ vs
  | [], _, h => by cases h
  | w :: vs, σ, h => by
    show (wipe (σ.set v u) vs).set w none = (wipe σ vs).set w none
    by_cases hv : v ∈ vs
    · rw [wipe_set hv]
    · have e : v = w := by
        rcases List.mem_cons.mp h with e | e
        · exact e
        · exact absurd e hv
      subst e
      apply List.ext_getElem?
      intro i
      by_cases hi : v = i
      · subst hi
        by_cases hl : v < σ.length
        · rw [List.getElem?_set_self (by rw [wipe_length, List.length_set]; exact hl), List.getElem?_set_self (by rw [wipe_length]; exact hl)]
        · rw [List.getElem?_eq_none (by rw [List.length_set, wipe_length, List.length_set]; omega), List.getElem?_eq_none (by rw [List.length_set, wipe_length]; omega)]
      · rw [List.getElem?_set_ne hi, List.getElem?_set_ne hi]
        have : ∀ (vs : List Nat) (σ : L2.St), v ∉ vs → (wipe (σ.set v u) vs)[i]? = (wipe σ vs)[i]? := fun vs => by
          induction vs with
          | nil =>
            intro σ _
            show (σ.set v u)[i]? = σ[i]?
            rw [List.getElem?_set_ne hi]
          | cons z zs ih =>
            intro σ hz
            simp only [List.mem_cons, not_or] at hz
            show ((wipe (σ.set v u) zs).set z none)[i]? = ((wipe σ zs).set z none)[i]?
            by_cases hzi : z = i
            · subst hzi
              by_cases hl : z < σ.length
              · rw [List.getElem?_set_self (by rw [wipe_length, List.length_set]; exact hl), List.getElem?_set_self (by rw [wipe_length]; exact hl)]
              · rw [List.getElem?_eq_none (by rw [List.length_set, wipe_length, List.length_set]; omega), List.getElem?_eq_none (by rw [List.length_set, wipe_length]; omega)]
            · rw [List.getElem?_set_ne hzi, List.getElem?_set_ne hzi]
              exact ih σ hz.2
        exact this vs σ hv
theorem wipe_idem : ∀ {vs : List Nat} {σ : L2.St}, wipe (wipe σ vs) vs = wipe σ vs := fun {vs σ} => by
  have go : ∀ (us : List Nat), (∀ u ∈ us, u ∈ vs) → wipe (wipe σ us) vs = wipe σ vs := fun us => by
    induction us with
    | nil => intro _; rfl
    | cons u us ih =>
      intro h
      show wipe ((wipe σ us).set u none) vs = wipe σ vs
      rw [wipe_set (h u (List.mem_cons_self ..))]
      exact ih fun w hw => h w (List.mem_cons_of_mem _ hw)
  exact go vs fun u h => h
/-- the slots vs hold nothing -/
def bare (ds : List Sl) (vs : List Nat) : Prop := ∀ i ∈ vs, ∀ od, ds[i]? ≠ some (.v od)
def clr (ds : List Sl) : List Nat → List Sl
  | [] => ds
  | v :: vs => (clr ds vs).set v .no
theorem clr_len : ∀ vs : List Nat, (clr ds vs).length = ds.length
  | [] => rfl
  | v :: vs => by unfold clr; rw [List.length_set, clr_len vs]
theorem clr_bare : ∀ vs : List Nat, bare (clr ds vs) vs
  | [], i, hi, od => by cases hi
  | v :: vs, i, hi, od => by
    show ((clr ds vs).set v .no)[i]? ≠ _
    by_cases e : v = i
    · subst e
      by_cases hl : v < (clr ds vs).length
      · rw [List.getElem?_set_self hl]
        intro z; cases z
      · rw [List.getElem?_eq_none (by rw [List.length_set]; omega)]
        intro z; cases z
    · rw [List.getElem?_set_ne e]
      exact clr_bare vs i ((List.mem_cons.mp hi).resolve_left fun z => e z.symm) od
theorem clr_some : ∀ {vs : List Nat} {i : Nat} {od : OD}, (clr ds vs)[i]? = some (.v od) → ds[i]? = some (.v od)
  | [], _, _, h => h
  | v :: vs, i, od, h => by
    have h' : ((clr ds vs).set v .no)[i]? = some (.v od) := h
    by_cases e : v = i
    · subst e
      by_cases hl : v < (clr ds vs).length
      · rw [List.getElem?_set_self hl] at h'
        cases h'
      · rw [List.getElem?_eq_none (by rw [List.length_set]; omega)] at h'
        cases h'
    · rw [List.getElem?_set_ne e] at h'
      exact clr_some h'
/-- other local slots -/
theorem Core.slots (C : Core K ca B ds ts σ F Hu ow) (hl : σ'.length = ds1.length) (hs : ∀ (i : Nat) (od : OD), ds1[i]? = some (Sl.v od) → ds[i]? = some (Sl.v od) ∧ σ'[i]? = σ[i]?) (hp : ∀ i, B.pr i = true → σ'[i]? = σ[i]?) {ts' : List (V × Tm)} (ht : TmsR K ca F Hu ow σ' ts') : Core K ca B ds1 ts' σ' F Hu ow := by
  refine ⟨C.f0, C.fh, C.lks, C.fresh, C.keep, C.stay, C.own, C.ownS, C.ownT, fun i hi => ?_, hl, fun i od hi => ?_, ht⟩
  · obtain ⟨v, h1, h2⟩ := C.prs i hi
    exact ⟨v, h1, by rw [hp i hi]; exact h2⟩
  · obtain ⟨h1, h2⟩ := hs i od hi
    obtain ⟨v, h3, h4⟩ := C.sl i od h1
    exact ⟨v, by rw [h2]; exact h3, h4⟩
/-- the list on its way grows -/
theorem Core.grow {p : Addr} {acc : List D} {d : D} (C : Core K ca B ds ((v, .v (.dat d)) :: (.ref p, .v (OD.l acc)) :: ts) σ F Hu ow) : ∃ us, lock B.lk Hu p = some (.lst us) ∧ acc.length = us.length ∧ holds K ca B ds ((.ref p, .v (OD.l (acc ++ [d]))) :: ts) σ (upd (lock B.lk Hu) p (.lst (us ++ [v]))) := by
  have t := C.tm
  have t1 : OwnsP K ca F Hu (.dat d) v _ := t.1
  rw [OwnsP] at t1
  have t2 : OwnsP K ca F Hu (OD.l acc) (.ref p) (fun a => ow a = some (.inr ts.length)) ∧ TmsR K ca F Hu ow σ ts := t.2
  obtain ⟨p', us, e, hp, hH, r⟩ := owns_l t2.1
  cases e
  have hF := C.own p _ hp
  refine ⟨us, by rw [lock_none (C.nolk hp)]; exact hH, r.length, F, _, ow, lock_upd (C.nolk hp), C.f0, fun a o h => ?_, C.lks, C.fresh, fun a o h hf => ?_, fun a o h => ?_, C.own, C.ownS, C.ownT, C.prs, C.len, fun j od' hj => ?_, ?_, ?_⟩
  · rw [upd_ne (ne_of_none h hF)]
    exact C.fh a o h
  · rw [upd_ne (ne_of_none h (C.ownT p _ hp))]
    exact C.keep a o h hf
  · rw [upd_ne (ne_of_none h (C.ownT p _ hp))]
    exact C.stay a o h
  · obtain ⟨w, h1, h2⟩ := C.sl j od' hj
    refine ⟨w, h1, owns_imp (Ex.refl _) (fun a o pa ha => ⟨?_, pa⟩) h2⟩
    have pa' : ow a = some (.inl j) := pa
    rw [upd_ne (fun e => by rw [e, hp] at pa'; cases pa')]
    exact ha
  · exact owns_l_mk hp upd_same (r.append (.cons t1 .nil))
  · refine tms_imp (Ex.refl _) (fun a o k hk pa ha => ⟨?_, pa⟩) t2.2
    rw [upd_ne (fun e => by rw [e, hp] at pa; cases pa; exact Nat.lt_irrefl _ hk)]
    exact ha
theorem holds.newL0 {p : Addr} (h : holds K ca B ds ts σ H) (hp : H p = none) : holds K ca B ds ((.ref p, .v (OD.l [])) :: ts) σ (upd H p (.lst [])) := holds.newLst (xs := []) (vs := []) h rfl hp
end

/-! ### the block's readings -/
def WTs (X : Cx) (ifs : List Expr) (σ : L2.St) (H : Hp) (Q : Bool → Hp → Prop) : Prop := ∀ pins s, Inv X pins σ H s →
    wpAny (model X.prog X.w) X.A (forIn ifs true fun c r => if r = true then do let ok ← isTrue c X.env (eval c X.env); pure (ForInStep.yield ok) else pure (ForInStep.yield r)) (TP X pins σ Q) X.xe s
theorem pts_wts {X : Cx} {ifs : List Expr} : PTs X ifs (WTs X ifs) := ⟨fun pins s _ _ _ I h => h pins s I⟩
theorem wts_of {X : Cx} {ifs : List Expr} {t : TT} (h : PTs X ifs t) {σ : L2.St} {H : Hp} {Q : Bool → Hp → Prop} (q : t σ H Q) : WTs X ifs σ H Q := fun pins s I => h.run pins s σ H Q I q
def ETs (X : Cx) (ca : CA) (B : Base) (ifs : List Expr) (ds : List Sl) (b : Bool) (ds' : List Sl) : Prop :=
  ∀ ts σ H Q, plain ts → holds X.K ca B ds ts σ H → (∀ H', holds X.K ca B ds' ts σ H' → Q b H') → WTs X ifs σ H Q
theorem ets_nil {X : Cx} {ca : CA} {B : Base} {ds : List Sl} : ETs X ca B [] ds true ds := fun ts σ H Q pl h q => wts_of pts_nil (q H h)
theorem ets_one {X : Cx} {ca : CA} {B : Base} {c : Expr} {ds ds1 : List Sl} {b : Bool} (h : ET X ca B c ds b ds1) : ETs X ca B [c] ds b ds1 := fun ts σ H Q pl h0 q => wts_of (pts_one pt_wt) (h ts σ H Q h0 q)
/-- the context within a comprehension's block -/
def InBlk (X : Cx) (scope : Scope) (X' : Cx) : Prop := ∃ (s : Shared) (H : Hp) (C : Addr) (cl : List (Str × Addr)) (fp : List Addr), X' = X.blk s H scope (compEnvC scope cl C X.env) fp
section
variable (X : Cx) (ca : CA) (B : Base)
/-- the turns of a comprehension; vs: its own slots -/
def LC (scope : Scope) (vs : List Nat) (tg : Expr) (ifs : List Expr) (elt : Expr) : List D → List Sl → List D → List Sl → Prop
  | [], ds, out, ds' => out = [] ∧ ds' = ds
  | d :: xs, ds, out, ds' => ∃ ds1 b ds2 ws, (∀ X', InBlk X scope X' → TG1 X' ca B tg (.dat d) ds ws ds1) ∧ (∀ i ∈ ws, i ∈ vs) ∧ (∀ X', InBlk X scope X' → ETs X' ca B ifs ds1 b ds2) ∧
      ((b = false ∧ LC scope vs tg ifs elt xs (clr ds2 vs) out ds') ∨
        (b = true ∧ ∃ r ds3 out', (∀ X', InBlk X scope X' → EV X' ca B elt ds2 (.v (.dat r)) ds3) ∧ out = r :: out' ∧ LC scope vs tg ifs elt xs (clr ds3 vs) out' ds'))
end
theorem wipe_only {σ σ' : L2.St} {ws vs : List Nat} (h : OnlyAt ws σ σ') (hs : ∀ i ∈ ws, i ∈ vs) : wipe σ' vs = wipe σ vs := by
  apply List.ext_getElem?
  intro i
  by_cases hi : i ∈ vs
  · have go : ∀ (us : List Nat) (σ : L2.St), i ∈ us → (wipe σ us)[i]? = if i < σ.length then some none else none := fun us => by
      induction us with
      | nil => intro σ h; cases h
      | cons u us ih =>
        intro σ h
        show ((wipe σ us).set u none)[i]? = _
        by_cases e : u = i
        · subst e
          by_cases hl : u < σ.length
          · rw [List.getElem?_set_self (by rw [wipe_length]; exact hl), if_pos hl]
          · rw [List.getElem?_eq_none (by rw [List.length_set, wipe_length]; omega), if_neg hl]
        · rw [List.getElem?_set_ne e]
          exact ih σ ((List.mem_cons.mp h).resolve_left fun z => e z.symm)
    rw [go vs σ' hi, go vs σ hi, h.1]
  · rw [wipe_get hi, wipe_get hi]
    exact h.2 i fun z => hi (hs i z)
def gB (X : Cx) (scope : Scope) (tg : Expr) : TG := fun v σ H Q => ∀ X', InBlk X scope X' → WG X' tg v σ H Q
def ttB (X : Cx) (scope : Scope) (ifs : List Expr) : TT := fun σ H Q => ∀ X', InBlk X scope X' → WTs X' ifs σ H Q
def teB (X : Cx) (scope : Scope) (elt : Expr) : TE := fun σ H Q => ∀ X', InBlk X scope X' → WE X' elt σ H Q
section
variable {X : Cx} {ca : CA} {B : Base} {ds ds1 ds2 : List Sl} {tg iter elt : Expr} {ifs : List Expr} {scope : Scope} {own : List (Str × Nat)} {xs out : List D} {pos spos py : Pos} {y : Str}
theorem lc_turns {Q : VK} {J : It} {T ts : List (V × Tm)} {σ : L2.St} {H1 : Hp} {vs : List Nat} (wk : Walks X ca B J T xs) (pT : plain T) (hb : bare ds1 vs) (hp : ∀ i ∈ vs, B.pr i = false) (h1 : holds X.K ca B ds1 (T ++ ts) σ H1) (lc : LC X ca B scope vs tg ifs elt xs ds1 out ds2) (hz : out.length < 16777216)
    (q : ∀ v H', holds X.K ca B ds2 ((v, .v (OD.l out)) :: ts) σ H' → Q v H') : ∀ D, H1 D = none → ∃ W : Nat → Nat → Hp → Prop, (∃ m, W 0 m (upd H1 D (.lst []))) ∧ ∀ i m H, W i m H →
      (J.stop i H ∧ Q (.ref D) H) ∨ (J.go i H ∧ ∃ Nx : Hp → Prop, (∀ H', Nx H' → ∃ m', m' < m ∧ W (i + 1) m' H') ∧ ∀ x H', J.yld i H x H' → gB X scope tg x (wipe σ vs) H' fun σ2 H2 => wipe σ2 vs = wipe σ vs ∧ ttB X scope ifs σ2 H2 fun b H3 =>
        if b = true then teB X scope elt σ2 H3 fun y H4 => ∃ acc, H4 D = some (.lst acc) ∧ acc.length < sizeLine ∧ Nx (upd H4 D (.lst (acc ++ [y]))) else Nx H3) := by
  intro p0 hD
  have als : tAls σ ts := by
    obtain ⟨_, _, _, _, C⟩ := h1
    exact tms_als (tms_popN C.tm)
  have hpw : ∀ {σ' : L2.St} (i : Nat), B.pr i = true → (wipe σ' vs)[i]? = σ'[i]? := fun {σ'} i hi => wipe_get fun z => by rw [hp i z] at hi; cases hi
  refine ⟨fun i m H => m = xs.length - i ∧ i ≤ xs.length ∧ ∃ dsi acc rest, holds X.K ca B dsi ((.ref p0, .v (OD.l acc)) :: (T ++ blur ts)) (wipe σ vs) H ∧ LC X ca B scope vs tg ifs elt (xs.drop i) dsi rest ds2 ∧ out = acc ++ rest ∧ bare dsi vs, ⟨xs.length, by simp, Nat.zero_le _, ds1, [], out, ?_, lc, rfl, hb⟩, ?_⟩
  · -- the start
    have h2 := h1.newL0 hD
    obtain ⟨F, Hu, ow, e, C⟩ := h2
    refine ⟨F, Hu, ow, e, C.slots (by rw [wipe_length]; exact C.len) (fun i od hi => ⟨hi, wipe_get fun z => hb i z od hi⟩) hpw ?_⟩
    have t := tms_blur (σ' := wipe σ vs) C.tm
    have e2 : blur ((V.ref p0, Tm.v (OD.l [])) :: (T ++ ts)) = (V.ref p0, Tm.v (OD.l [])) :: (T ++ blur ts) := by
      show _ :: blur (T ++ ts) = _
      have : ∀ {T : List (V × Tm)}, plain T → blur (T ++ ts) = T ++ blur ts := fun {T} => by
        induction T with
        | nil => intro _; rfl
        | cons t T ih =>
          intro pT
          obtain ⟨v, (od | i)⟩ := t
          · show _ :: blur (T ++ ts) = _
            rw [ih (fun v i hm => pT v i (List.mem_cons_of_mem _ hm))]
            rfl
          · exact absurd (List.mem_cons_self ..) (pT v i)
      rw [this pT]
    rw [e2] at t
    exact t
  · rintro i m H ⟨rfl, hi, dsi, acc, rest, h2, l2, eo, hbi⟩
    obtain ⟨w1, w2⟩ := wk dsi _ _ H i (fun t ht => List.mem_cons_of_mem _ (List.mem_append_left _ ht)) h2
    by_cases hlt : i < xs.length
    · rw [List.drop_eq_getElem_cons hlt] at l2
      obtain ⟨ds3, b, ds4, ws, g3, hws, t3, e3⟩ := l2
      obtain ⟨w3, w4⟩ := w1 xs[i] (by simp [hlt])
      have pl : plain ((V.ref p0, Tm.v (OD.l acc)) :: (T ++ blur ts)) := plain_cons (plain_app pT (plain_blur ts))
      refine .inr ⟨w3, fun H' => ∃ ds', ∃ acc' rest', holds X.K ca B ds' ((.ref p0, .v (OD.l acc')) :: (T ++ blur ts)) (wipe σ vs) H' ∧ LC X ca B scope vs tg ifs elt (xs.drop (i + 1)) ds' rest' ds2 ∧ out = acc' ++ rest' ∧ bare ds' vs, fun H' ⟨ds', acc', rest', h', l', e', b'⟩ => ⟨xs.length - (i + 1), by omega, rfl, hlt, ds', acc', rest', h', l', e', b'⟩, fun x H' y => ?_⟩
      intro X' hX
      have g4 := g3 X' hX
      obtain ⟨_, _, _, _, _, rfl⟩ := hX
      refine g4 _ _ H' x _ pl (w4 x H' y) fun σ4 H4 o4 h4 => ?_
      have hw : wipe σ4 vs = wipe σ vs := by rw [wipe_only o4 hws, wipe_idem]
      have back : ∀ {ds : List Sl} {acc : List D} {H : Hp}, holds X.K ca B ds ((.ref p0, .v (OD.l acc)) :: (T ++ blur ts)) σ4 H → holds X.K ca B (clr ds vs) ((.ref p0, .v (OD.l acc)) :: (T ++ blur ts)) (wipe σ vs) H := fun {ds acc H} h => by
        obtain ⟨F, Hu, ow, e, C⟩ := h
        rw [← hw]
        refine ⟨F, Hu, ow, e, C.slots (by rw [wipe_length, clr_len]; exact C.len) (fun i od hi => ⟨clr_some hi, wipe_get fun z => clr_bare vs i z od hi⟩) hpw ?_⟩
        have bl : ∀ {ts : List (V × Tm)}, plain ts → TmsR X.K ca F Hu ow σ4 ts → TmsR X.K ca F Hu ow (wipe σ4 vs) ts := fun {ts} => by
          induction ts with
          | nil => exact fun _ _ => True.intro
          | cons t ts ih =>
            intro p h
            obtain ⟨v, (od | i)⟩ := t
            · exact ⟨h.1, ih (fun v i hm => p v i (List.mem_cons_of_mem _ hm)) h.2⟩
            · exact absurd (List.mem_cons_self ..) (p v i)
        exact bl (plain_cons (plain_app pT (plain_blur ts))) C.tm
      refine ⟨hw, ?_⟩
      intro X' hX
      have t4 := t3 X' hX
      obtain ⟨_, _, _, _, _, rfl⟩ := hX
      refine t4 _ _ H4 _ pl h4 fun H5 h5 => ?_
      rcases e3 with ⟨rfl, l5⟩ | ⟨rfl, r, ds5, out', e5, eo2, l5⟩
      · rw [if_neg (by decide)]
        exact ⟨_, acc, rest, back h5, l5, eo, clr_bare vs⟩
      · rw [if_pos rfl]
        intro X' hX
        have e6 := e5 X' hX
        obtain ⟨_, _, _, _, _, rfl⟩ := hX
        refine e6 _ _ H5 _ h5 fun y H6 h6 => ?_
        have h6' : holds X.K ca B ds5 ((y, .v (.dat r)) :: (.ref p0, .v (OD.l acc)) :: (T ++ blur ts)) σ4 H6 := h6
        obtain ⟨F, Hu, ow, rfl, C⟩ := h6'
        obtain ⟨us, hu, hl, hg⟩ := C.grow
        refine ⟨us, hu, ?_, ⟨_, acc ++ [r], out', back hg, l5, by rw [eo, eo2]; simp, clr_bare vs⟩⟩
        rw [← hl, sizeLine_eq]
        rw [eo] at hz
        simp at hz
        omega
    · have e : i = xs.length := by omega
      subst e
      rw [List.drop_length] at l2
      obtain ⟨rfl, rfl⟩ := l2
      refine .inl ⟨w2 (Nat.le_refl _), q _ _ ?_⟩
      rw [List.append_nil] at eo
      rw [eo]
      have h3 := holds.drop h2
      obtain ⟨F, Hu, ow, e, C⟩ := h3
      refine ⟨F, Hu, ow, e, C.slots (by
        have := C.len
        rw [wipe_length] at this
        exact this) (fun i od hi => ⟨hi, (wipe_get fun z => hbi i z od hi).symm⟩) (fun i hi => (hpw i hi).symm) ?_⟩
      have t : TmsR X.K ca F Hu ow (wipe σ vs) (blur ((V.ref p0, Tm.v (OD.l acc)) :: ts)) := C.tm
      exact tms_unblur (fun v i hm => by
        rcases List.mem_cons.mp hm with z | z
        · cases z
        · exact als v i z) t
/-- [elt for tg in iter if ..] -/
theorem ev_lc (hc : X.calm = true) (hN : X.N.Nodup) (hi : IV X ca B tg iter ds xs ds1) (ok : BlkOk X.N X.env.scope scope own) (hb : bare ds1 (own.map (·.2))) (hp : ∀ i ∈ own.map (·.2), B.pr i = false)
    (lc : LC X ca B scope (own.map (·.2)) tg ifs elt xs ds1 out ds2) (hz : out.length < 16777216) (hs : ∀ x, foldedSetIterable iter X.env x = pure x := by intro _; rfl) : EV X ca B (.ListComp elt [⟨tg, iter, ifs, 0⟩] scope pos) ds (.v (OD.l out)) ds2 := fun ts σ H Q h0 q =>
  we_of (pe_lc (g := gB X scope tg) (tt := ttB X scope ifs) (te := teB X scope elt) hc hN pi_wi ok (fun s H C cl fp => ⟨fun pins s' σ H' v u Q I r h => h _ ⟨s, H, C, cl, fp, rfl⟩ pins s' u I r⟩) (fun s H C cl fp => ⟨fun pins s' σ H' Q I h => h _ ⟨s, H, C, cl, fp, rfl⟩ pins s' I⟩)
    (fun s H C cl fp => ⟨fun pins s' σ H' Q I h => h _ ⟨s, H, C, cl, fp, rfl⟩ pins s' I⟩) hs) (hi ts σ H _ h0 fun J T H1 pT wk h1 => lc_turns wk pT hb hp h1 lc hz q)
/-- name = [..] on one line -/
theorem b1_setLc {p' : Pos} (i : Nat) (hc : X.calm = true) (hN : X.N.Nodup) (hi : IV X ca B tg iter ds xs ds1) (ok : BlkOk X.N X.env.scope scope own) (hb : bare ds1 (own.map (·.2))) (hp : ∀ i ∈ own.map (·.2), B.pr i = false)
    (lc : LC X ca B scope (own.map (·.2)) tg ifs elt xs ds1 out ds2) (hz : out.length < 16777216) {ds3 : List Sl} (hds : ds2.set i (.v (OD.l out)) = ds3 := by rfl) (hl : i < ds2.length := by simp) (hpi : B.pr i = false := by rfl)
    (hy : X.N[i]? = some y := by rfl) (hyl : X.env.scope.names.lookup y = some .local := by rfl) (hk : X.env.scope.kind = .function := by rfl) (hln : (py.line == pos.line) = true := by rfl) (hln2 : spos.line = pos.line := by rfl)
    (ha : (scope.names.any fun (n, k) => n == y && (k == .local || k == .cell)) = false := by rfl) (hs : ∀ x, foldedSetIterable iter X.env x = pure x := by intro _; rfl) :
    B1 X ca B (.Assign [.Name y py] (.ListComp elt [⟨tg, iter, ifs, 0⟩] scope pos) spos) ds (.nx ds3) := fun ts σ H D W pl tk h0 q =>
  ws_of (ps_setLc (g := gB X scope tg) (tt := ttB X scope ifs) (te := teB X scope elt) hc hN hy hyl (sw_true hk hyl hln ha) pi_wi ok (fun s H C cl fp => ⟨fun pins s' σ H' v u Q I r h => h _ ⟨s, H, C, cl, fp, rfl⟩ pins s' u I r⟩) (fun s H C cl fp => ⟨fun pins s' σ H' Q I h => h _ ⟨s, H, C, cl, fp, rfl⟩ pins s' I⟩)
    (fun s H C cl fp => ⟨fun pins s' σ H' Q I h => h _ ⟨s, H, C, cl, fp, rfl⟩ pins s' I⟩) hs) (hi ts σ H _ h0 fun J T H1 pT wk h1 => lc_turns wk pT hb hp h1 lc hz fun v H' h' => by
      rw [← hds] at q
      exact q _ _ (h'.set hl hpi (noAl_of pl)))
end
end DL
/-! DL10: instances read and made, exceptions raised. -/
namespace DL
open PySem PySem.Spec PyProof.Rows L2

def fldD : List (Str × D) → Str → Option D
  | [], _ => none
  | (g, d) :: r, f => if f = g then some d else fldD r f
section
variable {K : PySem.W.Frag} {ca : CA} {F H : Hp} {d : D}
theorem RepF.get : ∀ {gs : List (Str × D)} {fs : List (Str × V)} {f : Str}, RepF K ca F gs fs → fldD gs f = some d → ∃ v, fs.lookup f = some v ∧ Rep K ca F d v
  | _, _, f, .nil, h => by cases h
  | _, _, f, .cons (k := k) (v := v) (vs := vs) h r, e => by
    unfold fldD at e
    by_cases c : f = k
    · rw [if_pos c] at e
      cases e
      subst c
      exact ⟨v, by simp, h⟩
    · rw [if_neg c] at e
      obtain ⟨u, h1, h2⟩ := r.get e
      refine ⟨u, ?_, h2⟩
      rw [List.lookup_cons]
      have : (f == k) = false := by simpa using c
      rw [this]
      exact h1
end
section
variable {X : Cx} {ca : CA} {B : Base} {ds ds1 ds2 : List Sl} {e : Expr} {es : List Expr} {pos p p2 : Pos} {d : D} {f x c : Str} {gs : List (Str × D)} {xs : List D}
/-- o.f of an instance that stands for ever -/
theorem EV.fld (he : EV X ca B e ds (.d (.ins c gs)) ds1) (T : Cls X.K (ca c)) (hn : NoAttr X.K (ca c) f) (h : fldD gs f = some d) (hb : attributeBase e f X.env (eval e X.env) = eval e X.env := by rfl) : EV X ca B (.Attribute e f pos) ds (.d d) ds1 := fun ts σ H Q h0 q =>
  we_of (pe_fld pe_we hb) (he ts σ H _ h0 fun v H1 h1 => by
    obtain ⟨F, Hu, ow, rfl, C, r⟩ := h1.rep
    cases r with
    | ins hF r =>
      obtain ⟨u, h2, h3⟩ := r.get h
      exact ⟨_, _, _, _, u, rfl, C.at hF (fun z => z), T, hn, h2, q _ _ (C.rest.give h3)⟩)

/-! ### exceptions with their own __init__ -/
def oexB (K : PySem.W.Frag) (C : Addr) : Bool := (match K.lookup C with
  | some ⟨.type "type", _, .cls cd, sl⟩ => (match cd.mro, sl.toList with
    | .ref C' :: bm, [_, _, _, _, some (.builtin n), _] => C' == C && n == "ValueError.__new__" && !cd.hasDel && cd.hasDict && PySem.HandSPX.refsVE bm
    | _, _ => false)
  | _ => false) && decide (PySem.W.findIn K (.ref C) "__setattr__" = some (some (.builtin "object.__setattr__"))) && decide (PySem.W.subIn K (.ref C) (.type "BaseException") = some true) && decide (PySem.W.typeIn K (.ref C) = some (.type "type")) && PySem.W.keepIn K (.ref C)
theorem oexB_ok {K : PySem.W.Frag} {C : Addr} (h : oexB K C = true) : OexC K C := by
  unfold oexB at h
  simp only [Bool.and_eq_true, decide_eq_true_eq] at h
  obtain ⟨⟨⟨⟨q, h1⟩, h2⟩, h3⟩, h4⟩ := h
  refine ⟨?_, h1, h2, h3, h4⟩
  split at q
  · rename_i dd cd sl ho
    split at q
    · rename_i C' bm k0 k1 k2 k3 n k5 hm hs
      simp only [Bool.and_eq_true, beq_iff_eq, Bool.not_eq_true'] at q
      obtain ⟨⟨⟨⟨rfl, rfl⟩, hdel⟩, hdi⟩, ht⟩ := q
      obtain ⟨nm, bs, mro, ns, qn, hd, sn, sub, ab, col, del⟩ := cd
      dsimp only at hm hdel hdi
      subst hm hdel hdi
      have hsl : sl = #[k0, k1, k2, k3, some (.builtin "ValueError.__new__"), k5] := by
        obtain ⟨l⟩ := sl
        simp only at hs
        rw [hs]
      subst hsl
      exact ⟨nm, qn, ns, bs, bm, sn, sub, ab, col, dd, k0, k1, k2, k3, k5, ho, ht⟩
    · cases q
  · cases q
/-- what an exception's __init__ promises: fs from the arguments -/
def spX (K : PySem.W.Frag) (C : Addr) (n : Nat) (fs : List V → List (Str × V)) : Sp := fun vs H Q E => ∃ (a : Addr) (ws : List V), vs = .ref a :: ws ∧ ws.length = n ∧ H a = some (exo a C none) ∧
  ∀ (d : Addr) (H' : Hp), H d = none → d ≠ a → H' a = some (exo a C (some d)) → H' d = some (exd d (fs ws)) → (∀ b, b ≠ a → b ≠ d → H' b = H b) → Q .non H'
/-- where a class's exceptions come from -/
structure ExI (P : Program) (w : World) (K : PySem.W.Frag) (mg : Str → Option Value) (base : Heap) (k : Nat) (x : Str) (C : Addr) (n : Nat) (fs : List V → List (Str × V)) : Prop where
  oex : OexC K C
  glo : mg x = some (.ref C)
  ini : ∃ (fI : Addr) (fd : FuncData) (ps : List Str), PySem.W.findIn K (.ref C) "__init__" = some (some (.ref fI)) ∧ PySem.W.typeIn K (.ref fI) = some (.type "function") ∧ FnOk P w K mg base (CX P w) k fI fd ps (spX K C n fs) ∧ Binds K fd ps []
/-- the fields as data -/
def FldsD (fs : List V → List (Str × V)) (gs : List D → List (Str × D)) : Prop := ∀ (K : PySem.W.Frag) (ca : CA) (F : Hp) (ds : List D) (vs : List V), Reps K ca F ds vs → RepF K ca F (gs ds) (fs vs)
theorem upd_upd_del {H1 H2 : Hp} {a d : Addr} {o : HO} (ha : H1 a = none) (hs : ∀ b, b ≠ a → b ≠ d → H2 b = upd H1 a o b) (hda : d ≠ a) (u : HO) : upd (del H2 a) d u = upd H1 d u := by
  funext b
  by_cases e : b = d
  · rw [e, upd_same, upd_same]
  · rw [upd_ne e, upd_ne e]
    by_cases e2 : b = a
    · rw [e2, del_same, ha]
    · rw [del_ne e2, hs b e2 e, upd_ne e2]
/-- raise C(e, ..) -/
theorem b1_raise {k n : Nat} {fs : List V → List (Str × V)} {gf : List D → List (Str × D)} (hc : X.calm = true) (I : ExI X.prog X.w X.K X.mg X.base k x (ca x) n fs) (hf : FldsD fs gf) (hr : Room (k + 1) X.A) (ha : EA X ca B (e :: es) ds (tds xs) ds1) (hl : xs.length = n) (hn : n ≤ 20 := by decide) (hg : Gl X x := by rfl)
    (hgs : gf xs = gs := by rfl) (hdb : (x == ("__debug__" : Str)) = false := by decide) (he : starEach (e :: es) X.env = (false, eval e X.env) :: starEach es X.env := by rfl) (hpl : (backTo pos (starEach es X.env)).any (·.1) = false := by rfl) :
    B1 X ca B (.Raise (some (.Call (.Name x p) (e :: es) [] pos)) none p2) ds (.ex x gs ds1) := fun ts σ H D W pl tk h0 q => by
  obtain ⟨fI, fd, ps, iC, tI, F1, hb⟩ := I.ini
  refine ws_of (ps_raise hc tk (pmk_oex (dvs := []) I.oex iC tI F1 hr hb .nil (passes_call (W := fun _ _ _ _ => False) takes_none5 fun _ _ _ _ z => z) hg I.glo pa_wa hdb he hpl)) (ha ts σ H _ h0 fun vs H1 hl1 h1 => ?_)
  have hlv : vs.length = xs.length := by rw [hl1]; simp [tds]
  refine ⟨by rw [hlv]; omega, fun a hna => ⟨a, vs, by rw [List.append_nil], by rw [hlv]; exact hl, upd_same, fun d H' hd hda h2 h3 h4 => ⟨rfl, d, fs vs, h2, h3, ?_, ?_⟩⟩⟩
  · rw [upd_ne hda] at hd
    exact hd
  · rw [upd_ne hda] at hd
    rw [upd_upd_del hna h4 hda]
    obtain ⟨F, Hu, ow, rfl, C⟩ := h1
    have t := C.tm
    rw [tds_tvs] at t
    obtain ⟨r, t2⟩ := tms_pushAll (by rw [List.length_map]; exact hlv.symm) t
    have rr := reps_of_ownsL r
    have hu := lock_isNone hd
    have C1 := (C.tms ts t2).newF (o := .xd (fs vs)) hu
    refine q d σ _ ⟨_, _, _, lock_upd (C.nolk0 hd), C1, fs vs, upd_same, ?_⟩
    rw [← hgs]
    exact hf _ _ _ _ _ (rr.mono (Ex.new (C.free hu)))
end
end DL
/-! DL11: instances made by their own __init__, fields set. -/
namespace DL
open PySem PySem.Spec PyProof.Rows L2

abbrev OD.i (c : Str) (gs : List (Str × D)) : OD := .ins c (gs.map fun kv => (kv.1, .dat kv.2))
def putFD (f : Str) (d : D) : List (Str × D) → List (Str × D)
  | [] => [(f, d)]
  | (g, x) :: r => if g = f then (g, d) :: r else (g, x) :: putFD f d r
section
variable {K : PySem.W.Frag} {ca : CA} {B : Base} {ds : List Sl} {ts : List (V × Tm)} {σ : L2.St} {H F Hu : Hp} {ow : Addr → Option Own} {v : V} {o : Tm} {xs : List D} {d : D}
theorem ownsF_of_reps : ∀ {kvs : List (Str × D)} {ps : List (Str × V)} {P : FP}, RepF K ca F kvs ps → OwnsF K ca F Hu (kvs.map fun kv => (kv.1, .dat kv.2)) ps P
  | _, _, P, .nil => by
    show OwnsF K ca F Hu [] [] P
    rw [OwnsF]
  | _, _, P, .cons (k := k) (d := d) (ds := ds) h r => by
    show OwnsF K ca F Hu ((k, .dat d) :: ds.map fun kv => (kv.1, .dat kv.2)) _ P
    rw [OwnsF]
    refine ⟨_, _, fun _ => False, fun a => P a, rfl, fun a z => z.elim, fun a z => z, fun a z _ => z, ?_, ownsF_of_reps r⟩
    rw [OwnsP]
    exact h
theorem reps_of_ownsF : ∀ {kvs : List (Str × D)} {ps : List (Str × V)} {P : FP}, OwnsF K ca F Hu (kvs.map fun kv => (kv.1, .dat kv.2)) ps P → RepF K ca F kvs ps
  | [], vs, P, h => by
    have h' : OwnsF K ca F Hu [] vs P := h
    rw [OwnsF] at h'
    subst h'
    exact .nil
  | (k, x) :: xs, vs, P, h => by
    have h' : OwnsF K ca F Hu ((k, .dat x) :: xs.map fun kv => (kv.1, .dat kv.2)) vs P := h
    rw [OwnsF] at h'
    obtain ⟨v, r, P1, P2, rfl, _, _, _, h1, h2⟩ := h'
    rw [OwnsP] at h1
    exact .cons h1 (reps_of_ownsF h2)
theorem frzF_dat : ∀ kvs : List (Str × D), frzF (kvs.map fun kv => (kv.1, .dat kv.2)) = kvs
  | [] => rfl
  | (k, x) :: xs => by
    show (k, x) :: frzF (xs.map fun kv => (kv.1, .dat kv.2)) = (k, x) :: xs
    rw [frzF_dat xs]
theorem frz_i (c : Str) (gs : List (Str × D)) : (OD.i c gs).frz = .ins c gs := by
  show D.ins c (frzF _) = _
  rw [frzF_dat]
theorem RepF.put : ∀ {gs : List (Str × D)} {fs : List (Str × V)} {f : Str}, RepF K ca F gs fs → Rep K ca F d v → RepF K ca F (putFD f d gs) (putF f v fs)
  | _, _, f, .nil, h => .cons h .nil
  | _, _, f, .cons (k := k) (d := d') (v := v') (vs := vs) h' r, h => by
    unfold putFD L2.putF
    by_cases c : k = f
    · rw [if_pos c, if_pos c]
      exact .cons h r
    · rw [if_neg c, if_neg c]
      exact .cons h' (r.put h)
theorem RepF.len : ∀ {gs : List (Str × D)} {fs : List (Str × V)}, RepF K ca F gs fs → gs.length = fs.length
  | _, _, .nil => rfl
  | _, _, .cons _ r => congrArg Nat.succ r.len
/-- the thing on its way gets a slot of its own -/
theorem Core.ext {od : OD} (C : Core K ca B ds ((v, .v od) :: ts) σ F Hu ow) : ∃ ow', Core K ca B (ds ++ [.v od]) ts (σ ++ [some v]) F Hu ow' := by
  have t := C.tm
  have t1 : OwnsP K ca F Hu od v (fun a => ow a = some (.inr ts.length)) := t.1
  have t2 : TmsR K ca F Hu ow σ ts := t.2
  let ow2 : Addr → Option Own := fun a => if ow a = some (.inl ds.length) then none else if ow a = some (.inr ts.length) then some (.inl ds.length) else ow a
  have o1 : ∀ {a : Addr}, ow a = some (.inr ts.length) → ow2 a = some (.inl ds.length) := fun {a} q => by
    show (if ow a = some (Sum.inl ds.length) then none else if ow a = some (Sum.inr ts.length) then some (Sum.inl ds.length) else ow a) = _
    rw [if_neg (by rw [q]; intro z; cases z), if_pos q]
  have o2 : ∀ {a : Addr} {x : Own}, x ≠ .inl ds.length → x ≠ .inr ts.length → ow a = some x → ow2 a = some x := fun {a x} h1 h2 q => by
    show (if ow a = some (Sum.inl ds.length) then none else if ow a = some (Sum.inr ts.length) then some (Sum.inl ds.length) else ow a) = _
    rw [if_neg (by rw [q]; intro z; cases z; exact h1 rfl), if_neg (by rw [q]; intro z; cases z; exact h2 rfl)]
    exact q
  have o3 : ∀ {a : Addr} {x : Own}, ow2 a = some x → (x = .inl ds.length ∧ ow a = some (.inr ts.length)) ∨ (x ≠ .inl ds.length ∧ ow a = some x) := fun {a x} e => by
    have e' : (if ow a = some (Sum.inl ds.length) then none else if ow a = some (Sum.inr ts.length) then some (Sum.inl ds.length) else ow a) = some x := e
    by_cases q1 : ow a = some (Sum.inl ds.length)
    · rw [if_pos q1] at e'
      cases e'
    · rw [if_neg q1] at e'
      by_cases q2 : ow a = some (Sum.inr ts.length)
      · rw [if_pos q2] at e'
        cases e'
        exact .inl ⟨rfl, q2⟩
      · rw [if_neg q2] at e'
        exact .inr ⟨fun z => q1 (by rw [e', z]), e'⟩
  refine ⟨ow2, C.f0, C.fh, C.lks, C.fresh, C.keep, C.stay, fun a x e => ?_, fun a j e => ?_, fun a k e => ?_, fun j hj => ?_, by simp [C.len], fun j od' hj => ?_, ?_⟩
  · rcases o3 e with ⟨_, q⟩ | ⟨_, q⟩
    · exact C.own a _ q
    · exact C.own a _ q
  · rcases o3 e with ⟨_, q⟩ | ⟨_, q⟩
    · exact .inl (C.ownT a _ q)
    · exact C.ownS a _ q
  · rcases o3 e with ⟨z, _⟩ | ⟨_, q⟩
    · cases z
    · exact C.ownT a _ q
  · obtain ⟨u, h1, h2⟩ := C.prs j hj
    exact ⟨u, h1, by rw [List.getElem?_append_left (List.getElem?_eq_some_iff.mp h2).1]; exact h2⟩
  · by_cases hl : j < ds.length
    · rw [List.getElem?_append_left hl] at hj
      obtain ⟨u, hv, x⟩ := C.sl j od' hj
      exact ⟨u, by rw [List.getElem?_append_left (by rw [C.len]; exact hl)]; exact hv, owns_imp (Ex.refl _) (fun a o pa ha => ⟨ha, o2 (fun z => by cases z; exact Nat.lt_irrefl _ hl) (fun z => by cases z) pa⟩) x⟩
    · rw [List.getElem?_append_right (by omega)] at hj
      by_cases e : j = ds.length
      · subst e
        simp at hj
        subst hj
        exact ⟨v, by rw [← C.len]; simp, owns_imp (Ex.refl _) (fun a o pa ha => ⟨ha, o1 pa⟩) t1⟩
      · rw [List.getElem?_eq_none (by simp; omega)] at hj
        cases hj
  · have go : ∀ {ts : List (V × Tm)}, TmsR K ca F Hu ow2 σ ts → TmsR K ca F Hu ow2 (σ ++ [some v]) ts := fun {ts} => by
      induction ts with
      | nil => exact fun _ => True.intro
      | cons t ts ih =>
        intro h
        obtain ⟨u, (od | i)⟩ := t
        · exact ⟨h.1, ih h.2⟩
        · have h1 : σ[i]? = some (some u) := h.1
          exact ⟨by rw [List.getElem?_append_left (List.getElem?_eq_some_iff.mp h1).1]; exact h1, ih h.2⟩
    exact go (tms_imp (Ex.refl _) (fun a o k hk pa ha => ⟨ha, o2 (fun z => by cases z) (fun z => by cases z; exact Nat.lt_irrefl _ hk) pa⟩) t2)
/-- .. and back -/
theorem Core.unext {od : OD} (C : Core K ca B (ds ++ [.v od]) ts (σ ++ [some v]) F Hu ow) (hp : B.pr ds.length = false) (ha : tAls σ ts) : ∃ ow', Core K ca B ds ((v, .v od) :: ts) σ F Hu ow' := by
  have hlen : σ.length = ds.length := by
    have := C.len
    simpa using this
  let ow2 : Addr → Option Own := fun a => if ow a = some (.inl ds.length) then some (.inr ts.length) else match ow a with
    | some (.inr k) => if k < ts.length then some (.inr k) else none
    | x => x
  have o3 : ∀ {a : Addr} {x : Own}, ow2 a = some x → (x = .inr ts.length ∧ ow a = some (.inl ds.length)) ∨ (x ≠ .inl ds.length ∧ ow a = some x) := fun {a x} e => by
    have e' : (if ow a = some (.inl ds.length) then some (.inr ts.length) else match ow a with
    | some (.inr k) => if k < ts.length then some (.inr k) else none
    | x => x) = some x := e
    by_cases q1 : ow a = some (Sum.inl ds.length)
    · rw [if_pos q1] at e'
      cases e'
      exact .inl ⟨rfl, q1⟩
    · rw [if_neg q1] at e'
      cases q : ow a with
      | none => rw [q] at e'; cases e'
      | some y =>
        rw [q] at e'
        cases y with
        | inl j =>
          cases e'
          exact .inr ⟨fun z => q1 (by rw [q, z]), rfl⟩
        | inr k =>
          by_cases hk : k < ts.length
          · simp only [if_pos hk] at e'
            cases e'
            exact .inr ⟨(fun z => by cases z), rfl⟩
          · simp only [if_neg hk] at e'
            cases e'
  have o1 : ∀ {a : Addr}, ow a = some (.inl ds.length) → ow2 a = some (.inr ts.length) := fun {a} q => if_pos q
  have o2 : ∀ {a : Addr} {x : Own}, x ≠ .inl ds.length → (∀ k, x = .inr k → k < ts.length) → ow a = some x → ow2 a = some x := fun {a x} h1 h2 q => by
    show (if ow a = some (.inl ds.length) then some (.inr ts.length) else match ow a with
    | some (.inr k) => if k < ts.length then some (.inr k) else none
    | x => x) = some x
    rw [if_neg (by rw [q]; intro z; cases z; exact h1 rfl), q]
    cases x with
    | inl j => rfl
    | inr k => simp only [if_pos (h2 k rfl)]
  refine ⟨ow2, C.f0, C.fh, C.lks, C.fresh, C.keep, C.stay, fun a x e => ?_, fun a j e => ?_, fun a k e => ?_, fun j hj => ?_, hlen, fun j od' hj => ?_, ?_, ?_⟩
  · rcases o3 e with ⟨_, q⟩ | ⟨_, q⟩
    · exact C.own a _ q
    · exact C.own a _ q
  · rcases o3 e with ⟨z, _⟩ | ⟨_, q⟩
    · cases z
    · exact C.ownS a _ q
  · rcases o3 e with ⟨_, q⟩ | ⟨_, q⟩
    · exact (C.ownS a _ q).elim id fun z => by rw [hp] at z; exact absurd z.2 (by decide)
    · exact C.ownT a _ q
  · obtain ⟨u, h1, h2⟩ := C.prs j hj
    have hl : j < σ.length := by
      have h3 := (List.getElem?_eq_some_iff.mp h2).1
      simp at h3
      by_cases e : j = ds.length
      · rw [e, hp] at hj
        cases hj
      · omega
    rw [List.getElem?_append_left hl] at h2
    exact ⟨u, h1, h2⟩
  · have hl : j < ds.length := (List.getElem?_eq_some_iff.mp hj).1
    obtain ⟨u, hv, x⟩ := C.sl j od' (by rw [List.getElem?_append_left hl]; exact hj)
    rw [List.getElem?_append_left (by omega)] at hv
    exact ⟨u, hv, owns_imp (Ex.refl _) (fun a o pa ha => ⟨ha, o2 (fun z => by cases z; exact Nat.lt_irrefl _ hl) (fun k z => by cases z) pa⟩) x⟩
  · obtain ⟨u, hv, x⟩ := C.sl ds.length od (by simp)
    have e : u = v := by
      rw [← hlen] at hv
      simpa using hv.symm
    subst e
    exact owns_imp (Ex.refl _) (fun a o pa ha => ⟨ha, o1 pa⟩) x
  · have go : ∀ {us : List (V × Tm)}, tAls σ us → TmsR K ca F Hu ow2 (σ ++ [some v]) us → TmsR K ca F Hu ow2 σ us := fun {us} => by
      induction us with
      | nil => exact fun _ _ => True.intro
      | cons t us ih =>
        intro hal h
        obtain ⟨u, (od | i)⟩ := t
        · exact ⟨h.1, ih (fun v i hm => hal v i (List.mem_cons_of_mem _ hm)) h.2⟩
        · exact ⟨hal u i (List.mem_cons_self ..), ih (fun v i hm => hal v i (List.mem_cons_of_mem _ hm)) h.2⟩
    exact go ha (tms_imp (Ex.refl _) (fun a o k hk pa ha => ⟨ha, o2 (fun z => by cases z) (fun j z => by cases z; exact hk) pa⟩) C.tm)
theorem Core.newI {c : Str} {p dx : Addr} (C : Core K ca B ds ts σ F Hu ow) (hp : lock B.lk Hu p = none) (hd : lock B.lk Hu dx = none) (ne : dx ≠ p) : ∃ ow', upd (upd (lock B.lk Hu) dx (.own p)) p (.ins (ca c) dx []) = lock B.lk (upd (upd Hu dx (.own p)) p (.ins (ca c) dx [])) ∧
    Core K ca B ds ((.ref p, .v (.ins c [])) :: ts) σ F (upd (upd Hu dx (.own p)) p (.ins (ca c) dx [])) ow' := by
  have hu := lock_isNone hp
  have hud := lock_isNone hd
  have C1 := C.newO (o := .own p) (k := ts.length) hud
  have hu1 : upd Hu dx (.own p) p = none := by rw [upd_ne ne.symm]; exact hu
  have C2 := C1.newO (o := .ins (ca c) dx []) (k := ts.length) hu1
  refine ⟨_, by rw [lock_upd (C.nolk0 hd), lock_upd (C.nolk0 hp)], C2.tms _ ⟨?_, C2.tm⟩⟩
  rw [OwnsP]
  exact ⟨p, dx, [], rfl, if_pos rfl, by show (if dx = p then _ else if dx = dx then _ else _) = _; rw [if_neg ne, if_pos rfl], ne, upd_same, by rw [upd_ne ne, upd_same], by rw [OwnsF]⟩
theorem Core.pushD {vs : List V} (C : Core K ca B ds ts σ F Hu ow) (r : Reps K ca F xs vs) : Core K ca B ds (pushAll vs (tds xs) ts) σ F Hu ow := by
  induction xs generalizing vs ts with
  | nil =>
    cases r
    exact C
  | cons d xs ih =>
    cases r with
    | cons h r => exact ih (C.push h) r
theorem args_dat {j : Nat} : ∀ xs : List D, Args ds j none (tds xs) (xs.map .dat)
  | [] => .nil
  | _ :: xs => .dat (args_dat xs)
theorem Args.more {j : Nat} {s : List Sl} : ∀ {al : Option Nat} {os : List Tm} {ods : List OD}, Args ds j al os ods → (∀ od, ds[j]? = some (.v od) → s[j]? = some (.v od)) → Args s j al os ods
  | _, _, _, .nil, _ => .nil
  | _, _, _, .dat h, g => .dat (h.more g)
  | _, _, _, .own hj h, g => .own (g _ hj) (h.more g)
/-- an instance in slot i -/
theorem holds.alI {i : Nat} {c : Str} {gs : List (Str × D)} (h : holds K ca B ds ts σ H) (hi : ds[i]? = some (.v (OD.i c gs))) (hv : σ[i]? = some (some v)) : ∃ p dx fs F Hu ow, v = .ref p ∧ H = lock B.lk Hu ∧ Core K ca B ds ts σ F Hu ow ∧ ow p = some (.inl i) ∧ ow dx = some (.inl i) ∧ dx ≠ p ∧ Hu dx = some (.own p) ∧ Hu p = some (.ins (ca c) dx fs) ∧ H p = some (.ins (ca c) dx fs) ∧ RepF K ca F gs fs := by
  obtain ⟨F, Hu, ow, rfl, C⟩ := h
  obtain ⟨w, h1, h2⟩ := C.sl i _ hi
  rw [hv] at h1
  cases h1
  rw [OwnsP] at h2
  obtain ⟨p, dx, fs, rfl, hp, hd, ne, hH, hD, hx⟩ := h2
  exact ⟨p, dx, fs, F, Hu, ow, rfl, rfl, C, hp, hd, ne, hD, hH, by rw [lock_none (C.nolk hp)]; exact hH, reps_of_ownsF hx⟩
end

section
variable {X : Cx} {ca : CA} {B : Base} {ds ds1 ds2 : List Sl} {e : Expr} {es : List Expr} {pos p p2 : Pos} {d : D} {f x c : Str} {gs : List (Str × D)} {xs : List D}
/-- self.f = a datum -/
theorem b1_fld (i : Nat) (he : EV X ca B e ds (.d d) ds1) (T : Cls X.K (ca c)) (hn : NoAttr X.K (ca c) f) (hz : gs.length < 1000 := by simp) (h1 : ds1[i]? = some (.v (OD.i c gs)) := by rfl) (hs : ds1.set i (.v (OD.i c (putFD f d gs))) = ds2 := by rfl) 
    (hN : X.N[i]? = some x := by rfl) (hv : Vis X.env.scope x := by first | exact Or.inl rfl | exact Or.inr (Or.inl rfl) | exact Or.inr (Or.inr rfl)) (hd : (x == ("__debug__" : Str)) = false := by decide)
    (hcd : (x == ("__classdict__" : Str)) = false := by decide) (hsw : swapsWith e (some (.Attribute (.Name x p) f p2)) pos.line X.env = pure false := by rfl) : B1 X ca B (.Assign [.Attribute (.Name x p) f p2] e pos) ds (.nx ds2) := fun ts σ H D W pl tk h0 q =>
  ws_of (ps_fld pe_we pe_we hsw) (he ts σ H _ h0 fun v H1 g1 => ev_al i h1 hN hv hd hcd _ σ H1 _ g1 fun w H2 g2 => by
    obtain ⟨a, dx, fs, F, Hu, ow, rfl, rfl, C, hp, hdx, ne, hD, hu, hH, r⟩ := g2.alI h1 g2.alV
    have t := C.rest.tm
    have t1 : OwnsP X.K ca F Hu (.dat d) v _ := t.1
    rw [OwnsP] at t1
    refine ⟨a, _, dx, fs, rfl, hH, T, hn, by rw [← r.len]; exact hz, ?_⟩
    refine q σ _ ?_
    rw [← hs]
    refine ⟨F, _, ow, lock_upd (C.nolk hp), C.rest.rest.mut hp (List.getElem?_eq_some_iff.mp h1).1 ⟨_, hu⟩ g2.alV ?_⟩
    rw [OwnsP]
    exact ⟨a, dx, _, rfl, hp, hdx, ne, upd_same, by rw [upd_ne ne]; exact hD, ownsF_of_reps (r.put t1)⟩)
/-- C(e, ..): a new instance -/
theorem ev_make {k n : Nat} {fI : Addr} {fd : FuncData} {ps : List Str} {R : List OD → Res → Prop} {od' : OD} (M : Mk X.K (ca c) fI) (G : FnOk X.prog X.w X.K X.mg X.base (CX X.prog X.w) k fI fd ps (spD X.K ca n (some 0) R)) (hr : Room (k + 1) X.A) (hm : X.mg x = some (.ref (ca c))) (hb : Binds X.K fd ps [])
    (ha : EA X ca B (e :: es) ds (tds xs) ds1) (hR : R (.ins c [] :: xs.map .dat) (.ok (.dat .non) od')) (hn : xs.length + 1 = n := by rfl) (hg : Gl X x := by rfl) (hdb : (x == ("__debug__" : Str)) = false := by decide)
    (he : starEach (e :: es) X.env = (false, eval e X.env) :: starEach es X.env := by rfl) (hpl : (backTo pos (starEach es X.env)).any (·.1) = false := by rfl) : EV X ca B (.Call (.Name x p) (e :: es) [] pos) ds (.v od') ds1 := fun ts σ H Q h0 q =>
  we_of (pe_make (E := fun _ _ _ => False) M G hr hg hm hb .nil (passes_call (W := fun _ _ _ _ => False) takes_none5 fun _ _ _ _ z => z) pa_wa hdb he hpl) (ha ts σ H _ h0 fun vs H1 hl h1 => fun a dx hna hnd ne => by
    have hlv : vs.length = xs.length := by rw [hl]; simp [tds]
    obtain ⟨F, Hu, ow, rfl, C⟩ := h1
    have t := C.tm
    rw [tds_tvs] at t
    obtain ⟨r, t2⟩ := tms_pushAll (by rw [List.length_map]; exact hlv.symm) t
    have rr := reps_of_ownsL r
    have als := tms_als t2
    have hpr : B.pr ds1.length = false := by
      cases hb : B.pr ds1.length with
      | false => rfl
      | true =>
        obtain ⟨v, _, h2⟩ := C.prs _ hb
        have := (List.getElem?_eq_some_iff.mp h2).1
        rw [C.len] at this
        exact absurd this (Nat.lt_irrefl _)
    obtain ⟨ow1, e1, C1⟩ := (C.tms ts t2).newI (c := c) hna hnd ne
    rw [e1]
    obtain ⟨ow2, C2⟩ := C1.ext
    have hlen : ds1.length = σ.length := C1.len.symm
    have C3 : Core X.K ca B (ds1 ++ [.v (.ins c [])]) (pushAll (.ref a :: vs) (.al ds1.length :: tds xs) ts) (σ ++ [some (.ref a)]) F _ ow2 := (C2.tms ((.ref a, .al ds1.length) :: ts) ⟨by rw [hlen]; simp, C2.tm⟩).pushD rr
    have ar : Args (ds1 ++ [.v (.ins c [])]) ds1.length (some 0) (.al ds1.length :: tds xs) (.ins c [] :: xs.map .dat) := .own (by simp) (args_dat xs)
    have hl3 : (V.ref a :: vs).length = (Tm.al ds1.length :: tds xs).length := by simp [tds, hlv]
    rw [List.append_nil]
    refine ⟨callB B F _ ow2 (some 0) ds1.length (.ref a :: vs), _, .ok (.dat .non) od', hR, by rw [ar.len]; simp [tds, ← hn], rfl, C3.start ar hl3, fun v dsc σc H' hc hd => ?_⟩
    obtain ⟨F', Hu', ow', rfl, C'⟩ := hc
    obtain ⟨ow3, C4, hw⟩ := C3.back ar hl3 C' hd
    have t' := C'.tm
    have t1' : OwnsP X.K ca F' Hu' (.dat .non) v _ := t'.1
    rw [OwnsP] at t1'
    cases t1'
    have e5 : setAl (some 0) ds1.length od' (ds1 ++ [.v (.ins c [])]) = ds1 ++ [.v od'] := by simp [setAl]
    rw [e5] at C4
    obtain ⟨ow5, C5⟩ := C4.unext hpr als
    exact ⟨rfl, q _ _ C5.h⟩)
end
end DL
/-! DLG: defs that run where no repr is on its way (guards = some []), repr of nested data. -/
namespace DL
open PySem PySem.Spec PyProof.Rows L2

/-- a def's promise where no guard is on its way -/
structure FnG (P : Program) (w : World) (K : PySem.W.Frag) (mg : Str → Option Value) (base : Heap) (CX : CXT) (k : Nat) (f : Addr) (fd : FuncData) (ps : List Str) (sp : Sp) : Prop where
  len : ∀ vs H Q E, sp vs H Q E → vs.length = ps.length
  run : ∀ (A : Around) (outer : List Env) (s : Shared) (H : Hp) (args : PySem.Args) (us : List Value) (vs : List V) (Q : VK) (E : XK), A.guards = some [] → Room k A → Env0 P w K mg base A outer s H → BindsTo s fd args (ps.zip us) → Vals vs us → sp vs H Q E →
    codeAny (model P w) A (.call (.ref f) args) (CR CX outer P w H s Q E) s
section
variable {P : Program} {w : World} {K : PySem.W.Frag} {mg : Str → Option Value} {base : Heap}
theorem fnG_of {CX : CXT} {k : Nat} {f : Addr} {name qual : Str} {params : Arguments} {body : List Stmt} {scope : Scope} {dV kV doc pm cdv ct oc : Value} {an od : Option Addr}
    {osl : Array (Option Value)} {N ps : List Str} {sp : Sp} (lk : K.lookup f = some ⟨oc, od, .func (PySem.W.fnOf name qual params body scope dV kV doc pm an cdv ct), osl⟩) (hcd : PySem.W.codeIn K cdv qual = true) (S : FnScope N ps scope)
    (len : ∀ vs H Q E, sp vs H Q E → vs.length = ps.length)
    (hbody : ∀ (A : Around) (outer : List Env) (s : Shared) (H : Hp) (vs : List V) (Q : VK) (E : XK), A.guards = some [] → Room k (A.deeper (envOfC qual scope s.heap.objs.size f cdv)) → sp vs H Q E →
      ∃ t, PSs (cxOf CX P w K mg base N qual scope f cdv A outer s H E) body t ∧ t { nx := fun _ H' => Q .non H', rt := Q } (start N vs) H) :
    FnG P w K mg base CX (k + 1) f (PySem.W.fnOf name qual params body scope dV kV doc pm an cdv ct) ps sp := by
  refine ⟨len, fun A outer s H args us vs Q E hgd hr e0 hb r hsp => ?_⟩
  have hl := len _ _ _ _ hsp
  have KX : K.In s.heap := e0.mod.kin.keeps fun b o e => (e0.bs b o e).1
  have lim : s.heap.NoLimit := e0.mod.nolimit.keeps fun b o e => (e0.bs b o e).1
  have hkind : ∀ y ∈ ps.zip us, scope.names.lookup y.1 = some .local ∨ (scope.names.lookup y.1 = some .cell ∧ ((cellsFrom (s.heap.objs.size + 1) scope.names []).lookup y.1).isSome = true) := fun ⟨n, v⟩ hy => by
    rcases S.par n (List.of_mem_zip hy).1 with q | q
    · exact .inl q
    · exact .inr ⟨q, PySem.W.cellsFrom_some _ _ _ (.inl q)⟩
  refine codeAny_call_function hr.depth (KX _ _ lk) rfl S.co S.gen rfl (PySem.W.codeRec_of KX hcd) (hb _ _ _ _ ?_)
  refine wpAny_newFunctionEnv_cells S.kind hkind fun env he s1 x => ?_
  subst he
  refine ⟨lim.keeps x.toInCall.keep, codeAny_func ?_⟩
  obtain ⟨t, ht, hq⟩ := hbody A outer s H vs Q E hgd (hr.deeper _) hsp
  have I : Inv (cxOf CX P w K mg base N qual scope f cdv A outer s H E) [] (start N vs) H s1 := inv_start S hr.hd e0 hl r x
  refine wpAny_mono (ht.run [] s1 (start N vs) H _ I hq) (fun fl s' hs => ?_) fun e s' hs => hs
  have fin : ∀ {σ' : L2.St} {H' : Hp} {v : V} {u : Value}, Inv (cxOf CX P w K mg base N qual scope f cdv A outer s H E) [] σ' H' s' → RelV v u → Q v H' → CE outer P w H s Q u s' :=
    fun {σ' H' v u} J rv q => ⟨v, H', J.os, J.bare, J.base, J.hok, rv, q⟩
  cases fl with
  | ret u =>
    obtain ⟨v, σ', H', J, rv, q⟩ := hs
    exact fin J rv q
  | next =>
    obtain ⟨σ', H', J, q⟩ := hs
    exact fin (v := V.non) (u := Value.none) J rfl q
  | brk =>
    obtain ⟨_, _, _, q⟩ := hs
    exact False.elim q
  | cont =>
    obtain ⟨_, _, _, q⟩ := hs
    exact False.elim q
/-- THE RULE of such a def, by its blocks -/
theorem okG {x qual : Str} {params : Arguments} {body : List Stmt} {scope : Scope} {dvs : List V} {kws : List (Str × V)} {f : Addr} {fd : FuncData} {ca : CA} {N ps : List Str} {k : Nat} {al : Option Nat} {R : List OD → Res → Prop}
    (F : FunD K x qual params body scope dvs kws f fd) (S : FnScope N ps scope)
    (hb : ∀ (X : Cx) (B : Base) (ods : List OD) (res : Res), (∃ (cdv : Value) (A : Around) (outer : List Env) (s : Shared) (H : Hp) (E : XK), X = cxOf (CX P w) P w K mg base N qual scope f cdv A outer s H E) → X.A.guards = some [] → Room k X.A → B.pr = prOf al → R ods res → ods.length = ps.length →
      BP X ca B [body] (ods.map .v ++ List.replicate (N.length - ps.length) .no) (Ends al res)) : FnG P w K mg base (CX P w) (k + 1) f fd ps (spD K ca ps.length al R) := by
  obtain ⟨oc, od, dV, kV, doc, pm, an, cdv, ct, osl, rfl, lk, hcd, _, _⟩ := F.ex
  refine fnG_of lk hcd S (fun vs H Q E h => ?_) fun A outer s H vs Q E hgd hr h => ?_
  · obtain ⟨B, ods, res, _, hn, _, hs, _⟩ := h
    rw [hs.len, hn]
  · obtain ⟨B, ods, res, hR, hn, hpr, hs, hq⟩ := h
    have hlen := hs.len
    obtain ⟨ow, rfl, C, hv⟩ := hs
    have h0 : holds K ca B (ods.map .v ++ List.replicate (N.length - ps.length) .no) [] (L2.start N vs) (lock B.lk B.H0) := by
      refine ⟨B.F0, B.H0, ow, rfl, ?_⟩
      unfold L2.start
      rw [hlen, hn]
      exact C.more _
    obtain ⟨out, h1, h2⟩ := (hb _ B ods res ⟨cdv, A, outer, s, lock B.lk B.H0, E, rfl⟩ hgd hr hpr hR hn).one
    have pl : plain [] := fun v i hm => by cases hm
    refine ⟨_, pss_wb, ?_⟩
    cases res with
    | ok r od =>
      cases out with
      | rt o ds =>
        obtain ⟨rfl, hd⟩ : r = o ∧ ∀ i, al = some i → ds[i]? = some (.v od) := h2
        exact h1 [] _ _ _ (fun _ _ _ _ => False) pl takes_none5 h0 fun v σ H' h' => hq v ds σ H' h' hd
      | nx ds =>
        obtain ⟨rfl, hd⟩ : r = .dat .non ∧ ∀ i, al = some i → ds[i]? = some (.v od) := h2
        exact h1 [] _ _ _ (fun _ _ _ _ => False) pl takes_none5 h0 fun σ H' h' => hq .non ds σ H' (h'.val fun F => .non) hd
      | bk ds => exact False.elim h2
      | ct ds => exact False.elim h2
      | ex c f ds => exact False.elim h2
    | ex c fs od =>
      cases out with
      | ex c' fs' ds =>
        obtain ⟨rfl, rfl, hd⟩ : c = c' ∧ fs = fs' ∧ ∀ i, al = some i → ds[i]? = some (.v od) := h2
        exact h1 [] _ _ _ (fun cls d _ H => E cls d H) pl (takes_of rfl rfl rfl rfl) h0 fun d σ H' h' => hq d ds σ H' h' hd
      | rt o ds => exact False.elim h2
      | nx ds => exact False.elim h2
      | bk ds => exact False.elim h2
      | ct ds => exact False.elim h2
end
section
variable {X : Cx} {CX : CXT} {k : Nat} {f C : Addr} {fd : FuncData} {ps : List Str} {sp : Sp} {dvs : List V} {us0 : List Value} {E : XK} {x m : Str} {p pos apos : Pos} {e o : Expr} {es : List Expr} {ta : TE} {t : TA}
theorem run_fnG {pins : List (Addr × Obj)} {σ : L2.St} {H : Hp} {s : Shared} {Q : VK} {us : List Value} {vs : List V} (F : FnG X.prog X.w X.K X.mg X.base CX k f fd ps sp) (hgd : X.A.guards = some []) (hr : Room k X.A) (hb : Binds X.K fd ps us0) (hd : Vals dvs us0) (hx : Passes CX X E)
    (I : Inv X pins σ H s) (r : Vals vs us) (h : sp (vs ++ dvs) H Q E) : wpAny (model X.prog X.w) X.A (call (.ref f) us) (EP X pins σ Q) X.xe s := by
  have r2 : Vals (vs ++ dvs) (us ++ us0) := r.append hd
  have hl : (us ++ us0).length = ps.length := by rw [← r2.length]; exact F.len _ _ _ _ h
  refine wpAny_call (codeAny_mono (F.run X.A X.stack s H ⟨us, []⟩ (us ++ us0) (vs ++ dvs) Q E hgd hr I.env0 (hb s us I.kIn hl) r2 h) fun r s' hq => ?_)
  cases r with
  | error e => exact hx pins σ H s e s' I hq
  | ok fl =>
    cases fl with
    | ret u => exact I.after hq
    | next => exact False.elim hq
    | brk => exact False.elim hq
    | cont => exact False.elim hq
theorem pe_callGd (F : FnG X.prog X.w X.K X.mg X.base CX k f fd ps sp) (hgd : X.A.guards = some []) (hr : Room k X.A) (hg : Gl X x) (hm : X.mg x = some (.ref f)) (hk : PySem.W.keepIn X.K (.ref f) = true) (hb : Binds X.K fd ps us0) (hd : Vals dvs us0) (hx : Passes CX X E)
    (ha : PA X (e :: es) t) (hdb : (x == ("__debug__" : Str)) = false := by decide) (he : starEach (e :: es) X.env = (false, eval e X.env) :: starEach es X.env := by rfl) (hpl : (backTo pos (starEach es X.env)).any (·.1) = false := by rfl) :
    PE X (.Call (.Name x p) (e :: es) [] pos) (tCall sp dvs E t) := by
  refine ⟨fun pins s σ H Q I h => ?_⟩
  refine wpAny_Call_Name_kw (ld_glob I hg hm ?_ hdb)
  refine PySem.W.callWith_K (h₀ := X.base) I.ok.mod.kin hk (thn (ha.run pos pins s σ H _ I h) fun us s1 ⟨vs, H1, I1, r, q⟩ => ⟨I1.kIn, ?_⟩) he hpl
  exact run_fnG F hgd hr hb hd hx I1 r q
end
section
variable {X : Cx} {ca : CA} {B : Base} {ds ds1 ds2 : List Sl} {os : List Tm} {ods : List OD} {e : Expr} {es : List Expr} {pos p : Pos} {x : Str} {k : Nat} {f : Addr} {fd : FuncData} {ps : List Str} {al : Option Nat} {j n : Nat} {R : List OD → Res → Prop}
/-- f(e, ..) hands back r -/
theorem ev_callG {r od' : OD} (G : FnG X.prog X.w X.K X.mg X.base (CX X.prog X.w) k f fd ps (spD X.K ca n al R)) (hgd : X.A.guards = some []) (hr : Room k X.A) (hm : X.mg x = some (.ref f)) (hk : PySem.W.keepIn X.K (.ref f) = true) (hb : Binds X.K fd ps [])
    (ha : EA X ca B (e :: es) ds os ds1) (ar : Args ds1 j al os ods) (hR : R ods (.ok r od')) (hn : os.length = n := by rfl) (hs : setAl al j od' ds1 = ds2 := by rfl) (hg : Gl X x := by rfl) (hdb : (x == ("__debug__" : Str)) = false := by decide)
    (he : starEach (e :: es) X.env = (false, eval e X.env) :: starEach es X.env := by rfl) (hpl : (backTo pos (starEach es X.env)).any (·.1) = false := by rfl) : EV X ca B (.Call (.Name x p) (e :: es) [] pos) ds (.v r) ds2 := fun ts σ H Q h0 q =>
  we_of (pe_callGd (E := fun _ _ _ => False) G hgd hr hg hm hk hb .nil (passes_call (W := fun _ _ _ _ => False) takes_none5 fun _ _ _ _ z => z) pa_wa hdb he hpl) (ha ts σ H _ h0 fun vs H1 hl h1 => by
    obtain ⟨F, Hu, ow, rfl, C⟩ := h1
    rw [List.append_nil]
    refine ⟨callB B F Hu ow al j vs, ods, .ok r od', hR, ar.len.trans hn, rfl, C.start ar hl, fun v dsc σc H' hc hd => ?_⟩
    obtain ⟨F', Hu', ow', rfl, C'⟩ := hc
    obtain ⟨ow3, C3, hw⟩ := C.back ar hl C' hd
    rw [hs] at C3
    have t := C'.tm
    have t1 : OwnsP X.K ca F' Hu' r v (fun a => ow' a = some (.inr 0)) := t.1
    exact q v _ ⟨F', Hu', ow3, rfl, C3.tms _ ⟨owns_imp (Ex.refl _) (fun a o pa ha => ⟨ha, hw a pa⟩) t1, C3.tm⟩⟩)
end

/-! ### data as the model's plain data -/
mutual
def toPy : D → PyData
  | .non => .none
  | .bl b => .bool b
  | .int i => .int i
  | .str x => .str x
  | .lst ds => .list (toPys ds)
  | .tup ds => .tuple (toPys ds)
  | _ => .none
def toPys : List D → List PyData
  | [] => []
  | d :: ds => toPy d :: toPys ds
end
mutual
/-- plain data: no dicts, no objects -/
def pln : D → Bool
  | .non => true
  | .bl _ => true
  | .int _ => true
  | .str _ => true
  | .lst ds => plns ds
  | .tup ds => plns ds
  | _ => false
def plns : List D → Bool
  | [] => true
  | d :: ds => pln d && plns ds
end
section
variable {K : PySem.W.Frag} {ca : CA} {B : Base} {ds : List Sl} {ts : List (V × Tm)} {σ : L2.St} {F Hu : Hp} {ow : Addr → Option Own}
mutual
theorem Core.dp (C : Core K ca B ds ts σ F Hu ow) : ∀ (d : D) {v : V}, pln d = true → Rep K ca F d v → Dp K (lock B.lk Hu) v (toPy d)
  | .non, _, _, r => by cases r; rw [toPy]; exact .non
  | .bl b, _, _, r => by cases r; rw [toPy]; exact .bl b
  | .int i, _, _, r => by cases r; rw [toPy]; exact .int i
  | .str x, _, _, r => by cases r; rw [toPy]; exact .str x
  | .lst xs, _, h, r => by
    cases r with
    | lst s r => rw [toPy]; exact .lst (.inl (.inl (C.at s fun z => z))) (Core.dps C xs (by rw [pln] at h; exact h) r)
  | .tup xs, _, h, r => by
    cases r with
    | tup s r => rw [toPy]; exact .tup (.inl (.inl (C.at s fun z => z))) (Core.dps C xs (by rw [pln] at h; exact h) r)
  | .ty n, _, h, _ => by simp [pln] at h
  | .dK _, _, h, _ => by simp [pln] at h
  | .dT _, _, h, _ => by simp [pln] at h
  | .set _, _, h, _ => by simp [pln] at h
  | .ins _ _, _, h, _ => by simp [pln] at h
  | .obj a, _, h, _ => by simp [pln] at h
  | .any, _, h, _ => by simp [pln] at h
  | .ro _, _, h, _ => by simp [pln] at h
theorem Core.dps (C : Core K ca B ds ts σ F Hu ow) : ∀ (xs : List D) {vs : List V}, plns xs = true → Reps K ca F xs vs → DpAll K (lock B.lk Hu) vs (toPys xs)
  | [], _, _, r => by cases r; rw [toPys]; exact .nil
  | x :: xs, _, h, r => by
    cases r with
    | cons a r =>
      rw [plns, Bool.and_eq_true] at h
      rw [toPys]
      exact .cons (Core.dp C x h.1 a) (Core.dps C xs h.2 r)
end
/-- the value of a thing on its way, as plain data -/
inductive Pl (ds : List Sl) : Tm → D → Prop
  | dat (d : D) : Pl ds (.v (.dat d)) d
  | own (xs : List D) : Pl ds (.v (OD.l xs)) (.lst xs)
  | al {i : Nat} {od : OD} {d : D} (h : ds[i]? = some (.v od)) (s : Pl ds (.v od) d) : Pl ds (.al i) d
theorem Core.pl {o : Tm} {v : V} {d : D} (C : Core K ca B ds ((v, o) :: ts) σ F Hu ow) (s : Pl ds o d) (h : pln d = true) : Dp K (lock B.lk Hu) v (toPy d) := by
  have t := C.tm
  have own : ∀ {xs : List D} {v : V} {w : Own}, pln (.lst xs) = true → OwnsP K ca F Hu (OD.l xs) v (fun a => ow a = some w) → Dp K (lock B.lk Hu) v (toPy (.lst xs)) := fun {xs v w} h x => by
    obtain ⟨p, vs, e, hp, hH, r⟩ := owns_l x
    subst e
    rw [toPy]
    exact .lst (.inl (.inl (by rw [lock_none (C.nolk hp)]; exact hH))) (C.dps xs (by rw [pln] at h; exact h) r)
  cases s with
  | dat _ =>
    have t1 : OwnsP K ca F Hu (.dat d) v (fun a => ow a = some (.inr ts.length)) := t.1
    rw [OwnsP] at t1
    exact C.dp d h t1
  | own xs => exact own h (show OwnsP K ca F Hu (OD.l xs) v (fun a => ow a = some (.inr ts.length)) from t.1)
  | @al i od _ hi s =>
    have t1 : σ[i]? = some (some v) := t.1
    obtain ⟨u, hu, x⟩ := C.sl i od hi
    rw [t1] at hu
    cases hu
    cases s with
    | dat _ =>
      rw [OwnsP] at x
      exact C.dp d h x
    | own xs => exact own h x
end
/-- == of data -/
def eqD (a b : D) : Bool := PyData.eqv (toPy a) (toPy b)
def shD (d : D) : Bool := pln d && SeqAt.shaped (toPy d)
def inD (x : D) (xs : List D) : Bool := xs.any fun z => eqD z x
theorem toPys_map : ∀ xs : List D, toPys xs = xs.map toPy
  | [] => by rw [toPys]; rfl
  | x :: xs => by rw [toPys, toPys_map xs]; rfl
section
variable {X : Cx} {ca : CA} {B : Base} {ds ds1 ds2 : List Sl} {o1 o2 : Tm} {a b e : Expr} {pos p : Pos} {d d' : D} {xs : List D} {k : Bool}
theorem shD_l {d : D} (h : shD d = true) : pln d = true ∧ SeqAt.shaped (toPy d) = true := Bool.and_eq_true_iff.mp h
theorem holds.pl2 {ts : List (V × Tm)} {σ : L2.St} {H : Hp} {x y : V} {K : PySem.W.Frag} (h : holds K ca B ds ((y, o2) :: (x, o1) :: ts) σ H) (s1 : Pl ds o1 d) (s2 : Pl ds o2 d') (h1 : pln d = true) (h2 : pln d' = true) : Dp K H x (toPy d) ∧ Dp K H y (toPy d') := by
  obtain ⟨F, Hu, ow, rfl, C⟩ := h
  exact ⟨C.rest.pl s1 h1, C.pl s2 h2⟩
theorem ro_eqD (s1 : Pl ds o1 d) (s2 : Pl ds o2 d') (h1 : shD d = true) (h2 : shD d' = true) : RO X ca B (rEqD X.K) o1 o2 ds (.bl (eqD d d')) ds := fun ts σ H x y Q h q => by
  obtain ⟨p1, p2⟩ := h.pl2 s1 s2 (shD_l h1).1 (shD_l h2).1
  exact ⟨_, _, p1, p2, (shD_l h1).2, (shD_l h2).2, q _ _ (h.pop.pop.val fun F => .bl _)⟩
theorem ro_neD (s1 : Pl ds o1 d) (s2 : Pl ds o2 d') (h1 : shD d = true) (h2 : shD d' = true) : RO X ca B (rNeD X.K) o1 o2 ds (.bl (!eqD d d')) ds := fun ts σ H x y Q h q => by
  obtain ⟨p1, p2⟩ := h.pl2 s1 s2 (shD_l h1).1 (shD_l h2).1
  exact ⟨_, _, p1, p2, (shD_l h1).2, (shD_l h2).2, q _ _ (h.pop.pop.val fun F => .bl _)⟩
theorem any_toPy {d : D} : ∀ xs : List D, (toPys xs).any (fun z => PyData.eqv z (toPy d)) = inD d xs
  | [] => by rw [toPys]; rfl
  | x :: xs => by
    rw [toPys, List.any_cons, any_toPy xs]
    rfl
theorem ro_inD (s1 : Pl ds o1 d) (s2 : Pl ds o2 (.lst xs)) (h1 : shD d = true) (h2 : shD (.lst xs) = true) : RO X ca B (rInD X.K) o1 o2 ds (.bl (inD d xs)) ds := fun ts σ H x y Q h q => by
  obtain ⟨p1, p2⟩ := h.pl2 s1 s2 (shD_l h1).1 (shD_l h2).1
  have h3 := (shD_l h2).2
  rw [toPy] at p2 h3
  refine ⟨_, _, p1, p2, (shD_l h1).2, h3, ?_⟩
  rw [any_toPy]
  exact q _ _ (h.pop.pop.val fun F => .bl _)
theorem ro_notInD (s1 : Pl ds o1 d) (s2 : Pl ds o2 (.lst xs)) (h1 : shD d = true) (h2 : shD (.lst xs) = true) : RO X ca B (rNotInD X.K) o1 o2 ds (.bl (!inD d xs)) ds := fun ts σ H x y Q h q => by
  obtain ⟨p1, p2⟩ := h.pl2 s1 s2 (shD_l h1).1 (shD_l h2).1
  have h3 := (shD_l h2).2
  rw [toPy] at p2 h3
  refine ⟨_, _, p1, p2, (shD_l h1).2, h3, ?_⟩
  rw [any_toPy]
  exact q _ _ (h.pop.pop.val fun F => .bl _)

/-! ### repr -/
theorem call_reprG (hgd : X.A.guards = some []) (hu : X.A.units + 70 < cLine) : CallR X (.builtin "repr") (fun xs H Q => ∃ x d, xs = [x] ∧ Dp X.K H x d ∧ (∀ z, d ≠ .str z) ∧ d.showable = true ∧ d.hasDict = false ∧ d.depth ≤ 64 ∧ d.shown.length ≤ sizeLine ∧ Q (.str d.shown) H) := by
  intro pins s σ H xs us Q I r h
  obtain ⟨x, d, rfl, hd, hs, hsh, hnd, hdp, hz, q⟩ := h
  obtain ⟨u, rfl, ru⟩ : ∃ u, us = [u] ∧ RelV x u := by
    cases r with
    | cons r rr => cases rr; exact ⟨_, rfl, r⟩
  obtain ⟨as, rd⟩ := Dp.reads I d x u hd ru
  have big : ∀ a, u = .ref a → wpAny (model X.prog X.w) X.A (call (.builtin "repr") [u]) (EP X pins σ Q) X.xe s := fun a e => by
    subst e
    refine repr_of_reads' rd hsh (PyData.noDict_hsm hnd) hgd (by omega) (fun _ _ e => e) (fun h' u tk hk => ?_) hz
    exact ⟨.str _, H, I.kept hk, ⟨_, rfl⟩, q⟩
  cases hd with
  | non =>
    obtain rfl : u = Value.none := ru
    refine PySem.call_repr_gives (T := "NoneType") rfl F.slot_NoneType_repr F.entry_NoneType_repr (F.args_NoneType_repr_1 _) (.of_eq rfl) ⟨.str _, H, I.tok _, ⟨_, rfl⟩, q⟩
  | bl b =>
    obtain rfl : u = Value.bool b := ru
    refine PySem.call_repr_gives (T := "bool") (x := PyData.shown (.bool b)) rfl F.slot_bool_repr F.entry_bool_repr (F.args_bool_repr_1 _) (.of_eq rfl) ⟨.str _, H, I.tok _, ⟨_, rfl⟩, q⟩ rfl hz
  | int i =>
    obtain ⟨t, rfl⟩ := ru
    exact PySem.P.repr_of_int (by simpa [PyData.showable] using hsh) ⟨.str _, H, I.tok _, ⟨_, rfl⟩, by simpa [PyData.shown] using q⟩
  | str z => exact absurd rfl (hs z)
  | lst h1 h2 => exact big _ ru
  | tup h1 h2 => exact big _ ru
end
end DL
/-! DL12: built-ins and tests over data. -/
namespace DL
open PySem PySem.Spec PyProof.Rows L2

section
variable {K : PySem.W.Frag} {ca : CA} {F H : Hp}
theorem reps_ints : ∀ {ns : List Int} {vs : List V}, Reps K ca F (ns.map .int) vs → vs = ns.map V.int
  | [], _, .nil => rfl
  | _ :: ns, _, .cons h r => by
    cases h
    rw [reps_ints r]
    rfl
theorem reps_bls : ∀ {ns : List Bool} {vs : List V}, Reps K ca F (ns.map .bl) vs → vs = ns.map V.bl
  | [], _, .nil => rfl
  | _ :: ns, _, .cons h r => by
    cases h
    rw [reps_bls r]
    rfl
theorem reps_strs : ∀ {ns : List Str} {vs : List V}, Reps K ca F (ns.map .str) vs → vs = ns.map V.str
  | [], _, .nil => rfl
  | _ :: ns, _, .cons h r => by
    cases h
    rw [reps_strs r]
    rfl
theorem ints_reps : ∀ (ns : List Int), Reps K ca F (ns.map .int) (ns.map V.int)
  | [] => .nil
  | n :: ns => .cons (.int n) (ints_reps ns)
end
section
variable {K : PySem.W.Frag} {ca : CA} {B : Base} {ds : List Sl} {ts : List (V × Tm)} {σ : L2.St} {H F Hu : Hp} {ow : Addr → Option Own} {v w : V} {o o1 o2 : Tm} {xs ys : List D}
/-- a list that stands as itself -/
theorem Core.lst (C : Core K ca B ds ((v, o) :: ts) σ F Hu ow) (s : Pl ds o (.lst xs)) : ∃ a vs, v = .ref a ∧ lock B.lk Hu a = some (.lst vs) ∧ Reps K ca F xs vs := by
  have t := C.tm
  have own : ∀ {xs : List D} {v : V} {w : Own}, OwnsP K ca F Hu (OD.l xs) v (fun a => ow a = some w) → ∃ a vs, v = .ref a ∧ lock B.lk Hu a = some (.lst vs) ∧ Reps K ca F xs vs := fun {xs v w} h => by
    obtain ⟨p, vs, e, hp, hH, r⟩ := owns_l h
    exact ⟨p, vs, e, by rw [lock_none (C.nolk hp)]; exact hH, r⟩
  have dat : ∀ {xs : List D} {v : V}, Rep K ca F (.lst xs) v → ∃ a vs, v = .ref a ∧ lock B.lk Hu a = some (.lst vs) ∧ Reps K ca F xs vs := fun {xs v} h => by
    cases h with
    | lst h r => exact ⟨_, _, rfl, C.at h fun z => z, r⟩
  cases s with
  | dat _ =>
    have t1 : OwnsP K ca F Hu (.dat (.lst xs)) v (fun a => ow a = some (.inr ts.length)) := t.1
    rw [OwnsP] at t1
    exact dat t1
  | own _ => exact own (show OwnsP K ca F Hu (OD.l xs) v (fun a => ow a = some (.inr ts.length)) from t.1)
  | @al i od _ hi s =>
    have t1 : σ[i]? = some (some v) := t.1
    obtain ⟨u, hu, x⟩ := C.sl i od hi
    rw [t1] at hu
    cases hu
    cases s with
    | dat _ =>
      rw [OwnsP] at x
      exact dat x
    | own _ => exact own x
/-- a new list of data, owned -/
theorem Core.newL {p : Addr} {vs : List V} (C : Core K ca B ds ts σ F Hu ow) (r : Reps K ca F xs vs) (hp : lock B.lk Hu p = none) : holds K ca B ds ((.ref p, .v (OD.l xs)) :: ts) σ (upd (lock B.lk Hu) p (.lst vs)) := by
  have hu := lock_isNone hp
  have C2 := C.newO (o := .lst vs) (k := ts.length) hu
  exact ⟨_, _, _, lock_upd (C.nolk0 hp), C2.tms _ ⟨owns_l_mk (if_pos rfl) upd_same r, C2.tm⟩⟩
end

section
variable {X : Cx} {ca : CA} {B : Base} {ds ds1 ds2 ds3 : List Sl} {o o1 o2 o3 : Tm} {os : List Tm} {a b c e : Expr} {es : List Expr} {pos p p2 : Pos} {b1 b2 : Bool} {xs ys : List D} {d d' : D} {k : Bool} {x f : Str} {i j : Int}
theorem EV.abs (ha : EV X ca B a ds (.int i) ds1) (hm : X.mg "abs" = none) (hg : Gl X "abs" := by rfl) (he : starEach [a] X.env = (false, eval a X.env) :: starEach [] X.env := by rfl) : EV X ca B (.Call (.Name "abs" p) [a] [] pos) ds (.int (if i < 0 then -i else i)) ds1 :=
  ev_callB call_abs hm (by decide +kernel) (ea_cons ha ea_nil he) (fun ts σ H vs Q hl h q => by
    obtain ⟨v, rfl⟩ := vs1 hl
    have h' : holds X.K ca B ds1 ((v, .int i) :: ts) σ H := h
    obtain rfl := h'.int
    exact ⟨i, rfl, q _ _ (h'.pop.val fun F => .int _)⟩) hg (he := he)
theorem EV.max2 (hc : X.calm = true) (ha : EV X ca B a ds (.int i) ds1) (hb : EV X ca B b ds1 (.int j) ds2) (hm : X.mg "max" = none) (hg : Gl X "max" := by rfl) (he : starEach [a, b] X.env = (false, eval a X.env) :: starEach [b] X.env := by rfl) (he2 : starEach [b] X.env = (false, eval b X.env) :: starEach [] X.env := by rfl) (hpl : (backTo pos (starEach [b] X.env)).any (·.1) = false := by rfl) :
    EV X ca B (.Call (.Name "max" p) [a, b] [] pos) ds (.int (if j > i then j else i)) ds2 :=
  ev_callB (call_max2 hc) hm (by decide +kernel) (ea_cons ha (ea_cons hb ea_nil he2) he) (fun ts σ H vs Q hl h q => by
    obtain ⟨v, w, rfl⟩ := vs2 hl
    have h' : holds X.K ca B ds2 ((w, .int j) :: (v, .int i) :: ts) σ H := h
    obtain ⟨rfl, rfl, h3⟩ := h'.int2
    exact ⟨i, j, rfl, q _ _ (h3.val fun F => .int _)⟩) hg (he := he) (hpl := hpl)
theorem EV.min2 (hc : X.calm = true) (ha : EV X ca B a ds (.int i) ds1) (hb : EV X ca B b ds1 (.int j) ds2) (hm : X.mg "min" = none) (hg : Gl X "min" := by rfl) (he : starEach [a, b] X.env = (false, eval a X.env) :: starEach [b] X.env := by rfl) (he2 : starEach [b] X.env = (false, eval b X.env) :: starEach [] X.env := by rfl) (hpl : (backTo pos (starEach [b] X.env)).any (·.1) = false := by rfl) :
    EV X ca B (.Call (.Name "min" p) [a, b] [] pos) ds (.int (if j < i then j else i)) ds2 :=
  ev_callB (call_min2 hc) hm (by decide +kernel) (ea_cons ha (ea_cons hb ea_nil he2) he) (fun ts σ H vs Q hl h q => by
    obtain ⟨v, w, rfl⟩ := vs2 hl
    have h' : holds X.K ca B ds2 ((w, .int j) :: (v, .int i) :: ts) σ H := h
    obtain ⟨rfl, rfl, h3⟩ := h'.int2
    exact ⟨i, j, rfl, q _ _ (h3.val fun F => .int _)⟩) hg (he := he) (hpl := hpl)
theorem EV.intI (ha : EV X ca B a ds (.int i) ds1) (hm : X.mg "int" = none) (hg : Gl X "int" := by rfl) (he : starEach [a] X.env = (false, eval a X.env) :: starEach [] X.env := by rfl) : EV X ca B (.Call (.Name "int" p) [a] [] pos) ds (.int i) ds1 :=
  ev_callTy call_int1 hm (by decide +kernel) (ea_cons ha ea_nil he) (fun ts σ H vs Q hl h q => by
    obtain ⟨v, rfl⟩ := vs1 hl
    have h' : holds X.K ca B ds1 ((v, .int i) :: ts) σ H := h
    obtain rfl := h'.int
    exact .inl ⟨i, rfl, q _ _ (h'.pop.val fun F => .int _)⟩) hg (he := he)
/-- any, all of a list of bools -/
theorem EV.any {bs : List Bool} (hc : X.calm = true) (ha : EV X ca B a ds o ds1) (hs : Seq ds1 o true (bs.map .bl)) (hm : X.mg "any" = none) (hg : Gl X "any" := by rfl) (he : starEach [a] X.env = (false, eval a X.env) :: starEach [] X.env := by rfl) : EV X ca B (.Call (.Name "any" p) [a] [] pos) ds (.bl (bs.any id)) ds1 :=
  ev_callB (cr_any hc) hm (by decide +kernel) (ea_cons ha ea_nil he) (fun ts σ H vs Q hl h q => by
    obtain ⟨v, rfl⟩ := vs1 hl
    obtain ⟨F, Hu, ow, rfl, C⟩ := h
    obtain ⟨a, vs, rfl, h, r⟩ := C.seqL hs
    rw [reps_bls r] at h
    exact ⟨a, bs, rfl, h, q _ _ (C.rest.give (.bl _))⟩) hg (he := he)
theorem EV.all {bs : List Bool} (hc : X.calm = true) (ha : EV X ca B a ds o ds1) (hs : Seq ds1 o true (bs.map .bl)) (hm : X.mg "all" = none) (hg : Gl X "all" := by rfl) (he : starEach [a] X.env = (false, eval a X.env) :: starEach [] X.env := by rfl) : EV X ca B (.Call (.Name "all" p) [a] [] pos) ds (.bl (bs.all id)) ds1 :=
  ev_callB (cr_all hc) hm (by decide +kernel) (ea_cons ha ea_nil he) (fun ts σ H vs Q hl h q => by
    obtain ⟨v, rfl⟩ := vs1 hl
    obtain ⟨F, Hu, ow, rfl, C⟩ := h
    obtain ⟨a, vs, rfl, h, r⟩ := C.seqL hs
    rw [reps_bls r] at h
    exact ⟨a, bs, rfl, h, q _ _ (C.rest.give (.bl _))⟩) hg (he := he)
/-- sorted of ints -/
def isort (ns : List Int) : List Int := ns.mergeSort (fun a b => decide (a ≤ b))
theorem isort_perm (ns : List Int) : (isort ns).Perm ns := List.mergeSort_perm ..
theorem isort_sorted (ns : List Int) : (isort ns).Pairwise (· ≤ ·) := by
  have h := List.pairwise_mergeSort (le := fun a b : Int => decide (a ≤ b)) (fun a b c h1 h2 => by simp at h1 h2 ⊢; omega) (fun a b => by simp; omega) ns
  exact h.imp fun {a b} h => by simpa using h
theorem isort_eq {ns ms : List Int} (h1 : ms.Perm ns) (h2 : ms.Pairwise (· ≤ ·)) : ms = isort ns :=
  (h1.trans (isort_perm ns).symm).eq_of_pairwise (fun a b _ _ h h' => Int.le_antisymm h h') h2 (isort_sorted ns)
theorem EV.sortedI {ns : List Int} (ha : EV X ca B a ds o ds1) (hs : Seq ds1 o true (ns.map .int)) (hm : X.mg "sorted" = none) (hg : Gl X "sorted" := by rfl) (he : starEach [a] X.env = (false, eval a X.env) :: starEach [] X.env := by rfl) : EV X ca B (.Call (.Name "sorted" p) [a] [] pos) ds (.v (OD.l ((isort ns).map .int))) ds1 :=
  ev_callB cr_sortedI hm (by decide +kernel) (ea_cons ha ea_nil he) (fun ts σ H vs Q hl h q => by
    obtain ⟨v, rfl⟩ := vs1 hl
    obtain ⟨F, Hu, ow, rfl, C⟩ := h
    obtain ⟨a, vs, rfl, h, r⟩ := C.seqL hs
    rw [reps_ints r] at h
    refine ⟨a, ns, rfl, h, fun ns' p hp hq hn => q _ _ ?_⟩
    rw [isort_eq hp hq]
    exact C.rest.newL (ints_reps _) hn) hg (he := he)
/-- xs + ys, of lists -/
theorem EV.cat (ha : EV X ca B a ds o1 ds1) (hb : EV X ca B b ds1 o2 ds2) (h1 : Pl ds2 o1 (.lst xs)) (h2 : Pl ds2 o2 (.lst ys)) (hz : xs.length + ys.length ≤ 16777216) : EV X ca B (.BinOp a .Add b pos) ds (.v (OD.l (xs ++ ys))) ds2 := ev_op op_cat ha hb fun ts σ H x y Q h q => by
  obtain ⟨F, Hu, ow, rfl, C⟩ := h
  obtain ⟨a, vs, rfl, e1, r1⟩ := C.rest.lst h1
  obtain ⟨b, us, rfl, e2, r2⟩ := C.lst h2
  refine ⟨a, b, vs, us, rfl, rfl, e1, e2, by rw [← r1.length, ← r2.length, sizeLine_eq]; exact hz, fun p hp => q _ _ ?_⟩
  exact C.rest.rest.newL (r1.append r2) hp
/-- the truth of a list or tuple -/
theorem et_seq (ha : EV X ca B a ds o ds1) (hs : Seq ds1 o k xs) (he : ∀ whole, isTrue a X.env whole = (do let v ← whole; standAt a.pos; holding [v] (truthy v)) := by intro _; rfl) : ET X ca B a ds (!xs.isEmpty) ds1 := fun ts σ H Q h0 q =>
  wt_of (pt_truth pe_we he) (ha ts σ H _ h0 fun v H1 h1 => by
    obtain ⟨F, Hu, ow, rfl, C⟩ := h1
    have emp : ∀ {vs : List V}, Reps X.K ca F xs vs → vs.isEmpty = xs.isEmpty := fun {vs} r => by
      cases r <;> rfl
    cases k with
    | true =>
      obtain ⟨a, vs, rfl, h, r⟩ := C.seqL hs
      exact ⟨!xs.isEmpty, .inl ⟨vs, h, by rw [emp r]⟩, q _ C.rest.h⟩
    | false =>
      obtain ⟨a, vs, rfl, h, r⟩ := C.seqT hs
      exact ⟨!xs.isEmpty, .inr (.inl ⟨vs, h, by rw [emp r]⟩), q _ C.rest.h⟩)
theorem et_int (ha : EV X ca B a ds (.int i) ds1) (he : ∀ whole, isTrue a X.env whole = (do let v ← whole; standAt a.pos; holding [v] (truthy v)) := by intro _; rfl) : ET X ca B a ds (i != 0) ds1 := fun ts σ H Q h0 q =>
  wt_of (pt_truth pe_we he) (ha ts σ H _ h0 fun v H1 h1 => by
    obtain rfl := h1.int
    exact ⟨_, rfl, q _ h1.pop⟩)
/-- repr(e), where no repr is on its way -/
def reprD (d : D) : Str := (toPy d).shown
def rpD (d : D) : Bool := pln d && (toPy d).showable && !(toPy d).hasDict && decide ((toPy d).depth ≤ 64) && decide ((toPy d).shown.length ≤ 16777216) && (match d with | .str _ => false | _ => true)
theorem EV.repr (hgd : X.A.guards = some []) (hu : X.A.units + 70 < cLine) (ha : EV X ca B a ds o ds1) (hs : Pl ds1 o d) (hd : rpD d = true) (hm : X.mg "repr" = none) (hg : Gl X "repr" := by rfl) (he : starEach [a] X.env = (false, eval a X.env) :: starEach [] X.env := by rfl) : EV X ca B (.Call (.Name "repr" p) [a] [] pos) ds (.str (reprD d)) ds1 :=
  ev_callB (call_reprG hgd hu) hm (by decide +kernel) (ea_cons ha ea_nil he) (fun ts σ H vs Q hl h q => by
    obtain ⟨v, rfl⟩ := vs1 hl
    obtain ⟨F, Hu, ow, rfl, C⟩ := h
    unfold rpD at hd
    simp only [Bool.and_eq_true, Bool.not_eq_true', decide_eq_true_eq] at hd
    obtain ⟨⟨⟨⟨⟨h1, h2⟩, h3⟩, h4⟩, h5⟩, h6⟩ := hd
    refine ⟨v, toPy d, rfl, C.pl hs h1, fun z e => ?_, h2, h3, h4, by rw [sizeLine_eq]; exact h5, q _ _ (C.rest.give (.str _))⟩
    cases d <;> simp [toPy, pln] at e h1 h6) hg (he := he)
/-- a type, of a datum -/
def tyD : D → Option String
  | .non => some "NoneType"
  | .bl _ => some "bool"
  | .int _ => some "int"
  | .str _ => some "str"
  | .lst _ => some "list"
  | .tup _ => some "tuple"
  | _ => none
theorem EV.isi {n t : String} (ha : EV X ca B a ds (.d d) ds1) (hb : EV X ca B b ds1 (.d (.ty n)) ds1) (ht : tyD d = some t) (hk : PySem.W.kitOne X.K (.type t) (.type n) = some k) (hm : X.mg "isinstance" = none) (hg : Gl X "isinstance" := by rfl) (he : starEach [a, b] X.env = (false, eval a X.env) :: starEach [b] X.env := by rfl) (he2 : starEach [b] X.env = (false, eval b X.env) :: starEach [] X.env := by rfl) (hpl : (backTo pos (starEach [b] X.env)).any (·.1) = false := by rfl) :
    EV X ca B (.Call (.Name "isinstance" p) [a, b] [] pos) ds (.bl k) ds1 :=
  ev_callB call_isi hm (by decide +kernel) (ea_cons ha (ea_cons hb ea_nil he2) he) (fun ts σ H vs Q hl h q => by
    obtain ⟨v, w, rfl⟩ := vs2 hl
    have h' : holds X.K ca B ds1 ((w, .d (.ty n)) :: (v, .d d) :: ts) σ H := h
    obtain ⟨_, _, _, _, _, r2⟩ := h'.rep
    cases r2
    obtain ⟨F, Hu, ow, rfl, C, r⟩ := h'.pop.rep
    refine ⟨v, _, .type t, .type n, k, rfl, .ty n, ?_, hk, q _ _ (C.rest.give (.bl _))⟩
    cases r <;> first
      | (cases ht; exact .base .non)
      | (cases ht; exact .base (.bl _))
      | (cases ht; exact .base (.int _))
      | (cases ht; exact .base (.str _))
      | (cases ht; exact .base (.lst (C.at ‹_› fun z => z)))
      | (cases ht; exact .base (.tup (C.at ‹_› fun z => z)))
      | cases ht) hg (he := he) (hpl := hpl)
end
end DL
/-! DLS: sets of ints, sorted of pairs. (call_set_lstI and sorted_setA follow the library's call_set_tupI and sorted_set, for a list and for any number of members.) -/
namespace DL
open PySem PySem.Spec PyProof.Rows L2
section
variable {P : Program} {w : World} {A : Around} {E : Value → Shared → Prop} {s : Shared} {a : Addr}
set_option maxRecDepth 100000 in
set_option maxHeartbeats 6400000 in
theorem call_set_lstI {l : Addr} {items : Array Value} (ns : List Int) {Q : Value → Shared → Prop} (hh : A.handled = none) (hl : s.heap.IsList l items) (hit : IntsAre items.toList ns) (hb : ns.length + 1 < scanBound)
    (h : ∀ (h' : Heap) (tk c : Nat), SetR w h' s.heap.objs.size (fun j => decide (j ∈ ns)) c → c ≤ ns.length → (∀ b o, s.heap.get? b = some o → h'.get? b = some o) → Q (.ref s.heap.objs.size) { s with heap := h', toks := tk }) :
    wpAny (model P w) A (call (.type "set") [.ref l]) Q E s := by
  have hisz : items.size = ns.length := by
    have q := IntsAre.length hit
    rw [Array.length_toList] at q
    exact q
  obtain ⟨c, tl, hmro⟩ := F.called_set.mro
  have hmade := F.called_set.made
  have hsub := F.called_set.sub
  refine wpAny_call (codeAny_of_tree ?_)
  show wpAny _ _ (callAny (.type "set") _) _ _ _
  refine wpAny_pure ⟨Code.quiet_builtin _ (by decide +kernel), codeAny_builtin F.entry_type_call ?_⟩
  rw [Around.under_plain (weight_type_call_type "set" [.ref l] []) rfl]
  have h1 := F.called_set.notType
  have h2 := F.called_set.canCreate
  have hct := F.typeCall_set_1 (.ref l)
  repeat (any_goals (first | assumption | wp_step))

  refine codeAny_mono (code_set_led1 (.ref l) (E := E) (Q₁ := fun obj s₁ => obj = .ref s.heap.objs.size ∧ s₁ = { s with heap := s.heap.push { cls := .type "set", dict := none, data := .set #[] 0 (.fresh 0 0 (!w.params.followText "set-order")) } }) ⟨rfl, rfl⟩) fun r s₁ hr => ?_
  cases r with
  | error e => exact hr
  | ok fl =>
    cases fl with
    | ret obj =>
      obtain ⟨rfl, rfl⟩ := hr
      have hS : (s.heap.push { cls := .type "set", dict := none, data := .set #[] 0 (.fresh 0 0 (!w.params.followText "set-order")) }).get? s.heap.objs.size = some { cls := .type "set", dict := none, data := .set #[] 0 (.fresh 0 0 (!w.params.followText "set-order")) } := Heap.get?_push_size _ rfl
      have hT : Shared.TypeIs { s with heap := s.heap.push { cls := .type "set", dict := none, data := .set #[] 0 (.fresh 0 0 (!w.params.followText "set-order")) } } (.ref s.heap.objs.size) "set" := ⟨_, hS, rfl⟩
      have hli := F.called_set.init.lookup
      have hbi := F.called_set.init.bind (.ref s.heap.objs.size)
      repeat (any_goals (first | assumption | wp_step))

      refine codeAny_mono (codeAny_call_builtin (R := wants (fun r s₂ => r = .none ∧ ∃ h' tk c, s₂ = { s with heap := h', toks := tk } ∧ SetR w h' s.heap.objs.size (fun j => decide (j ∈ ns)) c ∧ c ≤ ns.length ∧
          (∀ b o, s.heap.get? b = some o → h'.get? b = some o)) E) F.called_set.init.plain F.entry_set_init (check_set_init_1 hT ?_)) fun r₂ s₂ hr₂ => ?_
      · obtain ⟨ol, hol, hcl, nl, hdl⟩ := hl
        obtain ⟨ocls, odict, odata, oslots⟩ := ol
        simp only at hcl hdl
        subst hcl; subst hdl
        have hol' : (s.heap.push { cls := .type "set", dict := none, data := .set #[] 0 (.fresh 0 0 (!w.params.followText "set-order")) }).get? l = some { cls := .type "list", dict := odict, data := .seq items nl, slots := oslots } := Heap.get?_push_of_some _ hol
        have hsls := F.sub_list_set
        have hslf := F.sub_list_frozenset
        have hne : (Value.type "list" == Value.type "dict") = false := by decide
        have hl1 : (s.heap.push { cls := .type "set", dict := none, data := .set #[] 0 (.fresh 0 0 (!w.params.followText "set-order")) }).IsList l items := ⟨_, hol', rfl, nl, rfl⟩
        unfold Builtin.«set.__init__» noKeywords Builtin.Frozenset.updateFrom
        generalize hPI : pyIter = PI
        wp_walk
        subst hPI

        refine wpAny_pyIter_list hl1 ?_
        refine wpAny_bind (wpAny_runValue ?_)
        have hlS : l < s.heap.objs.size := Heap.lt_size hol
        have hh3 : A.in1.in1.in1.handled = none := by simp [hh]
        have hz1 : (s.heap.push { cls := .type "set", dict := none, data := .set #[] 0 (.fresh 0 0 (!w.params.followText "set-order")) }).objs.size = s.heap.objs.size + 1 := Heap.size_push ..
        have hneI : l ≠ (s.heap.push { cls := .type "set", dict := none, data := .set #[] 0 (.fresh 0 0 (!w.params.followText "set-order")) }).objs.size := by
          rw [Heap.size_push]; exact Nat.ne_of_lt (Nat.lt_succ_of_lt hlS)
        have hSf : s.heap.objs.size ∉ [(s.heap.push { cls := .type "set", dict := none, data := .set #[] 0 (.fresh 0 0 (!w.params.followText "set-order")) }).objs.size, l] := by
          rw [Heap.size_push]; simp only [List.mem_cons, List.mem_singleton, List.not_mem_nil, or_false, not_or]
          exact ⟨Nat.ne_of_lt (Nat.lt_succ_self _), Nat.ne_of_gt hlS⟩
        have hval : ∀ (i : Nat) (v : Value), items[i]? = some v → ∃ k t, ns[i]? = some k ∧ v = .int k t := fun i v hv => by
          have hi : i < ns.length := by rw [← hisz]; exact (Array.getElem?_eq_some_iff.mp hv).1
          obtain ⟨t, e⟩ := PyProof.Rows.IntsAre.int_at hit i v (by rw [Array.getElem?_toList]; exact hv)
          refine ⟨ns[i], t, List.getElem?_eq_getElem hi, ?_⟩
          rw [e, List.getD_eq_getElem?_getD, List.getElem?_eq_getElem hi] <;> rfl
        refine set_update_ints ((PySem.Walks.list hh3 _ l hneI items).toS) s.heap.objs.size
          hSf ns hisz hb hval (items.size - 0) 0 _ (by omega) (Nat.zero_le _)
          ⟨⟨_, Heap.get?_push_size _ rfl, rfl, rfl⟩, (hl1.push _)⟩ ?hS0 ?hR
        case hS0 =>
          have hget : ((s.heap.push { cls := .type "set", dict := none, data := .set #[] 0 (.fresh 0 0 (!w.params.followText "set-order")) }).push { cls := .type "list_iterator", data := .fields #[.ref l, .int 0 0] }).get? s.heap.objs.size
              = some { cls := .type "set", dict := none, data := .set #[] 0 (.fresh 0 0 (!w.params.followText "set-order")) } := Heap.get?_push_of_some _ hS
          exact ⟨0, Nat.le_refl 0, setR_new_at hget⟩
        case hR =>
          intro s' c' hm hc' hS'
          obtain ⟨h', g2, d', tk', os'⟩ := s'
          have eg : g2 = s.gens := hm.gens
          have ed : d' = s.drawn := hm.drawn
          have eo : os' = s.os := hm.os
          subst eg; subst ed; subst eo
          show wpAny _ _ _ _ _ _
          refine wpAny_pure ?_
          show wpAny _ _ (ret Value.none) _ _ _
          rw [hisz] at hc'
          refine wpAny_pure ⟨rfl, h', tk', c', rfl, hS', hc', fun b o e => ?_⟩
          have hb0 : b < s.heap.objs.size := Heap.lt_size e
          have hb1 : b ≠ s.heap.objs.size := Nat.ne_of_lt hb0
          have hb2 : b ≠ (s.heap.push { cls := .type "set", dict := none, data := .set #[] 0 (.fresh 0 0 (!w.params.followText "set-order")) }).objs.size := by
            rw [Heap.size_push]; exact Nat.ne_of_lt (Nat.lt_succ_of_lt hb0)
          exact hm.heap b o (by simp only [List.mem_cons, List.mem_singleton, List.not_mem_nil, or_false, not_or]; exact ⟨hb1, hb2⟩) (Heap.get?_push_of_some _ (Heap.get?_push_of_some _ e))

      · cases r₂ with
        | error e => exact hr₂
        | ok fl₂ =>
          cases fl₂ with
          | ret r =>
            obtain ⟨rfl, h', tk, c', rfl, hS', hc', hk'⟩ := hr₂
            repeat (any_goals (first | assumption | wp_step))
            exact h _ _ _ hS' hc' hk'
          | _ => exact hr₂.elim
    | _ => exact hr.elim


theorem sorted_setA {S : Int → Bool} {n : Nat} {Q : Value → Shared → Prop} (R : SetR w s.heap a S n) (hh : A.handled = none)
    (hQ : ∀ s' p (out : Array Value) (c : Nat) (ns : List Int), (∀ b o, s.heap.get? b = some o → s'.heap.get? b = some o) → s'.gens = s.gens → s'.os = s.os → s.heap.objs.size ≤ p →
      s'.heap.get? p = some (seqObj "list" out c) → IntsAre out.toList ns → ns.Pairwise (· < ·) → (∀ k, k ∈ ns ↔ S k = true) → ns.length = n → Q (.ref p) s') :
    wpAny (model P w) A (call (.builtin "sorted") [.ref a]) Q E s := by
  obtain ⟨o, es, ep, t, ho, hex, hd, g, nd, hm, hb, hf, hn, hr, hl⟩ := R
  refine Calls.call_function_entry kind_sorted plain_sorted entry_sorted (args_sorted1 _) ?_
  unfold Builtin.«sorted»
  refine wpAny_bind (m := checkCount "sorted" 1 1 _) (wpAny_pure ?_)
  refine wpAny_bind (collect_set (A := A.in1) hh ⟨o, ho, hex.1, hd⟩ hf hb hr hl fun s1 vs k1 hz g1 o1 pm => ?_)
  have hvl : vs.length = n := by rw [pm.length_eq, List.length_map, Array.length_toList]; exact hn
  have hI : IntsAre vs (vs.map Builtin.Re.reRawOf) := ints_of vs fun v hv => by
    obtain ⟨e, he, q⟩ := List.mem_map.mp (pm.mem_iff.mp hv)
    obtain ⟨k, tk, h1, _⟩ := g e he
    exact ⟨k, tk, by rw [← q]; exact h1⟩
  have pk : (vs.map Builtin.Re.reRawOf).Perm (es.toList.map keyOf) := by
    have q := pm.map Builtin.Re.reRawOf
    rw [List.map_map] at q
    exact q
  refine wpAny_bind (wpAny_newList ?_ (by rw [hvl, sizeLine_eq]; unfold scanBound at hb; omega))
  have hoL : (s1.heap.push (seqObj "list" vs.toArray 0)).get? s1.heap.objs.size = some (seqObj "list" vs.toArray 0) := Heap.get?_push_size _ rfl
  refine wpAny_bind (wpAny_holding (wpAny_call_entry slot_list_sort ⟨_, hoL, rfl⟩ entry_list_sort (SrtO.list_sort_ord SrtO.swo_int hoL (by rw [hvl, sizeLine_eq]; unfold scanBound at hb; omega) (fun h2 => SrtO.ints_sortable hI h2) fun out a1 a2 => ⟨_, rfl, ?_⟩) (args_list_sort _)))
  obtain ⟨a1, a2, a3⟩ := SrtO.ints_out hI a1 a2
  obtain ⟨c, hc⟩ := sortedHeap_at (vs := vs) (out := out.toArray) hoL
  have pn : (out.map SrtO.iv).Perm (es.toList.map keyOf) := a2.trans pk
  refine wpAny_pure ⟨_, rfl, hQ _ s1.heap.objs.size out.toArray c (out.map SrtO.iv) (fun b u e => ?_) g1 o1 hz hc (by simpa using a1) (lt_of_le_nodup _ a3 (pn.nodup_iff.mpr nd)) (fun k => by rw [pn.mem_iff, ← hm k]) ?_⟩
  · have q := k1 b u e
    have hlt := Heap.lt_size q
    show (sortedHeap (s1.heap.push (seqObj "list" vs.toArray 0)) s1.heap.objs.size vs out.toArray).get? b = some u
    rw [sortedHeap_old (Nat.ne_of_lt hlt) (by rw [size_push']; exact Nat.lt_succ_of_lt hlt)]
    exact Heap.get?_push_of_some _ q
  · rw [pn.length_eq, List.length_map, Array.length_toList]; exact hn
end
section
variable {X : Cx}
/-- sorted(found) -/
def rSortedSetA (w : World) : List V → Hp → VK → Prop := fun vs H Q => ∃ (a : Addr) (S : Int → Bool) (n : Nat), vs = [V.ref a] ∧ H a = some (SetO w a S n) ∧
  ∀ (ns : List Int) (p : Addr), ns.Pairwise (· < ·) → (∀ k : Int, k ∈ ns ↔ S k = true) → ns.length = n → H p = none → Q (.ref p) (upd H p (.lst (ns.map V.int)))
theorem cr_sortedSetA (hc : X.calm = true) : CallR X (.builtin "sorted") (rSortedSetA X.w) := by
  intro pins s σ H vs us Q I r h
  obtain ⟨a, S, n, rfl, ha, q⟩ := h
  have R := setO_get I ha
  have hb : n < scanBound := by
    obtain ⟨o, es, ep, t, ho, hex, hd, g, nd, hm, hb, hf, hn, hr, hl⟩ := R
    rw [← hn]
    exact hb
  rw [Vals.ref1 r]
  refine sorted_setA R (I.ok.hd hc) fun s' p out c ns k g o hp hg hi hs hm hl => ?_
  have hlen : (ns.map V.int).length ≤ sizeLine := by rw [List.length_map, hl, sizeLine_eq]; unfold scanBound at hb; omega
  have hn : H p = none := I.hok.fresh hp
  have J : Inv X pins σ (upd H p (.lst (ns.map V.int))) { s with heap := s'.heap, gens := s'.gens, drawn := s'.drawn, toks := s'.toks } :=
    I.call (ch := []) (Un.laid k hp hn) (I.hok.laid k hp ⟨hlen, out.toList, c, vals_of_ints hi, hg⟩) (by rw [g]; exact I.bare) (fun _ z => nomatch z)
  have e : s' = { s with heap := s'.heap, gens := s'.gens, drawn := s'.drawn, toks := s'.toks } := by
    cases s'
    cases s
    cases o
    rfl
  rw [e]
  exact ⟨.ref p, _, J, rfl, q ns p hs hm hl hn⟩
/-- set(xs), ints -/
def rSetL0 (K : PySem.W.Frag) (w : World) : List V → Hp → VK → Prop := fun vs H Q => ∃ (a : Addr) (ns : List Int), vs = [V.ref a] ∧ SqL K H a (ns.map V.int) ∧ ns.length + 1 < scanBound ∧
  ∀ (n : Nat) (p : Addr), n ≤ ns.length → H p = none → Q (.ref p) (upd H p (SetO w p (fun j => decide (j ∈ ns)) n))
theorem cr_setL (hc : X.calm = true) : CallR X (.type "set") (rSetL0 X.K X.w) := by
  intro pins s σ H vs us Q I r h
  obtain ⟨a, ns, rfl, hs, hb, q⟩ := h
  obtain ⟨its, rv, hl, hz⟩ := I.list hs
  rw [Vals.ref1 r]
  refine call_set_lstI ns (I.ok.hd hc) hl.isList (by simpa using rv.ints) hb fun h' tk c hS hc' hk => ?_
  exact ⟨.ref _, upd H s.heap.objs.size (SetO X.w s.heap.objs.size (fun j => decide (j ∈ ns)) c), I.laid (t' := tk) hk (Nat.le_refl _) (setO_new hS), rfl, q _ _ hc' (I.hok.fresh (Nat.le_refl _))⟩
end

/-! ### strictly sorted -/
def uins (x : Int) : List Int → List Int
  | [] => [x]
  | y :: ys => if x < y then x :: y :: ys else if x = y then y :: ys else y :: uins x ys
def usort : List Int → List Int
  | [] => []
  | x :: xs => uins x (usort xs)
theorem mem_uins {x k : Int} : ∀ {ys : List Int}, k ∈ uins x ys ↔ k = x ∨ k ∈ ys
  | [] => by simp [uins]
  | y :: ys => by
    unfold uins
    by_cases h : x < y
    · simp [if_pos h]
    · rw [if_neg h]
      by_cases h2 : x = y
      · rw [if_pos h2]
        simp [h2]
      · rw [if_neg h2, List.mem_cons, mem_uins, List.mem_cons]
        constructor
        · rintro (h | h | h)
          · exact .inr (.inl h)
          · exact .inl h
          · exact .inr (.inr h)
        · rintro (h | h | h)
          · exact .inr (.inl h)
          · exact .inl h
          · exact .inr (.inr h)
theorem uins_lt {x : Int} : ∀ {ys : List Int}, ys.Pairwise (· < ·) → (uins x ys).Pairwise (· < ·)
  | [], _ => by simp [uins]
  | y :: ys, h => by
    obtain ⟨h1, h2⟩ := List.pairwise_cons.mp h
    unfold uins
    by_cases c : x < y
    · rw [if_pos c]
      refine List.pairwise_cons.mpr ⟨fun z hz => ?_, h⟩
      rcases List.mem_cons.mp hz with e | e
      · rw [e]; exact c
      · exact Int.lt_trans c (h1 z e)
    · rw [if_neg c]
      by_cases c2 : x = y
      · rw [if_pos c2]; exact h
      · rw [if_neg c2]
        refine List.pairwise_cons.mpr ⟨fun z hz => ?_, uins_lt h2⟩
        rcases mem_uins.mp hz with e | e
        · rw [e]; omega
        · exact h1 z e
theorem mem_usort {k : Int} : ∀ {ns : List Int}, k ∈ usort ns ↔ k ∈ ns
  | [] => by simp [usort]
  | n :: ns => by rw [usort, mem_uins, mem_usort, List.mem_cons]
theorem usort_lt : ∀ ns : List Int, (usort ns).Pairwise (· < ·)
  | [] => .nil
  | n :: ns => uins_lt (usort_lt ns)
theorem lt_unique : ∀ {xs ys : List Int}, xs.Pairwise (· < ·) → ys.Pairwise (· < ·) → (∀ k, k ∈ xs ↔ k ∈ ys) → xs = ys
  | [], [], _, _, _ => rfl
  | [], y :: ys, _, _, h => absurd ((h y).mpr (List.mem_cons_self ..)) (by simp)
  | x :: xs, [], _, _, h => absurd ((h x).mp (List.mem_cons_self ..)) (by simp)
  | x :: xs, y :: ys, hx, hy, h => by
    obtain ⟨x1, x2⟩ := List.pairwise_cons.mp hx
    obtain ⟨y1, y2⟩ := List.pairwise_cons.mp hy
    have e : x = y := by
      rcases List.mem_cons.mp ((h x).mp (List.mem_cons_self ..)) with e | e
      · exact e
      · rcases List.mem_cons.mp ((h y).mpr (List.mem_cons_self ..)) with e2 | e2
        · exact e2.symm
        · have := y1 x e
          have := x1 y e2
          omega
    subst e
    rw [lt_unique x2 y2 fun k => ?_]
    constructor
    · intro hk
      rcases List.mem_cons.mp ((h k).mp (List.mem_cons_of_mem _ hk)) with e | e
      · have := x1 k hk
        omega
      · exact e
    · intro hk
      rcases List.mem_cons.mp ((h k).mpr (List.mem_cons_of_mem _ hk)) with e | e
      · have := y1 k hk
        omega
      · exact e

/-! ### sets of ints -/
inductive Sx (ds : List Sl) : Tm → List Int → Prop
  | dat (xs : List Int) : Sx ds (.v (.dat (.set xs))) xs
  | own (xs : List Int) : Sx ds (.v (.set xs)) xs
  | al {i : Nat} {od : OD} {xs : List Int} (h : ds[i]? = some (.v od)) (s : Sx ds (.v od) xs) : Sx ds (.al i) xs
section
variable {K : PySem.W.Frag} {ca : CA} {B : Base} {ds : List Sl} {ts : List (V × Tm)} {σ : L2.St} {H F Hu : Hp} {ow : Addr → Option Own} {v w : V} {o o1 o2 : Tm} {xs ys : List Int}
theorem setO_dict {w : World} {p : Addr} {S : Int → Bool} {n : Nat} : ¬ isDict (SetO w p S n) := fun z => z
theorem Core.sx (C : Core K ca B ds ((v, o) :: ts) σ F Hu ow) (s : Sx ds o xs) : ∃ a S n, v = .ref a ∧ lock B.lk Hu a = some (SetO ca.w a S n) ∧ (∀ i, S i = decide (i ∈ xs)) ∧ n ≤ xs.length := by
  have t := C.tm
  have own : ∀ {xs : List Int} {v : V} {w : Own}, OwnsP K ca F Hu (.set xs) v (fun a => ow a = some w) → ∃ a S n, v = .ref a ∧ lock B.lk Hu a = some (SetO ca.w a S n) ∧ (∀ i, S i = decide (i ∈ xs)) ∧ n ≤ xs.length := fun {xs v w} h => by
    rw [OwnsP] at h
    obtain ⟨p, S, n, e, hp, hH, h1, h2⟩ := h
    exact ⟨p, S, n, e, by rw [lock_none (C.nolk hp)]; exact hH, h1, h2⟩
  have dat : ∀ {xs : List Int} {v : V}, Rep K ca F (.set xs) v → ∃ a S n, v = .ref a ∧ lock B.lk Hu a = some (SetO ca.w a S n) ∧ (∀ i, S i = decide (i ∈ xs)) ∧ n ≤ xs.length := fun {xs v} h => by
    cases h with
    | set h a b => exact ⟨_, _, _, rfl, C.at h setO_dict, a, b⟩
  cases s with
  | dat _ =>
    have t1 : OwnsP K ca F Hu (.dat (.set xs)) v (fun a => ow a = some (.inr ts.length)) := t.1
    rw [OwnsP] at t1
    exact dat t1
  | own _ => exact own (show OwnsP K ca F Hu (.set xs) v (fun a => ow a = some (.inr ts.length)) from t.1)
  | @al i od _ h s =>
    have t1 : σ[i]? = some (some v) := t.1
    obtain ⟨u, hu, x⟩ := C.sl i od h
    rw [t1] at hu
    cases hu
    cases s with
    | dat _ =>
      rw [OwnsP] at x
      exact dat x
    | own _ => exact own x
end
section
variable {X : Cx} {ca : CA} {B : Base} {ds ds1 ds2 : List Sl} {o o1 o2 : Tm} {a b e : Expr} {pos p ap cp : Pos} {xs xs0 ns : List Int} {j : Int} {x : Str}
theorem ev_set0 (hw : ca.w = X.w) (hm : X.mg "set" = none) (hg : Gl X "set" := by rfl) : EV X ca B (.Call (.Name "set" p) [] [] pos) ds (.v (.set [])) ds :=
  ev_callTy0 cr_set0 hm (by decide +kernel) (fun ts σ H vs Q hl h q => by
    match vs, hl with
    | [], _ =>
      refine ⟨rfl, fun p hp => q _ _ ?_⟩
      rw [← hw]
      exact h.newSet hp (fun i => by simp) (Nat.le_refl _)) hg
theorem EV.setL (hc : X.calm = true) (hw : ca.w = X.w) (ha : EV X ca B a ds o ds1) (hs : Seq ds1 o true (ns.map .int)) (hz : ns.length < 4095) (hm : X.mg "set" = none) (hg : Gl X "set" := by rfl) (he : starEach [a] X.env = (false, eval a X.env) :: starEach [] X.env := by rfl) : EV X ca B (.Call (.Name "set" p) [a] [] pos) ds (.v (.set ns)) ds1 :=
  ev_callTy (cr_setL hc) hm (by decide +kernel) (ea_cons ha ea_nil he) (fun ts σ H vs Q hl h q => by
    obtain ⟨v, rfl⟩ := vs1 hl
    have h2 := h
    obtain ⟨F, Hu, ow, rfl, C⟩ := h
    obtain ⟨a, vs, rfl, h, r⟩ := C.seqL hs
    rw [reps_ints r] at h
    refine ⟨a, ns, rfl, h, by unfold scanBound; omega, fun n p hn hp => q _ _ ?_⟩
    rw [← hw]
    exact C.rest.h.newSet hp (fun i => rfl) hn) hg (he := he)
theorem EV.sortedS (hc : X.calm = true) (hw : ca.w = X.w) (ha : EV X ca B a ds o ds1) (hs : Sx ds1 o ns) (hm : X.mg "sorted" = none) (hg : Gl X "sorted" := by rfl) (he : starEach [a] X.env = (false, eval a X.env) :: starEach [] X.env := by rfl) : EV X ca B (.Call (.Name "sorted" p) [a] [] pos) ds (.v (OD.l ((usort ns).map .int))) ds1 :=
  ev_callB (cr_sortedSetA hc) hm (by decide +kernel) (ea_cons ha ea_nil he) (fun ts σ H vs Q hl h q => by
    obtain ⟨v, rfl⟩ := vs1 hl
    obtain ⟨F, Hu, ow, rfl, C⟩ := h
    obtain ⟨a, S, n, rfl, h, hS, hn⟩ := C.sx hs
    rw [hw] at h
    refine ⟨a, S, n, rfl, h, fun ms p h1 h2 h3 hp => q _ _ ?_⟩
    have e : ms = usort ns := lt_unique h1 (usort_lt ns) fun k => by rw [h2, hS, decide_eq_true_eq, mem_usort]
    rw [e]
    exact C.rest.newL (ints_reps _) hp) hg (he := he)
theorem ro_inSx (hw : ca.w = X.w) (hs : Sx ds o xs) : RO X ca B (rSIn X.w) (.int j) o ds (.bl (decide (j ∈ xs))) ds := fun ts σ H x y Q h q => by
  obtain rfl := h.pop.int
  obtain ⟨F, Hu, ow, rfl, C⟩ := h
  obtain ⟨a, S, n, rfl, h, hS, hn⟩ := C.sx hs
  rw [hw] at h
  refine ⟨j, a, S, n, rfl, rfl, h, ?_⟩
  rw [hS]
  exact q _ _ (C.rest.rest.give (.bl _))
theorem ro_notInSx (hw : ca.w = X.w) (hs : Sx ds o xs) : RO X ca B (rSNotIn X.w) (.int j) o ds (.bl (!decide (j ∈ xs))) ds := fun ts σ H x y Q h q => by
  obtain rfl := h.pop.int
  obtain ⟨F, Hu, ow, rfl, C⟩ := h
  obtain ⟨a, S, n, rfl, h, hS, hn⟩ := C.sx hs
  rw [hw] at h
  refine ⟨j, a, S, n, rfl, rfl, h, ?_⟩
  rw [hS]
  exact q _ _ (C.rest.rest.give (.bl _))
/-- found.add(j) -/
theorem EV.sadd (hw : ca.w = X.w) (i : Nat) (he : EV X ca B e ds (.int j) ds1) (h1 : ds1[i]? = some (.v (.set xs))) (hz : xs.length < 4000) (hs : ds1.set i (.v (.set (j :: xs))) = ds2 := by rfl)
    (h0 : ds[i]? = some (.v (.set xs0)) := by rfl) (hN : X.N[i]? = some x := by rfl) (hv : Vis X.env.scope x := by first | exact Or.inl rfl | exact Or.inr (Or.inl rfl) | exact Or.inr (Or.inr rfl)) (hd : (x == ("__debug__" : Str)) = false := by decide)
    (hcd : (x == ("__classdict__" : Str)) = false := by decide) (hb : attributeBase (.Name x p) "add" X.env (eval (.Name x p) X.env) = eval (.Name x p) X.env := by rfl)
    (hfew : ((backTo cp (starEach [e] X.env)).all (fun x => !x.1) && (backToKw cp (keywordEach [] X.env)).all (fun x => x.1.isSome)
      && decide ([e].length + ([] : List Keyword).length + (if ([] : List Keyword).isEmpty then 0 else 1) < 30)) = true := by rfl)
    (hline : (ap.endLine == cp.line) = true := by rfl) (hst : starEach [e] X.env = (false, eval e X.env) :: starEach [] X.env := by rfl) :
    EV X ca B (.Call (.Attribute (.Name x p) "add" ap) [e] [] cp) ds .non ds2 := fun ts σ H Q h q =>
  we_of (pe_sadd pe_we pa_wa hb hfew hline hst rfl) (ev_al i h0 hN hv hd hcd ts σ H _ h fun v H1 g1 => ⟨by
    obtain ⟨F, Hu, ow, rfl, C⟩ := g1
    obtain ⟨a, S, n, rfl, h, _⟩ := C.sx (.al h0 (.own _))
    rw [hw] at h
    exact ⟨a, S, n, rfl, h⟩, ea_cons he ea_nil hst _ σ H1 _ g1 fun vs H2 hl g2 => by
    obtain ⟨w, rfl⟩ := vs1 hl
    have g3 : holds X.K ca B ds1 ((w, .int j) :: (v, .al i) :: ts) σ H2 := g2
    obtain rfl := g3.int
    obtain ⟨F, Hu, ow, rfl, C⟩ := g3.pop
    have hv : σ[i]? = some (some v) := C.tm.1
    obtain ⟨u, hu, x⟩ := C.sl i _ h1
    rw [hv] at hu
    cases hu
    rw [OwnsP] at x
    obtain ⟨p, S, n, rfl, hp, hH, hS, hn⟩ := x
    refine ⟨p, j, S, n, rfl, rfl, by rw [lock_none (C.nolk hp), hH, hw], by unfold scanBound; omega, q _ _ (holds.val ?_ fun F => .non)⟩
    rw [← hs, ← hw]
    refine ⟨F, _, ow, lock_upd (C.nolk hp), C.rest.mut hp (List.getElem?_eq_some_iff.mp h1).1 ⟨_, hH⟩ hv ?_⟩
    rw [OwnsP]
    refine ⟨p, _, _, rfl, hp, upd_same, fun i => ?_, ?_⟩
    · simp only [hS, List.mem_cons]
      by_cases h1 : i ∈ xs <;> by_cases h2 : i = j <;> simp [h1, h2]
    · simp only [List.length_cons]
      split <;> omega⟩)
end
/-! ### sorted of pairs -/
def encP (p : Int × Int) : D := .tup [.int p.1, .int p.2]
def leP (p q : Int × Int) : Bool := !SrtO.lexB q p
def psort (ps : List (Int × Int)) : List (Int × Int) := ps.mergeSort leP
theorem leP_iff {p q : Int × Int} : leP p q = true ↔ p.1 < q.1 ∨ (p.1 = q.1 ∧ p.2 ≤ q.2) := by
  unfold leP
  rw [Bool.not_eq_true', SrtO.lexB_no]
  omega
theorem psort_perm (ps : List (Int × Int)) : (psort ps).Perm ps := List.mergeSort_perm ..
theorem psort_sorted (ps : List (Int × Int)) : (psort ps).Pairwise (fun a b => leP a b = true) :=
  List.pairwise_mergeSort (fun a b c h1 h2 => by rw [leP_iff] at *; omega) (fun a b => by
    by_cases h : leP a b = true
    · simp [h]
    · have : leP b a = true := by
        rw [leP_iff] at *
        omega
      simp [this]) ps
theorem psort_eq {ps qs : List (Int × Int)} (h1 : qs.Perm ps) (h2 : qs.Pairwise (fun a b => leP a b = true)) : qs = psort ps :=
  (h1.trans (psort_perm ps).symm).eq_of_pairwise (fun a b _ _ h h' => by
    rw [leP_iff] at h h'
    have e1 : a.1 = b.1 := by omega
    have e2 : a.2 = b.2 := by omega
    exact Prod.ext e1 e2) h2 (psort_sorted ps)
section
variable {X : Cx} {ca : CA} {B : Base} {ds ds1 : List Sl} {o : Tm} {a : Expr} {pos p : Pos} {ps : List (Int × Int)}
theorem EV.sortedP (ha : EV X ca B a ds o ds1) (hs : Seq ds1 o true (ps.map encP)) (hm : X.mg "sorted" = none) (hg : Gl X "sorted" := by rfl) (he : starEach [a] X.env = (false, eval a X.env) :: starEach [] X.env := by rfl) : EV X ca B (.Call (.Name "sorted" p) [a] [] pos) ds (.v (OD.l ((psort ps).map encP))) ds1 :=
  ev_callB cr_sortedPO hm (by decide +kernel) (ea_cons ha ea_nil he) (fun ts σ H vs Q hl h q => by
    obtain ⟨v, rfl⟩ := vs1 hl
    obtain ⟨F, Hu, ow, rfl, C⟩ := h
    obtain ⟨a, vs, rfl, h, r⟩ := C.seqL hs
    let k : V → Int × Int := fun v => match v with
      | .ref t => (match F t with
        | some (.tup [.int i, .int j]) => (i, j)
        | _ => (0, 0))
      | _ => (0, 0)
    have one : ∀ {q : Int × Int} {v : V}, Rep X.K ca F (encP q) v → ∃ t, v = .ref t ∧ F t = some (.tup [.int q.1, .int q.2]) ∧ k v = q := fun {q v} r => by
      cases r with
      | @tup _ _ t hF r =>
        cases r with
        | cons a r =>
          cases r with
          | cons b r =>
            cases r
            cases a
            cases b
            refine ⟨t, rfl, hF, ?_⟩
            simp only [k, hF]
    have all : ∀ {ps : List (Int × Int)} {vs : List V}, Reps X.K ca F (ps.map encP) vs → vs.map k = ps ∧ ∀ v ∈ vs, Rep X.K ca F (encP (k v)) v := fun {ps} => by
      induction ps with
      | nil =>
        intro vs r
        cases r
        exact ⟨rfl, fun v hv => by cases hv⟩
      | cons p ps ih =>
        intro vs r
        cases r with
        | cons h r =>
          obtain ⟨e1, e2⟩ := ih r
          obtain ⟨t, _, _, e⟩ := one h
          refine ⟨by rw [List.map_cons, e, e1], fun v hv => ?_⟩
          rcases List.mem_cons.mp hv with z | z
          · rw [z, e]; exact h
          · exact e2 v z
    obtain ⟨e1, e2⟩ := all r
    refine ⟨a, vs, k, rfl, h, fun x hx => ?_, fun ys p hy hb hp => q _ _ ?_⟩
    · obtain ⟨t, e3, e4, _⟩ := one (e2 x hx)
      exact ⟨t, e3, C.at e4 fun z => z⟩
    · have e5 : ys.map k = psort ps := psort_eq (by rw [← e1]; exact hb.perm.map k) (List.pairwise_map.mpr (hy.imp fun {x y} h => by
        show (!SrtO.lexB (k y) (k x)) = true
        rw [show SrtO.lexB (k y) (k x) = false from h]
        rfl))
      have rr : ∀ {ys : List V}, (∀ y ∈ ys, y ∈ vs) → Reps X.K ca F ((ys.map k).map encP) ys := fun {ys} => by
        induction ys with
        | nil => intro _; exact .nil
        | cons y ys ih => exact fun h => .cons (e2 y (h y (List.mem_cons_self ..))) (ih fun z hz => h z (List.mem_cons_of_mem _ hz))
      rw [← e5]
      exact C.rest.newL (rr fun y hy => hb.perm.mem_iff.mp hy) hp) hg (he := he)
end
end DL
set_option maxHeartbeats 4000000
/-! EZ: enumerate(zip(t, u)) of two tuples; enumerate(t) of a tuple. The steps follow the library's (zip of tuples, enumerate of a list). -/
namespace EZ
open PySem
open PySem.Sem (wp)
open RZ
abbrev IsZipF (h : Heap) (z TI TO : Addr) (f0 : Value) (f : Bool) : Prop :=
  h.get? z = some { cls := .type "zip", dict := none, data := .fields #[f0, .bool f, .bool false, .ref TI, .ref TO], slots := #[] }
section
variable {prog : Program} {w : World} {A : Around} {E : Value → Shared → Prop} {s : Shared}
theorem alive_any {a : Addr} {Q : Option Obj → Shared → Prop} (h : Q (s.heap.get? a) s) : wpAny (model prog w) A (loadIfAlive a) Q E s := fun _ _ _ => h
theorem tupleFree_zip {z TI TO : Addr} {f0 : Value} {f : Bool} {Q : Bool → Shared → Prop} (hz : IsZipF s.heap z TI TO f0 f) (hf : f0 = .none ∨ ∃ T : Addr, f0 = rawInt T) (ht : Q true s)
    (hn : ∀ h', IsZipF h' z TI TO f0 true → Heap.SameBut z s.heap h' → Q false { s with heap := h' }) : wpAny (model prog w) A (Builtin.SmallTypes.ownedTupleIsFree (.ref z)) Q E s := by
  unfold Builtin.SmallTypes.ownedTupleIsFree
  rcases hf with rfl | ⟨T, rfl⟩
  · exact wpAny_bind (wpAny_field hz rfl (x := .none) rfl (wpAny_pure ht))
  · refine wpAny_bind (wpAny_field hz rfl (x := rawInt T) rfl ?_)
    show wpAny _ _ (loadIfAlive ((T : Int).toNat) >>= _) _ _ _
    rw [Int.toNat_natCast]
    refine wpAny_bind (alive_any ?_)
    cases s.heap.get? T with
    | none =>
      simp only [Option.isNone_none, if_true]
      exact wpAny_pure ht
    | some o =>
      simp only [Option.isNone_some, Bool.false_eq_true, if_false]
      refine wpAny_bind (wpAny_field hz rfl (x := .bool f) rfl ?_)
      cases f with
      | true =>
        rw [if_neg (show ¬ ((Value.bool true != Value.bool true) = true) from Bool.false_ne_true)]
        exact wpAny_pure (hn s.heap hz (Heap.SameBut.refl _ _))
      | false =>
        rw [if_pos (show (Value.bool false != Value.bool true) = true from rfl)]
        exact wpAny_bind (wpAny_setField_rec hz (by simp) fun h₁ hz₁ hs₁ => wpAny_pure (hn h₁ hz₁ hs₁))
/-- a zip in any state between two turns -/
def IsZ (h : Heap) (z TI TO : Addr) : Prop := ∃ f0 f, (f0 = Value.none ∨ ∃ T : Addr, f0 = rawInt T) ∧ IsZipF h z TI TO f0 f
theorem zipF_next_item {z TI TO i1 i2 l1 l2 : Addr} {k1 k2 : Nat} {xs ys : Array Value} {x y a b : Value} {Q : Value → Shared → Prop} (D : ZipApart z TI TO i1 i2 l1 l2)
    (hz : IsZ s.heap z TI TO) (hTI : IsPair s.heap TI (.ref i1) (.ref i2)) (hTO : IsPair s.heap TO a b)
    (h1 : s.heap.IsTupleIter i1 l1 k1) (h2 : s.heap.IsTupleIter i2 l2 k2) (hl1 : s.heap.IsTuple l1 xs) (hl2 : s.heap.IsTuple l2 ys) (hx : xs[k1]? = some x) (hy : ys[k2]? = some y)
    (hQ : ∀ h', IsZ h' z TI TO → (∃ a b, IsPair h' TO a b) → h'.IsTupleIter i1 l1 (k1 + 1) → h'.IsTupleIter i2 l2 (k2 + 1) → IsPair h' s.heap.objs.size x y → h'.objs.size = s.heap.objs.size + 1 →
      (∀ c o, c ≠ z → c ≠ TO → c ≠ i1 → c ≠ i2 → s.heap.get? c = some o → h'.get? c = some o) → Q (.ref s.heap.objs.size) { s with heap := h' }) :
    wpAny (model prog w) A (Builtin.«zip.__next__» ⟨[.ref z], []⟩) (fun fin s' => ∃ v, fin = .done (.ret v) ∧ Q v s') E s := by
  obtain ⟨f0, f, hf, hz⟩ := hz
  show wpAny _ _ (field (.ref z) 2 >>= _) _ _ _
  refine wpAny_bind (wpAny_field hz rfl (x := .bool false) rfl ?_)
  show wpAny _ _ (field (.ref z) 3 >>= _) _ _ _
  refine wpAny_bind (wpAny_field hz rfl (x := .ref TI) rfl ?_)
  refine wpAny_bind (wpAny_seqItems hTI rfl ?_)
  show wpAny _ _ (Builtin.SmallTypes.ownedTupleIsFree (.ref z) >>= _) _ _ _
  refine wpAny_bind (tupleFree_zip hz hf ?_ fun h₁ hz₁ hs₁ => ?_)
  · simp only [if_true]
    refine wpAny_bind (wpAny_rule ?_)
    refine wpAny_bind (wpAny_field hz rfl (x := .ref TO) rfl ?_)
    refine wpAny_bind (wpAny_setField_rec hz (by simp) fun h₁ hz₁ hs₁ => ?_)
    replace hz₁ : IsZipF h₁ z TI TO .ellipsis f := hz₁
    refine wpAny_bind ?_
    simp only [List.zipIdx_cons, List.zipIdx_nil, List.forIn_cons, List.forIn_nil]
    refine wpAny_bind (wpAny_bind (wpAny_onRaise ?_))
    show wpAny _ _ (Builtin.SmallTypes.nextOf (.ref i1) >>= _) _ _ _
    refine wpAny_bind (nextOf_tuple_item (h1.extBut hs₁.extBut D.i1z) (hl1.extBut hs₁.extBut D.l1z) hx fun h₂ h1₂ hs₂ => wpAny_pure ?_)
    have hTO₂ : IsPair h₂ TO a b := hs₂.extBut _ _ D.TOi1 (hs₁.extBut _ _ D.TOz hTO)
    refine wpAny_bind (wpAny_seqItems hTO₂ rfl ?_)
    refine wpAny_bind (wpAny_updateSeq_pair hTO₂ fun h₃ hTO₃ hs₃ => ?_)
    replace hTO₃ : IsPair h₃ TO x b := hTO₃
    refine wpAny_bind (wpAny_letGo (wpAny_pure ?_))
    refine wpAny_bind (wpAny_bind (wpAny_onRaise ?_))
    show wpAny _ _ (Builtin.SmallTypes.nextOf (.ref i2) >>= _) _ _ _
    refine wpAny_bind (nextOf_tuple_item (((h2.extBut hs₁.extBut D.i2z).extBut hs₂.extBut D.i12.symm).extBut hs₃.extBut D.TOi2.symm)
      (((hl2.extBut hs₁.extBut D.l2z).extBut hs₂.extBut D.l2i1).extBut hs₃.extBut D.l2TO) hy fun h₄ h2₄ hs₄ => wpAny_pure ?_)
    have hTO₄ : IsPair h₄ TO x b := hs₄.extBut _ _ D.TOi2 hTO₃
    refine wpAny_bind (wpAny_seqItems hTO₄ rfl ?_)
    refine wpAny_bind (wpAny_updateSeq_pair hTO₄ fun h₅ hTO₅ hs₅ => ?_)
    replace hTO₅ : IsPair h₅ TO x y := hTO₅
    refine wpAny_bind (wpAny_letGo (wpAny_pure (wpAny_pure ?_)))
    refine wpAny_bind (wpAny_seqItems hTO₅ rfl ?_)
    refine wpAny_bind (wpAny_newTuple ?_)
    have hsz : h₅.objs.size = s.heap.objs.size := by rw [hs₅.1, hs₄.1, hs₃.1, hs₂.1, hs₁.1]
    have hz₅ : IsZipF h₅ z TI TO .ellipsis f := hs₅.extBut _ _ D.TOz.symm (hs₄.extBut _ _ D.i2z.symm (hs₃.extBut _ _ D.TOz.symm (hs₂.extBut _ _ D.i1z.symm hz₁)))
    have hk₅ : ∀ c o, c ≠ z → c ≠ TO → c ≠ i1 → c ≠ i2 → s.heap.get? c = some o → h₅.get? c = some o := fun c o c1 c2 c3 c4 e =>
      hs₅.extBut _ _ c2 (hs₄.extBut _ _ c4 (hs₃.extBut _ _ c2 (hs₂.extBut _ _ c3 (hs₁.extBut _ _ c1 e))))
    have h1₅ : h₅.IsTupleIter i1 l1 (k1 + 1) := ((h1₂.extBut hs₃.extBut D.TOi1.symm).extBut hs₄.extBut D.i12).extBut hs₅.extBut D.TOi1.symm
    have h2₅ : h₅.IsTupleIter i2 l2 (k2 + 1) := h2₄.extBut hs₅.extBut D.TOi2.symm
    have hzlt : z < h₅.objs.size := Heap.lt_size hz₅
    show wpAny _ _ (Builtin.SmallTypes.ownedTupleHandOut (.ref z) (.ref h₅.objs.size) >>= _) _ _ _
    refine wpAny_bind ?_
    unfold Builtin.SmallTypes.ownedTupleHandOut
    have hz₆ : IsZipF (h₅.push { cls := .type "tuple", data := .seq #[x, y] }) z TI TO .ellipsis f := Heap.get?_push_of_some _ hz₅
    refine wpAny_bind (wpAny_setField_rec hz₆ (by simp) fun h₇ hz₇ hs₇ => ?_)
    replace hz₇ : IsZipF h₇ z TI TO (rawInt h₅.objs.size) f := hz₇
    refine wpAny_setField_rec hz₇ (by simp) fun h₈ hz₈ hs₈ => ?_
    replace hz₈ : IsZipF h₈ z TI TO (rawInt h₅.objs.size) false := hz₈
    have up : ∀ c o, c ≠ z → h₅.get? c = some o → h₈.get? c = some o := fun c o c1 e => hs₈.extBut _ _ c1 (hs₇.extBut _ _ c1 (Heap.get?_push_of_some _ e))
    have hT₈ : IsPair h₈ h₅.objs.size x y := hs₈.extBut _ _ (Nat.ne_of_gt hzlt) (hs₇.extBut _ _ (Nat.ne_of_gt hzlt) (Heap.get?_push_size _ rfl))
    have hz8 : h₈.objs.size = h₅.objs.size + 1 := by rw [hs₈.1, hs₇.1, Heap.size_push]
    rw [hsz] at hz₈ hT₈ hz8
    refine wpAny_pure ⟨_, rfl, ?_⟩
    show Q (.ref h₅.objs.size) _
    rw [hsz]
    exact hQ h₈ ⟨_, _, .inr ⟨_, rfl⟩, hz₈⟩ ⟨_, _, up _ _ D.TOz hTO₅⟩ (h1₅.at fun o e => up _ o D.i1z e) (h2₅.at fun o e => up _ o D.i2z e) hT₈ hz8 fun c o c1 c2 c3 c4 e => up c o c1 (hk₅ c o c1 c2 c3 c4 e)
  · simp only [Bool.false_eq_true, if_false]
    refine wpAny_bind ?_
    rw [← Array.forIn_toList]
    simp only [List.forIn_cons, List.forIn_nil]
    refine wpAny_bind (wpAny_bind (wpAny_holding ?_))
    show wpAny _ _ (Builtin.SmallTypes.nextOf (.ref i1) >>= _) _ _ _
    refine wpAny_bind (nextOf_tuple_item (s := { s with heap := h₁ }) (h1.extBut hs₁.extBut D.i1z) (hl1.extBut hs₁.extBut D.l1z) hx fun h₂ h1₂ hs₂ => wpAny_pure ?_)
    refine wpAny_pure ?_
    refine wpAny_bind (wpAny_bind (wpAny_holding ?_))
    show wpAny _ _ (Builtin.SmallTypes.nextOf (.ref i2) >>= _) _ _ _
    refine wpAny_bind (nextOf_tuple_item (s := { s with heap := h₂ }) ((h2.extBut hs₁.extBut D.i2z).extBut hs₂.extBut D.i12.symm) ((hl2.extBut hs₁.extBut D.l2z).extBut hs₂.extBut D.l2i1) hy fun h₃ h2₃ hs₃ => wpAny_pure ?_)
    refine wpAny_pure (wpAny_pure ?_)
    show wpAny _ _ (newTuple [x, y] >>= _) _ _ _
    refine wpAny_bind (wpAny_newTuple ?_)
    have hsz : h₃.objs.size = s.heap.objs.size := by rw [hs₃.1, hs₂.1, hs₁.1]
    have hz₃ : IsZipF h₃ z TI TO f0 true := hs₃.extBut _ _ D.i2z.symm (hs₂.extBut _ _ D.i1z.symm hz₁)
    have hk : ∀ c o, c ≠ z → c ≠ i1 → c ≠ i2 → s.heap.get? c = some o → h₃.get? c = some o := fun c o c1 c2 c3 e => hs₃.extBut _ _ c3 (hs₂.extBut _ _ c2 (hs₁.extBut _ _ c1 e))
    have h1₃ : h₃.IsTupleIter i1 l1 (k1 + 1) := h1₂.extBut hs₃.extBut D.i12
    refine wpAny_pure ⟨_, rfl, ?_⟩
    show Q (.ref h₃.objs.size) _
    have hp : IsPair (h₃.push { cls := .type "tuple", data := .seq #[x, y] }) h₃.objs.size x y := Heap.get?_push_size _ rfl
    have hz4 : (h₃.push { cls := .type "tuple", data := .seq #[x, y] }).objs.size = h₃.objs.size + 1 := Heap.size_push ..
    rw [hsz] at hp hz4 ⊢
    exact hQ _ ⟨_, _, hf, Heap.get?_push_of_some _ hz₃⟩ ⟨_, _, Heap.get?_push_of_some _ (hk _ _ D.TOz D.TOi1 D.TOi2 hTO)⟩ (h1₃.at fun o e => Heap.get?_push_of_some _ e) (h2₃.at fun o e => Heap.get?_push_of_some _ e) hp hz4 fun c o c1 _ c2 c3 e => Heap.get?_push_of_some _ (hk c o c1 c2 c3 e)
/-- nextOf over it -/
theorem nextOf_zipF_item {z TI TO i1 i2 l1 l2 : Addr} {k1 k2 : Nat} {xs ys : Array Value} {x y a b : Value} {Q : Value → Shared → Prop} (D : ZipApart z TI TO i1 i2 l1 l2)
    (hz : IsZ s.heap z TI TO) (hTI : IsPair s.heap TI (.ref i1) (.ref i2)) (hTO : IsPair s.heap TO a b)
    (h1 : s.heap.IsTupleIter i1 l1 k1) (h2 : s.heap.IsTupleIter i2 l2 k2) (hl1 : s.heap.IsTuple l1 xs) (hl2 : s.heap.IsTuple l2 ys) (hx : xs[k1]? = some x) (hy : ys[k2]? = some y)
    (hQ : ∀ h', IsZ h' z TI TO → (∃ a b, IsPair h' TO a b) → h'.IsTupleIter i1 l1 (k1 + 1) → h'.IsTupleIter i2 l2 (k2 + 1) → IsPair h' s.heap.objs.size x y → h'.objs.size = s.heap.objs.size + 1 →
      (∀ c o, c ≠ z → c ≠ TO → c ≠ i1 → c ≠ i2 → s.heap.get? c = some o → h'.get? c = some o) → Q (.ref s.heap.objs.size) { s with heap := h' }) :
    wpAny (model prog w) A (Builtin.SmallTypes.nextOf (.ref z)) Q E s := by
  have hT : s.TypeIs (.ref z) "zip" := by
    obtain ⟨f0, f, _, h⟩ := hz
    exact ⟨_, h, rfl⟩
  unfold Builtin.SmallTypes.nextOf
  exact wpAny_bind (wpAny_callSpecial?_slot (name := Str.ofString "__next__") hT F.slot_zip_next
    (wpAny_call_entry F.slot_zip_next hT F.entry_zip_next (zipF_next_item D hz hTI hTO h1 h2 hl1 hl2 hx hy fun h' a1 a2 a3 a4 a5 a6 a7 => wpAny_pure (hQ h' a1 a2 a3 a4 a5 a6 a7)) (F.args_zip_next_1 _)))
end
end EZ
/-! EZ2: enumerate over a zip of two tuples. -/
namespace EZ
open PySem
open PySem.Sem (wp)
open RZ
section
variable {prog : Program} {w : World} {A : Around} {E : Value → Shared → Prop} {s : Shared}
theorem zipF_next_end {z TI TO i1 i2 l1 l2 : Addr} {k1 k2 : Nat} {xs ys : Array Value} {a b : Value} {Q : Fin → Shared → Prop} (hh : A.handled = none) (D : ZipApart z TI TO i1 i2 l1 l2)
    (hz : IsZ s.heap z TI TO) (hTI : IsPair s.heap TI (.ref i1) (.ref i2)) (hTO : IsPair s.heap TO a b)
    (h1 : s.heap.IsTupleIter i1 l1 k1) (h2 : s.heap.IsTupleIter i2 l2 k2) (hl1 : s.heap.IsTuple l1 xs) (hl2 : s.heap.IsTuple l2 ys) (hend : xs[k1]? = none ∨ ys[k2]? = none)
    (hE : ∀ h' e, (∀ c o, c ≠ z → c ≠ TO → c ≠ i1 → c ≠ i2 → s.heap.get? c = some o → h'.get? c = some o) → (∃ o, h'.get? e = some o ∧ o.cls = .type "StopIteration") → E (.ref e) { s with heap := h' }) :
    wpAny (model prog w) A (Builtin.«zip.__next__» ⟨[.ref z], []⟩) Q E s := by
  obtain ⟨f0, f, hf, hz⟩ := hz
  show wpAny _ _ (field (.ref z) 2 >>= _) _ _ _
  refine wpAny_bind (wpAny_field hz rfl (x := .bool false) rfl ?_)
  show wpAny _ _ (field (.ref z) 3 >>= _) _ _ _
  refine wpAny_bind (wpAny_field hz rfl (x := .ref TI) rfl ?_)
  refine wpAny_bind (wpAny_seqItems hTI rfl ?_)
  show wpAny _ _ (Builtin.SmallTypes.ownedTupleIsFree (.ref z) >>= _) _ _ _
  refine wpAny_bind (tupleFree_zip hz hf ?_ fun h₁ hz₁ hs₁ => ?_)
  · simp only [if_true]
    refine wpAny_bind (wpAny_rule ?_)
    refine wpAny_bind (wpAny_field hz rfl (x := .ref TO) rfl ?_)
    refine wpAny_bind (wpAny_setField_rec hz (by simp) fun h₁ hz₁ hs₁ => ?_)
    replace hz₁ : IsZipF h₁ z TI TO .ellipsis f := hz₁
    refine wpAny_bind ?_
    simp only [List.zipIdx_cons, List.zipIdx_nil, List.forIn_cons, List.forIn_nil]
    refine wpAny_bind (wpAny_bind (wpAny_onRaise ?_))
    show wpAny _ _ (Builtin.SmallTypes.nextOf (.ref i1) >>= _) _ _ _
    cases hx : xs[k1]? with
    | none =>
      refine wpAny_bind (nextOf_tuple_end hh (h1.extBut hs₁.extBut D.i1z) (hl1.extBut hs₁.extBut D.l1z) hx fun h₂ e hs₂ he => ?_)
      obtain ⟨oe, hoe, hce⟩ := he
      have hz₂ : IsZipF h₂ z TI TO .ellipsis f := hs₂ _ _ D.i1z.symm hz₁
      have hez : e ≠ z := fun x => by subst x; rw [hz₂] at hoe; cases hoe; simp at hce
      refine wpAny_setField_rec hz₂ (by simp) fun h₃ _ hs₃ => hE h₃ e (fun c o c1 _ c3 _ x => hs₃.extBut _ _ c1 (hs₂ _ _ c3 (hs₁.extBut _ _ c1 x))) ⟨oe, hs₃.extBut _ _ hez hoe, hce⟩
    | some x =>
      have hy : ys[k2]? = none := by rcases hend with h | h; rw [hx] at h; cases h; exact h
      refine wpAny_bind (nextOf_tuple_item (h1.extBut hs₁.extBut D.i1z) (hl1.extBut hs₁.extBut D.l1z) hx fun h₂ h1₂ hs₂ => wpAny_pure ?_)
      have hTO₂ : IsPair h₂ TO a b := hs₂.extBut _ _ D.TOi1 (hs₁.extBut _ _ D.TOz hTO)
      refine wpAny_bind (wpAny_seqItems hTO₂ rfl ?_)
      refine wpAny_bind (wpAny_updateSeq_pair hTO₂ fun h₃ hTO₃ hs₃ => ?_)
      refine wpAny_bind (wpAny_letGo (wpAny_pure ?_))
      refine wpAny_bind (wpAny_bind (wpAny_onRaise ?_))
      show wpAny _ _ (Builtin.SmallTypes.nextOf (.ref i2) >>= _) _ _ _
      refine wpAny_bind (nextOf_tuple_end hh (((h2.extBut hs₁.extBut D.i2z).extBut hs₂.extBut D.i12.symm).extBut hs₃.extBut D.TOi2.symm)
        (((hl2.extBut hs₁.extBut D.l2z).extBut hs₂.extBut D.l2i1).extBut hs₃.extBut D.l2TO) hy fun h₄ e hs₄ he => ?_)
      obtain ⟨oe, hoe, hce⟩ := he
      have hz₄ : IsZipF h₄ z TI TO .ellipsis f := hs₄ _ _ D.i2z.symm (hs₃.extBut _ _ D.TOz.symm (hs₂.extBut _ _ D.i1z.symm hz₁))
      have hez : e ≠ z := fun x => by subst x; rw [hz₄] at hoe; cases hoe; simp at hce
      refine wpAny_setField_rec hz₄ (by simp) fun h₅ _ hs₅ => hE h₅ e (fun c o c1 c2 c3 c4 x => hs₅.extBut _ _ c1 (hs₄ _ _ c4 (hs₃.extBut _ _ c2 (hs₂.extBut _ _ c3 (hs₁.extBut _ _ c1 x))))) ⟨oe, hs₅.extBut _ _ hez hoe, hce⟩
  · simp only [Bool.false_eq_true, if_false]
    refine wpAny_bind ?_
    rw [← Array.forIn_toList]
    simp only [List.forIn_cons, List.forIn_nil]
    refine wpAny_bind (wpAny_bind (wpAny_holding ?_))
    show wpAny _ _ (Builtin.SmallTypes.nextOf (.ref i1) >>= _) _ _ _
    cases hx : xs[k1]? with
    | none =>
      refine wpAny_bind (nextOf_tuple_end (s := { s with heap := h₁ }) hh (h1.extBut hs₁.extBut D.i1z) (hl1.extBut hs₁.extBut D.l1z) hx fun h₂ e hs₂ he => ?_)
      exact hE h₂ e (fun c o c1 _ c2 _ x => hs₂ _ _ c2 (hs₁.extBut _ _ c1 x)) he
    | some x =>
      have hy : ys[k2]? = none := by rcases hend with h | h; rw [hx] at h; cases h; exact h
      refine wpAny_bind (nextOf_tuple_item (s := { s with heap := h₁ }) (h1.extBut hs₁.extBut D.i1z) (hl1.extBut hs₁.extBut D.l1z) hx fun h₂ h1₂ hs₂ => wpAny_pure ?_)
      refine wpAny_pure ?_
      refine wpAny_bind (wpAny_bind (wpAny_holding ?_))
      show wpAny _ _ (Builtin.SmallTypes.nextOf (.ref i2) >>= _) _ _ _
      refine wpAny_bind (nextOf_tuple_end (s := { s with heap := h₂ }) hh ((h2.extBut hs₁.extBut D.i2z).extBut hs₂.extBut D.i12.symm) ((hl2.extBut hs₁.extBut D.l2z).extBut hs₂.extBut D.l2i1) hy fun h₃ e hs₃ he => ?_)
      exact hE h₃ e (fun c o c1 _ c2 c3 x => hs₃ _ _ c3 (hs₂.extBut _ _ c2 (hs₁.extBut _ _ c1 x))) he
theorem nextOf_zipF_end {z TI TO i1 i2 l1 l2 : Addr} {k1 k2 : Nat} {xs ys : Array Value} {a b : Value} {Q : Value → Shared → Prop} (hh : A.handled = none) (D : ZipApart z TI TO i1 i2 l1 l2)
    (hz : IsZ s.heap z TI TO) (hTI : IsPair s.heap TI (.ref i1) (.ref i2)) (hTO : IsPair s.heap TO a b)
    (h1 : s.heap.IsTupleIter i1 l1 k1) (h2 : s.heap.IsTupleIter i2 l2 k2) (hl1 : s.heap.IsTuple l1 xs) (hl2 : s.heap.IsTuple l2 ys) (hend : xs[k1]? = none ∨ ys[k2]? = none)
    (hE : ∀ h' e, (∀ c o, c ≠ z → c ≠ TO → c ≠ i1 → c ≠ i2 → s.heap.get? c = some o → h'.get? c = some o) → (∃ o, h'.get? e = some o ∧ o.cls = .type "StopIteration") → E (.ref e) { s with heap := h' }) :
    wpAny (model prog w) A (Builtin.SmallTypes.nextOf (.ref z)) Q E s := by
  have hT : s.TypeIs (.ref z) "zip" := by
    obtain ⟨f0, f, _, h⟩ := hz
    exact ⟨_, h, rfl⟩
  unfold Builtin.SmallTypes.nextOf
  exact wpAny_bind (wpAny_callSpecial?_slot (name := Str.ofString "__next__") hT F.slot_zip_next
    (wpAny_call_entry F.slot_zip_next hT F.entry_zip_next (zipF_next_end hh D hz hTI hTO h1 h2 hl1 hl2 hend hE) (F.args_zip_next_1 _)))

theorem enumZ_next_item {e z TI TO i1 i2 l1 l2 : Addr} {i : Nat} {xs ys : Array Value} {x y a b old : Value} {Q : Value → Shared → Prop} (D : ZipApart z TI TO i1 i2 l1 l2)
    (he : IsEnum s.heap e z i old) (hez : e ≠ z) (heTO : e ≠ TO) (hei1 : e ≠ i1) (hei2 : e ≠ i2)
    (hz : IsZ s.heap z TI TO) (hTI : IsPair s.heap TI (.ref i1) (.ref i2)) (hTO : IsPair s.heap TO a b)
    (h1 : s.heap.IsTupleIter i1 l1 i) (h2 : s.heap.IsTupleIter i2 l2 i) (hl1 : s.heap.IsTuple l1 xs) (hl2 : s.heap.IsTuple l2 ys) (hx : xs[i]? = some x) (hy : ys[i]? = some y)
    (hQ : ∀ h₁ h' tk, IsZ h₁ z TI TO → (∃ a b, IsPair h₁ TO a b) → h₁.IsTupleIter i1 l1 (i + 1) → h₁.IsTupleIter i2 l2 (i + 1) → IsPair h₁ s.heap.objs.size x y → h₁.objs.size = s.heap.objs.size + 1 →
      (∀ c o, c ≠ z → c ≠ TO → c ≠ i1 → c ≠ i2 → s.heap.get? c = some o → h₁.get? c = some o) →
      IsEnumOut h' e z ((i : Int) + 1) (.ref s.heap.objs.size) h₁.objs.size → h'.get? h₁.objs.size = some { cls := .type "tuple", data := .seq #[.int i tk, .ref s.heap.objs.size] } → h'.objs.size = h₁.objs.size + 1 →
      (∀ c o, c ≠ e → h₁.get? c = some o → h'.get? c = some o) → Q (.ref h₁.objs.size) { s with heap := h', toks := tk + 1 }) :
    wpAny (model prog w) A (Builtin.«enumerate.__next__» ⟨[.ref e], []⟩) (fun fin s' => ∃ v, fin = .done (.ret v) ∧ Q v s') E s := by
  obtain ⟨hp, g, d, tk, os⟩ := s
  show wpAny _ _ (field (.ref e) 2 >>= _) _ _ _
  refine wpAny_bind (wpAny_field he rfl (x := .ref z) rfl ?_)
  refine wpAny_bind (nextOf_zipF_item D hz hTI hTO h1 h2 hl1 hl2 hx hy fun h₁ b1 b2 b3 b4 b5 b6 b7 => ?_)
  have he₁ : IsEnum h₁ e z i old := b7 _ _ hez heTO hei1 hei2 he
  show wpAny _ _ (field (.ref e) 3 >>= _) _ _ ⟨h₁, g, d, tk, os⟩
  refine wpAny_bind (wpAny_field he₁ rfl (x := rawInt i) rfl ?_)
  show wpAny _ _ (field (.ref e) 4 >>= _) _ _ ⟨h₁, g, d, tk, os⟩
  refine wpAny_bind (wpAny_field he₁ rfl (x := .none) rfl ?_)
  show wpAny _ _ (mkInt i >>= _) _ _ ⟨h₁, g, d, tk, os⟩
  refine wpAny_bind (wpAny_mkInt ?_)
  show wpAny _ _ (setField (.ref e) 3 (rawInt ((i : Int) + 1)) >>= _) _ _ ⟨h₁, g, d, tk + 1, os⟩
  refine wpAny_bind (wpAny_setField_rec he₁ (by simp) fun h₂ he₂ hs₂ => ?_)
  replace hs₂ : Heap.SameBut e h₁ h₂ := hs₂
  replace he₂ : IsEnum h₂ e z ((i : Int) + 1) old := he₂
  show wpAny _ _ (setField (.ref e) 4 .none >>= _) _ _ ⟨h₂, g, d, tk + 1, os⟩
  refine wpAny_bind (wpAny_setField_rec he₂ (by simp) fun h₃ he₃ hs₃ => ?_)
  replace hs₃ : Heap.SameBut e h₂ h₃ := hs₃
  replace he₃ : IsEnum h₃ e z ((i : Int) + 1) old := he₃
  show wpAny _ _ (newTuple [.int i tk, .ref hp.objs.size] >>= _) _ _ ⟨h₃, g, d, tk + 1, os⟩
  refine wpAny_bind (wpAny_newTuple ?_)
  have he₄ : IsEnum (h₃.push { cls := .type "tuple", data := .seq #[.int i tk, .ref hp.objs.size] }) e z ((i : Int) + 1) old := Heap.get?_push_of_some _ he₃
  generalize hh₄ : h₃.push { cls := .type "tuple", data := .seq #[.int i tk, .ref hp.objs.size] } = h₄ at he₄
  have hsz : h₃.objs.size = h₁.objs.size := by rw [hs₃.1, hs₂.1]
  have hel : e < h₁.objs.size := Heap.lt_size he₁
  have ht₄ : h₄.get? h₁.objs.size = some { cls := .type "tuple", data := .seq #[.int i tk, .ref hp.objs.size] } := by rw [← hh₄, ← hsz]; exact Heap.get?_push_size _ rfl
  have hz₄ : h₄.objs.size = h₁.objs.size + 1 := by rw [← hh₄, Heap.size_push, hsz]
  have hk₄ : ∀ b o, b ≠ e → h₁.get? b = some o → h₄.get? b = some o := fun b o hbe hb => by
    rw [← hh₄]; exact Heap.get?_push_of_some _ (hs₃.extBut b o hbe (hs₂.extBut b o hbe hb))
  show wpAny _ _ (Builtin.SmallTypes.ownedTupleIsFree (.ref e) >>= _) _ _ ⟨h₄, g, d, tk + 1, os⟩
  rw [hsz]
  clear hh₄ he₃ hs₃ he₂ hs₂ hsz h₃ h₂
  refine wpAny_bind ?_
  · unfold Builtin.SmallTypes.ownedTupleIsFree
    refine wpAny_bind (wpAny_field he₄ rfl (x := .none) rfl (wpAny_pure ?_))
    simp only [if_true]
    refine wpAny_bind (wpAny_rule ?_)
    refine wpAny_bind (wpAny_field he₄ rfl (x := old) rfl ?_)
    refine wpAny_bind (wpAny_setField_rec he₄ (by simp) fun h₅ he₅ hs₅ => ?_)
    replace hs₅ : Heap.SameBut e h₄ h₅ := hs₅
    replace he₅ : IsEnum h₅ e z ((i : Int) + 1) (.ref hp.objs.size) := he₅
    show wpAny _ _ (Builtin.SmallTypes.ownedTupleHandOut (.ref e) (.ref h₁.objs.size) >>= _) _ _ ⟨h₅, g, d, tk + 1, os⟩
    refine wpAny_bind ?_
    · unfold Builtin.SmallTypes.ownedTupleHandOut
      refine wpAny_bind (wpAny_setField_rec he₅ (by simp) fun h₆ he₆ hs₆ => ?_)
      replace hs₆ : Heap.SameBut e h₅ h₆ := hs₆
      replace he₆ : IsEnumOut h₆ e z ((i : Int) + 1) (.ref hp.objs.size) h₁.objs.size := he₆
      refine wpAny_setField_rec he₆ (by simp) fun h₇ he₇ hs₇ => ?_
      replace hs₇ : Heap.SameBut e h₆ h₇ := hs₇
      replace he₇ : IsEnumOut h₇ e z ((i : Int) + 1) (.ref hp.objs.size) h₁.objs.size := he₇
      refine wpAny_bind (wpAny_letGo (wpAny_pure ⟨_, rfl, hQ h₁ h₇ tk b1 b2 b3 b4 b5 b6 b7 he₇ ?_ ?_ ?_⟩))
      · exact hs₇.extBut _ _ (Nat.ne_of_gt hel) (hs₆.extBut _ _ (Nat.ne_of_gt hel) (hs₅.extBut _ _ (Nat.ne_of_gt hel) ht₄))
      · rw [hs₇.1, hs₆.1, hs₅.1, hz₄]
      · exact fun b o hbe hb => hs₇.extBut b o hbe (hs₆.extBut b o hbe (hs₅.extBut b o hbe (hk₄ b o hbe hb)))
theorem pyNext_enumZ_item {e z TI TO i1 i2 l1 l2 : Addr} {i : Nat} {xs ys : Array Value} {x y a b old : Value} {Q : Option Value → Shared → Prop} (D : ZipApart z TI TO i1 i2 l1 l2)
    (he : IsEnum s.heap e z i old) (hez : e ≠ z) (heTO : e ≠ TO) (hei1 : e ≠ i1) (hei2 : e ≠ i2)
    (hz : IsZ s.heap z TI TO) (hTI : IsPair s.heap TI (.ref i1) (.ref i2)) (hTO : IsPair s.heap TO a b)
    (h1 : s.heap.IsTupleIter i1 l1 i) (h2 : s.heap.IsTupleIter i2 l2 i) (hl1 : s.heap.IsTuple l1 xs) (hl2 : s.heap.IsTuple l2 ys) (hx : xs[i]? = some x) (hy : ys[i]? = some y)
    (hQ : ∀ h₁ h' tk, IsZ h₁ z TI TO → (∃ a b, IsPair h₁ TO a b) → h₁.IsTupleIter i1 l1 (i + 1) → h₁.IsTupleIter i2 l2 (i + 1) → IsPair h₁ s.heap.objs.size x y → h₁.objs.size = s.heap.objs.size + 1 →
      (∀ c o, c ≠ z → c ≠ TO → c ≠ i1 → c ≠ i2 → s.heap.get? c = some o → h₁.get? c = some o) →
      IsEnumOut h' e z ((i : Int) + 1) (.ref s.heap.objs.size) h₁.objs.size → h'.get? h₁.objs.size = some { cls := .type "tuple", data := .seq #[.int i tk, .ref s.heap.objs.size] } → h'.objs.size = h₁.objs.size + 1 →
      (∀ c o, c ≠ e → h₁.get? c = some o → h'.get? c = some o) → Q (some (.ref h₁.objs.size)) { s with heap := h', toks := tk + 1 }) :
    wpAny (model prog w) A (pyNext (.ref e)) Q E s := by
  have hT : s.TypeIs (.ref e) "enumerate" := ⟨_, he, rfl⟩
  unfold pyNext
  exact wpAny_bind (wpAny_attempt (wpAny_callSpecial?_slot (name := Str.ofString "__next__") hT F.slot_enumerate_next
    (wpAny_call_entry F.slot_enumerate_next hT F.entry_enumerate_next
      (enumZ_next_item D he hez heTO hei1 hei2 hz hTI hTO h1 h2 hl1 hl2 hx hy fun h₁ h' tk c1 c2 c3 c4 c5 c6 c7 c8 c9 c10 c11 => wpAny_pure (hQ h₁ h' tk c1 c2 c3 c4 c5 c6 c7 c8 c9 c10 c11)) (F.args_enumerate_next_1 _))))
theorem pyNext_enumZ_end {e z TI TO i1 i2 l1 l2 : Addr} {i : Int} {k : Nat} {xs ys : Array Value} {a b old : Value} {Q : Option Value → Shared → Prop} (hh : A.handled = none) (D : ZipApart z TI TO i1 i2 l1 l2)
    (he : IsEnum s.heap e z i old) (hz : IsZ s.heap z TI TO) (hTI : IsPair s.heap TI (.ref i1) (.ref i2)) (hTO : IsPair s.heap TO a b)
    (h1 : s.heap.IsTupleIter i1 l1 k) (h2 : s.heap.IsTupleIter i2 l2 k) (hl1 : s.heap.IsTuple l1 xs) (hl2 : s.heap.IsTuple l2 ys) (hend : xs[k]? = none ∨ ys[k]? = none)
    (hQ : ∀ h', (∀ c o, c ≠ z → c ≠ TO → c ≠ i1 → c ≠ i2 → s.heap.get? c = some o → h'.get? c = some o) → Q none { s with heap := h' }) : wpAny (model prog w) A (pyNext (.ref e)) Q E s := by
  have hT : s.TypeIs (.ref e) "enumerate" := ⟨_, he, rfl⟩
  unfold pyNext
  refine wpAny_bind (wpAny_attempt (wpAny_callSpecial?_slot (name := Str.ofString "__next__") hT F.slot_enumerate_next
    (wpAny_call_entry F.slot_enumerate_next hT F.entry_enumerate_next ?_ (F.args_enumerate_next_1 _))))
  show wpAny _ _ (field (.ref e) 2 >>= _) _ _ _
  refine wpAny_bind (wpAny_field he rfl (x := .ref z) rfl ?_)
  refine wpAny_bind (nextOf_zipF_end hh D hz hTI hTO h1 h2 hl1 hl2 hend fun h' x hk hx' => ?_)
  obtain ⟨o, ho, hc⟩ := hx'
  refine wpAny_bind (wpAny_isInstance (T := "StopIteration") (b := true) ⟨o, ho, hc⟩ isSubtype_stop ?_)
  exact wpAny_pure (hQ _ hk)
end
open AutoSeq1 (wpAny_loadPart')
/-- enumerate of a fresh zip -/
theorem meets_enumerate_newZ (z TI TO : Addr) :
    Meets (Builtin.«enumerate.__new__» ⟨[.type "enumerate", .ref z], []⟩) (fun _ R s => IsZip s.heap z TI TO .none ∧
      R (.ok (.ret (.ref s.heap.objs.size))) { s with heap := s.heap.push { cls := .type "enumerate", data := .fields #[.none, .bool false, .ref z, rawInt 0, .none, .none] } }) :=
  .of_wp fun prog w A R s h => by
    obtain ⟨hp, g, d, tk, os⟩ := s; obtain ⟨hl, h⟩ := h
    have hsub := sub_enumerate
    wp_walk using wpAny_loadPart' hl
    refine wpAny_stack_any fun st => wpAny_pure ?_
    split
    · rename_i c _ _ _ _ _
      cases (c == Value.type "enumerate")
      · wp_walk using wpAny_loadPart' hl, wpAny_pyIter_zip hl
        exact ⟨_, rfl, h⟩
      · wp_walk using wpAny_loadPart' hl, wpAny_pyIter_zip hl
        exact ⟨_, rfl, h⟩
    · wp_walk using wpAny_loadPart' hl, wpAny_pyIter_zip hl
      exact ⟨_, rfl, h⟩
theorem meets_enumerate_newT (l : Addr) (items : Array Value) (n : Nat) (dct : Option Addr) (sl : Array (Option Value)) :
    Meets (Builtin.«enumerate.__new__» ⟨[.type "enumerate", .ref l], []⟩) (fun _ R s => s.heap.get? l = some { cls := .type "tuple", dict := dct, data := .seq items n, slots := sl } ∧
      R (.ok (.ret (.ref (s.heap.push { cls := .type "tuple_iterator", data := .fields #[.ref l, .int 0 0] }).objs.size)))
        { s with heap := (s.heap.push { cls := .type "tuple_iterator", data := .fields #[.ref l, .int 0 0] }).push { cls := .type "enumerate", data := .fields #[.none, .bool false, .ref s.heap.objs.size, rawInt 0, .none, .none] } }) :=
  .of_wp fun prog w A R s h => by
    obtain ⟨hp, g, d, tk, os⟩ := s; obtain ⟨hl, h⟩ := h
    have hsub := sub_enumerate
    have hL : Heap.IsTuple (Shared.heap ⟨hp, g, d, tk, os⟩) l items := ⟨_, hl, rfl, n, rfl⟩
    wp_walk using wpAny_loadPart' hl
    refine wpAny_stack_any fun st => wpAny_pure ?_
    split
    · rename_i c _ _ _ _ _
      cases (c == Value.type "enumerate")
      · wp_walk using wpAny_loadPart' hl, wpAny_pyIter_tuple hL
        exact ⟨_, rfl, h⟩
      · wp_walk using wpAny_loadPart' hl, wpAny_pyIter_tuple hL
        exact ⟨_, rfl, h⟩
    · wp_walk using wpAny_loadPart' hl, wpAny_pyIter_tuple hL
      exact ⟨_, rfl, h⟩
section
variable {prog : Program} {w : World} {A : Around} {E : Value → Shared → Prop} {s : Shared}
theorem call_enumerate_tuple {l : Addr} {items : Array Value} {Q : Value → Shared → Prop} (hL : s.heap.IsTuple l items)
    (h : ∀ h', IsEnum h' (s.heap.objs.size + 1) s.heap.objs.size 0 .none → h'.IsTupleIter s.heap.objs.size l 0 → h'.objs.size = s.heap.objs.size + 2 →
      (∀ b o, s.heap.get? b = some o → h'.get? b = some o) → Q (.ref (s.heap.objs.size + 1)) { s with heap := h' }) :
    wpAny (model prog w) A (call (.type "enumerate") [.ref l]) Q E s := by
  obtain ⟨⟨c, dct, dt, sl⟩, hl, hc, n, hd⟩ := hL
  replace hc : c = .type "tuple" := hc
  replace hd : dt = .seq items n := hd
  subst hc hd
  refine callType_new F.called_enumerate (by decide) (F.typeCall_enumerate_1 _) (F.newCall_enumerate_1 _) (fun obj => F.args_object_init_2 obj _) F.entry_enumerate_new
    (meets_enumerate_newT l items n dct sl) ⟨hl, ?_⟩
  have hz : (s.heap.push { cls := .type "tuple_iterator", data := .fields #[.ref l, .int 0 0] }).objs.size = s.heap.objs.size + 1 := Heap.size_push ..
  show _ ∧ _
  rw [hz]
  have he : IsEnum ((s.heap.push { cls := .type "tuple_iterator", data := .fields #[.ref l, .int 0 0] }).push
      { cls := .type "enumerate", data := .fields #[.none, .bool false, .ref s.heap.objs.size, rawInt 0, .none, .none] }) (s.heap.objs.size + 1) s.heap.objs.size 0 .none := by
    have := Heap.get?_push_size (s.heap.push { cls := .type "tuple_iterator", data := .fields #[.ref l, .int 0 0] })
      (o := { cls := .type "enumerate", data := .fields #[.none, .bool false, .ref s.heap.objs.size, rawInt 0, .none, .none] }) rfl
    rw [hz] at this; exact this
  refine ⟨⟨_, he, rfl⟩, h _ he ⟨_, Heap.get?_push_of_some _ (Heap.get?_push_size _ rfl), rfl, rfl⟩ (by rw [Heap.size_push, hz]) fun b o x => Heap.get?_push_of_some _ (Heap.get?_push_of_some _ x)⟩
theorem call_enumerate_zip {z TI TO : Addr} {Q : Value → Shared → Prop} (hz : IsZip s.heap z TI TO .none)
    (h : ∀ h', IsEnum h' s.heap.objs.size z 0 .none → (∀ b o, s.heap.get? b = some o → h'.get? b = some o) → Q (.ref s.heap.objs.size) { s with heap := h' }) :
    wpAny (model prog w) A (call (.type "enumerate") [.ref z]) Q E s := by
  refine callType_new F.called_enumerate (by decide) (F.typeCall_enumerate_1 _) (F.newCall_enumerate_1 _) (fun obj => F.args_object_init_2 obj _) F.entry_enumerate_new
    (meets_enumerate_newZ z TI TO) ⟨hz, ?_⟩
  have he : IsEnum (s.heap.push { cls := .type "enumerate", data := .fields #[.none, .bool false, .ref z, rawInt 0, .none, .none] }) s.heap.objs.size z 0 .none := Heap.get?_push_size _ rfl
  exact ⟨⟨_, he, rfl⟩, h _ he fun b o x => Heap.get?_push_of_some _ x⟩
end
end EZ
/-! EZ3: for over enumerate(t), enumerate(zip(t, u)) of tuples. -/
namespace EZ
open PySem PySem.Spec PyProof.Rows L2
/-- the tuple at a, each item in a new pair -/
def IteT (K : PySem.W.Frag) (a : Addr) : It :=
  ⟨fun i H => ∃ (xs : List V) (x : V), SqT K H a xs ∧ xs[i]? = some x, fun i H v H' => ∃ T x, v = .ref T ∧ H T = none ∧ H' = upd H T (.tup [.int (i : Nat), x]) ∧ ∀ xs, SqT K H a xs → xs[i]? = some x, fun i H => ∃ xs : List V, SqT K H a xs ∧ xs.length ≤ i⟩
theorem turn_enumT {P : Program} {w : World} {K : PySem.W.Frag} {elts : List Expr} {kk : Nat} {tpos : Pos} (a e it : Addr) (hai : a ≠ it) :
    Turn P w K (.Tuple elts kk tpos) (IteT K a) [e, it] e (fun i h => (∃ old, IsEnum h e it ((i : Nat) : Int) old) ∧ h.IsTupleIter it a i ∧ e ≠ it) where
  mem := by simp
  obj := fun i h st b hb => by
    obtain ⟨⟨old, he⟩, ⟨o, ho, hc, hd⟩, _⟩ := st
    have e' : b = e ∨ b = it := by simpa using hb
    rcases e' with z | z
    · rw [z]; exact ⟨_, he, fun v q => nomatch q⟩
    · rw [z]; exact ⟨o, ho, fun v q => by rw [hd] at q; cases q⟩
  keep := fun i h h' st k => let ⟨⟨old, he⟩, hi, hne⟩ := st; ⟨⟨old, k e (by simp) _ he⟩, hi.at fun o q => k it (by simp) o q, hne⟩
  item := by
    intro X hP hw hK hc i pins s σ H E I hf st hg
    subst hP hw hK
    obtain ⟨⟨old, he⟩, hit, hne⟩ := st
    obtain ⟨xs, x, hq, hx⟩ := hg
    obtain ⟨its, rv, p, hz⟩ := I.tuple hq
    obtain ⟨u, hu, ru⟩ := rv.get hx
    have pt : s.heap.IsTuple a its.toArray := p
    have hea : e ≠ a := fun z => by
      subst z
      obtain ⟨o, ho, hc', _⟩ := pt
      rw [he] at ho
      cases ho
      simp at hc'
    have hel : e < s.heap.objs.size := Heap.lt_size he
    have hil : it < s.heap.objs.size := by obtain ⟨_, q, _⟩ := hit; exact Heap.lt_size q
    have hlt : i < its.toArray.size := by
      have h1 := (List.getElem?_eq_some_iff.mp hu).1
      simpa using h1
    refine wpAny_pyNext_enum_itemD (Draws.tuple (A := X.A.in1) (I.ok.hd hc) it a hai its.toArray) he ⟨hit, pt⟩ hlt hne (by simp [hne, hea]) fun y h' tk hy ho hit' hT hsz hk => ?_
    have ey : y = u := by
      rw [List.getElem?_toArray, hu] at hy
      exact (Option.some.inj hy).symm
    subst ey
    refine ⟨_, rfl, wpAny_letOwnedTupleGo_enum (s := { s with heap := h', toks := tk + 1 }) ho fun h'' he' sb => ?_⟩
    have hT2 : h''.get? s.heap.objs.size = some { cls := .type "tuple", data := .seq #[.int i tk, y] } := (sb.2 _ (Nat.ne_of_gt hel)).trans hT
    have new : ObjOk X.prog X.w (upd H s.heap.objs.size (.tup [.int (i : Nat), x])) h'' s.heap.objs.size (.tup [.int (i : Nat), x]) :=
      ⟨by show 2 ≤ sizeLine; decide, [.int i tk, y], .cons ⟨_, rfl⟩ (.cons ru .nil), ⟨_, hT2, rfl, _, rfl⟩⟩
    have I1 : Inv X pins σ (upd H s.heap.objs.size (.tup [.int (i : Nat), x])) { s with heap := h'', toks := tk + 1 } :=
      I.turnedNew (ch := [e, it]) (fun b ob hb q => (sb.2 b (fun z => hb (by simp [z]))).trans (hk b ob (fun z => hb (by simp [z])) (fun z => hb (by simp [z])) q)) hf (Nat.le_refl _) new
    refine ⟨.ref s.heap.objs.size, _, I1, rfl, ⟨_, x, rfl, I.hok.fresh (Nat.le_refl _), rfl, fun ys hy => by rw [I.tuple_inj hy hq]; exact hx⟩, ⟨⟨y, ?_⟩, hit'.1.at fun o q => (sb.2 it (Ne.symm hne)).trans q, hne⟩, fun b hb => ?_⟩
    · have e1 : ((i + 1 : Nat) : Int) = (i : Int) + 1 := by omega
      rw [e1]; exact he'
    · have hb' : b < s.heap.objs.size := by
        have e' : b = e ∨ b = it := by simpa using hb
        rcases e' with z | z
        · rw [z]; exact hel
        · rw [z]; exact hil
      rw [upd_ne (Nat.ne_of_lt hb')]
      exact (hf b hb).1
  done := by
    intro X hP hw hK hc i pins s σ H E I hf st hg
    subst hP hw hK
    obtain ⟨⟨old, he⟩, hit, hne⟩ := st
    obtain ⟨xs, hq, hx⟩ := hg
    obtain ⟨its, rv, p, hz⟩ := I.tuple hq
    obtain ⟨f0, f1, f2, f3, f4, f5⟩ := hf it (by simp)
    have hl := rv.length
    have hT : s.TypeIs (.ref e) "enumerate" := ⟨_, he, rfl⟩
    unfold pyNext
    refine wpAny_bind (wpAny_attempt (wpAny_callSpecial?_slot (name := Str.ofString "__next__") hT PySem.F.slot_enumerate_next
      (wpAny_call_entry PySem.F.slot_enumerate_next hT PySem.F.entry_enumerate_next ?_ (PySem.F.args_enumerate_next_1 _))))
    show wpAny _ _ (field (.ref e) 2 >>= _) _ _ _
    refine wpAny_bind (wpAny_field he rfl (x := .ref it) rfl ?_)
    refine wpAny_bind (RZ.nextOf_tuple_end (items := its.toArray) (I.ok.hd hc) hit p (by simp; omega) fun h' x he' hx' => ?_)
    obtain ⟨o, ho, hc⟩ := hx'
    refine wpAny_bind (wpAny_isInstance (T := "StopIteration") (b := true) ⟨o, ho, hc⟩ isSubtype_stop ?_)
    exact wpAny_pure ⟨rfl, I.turned (t' := s.toks) (fun b o hb q => he' b o hb q) f0 f1 f3 f4 f5⟩
  self := fun A i s Q E st h => let ⟨⟨_, he⟩, _⟩ := st; wpAny_pyIter_enum he h
/-- the tuples at a and b, the items in new pairs of pairs -/
def IteZ (K : PySem.W.Frag) (a b : Addr) : It :=
  ⟨fun i H => ∃ (xs ys : List V) (x y : V), SqT K H a xs ∧ SqT K H b ys ∧ xs[i]? = some x ∧ ys[i]? = some y,
    fun i H v H' => ∃ T1 T2 x y, v = .ref T2 ∧ H T1 = none ∧ H T2 = none ∧ T2 ≠ T1 ∧ H' = upd (upd H T1 (.tup [x, y])) T2 (.tup [.int (i : Nat), .ref T1]) ∧ (∀ xs, SqT K H a xs → xs[i]? = some x) ∧ ∀ ys, SqT K H b ys → ys[i]? = some y,
    fun i H => ∃ xs ys : List V, SqT K H a xs ∧ SqT K H b ys ∧ (xs.length ≤ i ∨ ys.length ≤ i)⟩
theorem turn_enumZ {P : Program} {w : World} {K : PySem.W.Frag} {elts : List Expr} {kk : Nat} {tpos : Pos} {a b e z TI TO i1 i2 : Addr} (D : ZipApart z TI TO i1 i2 a b) (hez : e ≠ z) (heTI : e ≠ TI) (heTO : e ≠ TO) (hei1 : e ≠ i1) (hei2 : e ≠ i2) :
    Turn P w K (.Tuple elts kk tpos) (IteZ K a b) [e, z, TI, TO, i1, i2] e (fun i h => (∃ old, IsEnum h e z ((i : Nat) : Int) old) ∧ IsZ h z TI TO ∧ IsPair h TI (.ref i1) (.ref i2) ∧ (∃ x y, IsPair h TO x y) ∧ h.IsTupleIter i1 a i ∧ h.IsTupleIter i2 b i) where
  mem := by simp
  obj := fun i h st c hc => by
    obtain ⟨⟨old, he⟩, ⟨f0, f, _, hz⟩, hTI, ⟨x, y, hTO⟩, ⟨o1, e1, _, d1⟩, ⟨o2, e2, _, d2⟩⟩ := st
    have e' : c = e ∨ c = z ∨ c = TI ∨ c = TO ∨ c = i1 ∨ c = i2 := by simpa using hc
    rcases e' with q | q | q | q | q | q
    · rw [q]; exact ⟨_, he, fun v q => nomatch q⟩
    · rw [q]; exact ⟨_, hz, fun v q => nomatch q⟩
    · rw [q]; exact ⟨_, hTI, fun v q => nomatch q⟩
    · rw [q]; exact ⟨_, hTO, fun v q => nomatch q⟩
    · rw [q]; exact ⟨o1, e1, fun v q => by rw [d1] at q; cases q⟩
    · rw [q]; exact ⟨o2, e2, fun v q => by rw [d2] at q; cases q⟩
  keep := fun i h h' st k => by
    obtain ⟨⟨old, he⟩, ⟨f0, f, hf, hz⟩, hTI, ⟨x, y, hTO⟩, h1, h2⟩ := st
    exact ⟨⟨old, k e (by simp) _ he⟩, ⟨f0, f, hf, k z (by simp) _ hz⟩, k TI (by simp) _ hTI, ⟨x, y, k TO (by simp) _ hTO⟩, h1.at fun o q => k i1 (by simp) o q, h2.at fun o q => k i2 (by simp) o q⟩
  item := by
    intro X hP hw hK hc i pins s σ H E I hf st hg
    subst hP hw hK
    obtain ⟨⟨old, he⟩, hz, hTI, ⟨x0, y0, hTO⟩, h1, h2⟩ := st
    obtain ⟨xs, ys, x, y, hqx, hqy, hx, hy⟩ := hg
    obtain ⟨its, rv, p, _⟩ := I.tuple hqx
    obtain ⟨its2, rv2, p2, _⟩ := I.tuple hqy
    obtain ⟨u, hu, ru⟩ := rv.get hx
    obtain ⟨u2, hu2, ru2⟩ := rv2.get hy
    have hel : e < s.heap.objs.size := Heap.lt_size he
    have hzl : z < s.heap.objs.size := by obtain ⟨_, _, _, q⟩ := hz; exact Heap.lt_size q
    refine pyNext_enumZ_item D he hez heTO hei1 hei2 hz hTI hTO h1 h2 p p2 (x := u) (y := u2) (by simpa using hu) (by simpa using hu2) fun h₁ h' tk c1 c2 c3 c4 c5 c6 c7 c8 c9 c10 c11 => ?_
    -- the zip's part
    have new1 : ObjOk X.prog X.w (upd H s.heap.objs.size (.tup [x, y])) h₁ s.heap.objs.size (.tup [x, y]) :=
      ⟨by show 2 ≤ sizeLine; decide, [u, u2], .cons ru (.cons ru2 .nil), ⟨_, c5, rfl, _, rfl⟩⟩
    have I1 : Inv X pins σ (upd H s.heap.objs.size (.tup [x, y])) { s with heap := h₁ } :=
      I.turnedNew (t' := s.toks) (ch := [e, z, TI, TO, i1, i2]) (fun c o hb q => c7 c o (fun q' => hb (by simp [q'])) (fun q' => hb (by simp [q'])) (fun q' => hb (by simp [q'])) (fun q' => hb (by simp [q'])) q) hf (Nat.le_refl _) new1
    refine ⟨_, rfl, wpAny_letOwnedTupleGo_enum (s := { s with heap := h', toks := tk + 1 }) c8 fun h'' he' sb => ?_⟩
    have hel1 : e < h₁.objs.size := by rw [c6]; exact Nat.lt_succ_of_lt hel
    have hT2 : h''.get? h₁.objs.size = some { cls := .type "tuple", data := .seq #[.int i tk, .ref s.heap.objs.size] } := (sb.2 _ (Nat.ne_of_gt hel1)).trans c9
    have new2 : ObjOk X.prog X.w (upd (upd H s.heap.objs.size (.tup [x, y])) h₁.objs.size (.tup [.int (i : Nat), .ref s.heap.objs.size])) h'' h₁.objs.size (.tup [.int (i : Nat), .ref s.heap.objs.size]) :=
      ⟨by show 2 ≤ sizeLine; decide, [.int i tk, .ref s.heap.objs.size], .cons ⟨_, rfl⟩ (.cons rfl .nil), ⟨_, hT2, rfl, _, rfl⟩⟩
    have fe : ∀ b ∈ [e], FpOk X pins (upd H s.heap.objs.size (.tup [x, y])) b := fun b hb => by
      have eb : b = e := List.mem_singleton.mp hb
      subst eb
      obtain ⟨g0, g⟩ := hf b (by simp)
      exact ⟨by rw [upd_ne (Nat.ne_of_lt hel)]; exact g0, g⟩
    have I2 : Inv X pins σ (upd (upd H s.heap.objs.size (.tup [x, y])) h₁.objs.size (.tup [.int (i : Nat), .ref s.heap.objs.size])) { s with heap := h'', toks := tk + 1 } :=
      I1.turnedNew (t' := tk + 1) (ch := [e]) (fun c o hb q => by
        have hce : c ≠ e := fun q' => hb (by simp [q'])
        exact (sb.2 c hce).trans (c11 c o hce q)) fe (Nat.le_refl _) new2
    have up : ∀ c o, c ≠ e → h₁.get? c = some o → h''.get? c = some o := fun c o hce q => (sb.2 c hce).trans (c11 c o hce q)
    refine ⟨.ref h₁.objs.size, _, I2, rfl, ⟨_, _, x, y, rfl, I.hok.fresh (Nat.le_refl _), I.hok.fresh (by rw [c6]; exact Nat.le_succ _), by rw [c6]; exact Nat.succ_ne_self _, rfl, fun l hl => by rw [I.tuple_inj hl hqx]; exact hx, fun l hl => by rw [I.tuple_inj hl hqy]; exact hy⟩, ⟨⟨.ref s.heap.objs.size, ?_⟩, ?_, ?_, ?_, ?_, ?_⟩, fun c hcm => ?_⟩
    · have e1 : ((i + 1 : Nat) : Int) = (i : Int) + 1 := by omega
      rw [e1]; exact he'
    · obtain ⟨f0, f, hff, hzz⟩ := c1
      exact ⟨f0, f, hff, up _ _ hez.symm hzz⟩
    · exact up _ _ heTI.symm (c7 _ _ D.TIz D.TITO D.TIi1 D.TIi2 hTI)
    · obtain ⟨q1, q2, q3⟩ := c2
      exact ⟨q1, q2, up _ _ heTO.symm q3⟩
    · exact c3.at fun o q => up _ o hei1.symm q
    · exact c4.at fun o q => up _ o hei2.symm q
    · have hlt : c < s.heap.objs.size := by
        have e' : c = e ∨ c = z ∨ c = TI ∨ c = TO ∨ c = i1 ∨ c = i2 := by simpa using hcm
        rcases e' with q | q | q | q | q | q
        · rw [q]; exact hel
        · rw [q]; exact hzl
        · rw [q]; exact Heap.lt_size hTI
        · rw [q]; exact Heap.lt_size hTO
        · rw [q]; obtain ⟨_, e1, _⟩ := h1; exact Heap.lt_size e1
        · rw [q]; obtain ⟨_, e1, _⟩ := h2; exact Heap.lt_size e1
      rw [upd_ne (Nat.ne_of_lt (by rw [c6]; exact Nat.lt_succ_of_lt hlt)), upd_ne (Nat.ne_of_lt hlt)]
      exact (hf c hcm).1
  done := by
    intro X hP hw hK hc i pins s σ H E I hf st hg
    subst hP hw hK
    obtain ⟨⟨old, he⟩, hz, hTI, ⟨x0, y0, hTO⟩, h1, h2⟩ := st
    obtain ⟨xs, ys, hqx, hqy, hend⟩ := hg
    obtain ⟨its, rv, p, _⟩ := I.tuple hqx
    obtain ⟨its2, rv2, p2, _⟩ := I.tuple hqy
    have l1 := rv.length
    have l2 := rv2.length
    have hee : its.toArray[i]? = none ∨ its2.toArray[i]? = none := by
      rcases hend with q | q
      · exact .inl (by simp; omega)
      · exact .inr (by simp; omega)
    exact pyNext_enumZ_end (I.ok.hd hc) D he hz hTI hTO h1 h2 p p2 hee fun h' hk => ⟨rfl, I.turnedL (t' := s.toks) (ch := [e, z, TI, TO, i1, i2]) (fun c o hb q =>
      hk c o (fun q' => hb (by simp [q'])) (fun q' => hb (by simp [q'])) (fun q' => hb (by simp [q'])) (fun q' => hb (by simp [q'])) q) hf⟩
  self := fun A i s Q E st h => let ⟨⟨_, he⟩, _⟩ := st; wpAny_pyIter_enum he h
end EZ
/-! DL13: more of what is walked: enumerate of tuples, of a zip; zip; the keys of a dict. -/
namespace DL
open PySem PySem.Spec PyProof.Rows L2 EZ

def iEnumT (K : PySem.W.Frag) (ta : TA) : TI := fun σ H R => ta σ H fun vs H1 => ∃ a xs, vs = [.ref a] ∧ SqT K H1 a xs ∧ R (IteT K a) H1
theorem pi_enumT {X : Cx} {e : Expr} {ta : TA} {p pos tpos : Pos} {elts : List Expr} {kk : Nat} (hg : Gl X "enumerate") (hm : X.mg "enumerate" = none) (ha : PA X [e] ta) (hs : starEach [e] X.env = [(false, eval e X.env)] := by rfl) :
    PI X (.Tuple elts kk tpos) (.Call (.Name "enumerate" p) [e] [] pos) (iEnumT X.K ta) := by
  refine ⟨fun pins s σ H R I h => ?_⟩
  refine Call_ (ld_blt I hg hm boot_enumerate (PyProof.Rows.callWith_type1 (thn (ha.run pos pins s σ H _ I h) fun us s1 ⟨vs, H1, I1, r1, q1⟩ => ?_) hs rfl))
  obtain ⟨a, xs, ex, hq, q⟩ := q1
  subst ex
  cases r1 with
  | cons r rr =>
    cases rr
    cases r
    obtain ⟨its, rv, p', hz⟩ := I1.tuple hq
    have pt : s1.heap.IsTuple a its.toArray := p'
    have hal : a < s1.heap.objs.size := by obtain ⟨_, q, _⟩ := pt; exact Heap.lt_size q
    refine call_enumerate_tuple pt fun h' he hit hsz hk => wpAny_pyIter_enum he ?_
    have I2 : Inv X pins σ H1 { s1 with heap := h' } := I1.kept (t' := s1.toks) hk
    refine ⟨s1.heap.objs.size + 1, [s1.heap.objs.size + 1, s1.heap.objs.size], _, _, H1, rfl, I2, turn_enumT a (s1.heap.objs.size + 1) s1.heap.objs.size (Nat.ne_of_lt hal), ⟨⟨.none, he⟩, hit, Nat.succ_ne_self _⟩, fun b hb => ?_, q⟩
    have e' : b = s1.heap.objs.size + 1 ∨ b = s1.heap.objs.size := by simpa using hb
    have hle : s1.heap.objs.size ≤ b := by
      rcases e' with z | z
      · rw [z]; exact Nat.le_add_right _ _
      · rw [z]; exact Nat.le_refl _
    exact I1.fpOk hle (I1.hok.fresh hle)
def iEnumZ (K : PySem.W.Frag) (ta : TA) : TI := fun σ H R => ta σ H fun vs H1 => ∃ a b xs ys, vs = [.ref a, .ref b] ∧ SqT K H1 a xs ∧ SqT K H1 b ys ∧ R (IteZ K a b) H1
theorem pi_enumZ {X : Cx} {e e2 : Expr} {ta : TA} {p pos p2 pos2 tpos : Pos} {elts : List Expr} {kk : Nat} (hg : Gl X "enumerate") (hm : X.mg "enumerate" = none) (hgz : Gl X "zip") (hmz : X.mg "zip" = none) (ha : PA X [e, e2] ta)
    (hs0 : starEach [.Call (.Name "zip" p2) [e, e2] [] pos2] X.env = (false, eval (.Call (.Name "zip" p2) [e, e2] [] pos2) X.env) :: starEach [] X.env := by rfl)
    (hs : starEach [e, e2] X.env = (false, eval e X.env) :: starEach [e2] X.env := by rfl) (hpl : (backTo pos2 (starEach [e2] X.env)).any (·.1) = false := by rfl) :
    PI X (.Tuple elts kk tpos) (.Call (.Name "enumerate" p) [.Call (.Name "zip" p2) [e, e2] [] pos2] [] pos) (iEnumZ X.K ta) := by
  refine ⟨fun pins s σ H R I h => ?_⟩
  refine Call_ (ld_blt I hg hm boot_enumerate (PyProof.Rows.callWith_type1 ?_ hs0 rfl))
  rw [hs0]
  show wpAny _ _ (spliced ((false, eval (.Call (.Name "zip" p2) [e, e2] [] pos2) X.env) :: backTo pos (starEach [] X.env))) _ _ s
  refine Calls.spliced_cons ?_
  refine Call_ (ld_blt I hgz hmz PyProof.Rows.boot_zip (PyProof.Rows.callWith_type1 (thn (ha.run pos2 pins s σ H _ I h) fun us s1 ⟨vs, H1, I1, r1, q1⟩ => ?_) hs hpl))
  obtain ⟨a, b, xs, ys, ex, hqx, hqy, q⟩ := q1
  subst ex
  cases r1 with
  | cons r rr =>
    cases rr with
    | cons r' rr =>
      cases rr
      cases r
      cases r'
      obtain ⟨its, rv, p1, _⟩ := I1.tuple hqx
      obtain ⟨its2, rv2, p2', _⟩ := I1.tuple hqy
      obtain ⟨o1, ho1, _⟩ := id p1
      obtain ⟨o2, ho2, _⟩ := id p2'
      refine RZ.call_zipT (show s1.heap.IsTuple a its.toArray from p1) (show s1.heap.IsTuple b its2.toArray from p2') fun h' hz hTI hTO h1 h2 hsz hk => ?_
      show wpAny _ _ (spliced []) _ _ _
      refine Calls.spliced_nil ?_
      refine call_enumerate_zip hz fun h'' he hk2 => wpAny_pyIter_enum he ?_
      have I2 : Inv X pins σ H1 { s1 with heap := h'' } := I1.kept (t' := s1.toks) fun b o x => hk2 b o (hk b o x)
      have hes : h'.objs.size = s1.heap.objs.size + 5 := hsz
      have n1 : h'.objs.size ≠ s1.heap.objs.size + 4 := by rw [hes]; omega
      have n2 : h'.objs.size ≠ s1.heap.objs.size + 2 := by rw [hes]; omega
      have n3 : h'.objs.size ≠ s1.heap.objs.size + 3 := by rw [hes]; omega
      have n4 : h'.objs.size ≠ s1.heap.objs.size := by rw [hes]; omega
      have n5 : h'.objs.size ≠ s1.heap.objs.size + 1 := by rw [hes]; omega
      refine ⟨h'.objs.size, [h'.objs.size, s1.heap.objs.size + 4, s1.heap.objs.size + 2, s1.heap.objs.size + 3, s1.heap.objs.size, s1.heap.objs.size + 1], _, _, H1, rfl, I2,
        turn_enumZ (PySem.W.ktu_apart s1.heap.objs.size a b (Heap.lt_size ho1) (Heap.lt_size ho2)) n1 n2 n3 n4 n5,
        ⟨⟨_, he⟩, ⟨_, _, .inl rfl, hk2 _ _ hz⟩, hk2 _ _ hTI, ⟨_, _, hk2 _ _ hTO⟩, h1.at fun o x => hk2 _ o x, h2.at fun o x => hk2 _ o x⟩, fun c hcm => ?_, q⟩
      have e' : c = h'.objs.size ∨ c = s1.heap.objs.size + 4 ∨ c = s1.heap.objs.size + 2 ∨ c = s1.heap.objs.size + 3 ∨ c = s1.heap.objs.size ∨ c = s1.heap.objs.size + 1 := by simpa using hcm
      have hle : s1.heap.objs.size ≤ c := by
        rcases e' with z | z | z | z | z | z
        · rw [z, hes]; exact Nat.le_add_right _ _
        · rw [z]; exact Nat.le_add_right _ _
        · rw [z]; exact Nat.le_add_right _ _
        · rw [z]; exact Nat.le_add_right _ _
        · rw [z]; exact Nat.le_refl _
        · rw [z]; exact Nat.le_add_right _ _
      exact I1.fpOk hle (I1.hok.fresh hle)
section
variable {X : Cx} {ca : CA} {B : Base} {ds ds1 ds2 : List Sl} {od : OD} {x : Str} {e a b tg : Expr} {es : List Expr} {pos p p2 pos2 tpos : Pos} {d : D} {xs ys : List D} {o o1 o2 : Tm} {body : List Stmt} {out : Out} {elts : List Expr} {kk : Nat}
theorem Walks.enumT {K : PySem.W.Frag} (hK : X.K = K) {a : Addr} : Walks X ca B (IteT K a) [(.ref a, .v (.dat (.tup xs)))] (enumD 0 xs) := fun ds ts σ H i hT h => by
  subst hK
  obtain ⟨F, Hu, ow, rfl, C⟩ := h
  obtain ⟨a', vs, e, hq, r⟩ := (C.push (Core.tmRep C.tm (hT _ (List.mem_cons_self ..)))).seqT (.tup xs)
  cases e
  refine ⟨fun d hd => ?_, fun hl => ⟨vs, hq, by rw [← r.length, ← enumD_length xs 0]; exact hl⟩⟩
  obtain ⟨x, h1, rfl⟩ := enumD_get hd
  obtain ⟨v, h2, h3⟩ := r.get h1
  refine ⟨⟨vs, v, hq, h2⟩, fun y H' yy => ?_⟩
  obtain ⟨T, u, rfl, hT, rfl, hy⟩ := yy
  have := hy vs hq
  rw [h2] at this
  cases this
  rw [Nat.zero_add]
  exact C.newT (.cons (.int _) (.cons h3 .nil)) hT
theorem iv_enumT (he : EV X ca B e ds (.d (.tup xs)) ds1) (hm : X.mg "enumerate" = none) (hg : Gl X "enumerate" := by rfl) (hs : starEach [e] X.env = [(false, eval e X.env)] := by rfl) : IV X ca B (.Tuple elts kk tpos) (.Call (.Name "enumerate" p) [e] [] pos) ds (enumD 0 xs) ds1 := fun ts σ H R h0 q =>
  wi_of (pi_enumT hg hm pa_wa hs) (ea_cons he ea_nil hs ts σ H _ h0 fun vs H1 hl h1 => by
    obtain ⟨v, rfl⟩ := vs1 hl
    have h1' : holds X.K ca B ds1 ((v, .d (.tup xs)) :: ts) σ H1 := h1
    have h2 := h1'
    obtain ⟨F, Hu, ow, rfl, C⟩ := h2
    obtain ⟨a, vs, rfl, hq, r⟩ := C.seqT (.tup xs)
    exact ⟨a, vs, rfl, hq, q _ [_] _ plain1 (Walks.enumT rfl) h1'⟩)
/-- zip -/
def zipD : List D → List D → List D
  | x :: xs, y :: ys => .tup [x, y] :: zipD xs ys
  | _, _ => []
theorem zipD_get : ∀ {xs ys : List D} {i : Nat} {d : D}, (zipD xs ys)[i]? = some d → ∃ x y, xs[i]? = some x ∧ ys[i]? = some y ∧ d = .tup [x, y]
  | [], _, _, _, h => by simp [zipD] at h
  | _ :: _, [], _, _, h => by simp [zipD] at h
  | x :: xs, y :: ys, 0, d, h => ⟨x, y, rfl, rfl, by simpa [zipD] using h.symm⟩
  | x :: xs, y :: ys, i + 1, d, h => by
    obtain ⟨a, b, h1, h2, h3⟩ := zipD_get (xs := xs) (ys := ys) (i := i) (by simpa [zipD] using h)
    exact ⟨a, b, by simpa using h1, by simpa using h2, h3⟩
theorem zipD_len : ∀ (xs ys : List D), (zipD xs ys).length = min xs.length ys.length
  | [], _ => by simp [zipD]
  | _ :: _, [] => by simp [zipD]
  | _ :: xs, _ :: ys => by simp [zipD, zipD_len xs ys]
theorem Walks.enumZ {K : PySem.W.Frag} (hK : X.K = K) {a b : Addr} : Walks X ca B (IteZ K a b) [(.ref a, .v (.dat (.tup xs))), (.ref b, .v (.dat (.tup ys)))] (enumD 0 (zipD xs ys)) := fun ds ts σ H i hT h => by
  subst hK
  obtain ⟨F, Hu, ow, rfl, C⟩ := h
  obtain ⟨a', vs, e, hq, r⟩ := (C.push (Core.tmRep C.tm (hT _ (List.mem_cons_self ..)))).seqT (.tup xs)
  cases e
  obtain ⟨b', ws, e, hq2, r2⟩ := (C.push (Core.tmRep C.tm (hT _ (List.mem_cons_of_mem _ (List.mem_cons_self ..))))).seqT (.tup ys)
  cases e
  refine ⟨fun d hd => ?_, fun hl => ⟨vs, ws, hq, hq2, ?_⟩⟩
  · obtain ⟨z, h1, rfl⟩ := enumD_get hd
    obtain ⟨x, y, h2, h3, rfl⟩ := zipD_get h1
    obtain ⟨v, h4, h5⟩ := r.get h2
    obtain ⟨w, h6, h7⟩ := r2.get h3
    refine ⟨⟨vs, ws, v, w, hq, hq2, h4, h6⟩, fun y H' yy => ?_⟩
    obtain ⟨T1, T2, u, u2, rfl, hT1, hT2, hne, rfl, e1, e2⟩ := yy
    have q1 := e1 vs hq
    rw [h4] at q1
    cases q1
    have q2 := e2 ws hq2
    rw [h6] at q2
    cases q2
    rw [Nat.zero_add]
    have g := C.newT (T := T1) (.cons h5 (.cons h7 .nil)) hT1
    obtain ⟨F2, Hu2, ow2, e3, C2⟩ := g
    rw [e3]
    have t2 := C2.tm
    have t3 : OwnsP X.K ca F2 Hu2 (.dat (.tup [x, _])) (.ref T1) _ := t2.1
    rw [OwnsP] at t3
    have hT2' : lock B.lk Hu2 T2 = none := by rw [← e3, upd_ne hne]; exact hT2
    exact C2.rest.newT (.cons (.int _) (.cons t3 .nil)) hT2'
  · rw [enumD_length, zipD_len] at hl
    rw [← r.length, ← r2.length]
    omega
theorem iv_enumZ (ha : EV X ca B a ds (.d (.tup xs)) ds1) (hb : EV X ca B b ds1 (.d (.tup ys)) ds2) (hm : X.mg "enumerate" = none) (hmz : X.mg "zip" = none) (hg : Gl X "enumerate" := by rfl) (hgz : Gl X "zip" := by rfl)
    (hs0 : starEach [.Call (.Name "zip" p2) [a, b] [] pos2] X.env = (false, eval (.Call (.Name "zip" p2) [a, b] [] pos2) X.env) :: starEach [] X.env := by rfl)
    (hs : starEach [a, b] X.env = (false, eval a X.env) :: starEach [b] X.env := by rfl) (hs2 : starEach [b] X.env = (false, eval b X.env) :: starEach [] X.env := by rfl) (hpl : (backTo pos2 (starEach [b] X.env)).any (·.1) = false := by rfl) :
    IV X ca B (.Tuple elts kk tpos) (.Call (.Name "enumerate" p) [.Call (.Name "zip" p2) [a, b] [] pos2] [] pos) ds (enumD 0 (zipD xs ys)) ds2 := fun ts σ H R h0 q =>
  wi_of (pi_enumZ hg hm hgz hmz pa_wa hs0 hs hpl) (ea_cons ha (ea_cons hb ea_nil hs2) hs ts σ H _ h0 fun vs H1 hl h1 => by
    obtain ⟨v, w, rfl⟩ := vs2 hl
    have h1' : holds X.K ca B ds2 ((w, .d (.tup ys)) :: (v, .d (.tup xs)) :: ts) σ H1 := h1
    have h2 := h1'
    obtain ⟨F, Hu, ow, rfl, C⟩ := h2
    obtain ⟨b, ws, rfl, hq2, r2⟩ := C.seqT (.tup ys)
    obtain ⟨a, vs, rfl, hq, r⟩ := C.rest.seqT (.tup xs)
    refine ⟨a, b, vs, ws, rfl, hq, hq2, q _ [(.ref a, .v (.dat (.tup xs))), (.ref b, .v (.dat (.tup ys)))] _ (plain_cons plain1) (Walks.enumZ rfl) ?_⟩
    have rx := Core.tmRep C.tm (List.mem_cons_of_mem _ (List.mem_cons_self ..))
    have ry := Core.tmRep C.tm (List.mem_cons_self ..)
    exact ((C.rest.rest.push ry).push rx).h)
theorem Walks.zip {K : PySem.W.Frag} (hK : X.K = K) {a b : Addr} : Walks X ca B (Itz K a b) [(.ref a, .v (.dat (.lst xs))), (.ref b, .v (.dat (.lst ys)))] (zipD xs ys) := fun ds ts σ H i hT h => by
  subst hK
  obtain ⟨F, Hu, ow, rfl, C⟩ := h
  obtain ⟨a', vs, e, hq, r⟩ := (C.push (Core.tmRep C.tm (hT _ (List.mem_cons_self ..)))).seqL (.lst xs)
  cases e
  obtain ⟨b', ws, e, hq2, r2⟩ := (C.push (Core.tmRep C.tm (hT _ (List.mem_cons_of_mem _ (List.mem_cons_self ..))))).seqL (.lst ys)
  cases e
  refine ⟨fun d hd => ?_, fun hl => ⟨vs, ws, hq, hq2, ?_⟩⟩
  · obtain ⟨x, y, h2, h3, rfl⟩ := zipD_get hd
    obtain ⟨v, h4, h5⟩ := r.get h2
    obtain ⟨w, h6, h7⟩ := r2.get h3
    refine ⟨⟨vs, ws, v, w, hq, hq2, h4, h6⟩, fun y H' yy => ?_⟩
    obtain ⟨T, u, u2, rfl, hT, rfl, e1, e2⟩ := yy
    have q1 := e1 vs hq
    rw [h4] at q1
    cases q1
    have q2 := e2 ws hq2
    rw [h6] at q2
    cases q2
    exact C.newT (.cons h5 (.cons h7 .nil)) hT
  · rw [zipD_len] at hl
    rw [← r.length, ← r2.length]
    omega
/-- zip of two lists -/
theorem iv_zip (ha : EV X ca B a ds (.d (.lst xs)) ds1) (hb : EV X ca B b ds1 (.d (.lst ys)) ds2) (hmz : X.mg "zip" = none) (hgz : Gl X "zip" := by rfl)
    (hs : starEach [a, b] X.env = (false, eval a X.env) :: starEach [b] X.env := by rfl) (hs2 : starEach [b] X.env = (false, eval b X.env) :: starEach [] X.env := by rfl) (hpl : (backTo pos (starEach [b] X.env)).any (·.1) = false := by rfl) :
    IV X ca B (.Tuple elts kk tpos) (.Call (.Name "zip" p) [a, b] [] pos) ds (zipD xs ys) ds2 := fun ts σ H R h0 q =>
  wi_of (pi_zip hgz hmz pa_wa hs hpl) (ea_cons ha (ea_cons hb ea_nil hs2) hs ts σ H _ h0 fun vs H1 hl h1 => by
    obtain ⟨v, w, rfl⟩ := vs2 hl
    have h1' : holds X.K ca B ds2 ((w, .d (.lst ys)) :: (v, .d (.lst xs)) :: ts) σ H1 := h1
    have h2 := h1'
    obtain ⟨F, Hu, ow, rfl, C⟩ := h2
    obtain ⟨b, ws, rfl, hq2, r2⟩ := C.seqL (.lst ys)
    obtain ⟨a, vs, rfl, hq, r⟩ := C.rest.seqL (.lst xs)
    refine ⟨a, b, vs, ws, rfl, hq, hq2, q _ [(.ref a, .v (.dat (.lst xs))), (.ref b, .v (.dat (.lst ys)))] _ (plain_cons plain1) (Walks.zip rfl) ?_⟩
    have rx := Core.tmRep C.tm (List.mem_cons_of_mem _ (List.mem_cons_self ..))
    have ry := Core.tmRep C.tm (List.mem_cons_self ..)
    exact ((C.rest.rest.push ry).push rx).h)
end
end DL
/-! DL14: stores side by side, keyword calls, loops over a dict's keys. -/
namespace DL
open PySem PySem.Spec PyProof.Rows L2
section
variable {X : Cx} {ca : CA} {B : Base} {ds ds1 ds2 ds3 : List Sl} {od od1 od2 od3 : OD} {x y z : Str} {e a b c tg : Expr} {es : List Expr} {pos p p2 pos2 tpos px py pz pt pt2 : Pos} {d : D} {xs ys : List D} {o o1 o2 : Tm} {body : List Stmt} {out : Out} {elts : List Expr} {kk kt k2 : Nat}
theorem ev_lstD {xs : List D} (h : EA X ca B es ds (tds xs) ds1) (hz : xs.length ≤ 1000 := by simp) : EV X ca B (.List es pos) ds (.v (OD.l xs)) ds1 := by
  rw [tds_tvs] at h
  exact ev_lst h (by rw [List.length_map]; exact hz)
theorem b1_par2 (i j : Nat) (hc : X.calm = true) (hN : X.N.Nodup) (ha : EA X ca B [a, b] ds [.v od1, .v od2] ds1) (hs1 : (ds1.set j (.v od2)).set i (.v od1) = ds2 := by rfl) (hij : i ≠ j := by decide) (hi : X.N[i]? = some x := by rfl) (hj : X.N[j]? = some y := by rfl)
    (hx : X.env.scope.names.lookup x = some .local := by rfl) (hy : X.env.scope.names.lookup y = some .local := by rfl) (hli : i < ds1.length := by simp) (hlj : j < ds1.length := by simp) (hpi : B.pr i = false := by rfl) (hpj : B.pr j = false := by rfl)
    (hw : swappedStores [.Tuple [.Name x px, .Name y py] kt pt] (.Tuple [a, b] k2 pt2) X.env = pure (some [x, y]) := by rfl)
    (hs : swapsWithSole [.Tuple [.Name x px, .Name y py] kt pt] (.Tuple [a, b] k2 pt2) pos.line X.env = pure false := by rfl) :
    B1 X ca B (.Assign [.Tuple [.Name x px, .Name y py] kt pt] (.Tuple [a, b] k2 pt2) pos) ds (.nx ds2) := fun ts σ H D W pl tk h0 q =>
  ws_of (ps_par hc hN hi hj hij hx hy pa_wa hw hs) (ha ts σ H _ h0 fun vs H1 hl h1 => by
    obtain ⟨v, w, rfl⟩ := vs2 hl
    refine ⟨v, w, rfl, ?_⟩
    have h2 : holds X.K ca B ds1 ((w, .v od2) :: (v, .v od1) :: ts) σ H1 := h1
    have h3 := h2.set hlj hpj (noAl_of (plain_cons pl))
    have h4 := h3.set (i := i) (by rw [List.length_set]; exact hli) hpi (noAl_of pl)
    rw [hs1, List.set_comm _ _ hij.symm] at h4
    exact q _ _ h4)
theorem b1_par3 (i j l : Nat) (hc : X.calm = true) (hN : X.N.Nodup) (ha : EA X ca B [a, b, c] ds [.v od1, .v od2, .v od3] ds1) (hs1 : ((ds1.set l (.v od3)).set j (.v od2)).set i (.v od1) = ds2 := by rfl) (hij : i ≠ j := by decide) (hil : i ≠ l := by decide) (hjl : j ≠ l := by decide) (hi : X.N[i]? = some x := by rfl) (hj : X.N[j]? = some y := by rfl) (hl : X.N[l]? = some z := by rfl)
    (hx : X.env.scope.names.lookup x = some .local := by rfl) (hy : X.env.scope.names.lookup y = some .local := by rfl) (hz : X.env.scope.names.lookup z = some .local := by rfl) (hli : i < ds1.length := by simp) (hlj : j < ds1.length := by simp) (hll : l < ds1.length := by simp) (hpi : B.pr i = false := by rfl) (hpj : B.pr j = false := by rfl) (hpl : B.pr l = false := by rfl)
    (hw : swappedStores [.Tuple [.Name x px, .Name y py, .Name z pz] kt pt] (.Tuple [a, b, c] k2 pt2) X.env = pure (some [x, y, z]) := by rfl)
    (hs : swapsWithSole [.Tuple [.Name x px, .Name y py, .Name z pz] kt pt] (.Tuple [a, b, c] k2 pt2) pos.line X.env = pure false := by rfl) :
    B1 X ca B (.Assign [.Tuple [.Name x px, .Name y py, .Name z pz] kt pt] (.Tuple [a, b, c] k2 pt2) pos) ds (.nx ds2) := fun ts σ H D W pl tk h0 q =>
  ws_of (ps_par3 hc hN hi hj hl hij hil hjl hx hy hz pa_wa hw hs) (ha ts σ H _ h0 fun vs H1 hle h1 => by
    obtain ⟨v, w, u, rfl⟩ := vs3 hle
    refine ⟨v, w, u, rfl, ?_⟩
    have h2 : holds X.K ca B ds1 ((u, .v od3) :: (w, .v od2) :: (v, .v od1) :: ts) σ H1 := h1
    have h3 := h2.set hll hpl (noAl_of (plain_cons (plain_cons pl)))
    have h4 := h3.set (i := j) (by rw [List.length_set]; exact hlj) hpj (noAl_of (plain_cons pl))
    have h5 := h4.set (i := i) (by rw [List.length_set, List.length_set]; exact hli) hpi (noAl_of pl)
    rw [hs1] at h5
    have e : ((σ.set l (some u)).set j (some w)).set i (some v) = ((σ.set i (some v)).set j (some w)).set l (some u) := by
      rw [List.set_comm _ _ (Ne.symm hjl), List.set_comm _ _ (Ne.symm hil), List.set_comm _ _ (Ne.symm hij)]
    rw [e] at h5
    exact q _ _ h5)
/-- the stores one by one, from the left (names that are cells, items): the values data -/
theorem b1_asgT {ws : List Nat} {n : Nat} (hc : X.calm = true) (ha : EA X ca B es ds (tds xs) ds1) (hg : TGS X ca B elts xs ds1 ws ds2) (hl : xs.length = n) (hz : xs.length ≤ 1000 := by simp) (hn : (assignEach elts X.env).length = n := by rfl) (hst : (assignEach elts X.env).findIdx? (·.1) = none := by rfl)
    (hs : swapsWithSole [.Tuple elts kt pt] (.Tuple es k2 pt2) pos.line X.env = pure false := by rfl) (hw : swappedStores [.Tuple elts kt pt] (.Tuple es k2 pt2) X.env = pure none := by rfl)
    (h1 : (assignEach [.Tuple elts kt pt] X.env).map (·.2) = [assign (.Tuple elts kt pt) X.env] := by rfl) : B1 X ca B (.Assign [.Tuple elts kt pt] (.Tuple es k2 pt2) pos) ds (.nx ds2) :=
  b1_asg (ev_tup ha hz) (tg_tup hc hg hl hn hst) hs hw h1
def Out.isEx : Out → Bool
  | .ex _ _ _ => true
  | _ => false
/-- the base while a dict is locked -/
def lockB (B : Base) (F : Hp) (a : Addr) (od : Obj) : Base := { B with F0 := F, lk := fun b => if b = a then some od else B.lk b }
theorem Core.lockAt {K : PySem.W.Frag} {ts : List (V × Tm)} {σ : L2.St} {F Hu : Hp} {ow : Addr → Option Own} {a : Addr} {ps : List (Key × V)} {ob : Obj} (C : Core K ca B ds ts σ F Hu ow) (hF : F a = some (.dK ps)) : Core K ca (lockB B F a ob) ds ts σ F Hu ow := by
  refine ⟨Ex.refl _, C.fh, fun b o h => ?_, fun b o h hn => ?_, C.keep, C.stay, C.own, C.ownS, C.ownT, C.prs, C.len, C.sl, C.tm⟩
  · by_cases e : b = a
    · rw [e]
      exact ⟨_, hF, True.intro⟩
    · have h' : (if b = a then some ob else B.lk b) = some o := h
      rw [if_neg e] at h'
      exact C.lks b o h'
  · have hn' : F b = none := hn
    rw [h] at hn'
    cases hn'
theorem Core.unlockAt {K : PySem.W.Frag} {ds0 : List Sl} {ts ts0 : List (V × Tm)} {σ σ0 : L2.St} {F Hu F' Hu' : Hp} {ow ow' : Addr → Option Own} {a : Addr} {ob : Obj} (C : Core K ca B ds0 ts0 σ0 F Hu ow) (C' : Core K ca (lockB B F a ob) ds ts σ F' Hu' ow') : Core K ca B ds ts σ F' Hu' ow' := by
  refine ⟨C.f0.trans C'.f0, C'.fh, fun b o h => ?_, fun b o h hn => ?_, C'.keep, C'.stay, C'.own, C'.ownS, C'.ownT, C'.prs, C'.len, C'.sl, C'.tm⟩
  · obtain ⟨u, h1, h2⟩ := C.lks b o h
    exact ⟨u, C'.f0 _ _ h1, h2⟩
  · cases q : F b with
    | some u => exact C.fresh b u q hn
    | none => exact C'.fresh b o h q
theorem lock_at {B : Base} {F Hu : Hp} {a : Addr} {ob : Obj} {u : HO} (h : B.lk a = none) (hu : Hu a = some u) : upd (lock B.lk Hu) a (.frz ob u) = lock (lockB B F a ob).lk Hu := by
  funext b
  unfold lock lockB
  by_cases e : b = a
  · rw [e, upd_same]
    simp [hu]
  · rw [upd_ne e]
    simp [e]
theorem unlock_at {B : Base} {F Hu : Hp} {a : Addr} {ob : Obj} {u : HO} (h : B.lk a = none) (hu : Hu a = some u) : upd (lock (lockB B F a ob).lk Hu) a u = lock B.lk Hu := by
  funext b
  by_cases e : b = a
  · rw [e, upd_same, lock_none h, hu]
  · rw [upd_ne e]
    unfold lock lockB
    simp [e]
theorem lock_is {B : Base} {F Hu : Hp} {a : Addr} {ob : Obj} {u : HO} (hu : Hu a = some u) : lock (lockB B F a ob).lk Hu a = some (.frz ob u) := by
  unfold lock lockB
  simp [hu]
theorem Walks.keys {a : Addr} {ob : Obj} {ps : List (Key × V)} {kvs : List (Key × D)} (hl : B.lk a = some ob) (h0 : B.F0 a = some (.dK ps)) (hk : ps.map (·.1) = kvs.map (·.1)) : Walks X ca B (Itk a ob ps) [] (kvs.map fun kv => keyD kv.1) := fun ds ts σ H i hT h => by
  obtain ⟨F, Hu, ow, rfl, C⟩ := h
  have hF := C.f0 _ _ h0
  have hH : lock B.lk Hu a = some (.frz ob (.dK ps)) := by
    unfold lock
    simp [hl, C.fh _ _ hF]
  have hlen : ps.length = kvs.length := by
    have := congrArg List.length hk
    simpa using this
  refine ⟨fun d hd => ?_, fun hle => ⟨hH, by simpa [hlen] using hle⟩⟩
  have hi : i < kvs.length := by
    have := (List.getElem?_eq_some_iff.mp hd).1
    simpa using this
  refine ⟨⟨hH, by omega⟩, fun x H' y => ?_⟩
  obtain ⟨rfl, k, v, e1, rfl⟩ := y
  have e2 : (kvs.map (·.1))[i]? = some k := by rw [← hk, List.getElem?_map, e1]; rfl
  have e3 : d = keyD k := by
    rw [List.getElem?_map] at hd e2
    cases q : kvs[i]? with
    | none => rw [q] at e2; cases e2
    | some kv =>
      rw [q] at hd e2
      cases e2
      cases hd
      rfl
  rw [e3]
  exact C.give (rep_key k)
theorem RepK.keys {K : PySem.W.Frag} {F : Hp} {kvs : List (Key × D)} {ps : List (Key × V)} (r : RepK K ca F kvs ps) : ps.map (·.1) = kvs.map (·.1) := by
  induction kvs generalizing ps with
  | nil => cases r; rfl
  | cons kv kvs ih =>
    cases r with
    | cons h r => simp only [List.map_cons]; rw [ih r]
/-- for k in d, d a dict in a slot that stands for ever -/
theorem b1_forK {kvs : List (Key × D)} (i : Nat) (hp : PassesOwn (model X.prog X.w) X.A X.env X.xe) (hc : X.calm = true) (hl : ∀ B' : Base, B'.pr = B.pr → LP X ca B' tg body (kvs.map fun kv => keyD kv.1) ds out) (hx : out.isEx = false)
    (h : ds[i]? = some (.v (.dat (.dK kvs))) := by rfl) (hN : X.N[i]? = some x := by rfl) (hv : Vis X.env.scope x := by first | exact Or.inl rfl | exact Or.inr (Or.inl rfl) | exact Or.inr (Or.inr rfl)) (hd : (x == ("__debug__" : Str)) = false := by decide)
    (hcd : (x == ("__classdict__" : Str)) = false := by decide) (hs : ∀ y, foldedSetIterable (.Name x p) X.env y = pure y := by intro _; rfl) : B1 X ca B (.For tg (.Name x p) body [] pos) ds out := fun ts σ H D W pl tk h0 q => by
  obtain ⟨F, Hu, ow, rfl, C⟩ := h0
  obtain ⟨v, hv1, hv2⟩ := C.sl i _ h
  rw [OwnsP] at hv2
  cases hv2 with
  | @dK _ ps a hF r =>
    have hHu := C.fh _ _ hF
    -- the loop where the dict is locked
    have go : ∀ (B' : Base) (ob : Obj) (D' : L2.Ends) (Hu : Hp), B'.pr = B.pr → B'.lk a = some ob → B'.F0 a = some (.dK ps) → holds X.K ca B' ds ts σ (lock B'.lk Hu) → Post X ca B' D' W ts out → WS X (.For tg (.Name x p) body [] pos) D' σ (lock B'.lk Hu) := fun B' ob D' Hu e1 e2 e3 h4 q4 => by
      refine for_at hp hc (fun R hR => wi_of (pi_keys (pe_var hN hv hd hcd)) ⟨_, hv1, a, ob, rfl, .inl ⟨ps, ?_, hR _ [] _ plain_nil (Walks.keys e2 e3 r.keys) h4⟩⟩) (hl B' e1) pl tk q4 hs
      obtain ⟨F4, Hu4, ow4, e4, C4⟩ := h4
      rw [e4]
      unfold lock
      simp [e2, C4.fh _ _ (C4.f0 _ _ e3)]
    cases hlk : B.lk a with
    | some ob =>
      have hB : ({ B with F0 := F } : Base) = lockB B F a ob := by
        unfold lockB
        congr
        funext b
        by_cases e : b = a
        · rw [e, if_pos rfl, hlk]
        · rw [if_neg e]
      have hlke : (lockB B F a ob).lk = B.lk := by rw [← hB]
      have C1 : Core X.K ca (lockB B F a ob) ds ts σ F Hu ow := C.lockAt hF
      have g := go (lockB B F a ob) ob D Hu rfl (if_pos rfl) hF C1.h ?_
      · rw [hlke] at g
        exact g
      · have un : ∀ {ds : List Sl} {ts : List (V × Tm)} {σ : L2.St} {H : Hp}, holds X.K ca (lockB B F a ob) ds ts σ H → holds X.K ca B ds ts σ H := fun {ds ts σ H} h => by
          obtain ⟨F', Hu', ow', rfl, C'⟩ := h
          rw [hlke]
          exact ⟨F', Hu', ow', rfl, C.unlockAt C'⟩
        cases out with
        | nx ds => exact fun σ H h => q σ H (un h)
        | bk ds => exact fun σ H h => q σ H (un h)
        | ct ds => exact fun σ H h => q σ H (un h)
        | rt o ds => exact fun v σ H h => q v σ H (un h)
        | ex c f ds => cases hx
    | none =>
      refine ws_of (ps_lock ps_ws) ⟨a, .dK ps, by rw [lock_none hlk]; exact hHu, True.intro, fun ob => ?_⟩
      rw [lock_at (F := F) hlk hHu]
      have C1 : Core X.K ca (lockB B F a ob) ds ts σ F Hu ow := C.lockAt hF
      refine go (lockB B F a ob) ob _ Hu rfl (if_pos rfl) hF C1.h ?_
      have un : ∀ {ds : List Sl} {ts : List (V × Tm)} {σ : L2.St} {H : Hp}, holds X.K ca (lockB B F a ob) ds ts σ H → H a = some (.frz ob (.dK ps)) ∧ holds X.K ca B ds ts σ (upd H a (.dK ps)) := fun {ds ts σ H} h => by
        obtain ⟨F', Hu', ow', rfl, C'⟩ := h
        have hF' : F' a = some (.dK ps) := C'.f0 _ _ hF
        have hHu' := C'.fh _ _ hF'
        refine ⟨lock_is hHu', ?_⟩
        rw [unlock_at hlk hHu']
        exact ⟨F', Hu', ow', rfl, C.unlockAt C'⟩
      cases out with
      | nx ds => exact fun σ H h => ⟨(un h).1, q σ _ (un h).2⟩
      | bk ds => exact fun σ H h => ⟨(un h).1, q σ _ (un h).2⟩
      | ct ds => exact fun σ H h => ⟨(un h).1, q σ _ (un h).2⟩
      | rt o ds =>
        refine fun v σ H h => ⟨(un h.pop).1, q v σ _ (un h).2⟩
      | ex c f ds => cases hx
end
end DL
/-! TRY: several clauses 'except X as e' (follows the library's ps_try_many, ps_try_as). -/
namespace DL
open PySem PySem.Spec PyProof.Rows L2
/-- what the clauses wish of an exception of the body, one after the other -/
def wManyAs (K : PySem.W.Frag) (Wout : WX) (D : L2.Ends) : List (Value × Nat × (Addr → Value → Option Addr → TS)) → WX
  | [] => Wout
  | (c, i, ts) :: r => fun cls d σ H => ∃ b, PySem.W.exmOne K cls c = some b ∧ (b = true → ∀ a, H a = none → ts a cls d { nx := fun σ' H' => D.nx (σ'.set i none) H', rt := D.rt, bk := fun σ' H' => D.bk (σ'.set i none) H', ct := fun σ' H' => D.ct (σ'.set i none) H' } (σ.set i (some (.ref a))) H) ∧ (b = false → wManyAs K Wout D r cls d σ H)
inductive HdsAs (X : Cx) : List ExceptHandler → List (Value × Nat × (Addr → Value → Option Addr → TS)) → Prop
  | nil : HdsAs X [] []
  | cons {x n : Str} {i : Nat} {c : Value} {ts : Addr → Value → Option Addr → TS} {b₀ : Stmt} {suite : List Stmt} {np pos' : Pos} {hds : List ExceptHandler} {l : List (Value × Nat × (Addr → Value → Option Addr → TS))} (hc : Names X x c) (hi : X.N[i]? = some n) (hln : X.env.kindOf n = some .local)
      (hsu : ∀ (a : Addr) (oe : Obj) (cls : Value) (d : Option Addr) (pn : List (Addr × Obj)), Zc cls d oe → (∃ vs, oe.data = .fields vs) → PSs (X.suite a ((a, oe) :: pn)) (b₀ :: suite) (ts a cls d)) (r : HdsAs X hds l) :
      HdsAs X (.ExceptHandler (some (.Name x np)) (some n) (b₀ :: suite) pos' :: hds) ((c, i, ts) :: l)
section
variable {X : Cx} {body : List Stmt} {h₀ : ExceptHandler} {hds : List ExceptHandler} {l : List (Value × Nat × (Addr → Value → Option Addr → TS))} {pos : Pos} {tb : WX → TS} {Wout : WX}
theorem ps_try_manyAs (hN : X.N.Nodup) (hs : X.stack = X.env :: X.outer) (hf : X.env.frame = some X.env.locals) (tk : Takes X Wout)
    (hb : ∀ (W : WX) (pn : List (Addr × Obj)) (xe : Value → Shared → Prop), Takes (X.tr pn xe) W → PassesOwn (model X.prog X.w) X.A X.env xe → PSs (X.tr pn xe) body (tb W))
    (hh : HdsAs X (h₀ :: hds) l) : PS X (.Try body (h₀ :: hds) [] [] pos) (fun D σ H => tb (wManyAs X.K Wout D l) D σ H) := by
  refine ⟨fun pins s σ H D I h => ?_⟩
  have ok := I.ok
  have hfr : X.A.frames = some (X.env :: X.outer) := by rw [ok.frames, hs]
  refine wpAny_Try_except ?_
  refine wpAny_mono ((hb (wManyAs X.K Wout D l) (X.pn ++ pins) (fun e s₁ => wpAny (model X.prog X.w) X.A (noteFrame e X.env) (fun _ s₂ => wpAny (model X.prog X.w) X.A (setFlight e none) (fun _ s₃ =>
    wpAny (model X.prog X.w) X.A (handleBy e X.env (h₀ :: hds)) (SP X pins D) X.xe s₃) X.xe s₂) X.xe s₁) (fun u s' xx => ?_) PassesOwn.looking).run [] s σ H D (I.toTry _) h) (fun f s1 hsp => ?_) (fun e s1 he => he)
  · -- the catch
    obtain ⟨a, B, sI, pins', σ', H', cls, d, rfl, J', nb, up, sky, na, os, ag, w⟩ := xx
    have J : Inv X pins σ' H' sI := J'.ofTry ok
    have sky' : Sky B (X.env :: X.outer) a (Zc cls d) X.env.locals s'.heap := by rw [← hs]; exact sky
    show wpAny (model X.prog X.w) X.A (noteFrame (.ref a) X.env) _ _ _
    refine Sky.land Zc.steady hfr hf sky' fun h3 fl3 up3 => ?_
    have J3 : Inv X pins σ' H' { s' with heap := h3 } := J.landed nb fl3.1 (up.trans up3) os ag
    obtain ⟨oe3, vs3, he3, hz3, hd3⟩ := fl3.there
    have notFr : ∀ {h : Heap} {o : Obj} {vs : Array Value}, h.FunFrames B (X.env :: X.outer) → h.get? a = some o → o.data = .fields vs → a ∉ frs (X.env :: X.outer) := fun {h o vs} ff e dd hm => by
      obtain ⟨_, o', e', hnf⟩ := ff.mem hm
      rw [e] at e'; cases e'
      exact hnf _ dd
    have nfr := notFr fl3.2.2.1 he3 hd3
    have nL : a ≠ X.env.locals := fun z => nfr (List.mem_filterMap.mpr ⟨X.env, List.mem_cons_self, by rw [hf, z]⟩)
    have nF : a ∉ X.fs := fun hm => by
      obtain ⟨e, he, q⟩ := List.mem_filterMap.mp hm
      exact nfr (List.mem_filterMap.mpr ⟨e, List.mem_cons_of_mem _ he, q⟩)
    have S3 := J3.suite he3 hd3 na nL nF
    have go : ∀ {hds' : List ExceptHandler} {l' : List (Value × Nat × (Addr → Value → Option Addr → TS))}, HdsAs X hds' l' → wManyAs X.K Wout D l' cls d σ' H' →
        wpAny (model X.prog X.w) X.A (handleBy (.ref a) X.env hds') (SP X pins D) X.xe { s' with heap := h3 } := by
      intro hds' l' hk
      induction hk with
      | nil =>
        intro w
        refine wpAny_handleBy_nil ?_
        obtain ⟨k1, k2, k3, oe, vs, T, oT, ts', he, hz, hd, h1, hr⟩ := id fl3
        unfold PySem.passOn
        refine wpAny_bind (wpAny_field he hd h1 ?_)
        rw [if_neg (show ¬ ((Value.ref T == Value.none) = true) from by simp)]
        have fin : wpAny (model X.prog X.w) X.A (setFlight (.ref a) X.env.frame) (fun _ s4 => wpAny (model X.prog X.w) X.A (throw (.ref a) : Sem Flow) (SP X pins D) X.xe s4) X.xe { s' with heap := h3 } := by
          rw [hf]
          refine HandSPX.setFlight_upZ fl3 fun h4 hh4 up4 => wpAny_throw (tk _ _ ?_)
          exact ⟨a, B, sI, pins, σ', H', cls, d, rfl, J, nb, (up.trans up3).trans up4, .inr (.inr (by rw [hs]; exact hh4)), na, os, ag, w⟩
        first
          | exact wpAny_bind (wpAny_pure (wpAny_bind fin))
          | exact wpAny_bind fin
      | @cons x n i c ts b₀ suite np pos' hds2 l2 hc hi hln hsu r ih =>
        intro w
        obtain ⟨b, hb1, hyes, hno⟩ := w
        refine wpAny_handleBy_cons (codeAny_handlers_test ?_) (by intro q; cases q)
        have LT : PySem.W.Looks (model X.prog X.w) h3 (typeOf (.ref a)) cls := fun A Q E s k q => wpAny_typeOf_ref (k _ _ he3) (by rw [hz3.1]; exact q)
        have LM := PySem.W.exm_one (M := model X.prog X.w) (J3.kIn) LT hb1
        have test : ∀ {Q : Value → Shared → Prop} {E : Value → Shared → Prop}, Q c { s' with heap := h3 } → wpAny (model X.prog X.w) (X.A.mark (some (.ref a))) (eval (.Name x np) X.env) Q E { s' with heap := h3 } := fun {Q E} q => by
          obtain ⟨hg, hdbg, hm | ⟨hm, hv, hnn⟩⟩ := hc
          · exact ld_glob (X := X.suite a ((a, oe3) :: (X.pn ++ pins))) S3 hg hm q hdbg
          · exact ld_blt (X := X.suite a ((a, oe3) :: (X.pn ++ pins))) S3 hg hm hv q hnn hdbg
        refine test (LM.here ?_)
        cases b with
        | true =>
          have hloc : Loc X.env.scope n := .inl hln
          refine codeAny_handlers_suite_as ?_
          refine HandSPX.lands_againZ fl3 fun h4 fl4 up4 => ?_
          have J4 : Inv X pins σ' H' { s' with heap := h4 } := J.landed nb fl4.1 ((up.trans up3).trans up4) os ag
          obtain ⟨oe4, vs4, he4, hz4, hd4⟩ := fl4.there
          have S4 := J4.suite he4 hd4 na nL nF
          refine store_ok (X := X.suite a ((a, oe4) :: (X.pn ++ pins))) (v := .ref a) S4 hN hi hloc rfl (fun s5 S5 => ?_) (.inr hln)
          refine wpAny_mono ((hsu a oe4 cls d (X.pn ++ pins) hz4 ⟨_, hd4⟩).run [] s5 _ H' _ S5 (hyes rfl a na)) (fun f s6 hsp => ?_) (fun _ _ z => False.elim z)
          have end_ : ∀ {σ6 : L2.St} {H6 : Hp} {Q : Shared → Prop}, Inv (X.suite a ((a, oe4) :: (X.pn ++ pins))) [] σ6 H6 s6 → (∀ s7, Inv X pins (σ6.set i none) H6 s7 → Q s7) →
              wpAny (model X.prog X.w) X.A (do bindName X.env n .none; unbindBehindTheSuite X.env n pos') (fun _ s7 => Q s7) X.xe s6 := fun {σ6 H6 Q} S6 hq => gone_ok (S6.unsuite ok) hN hi hln hq
          cases f with
          | next =>
            obtain ⟨σ6, H6, S6, q6⟩ := hsp
            exact end_ S6 fun s7 J7 => ⟨_, _, J7, q6⟩
          | brk =>
            obtain ⟨σ6, H6, S6, q6⟩ := hsp
            exact end_ S6 fun s7 J7 => ⟨_, _, J7, q6⟩
          | cont =>
            obtain ⟨σ6, H6, S6, q6⟩ := hsp
            exact end_ S6 fun s7 J7 => ⟨_, _, J7, q6⟩
          | ret u =>
            obtain ⟨v6, σ6, H6, S6, r6, q6⟩ := hsp
            exact end_ S6 fun s7 J7 => ⟨_, _, _, J7, r6, q6⟩
        | false =>
          show wpAny _ X.A (handleBy (.ref a) X.env hds2) _ _ _
          exact ih (hno rfl)
    exact go hh w
  · cases f with
    | next =>
      obtain ⟨σ', H', J', q⟩ := hsp
      exact wpAny_execs_nil ⟨σ', H', J'.ofTry ok, q⟩
    | brk =>
      obtain ⟨σ', H', J', q⟩ := hsp
      exact ⟨σ', H', J'.ofTry ok, q⟩
    | cont =>
      obtain ⟨σ', H', J', q⟩ := hsp
      exact ⟨σ', H', J'.ofTry ok, q⟩
    | ret u =>
      obtain ⟨v, σ', H', J', r, q⟩ := hsp
      exact ⟨v, σ', H', J'.ofTry ok, r, q⟩
end


def InTr (X X' : Cx) : Prop := ∃ pn xe, X' = X.tr pn xe ∧ PassesOwn (model X.prog X.w) X.A X.env xe
section
variable {X : Cx} {ca : CA} {B : Base} {ds ds1 : List Sl} {out : Out} {body : List Stmt} {pos : Pos}
/-- the return of a text and two fields of the caught exception -/
theorem suite_ret {n f1 f2 sx : Str} {i j0 kk : Nat} {c : Str} {p1 p2 q0 q1 q2 q q3 : Pos} (T : XfC X.K (ca c)) (h1 : PySem.W.findIn X.K (.ref (ca c)) f1 = some none) (h2 : PySem.W.findIn X.K (.ref (ca c)) f2 = some none) (hN : X.N[i]? = some n) (hv : Vis X.env.scope n) (hd : (n == ("__debug__" : Str)) = false)
    (hcd : (n == ("__classdict__" : Str)) = false) (hs0 : starEach [.Constant (.str sx) j0 q0, .Attribute (.Name n p1) f1 q1, .Attribute (.Name n p2) f2 q2] X.env = (false, eval (.Constant (.str sx) j0 q0) X.env) :: starEach [.Attribute (.Name n p1) f1 q1, .Attribute (.Name n p2) f2 q2] X.env := by rfl)
    (hs1 : starEach [.Attribute (.Name n p1) f1 q1, .Attribute (.Name n p2) f2 q2] X.env = (false, eval (.Attribute (.Name n p1) f1 q1) X.env) :: starEach [.Attribute (.Name n p2) f2 q2] X.env := by rfl) (hs2 : starEach [.Attribute (.Name n p2) f2 q2] X.env = (false, eval (.Attribute (.Name n p2) f2 q2) X.env) :: starEach [] X.env := by rfl)
    (hb1 : attributeBase (.Name n p1) f1 X.env (eval (.Name n p1) X.env) = eval (.Name n p1) X.env := by rfl) (hb2 : attributeBase (.Name n p2) f2 X.env (eval (.Name n p2) X.env) = eval (.Name n p2) X.env := by rfl)
    (a : Addr) (oe : Obj) (cls : Value) (d : Option Addr) (pn : List (Addr × Obj)) (hz : Zc cls d oe) (hf : ∃ vs, oe.data = .fields vs) :
    PSs (X.suite a ((a, oe) :: pn)) [.Return (some (.Tuple [.Constant (.str sx) j0 q0, .Attribute (.Name n p1) f1 q1, .Attribute (.Name n p2) f2 q2] kk q)) q3]
      (fun D σ H => σ[i]? = some (some (.ref a)) ∧ cls = .ref (ca c) ∧ ∃ (dd : Addr) (fs : List (Str × V)) (v1 v2 : V), d = some dd ∧ H dd = some (.xd fs) ∧ fs.lookup f1 = some v1 ∧ fs.lookup f2 = some v2 ∧ ∀ p, H p = none → D.rt (.ref p) (upd H p (.tup [.str sx, v1, v2]))) := by
  have base := pss_one (X := X.suite a ((a, oe) :: pn)) (ps_ret (pos := q3) (pe_tup (x1 := kk) (pos := q) (pa_cons pe_str (pa_cons (pe_xf (X := X) T h1 hz hf (pe_var hN hv hd hcd) hb1) (pa_cons (pe_xf (X := X) T h2 hz hf (pe_var hN hv hd hcd) hb2) pa_nil hs2) hs1) hs0)))
  refine ⟨fun pins s σ H D I h => base.run pins s σ H D I ?_⟩
  obtain ⟨h3, rfl, dd, fs, v1, v2, rfl, h4, h5, h6, h7⟩ := h
  exact ⟨_, h3, rfl, rfl, dd, fs, v1, rfl, h4, h5, _, h3, rfl, rfl, dd, fs, v2, rfl, h4, h6, by rw [sizeLine_eq]; simp, fun p hp => h7 p hp⟩
/-- try: body / except c1 as e: return (s1, e.f1, e.f2) / except c2 as e: return (s2, e.g1, e.g2) -/
theorem b1_try2 {n f1 f2 sx g1 g2 sy x1 x2 c1 c2 : Str} (i : Nat) {j0 j1 kk k1 : Nat} {p1 p2 q0 q1 q2 q q3 r1 r2 r3 r4 r5 r6 r7 np1 np2 pp1 pp2 : Pos} {res : OD} (hN : X.N.Nodup) (hst : X.stack = X.env :: X.outer) (hfr : X.env.frame = some X.env.locals)
    (hi : X.N[i]? = some n) (hv : Vis X.env.scope n) (hln : X.env.kindOf n = some .local) (hd : (n == ("__debug__" : Str)) = false) (hcd : (n == ("__classdict__" : Str)) = false)
    (T1 : XfC X.K (ca c1)) (T2 : XfC X.K (ca c2)) (hn1 : Names X x1 (.ref (ca c1))) (hn2 : Names X x2 (.ref (ca c2)))
    (a1 : PySem.W.findIn X.K (.ref (ca c1)) f1 = some none) (a2 : PySem.W.findIn X.K (.ref (ca c1)) f2 = some none) (b1 : PySem.W.findIn X.K (.ref (ca c2)) g1 = some none) (b2 : PySem.W.findIn X.K (.ref (ca c2)) g2 = some none)
    (m11 : PySem.W.exmOne X.K (.ref (ca c1)) (.ref (ca c1)) = some true) (m21 : PySem.W.exmOne X.K (.ref (ca c2)) (.ref (ca c1)) = some false) (m22 : PySem.W.exmOne X.K (.ref (ca c2)) (.ref (ca c2)) = some true)
    (hb : ∀ X', InTr X X' → BS X' ca B body ds out)
    (hout : (∃ ds', out = .rt res ds') ∨ (∃ fs ds' u v, out = .ex c1 fs ds' ∧ fldD fs f1 = some u ∧ fldD fs f2 = some v ∧ res = .dat (.tup [.str sx, u, v])) ∨ (∃ fs ds' u v, out = .ex c2 fs ds' ∧ fldD fs g1 = some u ∧ fldD fs g2 = some v ∧ res = .dat (.tup [.str sy, u, v])))
    (hl1 : i < ds1.length) (hds : ∃ d, out = .rt res d ∧ d = ds1 ∨ (∃ c f, out = .ex c f d) ∧ d = ds1)
    (hs0 : starEach [.Constant (.str sx) j0 q0, .Attribute (.Name n p1) f1 q1, .Attribute (.Name n p2) f2 q2] X.env = (false, eval (.Constant (.str sx) j0 q0) X.env) :: starEach [.Attribute (.Name n p1) f1 q1, .Attribute (.Name n p2) f2 q2] X.env := by rfl)
    (hs1 : starEach [.Attribute (.Name n p1) f1 q1, .Attribute (.Name n p2) f2 q2] X.env = (false, eval (.Attribute (.Name n p1) f1 q1) X.env) :: starEach [.Attribute (.Name n p2) f2 q2] X.env := by rfl) (hs2 : starEach [.Attribute (.Name n p2) f2 q2] X.env = (false, eval (.Attribute (.Name n p2) f2 q2) X.env) :: starEach [] X.env := by rfl)
    (hb1 : attributeBase (.Name n p1) f1 X.env (eval (.Name n p1) X.env) = eval (.Name n p1) X.env := by rfl) (hb2 : attributeBase (.Name n p2) f2 X.env (eval (.Name n p2) X.env) = eval (.Name n p2) X.env := by rfl)
    (ht0 : starEach [.Constant (.str sy) j1 r4, .Attribute (.Name n r1) g1 r2, .Attribute (.Name n r3) g2 r5] X.env = (false, eval (.Constant (.str sy) j1 r4) X.env) :: starEach [.Attribute (.Name n r1) g1 r2, .Attribute (.Name n r3) g2 r5] X.env := by rfl)
    (ht1 : starEach [.Attribute (.Name n r1) g1 r2, .Attribute (.Name n r3) g2 r5] X.env = (false, eval (.Attribute (.Name n r1) g1 r2) X.env) :: starEach [.Attribute (.Name n r3) g2 r5] X.env := by rfl) (ht2 : starEach [.Attribute (.Name n r3) g2 r5] X.env = (false, eval (.Attribute (.Name n r3) g2 r5) X.env) :: starEach [] X.env := by rfl)
    (hb3 : attributeBase (.Name n r1) g1 X.env (eval (.Name n r1) X.env) = eval (.Name n r1) X.env := by rfl) (hb4 : attributeBase (.Name n r3) g2 X.env (eval (.Name n r3) X.env) = eval (.Name n r3) X.env := by rfl) :
    B1 X ca B (.Try body [.ExceptHandler (some (.Name x1 np1)) (some n) [.Return (some (.Tuple [.Constant (.str sx) j0 q0, .Attribute (.Name n p1) f1 q1, .Attribute (.Name n p2) f2 q2] kk q)) q3] pp1,
      .ExceptHandler (some (.Name x2 np2)) (some n) [.Return (some (.Tuple [.Constant (.str sy) j1 r4, .Attribute (.Name n r1) g1 r2, .Attribute (.Name n r3) g2 r5] k1 r6)) r7] pp2] [] [] pos) ds (.rt res ds1) := fun ts σ H En W pl tk h0 Q => by
  refine ws_of (ps_try_manyAs (tb := fun W En σ H => ∀ X', InTr X X' → Takes X' W → WB X' body En σ H) hN hst hfr tk (fun W pn xe tk' po => ⟨fun pins s σ H En I h => h _ ⟨pn, xe, rfl, po⟩ tk' pins s I⟩)
    (.cons hn1 hi hln (suite_ret (ca := ca) T1 a1 a2 hi hv hd hcd hs0 hs1 hs2 hb1 hb2) (.cons hn2 hi hln (suite_ret (ca := ca) T2 b1 b2 hi hv hd hcd ht0 ht1 ht2 hb3 hb4) .nil))) ?_
  intro X' hX' tk'
  have hBS := hb X' hX'
  obtain ⟨pn, xe, rfl, po⟩ := hX'
  refine hBS ts σ H En _ pl tk' h0 ?_
  -- an exception's tuple
  have fin : ∀ {fs : List (Str × D)} {ds' : List Sl} {u v : D} {s0 f g : Str} {d : Addr} {σ' : L2.St} {H' : Hp}, ds' = ds1 → fldD fs f = some u → fldD fs g = some v → res = .dat (.tup [.str s0, u, v]) → holdsE X.K ca B ds' ts fs d σ' H' →
      ∃ (vs : List (Str × V)) (v1 v2 : V), H' d = some (.xd vs) ∧ vs.lookup f = some v1 ∧ vs.lookup g = some v2 ∧ ∀ p, H' p = none → En.rt (.ref p) (upd H' p (.tup [.str s0, v1, v2])) := fun {fs ds' u v s0 f g d σ' H'} e hu hvv hres hE => by
    obtain ⟨F, Hu, ow, rfl, C, vs, hF, r⟩ := hE
    obtain ⟨w1, h3, h4⟩ := r.get hu
    obtain ⟨w2, h5, h6⟩ := r.get hvv
    refine ⟨vs, w1, w2, C.at hF fun z => z, h3, h5, fun p hp => ?_⟩
    have g := C.newT (T := p) (.cons (.str s0) (.cons h4 (.cons h6 .nil))) hp
    rw [e] at g
    rw [hres] at Q
    exact Q _ _ _ g
  rcases hout with ⟨ds', rfl⟩ | ⟨fs, ds', u, v, rfl, e1, e2, e3⟩ | ⟨fs, ds', u, v, rfl, e1, e2, e3⟩
  · obtain ⟨d, ⟨h1, h2⟩ | ⟨⟨c, f, h1⟩, h2⟩⟩ := hds
    · cases h1
      rw [← h2] at Q
      exact Q
    · cases h1
  · have ed : ds' = ds1 := by
      obtain ⟨d, ⟨h1, h2⟩ | ⟨⟨c, f, h1⟩, h2⟩⟩ := hds
      · cases h1
      · cases h1
        exact h2
    intro d σ' H' hE
    obtain ⟨vs, v1, v2, k1, k2, k3, k4⟩ := fin ed e1 e2 e3 hE
    have hl : i < σ'.length := by
      obtain ⟨_, _, _, _, C, _⟩ := hE
      rw [C.len, ed]
      exact hl1
    exact ⟨true, m11, fun _ a ha => ⟨by rw [List.getElem?_set_self hl], rfl, d, vs, v1, v2, rfl, k1, k2, k3, k4⟩, fun z => by cases z⟩
  · have ed : ds' = ds1 := by
      obtain ⟨d, ⟨h1, h2⟩ | ⟨⟨c, f, h1⟩, h2⟩⟩ := hds
      · cases h1
      · cases h1
        exact h2
    intro d σ' H' hE
    obtain ⟨vs, v1, v2, k1, k2, k3, k4⟩ := fin ed e1 e2 e3 hE
    have hl : i < σ'.length := by
      obtain ⟨_, _, _, _, C, _⟩ := hE
      rw [C.len, ed]
      exact hl1
    exact ⟨false, m21, (fun z => by cases z), fun _ => ⟨true, m22, fun _ a ha => ⟨by rw [List.getElem?_set_self hl], rfl, d, vs, v1, v2, rfl, k1, k2, k3, k4⟩, fun z => by cases z⟩⟩
end
end DL
/-! DL15: calls with keywords alone; a dict of one pair; list.index. -/
namespace DL
open PySem PySem.Spec PyProof.Rows L2
def WK (X : Cx) (kws : List Keyword) (σ : L2.St) (H : Hp) (Q : List V → Hp → Prop) : Prop := ∀ pos pins s, Inv X pins σ H s → wpAny (model X.prog X.w) X.A (evalAll ((backToKw pos (keywordEach kws X.env)).map (·.2))) (AP X pins σ Q) X.xe s
theorem pk_wk {X : Cx} {kws : List Keyword} : PK X kws (WK X kws) := ⟨fun pos pins s _ _ _ I h => h pos pins s I⟩
theorem wk_of {X : Cx} {kws : List Keyword} {t : TA} (h : PK X kws t) {σ : L2.St} {H : Hp} {Q : List V → Hp → Prop} (q : t σ H Q) : WK X kws σ H Q := fun pos pins s I => h.run pos pins s σ H Q I q
def EK (X : Cx) (ca : CA) (B : Base) (kws : List Keyword) (ds : List Sl) (os : List Tm) (ds' : List Sl) : Prop :=
  ∀ ts σ H Q, holds X.K ca B ds ts σ H → (∀ vs H', vs.length = os.length → holds X.K ca B ds' (pushAll vs os ts) σ H' → Q vs H') → WK X kws σ H Q
section
variable {X : Cx} {CX : CXT} {k n : Nat} {f : Addr} {fd : FuncData} {ps ks : List Str} {sp : Sp} {x : Str} {p pos : Pos} {e : Expr} {es : List Expr} {kws : List Keyword} {t tk : TA} {g : List Value → List Value → List Value} {gV : List V → List V → List V} {E : L2.St → XK}
theorem run_fnND {pins : List (Addr × Obj)} {σ : L2.St} {H : Hp} {s : Shared} {Q : VK} {us ws : List Value} {vs zs : List V} (F : FnOk X.prog X.w X.K X.mg X.base CX k f fd ps sp) (hr : Room k X.A) (hb : KBn X.K fd ps n ks g gV)
    (hx : ∀ (σ : L2.St) (pins : List (Addr × Obj)) (H : Hp) (s : Shared) (e : Value) (s' : Shared), Inv X pins σ H s → CX X.stack H s (E σ) e s' → X.xe e s')
    (I : Inv X pins σ H s) (r : Vals vs us) (rz : Vals zs ws) (l1 : vs.length = n) (l2 : zs.length = ks.length) (h : sp (gV vs zs) H Q (E σ)) : wpAny (model X.prog X.w) X.A (call (.ref f) us (ks.zip ws)) (EP X pins σ Q) X.xe s := by
  have r2 := hb.rel r rz
  refine wpAny_call (codeAny_mono (F.run X.A X.stack s H ⟨us, ks.zip ws⟩ (g us ws) (gV vs zs) Q (E σ) hr I.env0 (hb.to s us ws I.kIn (r.length.symm.trans l1) (rz.length.symm.trans l2)) r2 h) fun r s' hq => ?_)
  cases r with
  | error e => exact hx σ pins H s e s' I hq
  | ok fl =>
    cases fl with
    | ret u => exact I.after hq
    | next => exact False.elim hq
    | brk => exact False.elim hq
    | cont => exact False.elim hq
/-- f(k = v, ..) -/
theorem pe_callKw0 (F : FnOk X.prog X.w X.K X.mg X.base CX k f fd ps sp) (hr : Room k X.A) (hg : Gl X x) (hm : X.mg x = some (.ref f)) (hk : PySem.W.keepIn X.K (.ref f) = true) (hb : KBn X.K fd ps 0 ks g gV)
    (hx : ∀ (σ : L2.St) (pins : List (Addr × Obj)) (H : Hp) (s : Shared) (e : Value) (s' : Shared), Inv X pins σ H s → CX X.stack H s (E σ) e s' → X.xe e s')
    (hkw : PK X kws tk) (hall : (backToKw pos (keywordEach kws X.env)).all (·.1.isSome) = true := by rfl) (hks : (backToKw pos (keywordEach kws X.env)).filterMap (·.1) = ks := by rfl)
    (hdb : (x == ("__debug__" : Str)) = false := by decide) (hpl : ((backTo pos (starEach [] X.env)).any (·.1) || (backToKw pos (keywordEach kws X.env)).any (·.1.isNone)) = false := by rfl) :
    PE X (.Call (.Name x p) [] kws pos) (fun σ H Q => tk σ H fun zs H2 => zs.length = ks.length ∧ sp (gV [] zs) H2 Q (E σ)) := by
  refine ⟨fun pins s σ H Q I h => ?_⟩
  refine wpAny_Call_Name_kw (ld_glob I hg hm ?_ hdb)
  refine PySem.W.callWith_KW0 (h₀ := X.base) I.ok.mod.kin hk hall ?_ hpl
  refine thn (hkw.run pos pins s σ H _ I h) fun ws s2 ⟨zs, H2, I2, rz, l2, q2⟩ => ⟨I2.kIn, ?_⟩
  rw [hks]
  exact run_fnND (us := []) (vs := []) F hr hb hx I2 .nil rz rfl l2 q2
end
section
variable {X : Cx} {ca : CA} {B : Base} {ds ds1 ds2 : List Sl} {o : Tm} {os : List Tm} {ods : List OD} {e : Expr} {es : List Expr} {pos p kpos : Pos} {x : Str} {k : Nat} {f : Addr} {fd : FuncData} {ps ks : List Str} {n : Nat} {R : List OD → Res → Prop} {kws : List Keyword} {nm : Option Str} {g : List Value → List Value → List Value} {gV : List V → List V → List V} {xs ys : List D}
theorem ek_nil : EK X ca B [] ds [] ds := fun ts σ H Q h0 q => wk_of pk_nil (q [] H rfl h0)
theorem ek_cons (h1 : EV X ca B e ds o ds1) (h2 : EK X ca B kws ds1 os ds2) : EK X ca B (⟨nm, e, kpos⟩ :: kws) ds (o :: os) ds2 := fun ts σ H Q h0 q =>
  wk_of (pk_cons pe_we pk_wk) (h1 ts σ H _ h0 fun v H1 h => h2 _ σ H1 _ h fun vs H2 hl h' => q (v :: vs) H2 (congrArg Nat.succ hl) h')
theorem ev_callKw {r od' : OD} (G : FnOk X.prog X.w X.K X.mg X.base (CX X.prog X.w) k f fd ps (spD X.K ca n none R)) (hr : Room k X.A) (hm : X.mg x = some (.ref f)) (hk : PySem.W.keepIn X.K (.ref f) = true) (hb : KBn X.K fd ps 0 ks g gV)
    (ha : EK X ca B kws ds (tds xs) ds1) (hperm : ∀ F zs, Reps X.K ca F xs zs → Reps X.K ca F ys (gV [] zs)) (hR : R (ys.map .dat) (.ok r od')) (hlk : xs.length = ks.length) (hn : ys.length = n := by rfl)
    (hall : (backToKw pos (keywordEach kws X.env)).all (·.1.isSome) = true := by rfl) (hks : (backToKw pos (keywordEach kws X.env)).filterMap (·.1) = ks := by rfl) (hg : Gl X x := by rfl)
    (hdb : (x == ("__debug__" : Str)) = false := by decide) (hpl : ((backTo pos (starEach [] X.env)).any (·.1) || (backToKw pos (keywordEach kws X.env)).any (·.1.isNone)) = false := by rfl) : EV X ca B (.Call (.Name x p) [] kws pos) ds (.v r) ds1 := fun ts σ H Q h0 q =>
  we_of (pe_callKw0 (E := fun _ _ _ _ => False) G hr hg hm hk hb (fun σ pins H s e s' I z => passes_call (W := fun _ _ _ _ => False) takes_none5 (fun _ _ _ _ z => z) pins σ H s e s' I z) pk_wk hall hks hdb hpl) (ha ts σ H _ h0 fun zs H1 hl h1 => by
    have hlv : zs.length = xs.length := by rw [hl]; simp [tds]
    obtain ⟨F, Hu, ow, rfl, C⟩ := h1
    have t := C.tm
    rw [tds_tvs] at t
    obtain ⟨r1, t2⟩ := tms_pushAll (by rw [List.length_map]; exact hlv.symm) t
    have rr := hperm F zs (reps_of_ownsL r1)
    have C2 : Core X.K ca B ds1 (pushAll (gV [] zs) (tds ys) ts) σ F Hu ow := (C.tms ts t2).pushD rr
    have ar : Args ds1 0 none (tds ys) (ys.map .dat) := args_dat ys
    have hl2 : (gV [] zs).length = (tds ys).length := by rw [← rr.length]; simp [tds]
    refine ⟨hlv.trans hlk, callB B F Hu ow none 0 (gV [] zs), _, .ok r od', hR, by simp [hn], rfl, C2.start ar hl2, fun v dsc σc H' hc hd => ?_⟩
    obtain ⟨F', Hu', ow', rfl, C'⟩ := hc
    obtain ⟨ow3, C3, hw⟩ := C2.back ar hl2 C' hd
    have t := C'.tm
    have t1 : OwnsP X.K ca F' Hu' r v (fun a => ow' a = some (.inr 0)) := t.1
    exact q v _ ⟨F', Hu', ow3, rfl, C3.tms _ ⟨owns_imp (Ex.refl _) (fun a o pa ha => ⟨ha, hw a pa⟩) t1, C3.tm⟩⟩)
theorem ex_callKw {c : Str} {fs : List (Str × D)} {od' : OD} (G : FnOk X.prog X.w X.K X.mg X.base (CX X.prog X.w) k f fd ps (spD X.K ca n none R)) (hr : Room k X.A) (hm : X.mg x = some (.ref f)) (hk : PySem.W.keepIn X.K (.ref f) = true) (hb : KBn X.K fd ps 0 ks g gV)
    (ha : EK X ca B kws ds (tds xs) ds1) (hperm : ∀ F zs, Reps X.K ca F xs zs → Reps X.K ca F ys (gV [] zs)) (hR : R (ys.map .dat) (.ex c fs od')) (hlk : xs.length = ks.length) (hn : ys.length = n := by rfl)
    (hall : (backToKw pos (keywordEach kws X.env)).all (·.1.isSome) = true := by rfl) (hks : (backToKw pos (keywordEach kws X.env)).filterMap (·.1) = ks := by rfl) (hg : Gl X x := by rfl)
    (hdb : (x == ("__debug__" : Str)) = false := by decide) (hpl : ((backTo pos (starEach [] X.env)).any (·.1) || (backToKw pos (keywordEach kws X.env)).any (·.1.isNone)) = false := by rfl) : EX X ca B (.Call (.Name x p) [] kws pos) ds c fs ds1 := fun ts σ H Q W tk h0 q =>
  we_of (pe_callKw0 (E := fun σ cls d H => W cls d σ H) G hr hg hm hk hb (fun σ pins H s e s' I z => tk e s' (XE.of_call I (fun _ _ _ h => h) z)) pk_wk hall hks hdb hpl) (ha ts σ H _ h0 fun zs H1 hl h1 => by
    have hlv : zs.length = xs.length := by rw [hl]; simp [tds]
    obtain ⟨F, Hu, ow, rfl, C⟩ := h1
    have t := C.tm
    rw [tds_tvs] at t
    obtain ⟨r1, t2⟩ := tms_pushAll (by rw [List.length_map]; exact hlv.symm) t
    have rr := hperm F zs (reps_of_ownsL r1)
    have C2 : Core X.K ca B ds1 (pushAll (gV [] zs) (tds ys) ts) σ F Hu ow := (C.tms ts t2).pushD rr
    have ar : Args ds1 0 none (tds ys) (ys.map .dat) := args_dat ys
    have hl2 : (gV [] zs).length = (tds ys).length := by rw [← rr.length]; simp [tds]
    refine ⟨hlv.trans hlk, callB B F Hu ow none 0 (gV [] zs), _, .ex c fs od', hR, by simp [hn], rfl, C2.start ar hl2, fun d dsc σc H' hc hd => ?_⟩
    obtain ⟨F', Hu', ow', rfl, C', xs, hx, hrep⟩ := hc
    obtain ⟨ow3, C3, hw⟩ := C2.back ar hl2 C' hd
    exact q d _ ⟨F', Hu', ow3, rfl, C3, xs, hx, hrep⟩)
end
/-! ### a dict of one pair -/
section
variable {K : PySem.W.Frag} {ca : CA} {B : Base} {ds : List Sl} {ts : List (V × Tm)} {σ : L2.St} {H F Hu : Hp} {ow : Addr → Option Own} {v w : V} {d : D}
theorem Core.growK {p : Addr} {kk : Key} (C : Core K ca B ds ((v, .v (.dat d)) :: (w, .v (.dat (keyD kk))) :: (.ref p, .v (OD.k [])) :: ts) σ F Hu ow) : lock B.lk Hu p = some (.dK []) ∧ w = kV kk ∧ holds K ca B ds ((.ref p, .v (OD.k [(kk, d)])) :: ts) σ (upd (lock B.lk Hu) p (.dK [(kk, v)])) := by
  have t := C.tm
  have t1 : OwnsP K ca F Hu (.dat d) v _ := t.1
  rw [OwnsP] at t1
  have t2 : OwnsP K ca F Hu (OD.k []) (.ref p) (fun a => ow a = some (.inr ts.length)) ∧ TmsR K ca F Hu ow σ ts := t.2.2
  obtain ⟨p', us, e, hp, hH, r⟩ := owns_k t2.1
  cases e
  cases r
  have hF := C.own p _ hp
  refine ⟨by rw [lock_none (C.nolk hp)]; exact hH, C.rest.h.key, F, _, ow, lock_upd (C.nolk hp), C.f0, fun a o h => ?_, C.lks, C.fresh, fun a o h hf => ?_, fun a o h => ?_, C.own, C.ownS, C.ownT, C.prs, C.len, fun j od' hj => ?_, ?_, ?_⟩
  · rw [upd_ne (ne_of_none h hF)]
    exact C.fh a o h
  · rw [upd_ne (ne_of_none h (C.ownT p _ hp))]
    exact C.keep a o h hf
  · rw [upd_ne (ne_of_none h (C.ownT p _ hp))]
    exact C.stay a o h
  · obtain ⟨w, h1, h2⟩ := C.sl j od' hj
    refine ⟨w, h1, owns_imp (Ex.refl _) (fun a o pa ha => ⟨?_, pa⟩) h2⟩
    have pa' : ow a = some (.inl j) := pa
    rw [upd_ne (fun e => by rw [e, hp] at pa'; cases pa')]
    exact ha
  · exact owns_k_mk hp upd_same (.cons t1 .nil)
  · refine tms_imp (Ex.refl _) (fun a o k hk pa ha => ⟨?_, pa⟩) t2.2
    rw [upd_ne (fun e => by rw [e, hp] at pa; cases pa; exact Nat.lt_irrefl _ hk)]
    exact ha
end
section
variable {X : Cx} {ca : CA} {B : Base} {ds ds1 ds2 : List Sl} {o : Tm} {e a b : Expr} {pos p ap cp : Pos} {d : D} {i : Int} {j : Nat} {ss : List Str} {y : Str}
/-- xs.index(y), texts -/
theorem EV.index (ha : EV X ca B a ds o ds1) (hb : EV X ca B b ds1 (.str y) ds2) (hs1 : Seq ds1 o true (ss.map .str)) (hs : Seq ds2 o true (ss.map .str)) (hj : ss[j]? = some y) (hf : ∀ m z, m < j → ss[m]? = some z → z ≠ y)
    (hbase : attributeBase a "index" X.env (eval a X.env) = eval a X.env := by rfl)
    (hfew : ((backTo cp (starEach [b] X.env)).all (fun x => !x.1) && (backToKw cp (keywordEach [] X.env)).all (fun x => x.1.isSome)
      && decide ([b].length + ([] : List Keyword).length + (if ([] : List Keyword).isEmpty then 0 else 1) < 30)) = true := by rfl)
    (hline : (ap.endLine == cp.line) = true := by rfl) (hst : starEach [b] X.env = (false, eval b X.env) :: starEach [] X.env := by rfl) :
    EV X ca B (.Call (.Attribute a "index" ap) [b] [] cp) ds (.int j) ds2 := fun ts σ H Q h q =>
  we_of (pe_bm PySem.F.plainAttrs_list PySem.F.slot_list_index PySem.F.type_list_index mt_index pe_we pa_wa hbase hfew hline hst rfl) (ha ts σ H _ h fun v H1 g1 => ⟨by
    obtain ⟨F, Hu, ow, rfl, C⟩ := g1
    obtain ⟨p, vs, rfl, h, _⟩ := C.seqL hs1
    exact .inl ⟨rfl, vs, h⟩, ea_cons hb ea_nil hst _ σ H1 _ g1 fun vs H2 hl g2 => by
    obtain ⟨w, rfl⟩ := vs1 hl
    have g3 : holds X.K ca B ds2 ((w, .str y) :: (v, o) :: ts) σ H2 := g2
    obtain rfl := g3.str
    obtain ⟨F, Hu, ow, rfl, C⟩ := g3
    obtain ⟨p, vs, rfl, h, r⟩ := C.rest.seqL hs
    rw [reps_strs r] at h
    refine ⟨p, ss.map V.str, .str y, j, .str y, rfl, rfl, h, rfl, by simp [flatV], by simp [hj], by simp [eqV], fun m z hm hz => ?_, q _ _ (C.rest.rest.give (.int _))⟩
    rw [List.getElem?_map] at hz
    cases e : ss[m]? with
    | none => rw [e] at hz; cases hz
    | some u =>
      rw [e] at hz
      cases hz
      simpa [eqV] using hf m u hm e⟩)
/-- {k: e}, a dict of one pair -/
theorem ev_disp1 {kk : Key} (ha : EV X ca B a ds (.d (keyD kk)) ds1) (hb : EV X ca B b ds1 (.d d) ds2) : EV X ca B (.Dict [some a] [b] pos) ds (.v (OD.k [(kk, d)])) ds2 := fun ts σ H Q h q =>
  we_of (pe_disp (pps_cons pe_we pe_we pps_nil) rfl rfl (by simp) (by simp)) fun p hp => ha _ σ _ _ (h.newDK hp) fun v H1 g1 => hb _ σ H1 _ g1 fun w H2 g2 => by
    have g3 : holds X.K ca B ds2 ((w, .v (.dat d)) :: (v, .v (.dat (keyD kk))) :: (.ref p, .v (OD.k [])) :: ts) σ H2 := g2
    obtain ⟨F, Hu, ow, rfl, C⟩ := g3
    obtain ⟨e1, rfl, g4⟩ := C.growK
    exact ⟨e1, [(kk, w)], rfl, by simp, q _ _ g4⟩
end
end DL
/-! DL16: a def as its callers see it. -/
namespace DL
open PySem PySem.Spec PyProof.Rows L2
/-- the def of the name x keeps R -/
def CallI (P : Program) (w : World) (K : PySem.W.Frag) (mg : Str → Option Value) (base : Heap) (ca : CA) (k : Nat) (x : Str) (n : Nat) (al : Option Nat) (R : List OD → Res → Prop) : Prop :=
  ∃ f fd ps, FnOk P w K mg base (CX P w) k f fd ps (spD K ca n al R) ∧ mg x = some (.ref f) ∧ PySem.W.keepIn K (.ref f) = true ∧ Binds K fd ps []
def CallG (P : Program) (w : World) (K : PySem.W.Frag) (mg : Str → Option Value) (base : Heap) (ca : CA) (k : Nat) (x : Str) (n : Nat) (al : Option Nat) (R : List OD → Res → Prop) : Prop :=
  ∃ f fd ps, FnG P w K mg base (CX P w) k f fd ps (spD K ca n al R) ∧ mg x = some (.ref f) ∧ PySem.W.keepIn K (.ref f) = true ∧ Binds K fd ps []
/-- a def of the text, of no defaults -/
def Has (K : PySem.W.Frag) (mg : Str → Option Value) (x : Str) (s : Stmt) : Prop := ∃ f fd, FunD K x x (defArgs s) (defBody s) (defScope s) [] [] f fd ∧ mg x = some (.ref f)
/-- its parameters take what is written -/
def PlainArgs (x : Str) (s : Stmt) (ps : List Str) : Prop := ∀ (kV doc pm : Value) (an : Option Addr) (cdv ct : Value) (us : List Value), us.length = ps.length →
  bindArgs (PySem.W.fnOf x x (defArgs s) (defBody s) (defScope s) .none kV doc pm an cdv ct) ⟨us, []⟩ = pure (ps.zip us)
section
variable {P : Program} {w : World} {K : PySem.W.Frag} {mg : Str → Option Value} {base : Heap} {ca : CA} {x : Str} {s : Stmt} {N ps : List Str} {k : Nat} {al : Option Nat} {R : List OD → Res → Prop}
theorem callI (h : Has K mg x s) (hb : PlainArgs x s ps) (S : FnScope N ps (defScope s))
    (body : ∀ (X : Cx) (B : Base) (ods : List OD) (res : Res), (∃ (f : Addr) (cdv : Value) (A : Around) (outer : List Env) (s' : Shared) (H : Hp) (E : XK), X = cxOf (CX P w) P w K mg base N x (defScope s) f cdv A outer s' H E) → Room k X.A → B.pr = prOf al → R ods res → ods.length = ps.length →
      BP X ca B [defBody s] (ods.map .v ++ List.replicate (N.length - ps.length) .no) (Ends al res)) : CallI P w K mg base ca (k + 1) x ps.length al R := by
  obtain ⟨f, fd, F, hm⟩ := h
  exact ⟨f, fd, ps, okD F S fun X B ods res ⟨cdv, A, outer, s', H, E, e⟩ => body X B ods res ⟨f, cdv, A, outer, s', H, E, e⟩, hm, F.kp, F.bindsN hb⟩
theorem callG (h : Has K mg x s) (hb : PlainArgs x s ps) (S : FnScope N ps (defScope s))
    (body : ∀ (X : Cx) (B : Base) (ods : List OD) (res : Res), (∃ (f : Addr) (cdv : Value) (A : Around) (outer : List Env) (s' : Shared) (H : Hp) (E : XK), X = cxOf (CX P w) P w K mg base N x (defScope s) f cdv A outer s' H E) → X.A.guards = some [] → Room k X.A → B.pr = prOf al → R ods res → ods.length = ps.length →
      BP X ca B [defBody s] (ods.map .v ++ List.replicate (N.length - ps.length) .no) (Ends al res)) : CallG P w K mg base ca (k + 1) x ps.length al R := by
  obtain ⟨f, fd, F, hm⟩ := h
  exact ⟨f, fd, ps, okG F S fun X B ods res ⟨cdv, A, outer, s', H, E, e⟩ => body X B ods res ⟨f, cdv, A, outer, s', H, E, e⟩, hm, F.kp, F.bindsN hb⟩
end
/-- arguments that are data -/
def EAD (X : Cx) (ca : CA) (B : Base) (es : List Expr) (ds : List Sl) (xs : List D) (ds' : List Sl) : Prop := EA X ca B es ds (tds xs) ds'
section
variable {X : Cx} {ca : CA} {B : Base} {ds ds1 ds2 : List Sl} {os : List Tm} {ods : List OD} {e : Expr} {es : List Expr} {pos p : Pos} {x : Str} {k l : Nat} {al : Option Nat} {n : Nat} {R : List OD → Res → Prop} {xs : List D}
theorem ev_fn {r od' : OD} (j : Nat) (G : CallI X.prog X.w X.K X.mg X.base ca k x n al R) (hr : Room l X.A) (ha : EA X ca B (e :: es) ds os ds1) (ar : Args ds1 j al os ods) (hR : R ods (.ok r od')) (hk : k ≤ l := by decide) (hn : os.length = n := by rfl) (hs : setAl al j od' ds1 = ds2 := by rfl) (hg : Gl X x := by rfl) (hdb : (x == ("__debug__" : Str)) = false := by decide)
    (he : starEach (e :: es) X.env = (false, eval e X.env) :: starEach es X.env := by rfl) (hpl : (backTo pos (starEach es X.env)).any (·.1) = false := by rfl) : EV X ca B (.Call (.Name x p) (e :: es) [] pos) ds (.v r) ds2 := by
  obtain ⟨f, fd, ps, G1, hm, kp, hb⟩ := G
  exact ev_call G1 (hr.mono hk) hm kp hb ha ar hR hn hs hg hdb he hpl
/-- a call with data alone -/
theorem ev_fnD {r od' : OD} (G : CallI X.prog X.w X.K X.mg X.base ca k x n none R) (hr : Room l X.A) (ha : EAD X ca B (e :: es) ds xs ds1) (hR : R (xs.map .dat) (.ok r od')) (hk : k ≤ l := by decide) (hn : xs.length = n := by rfl) (hg : Gl X x := by rfl) (hdb : (x == ("__debug__" : Str)) = false := by decide)
    (he : starEach (e :: es) X.env = (false, eval e X.env) :: starEach es X.env := by rfl) (hpl : (backTo pos (starEach es X.env)).any (·.1) = false := by rfl) : EV X ca B (.Call (.Name x p) (e :: es) [] pos) ds (.v r) ds1 :=
  ev_fn 0 G hr ha (args_dat xs) hR hk (by simp [tds, hn]) rfl hg hdb he hpl
theorem ex_fnD {c : Str} {fs : List (Str × D)} {od' : OD} (G : CallI X.prog X.w X.K X.mg X.base ca k x n none R) (hr : Room l X.A) (ha : EAD X ca B (e :: es) ds xs ds1) (hR : R (xs.map .dat) (.ex c fs od')) (hk : k ≤ l := by decide) (hn : xs.length = n := by rfl) (hg : Gl X x := by rfl) (hdb : (x == ("__debug__" : Str)) = false := by decide)
    (he : starEach (e :: es) X.env = (false, eval e X.env) :: starEach es X.env := by rfl) (hpl : (backTo pos (starEach es X.env)).any (·.1) = false := by rfl) : EX X ca B (.Call (.Name x p) (e :: es) [] pos) ds c fs ds1 := by
  obtain ⟨f, fd, ps, G1, hm, kp, hb⟩ := G
  exact ex_call (j := 0) G1 (hr.mono hk) hm kp hb ha (args_dat xs) hR (by simp [tds, hn]) rfl hg hdb he hpl
theorem ev_fnG {r od' : OD} (j : Nat) (G : CallG X.prog X.w X.K X.mg X.base ca k x n al R) (hgd : X.A.guards = some []) (hr : Room l X.A) (ha : EA X ca B (e :: es) ds os ds1) (ar : Args ds1 j al os ods) (hR : R ods (.ok r od')) (hk : k ≤ l := by decide) (hn : os.length = n := by rfl) (hs : setAl al j od' ds1 = ds2 := by rfl) (hg : Gl X x := by rfl) (hdb : (x == ("__debug__" : Str)) = false := by decide)
    (he : starEach (e :: es) X.env = (false, eval e X.env) :: starEach es X.env := by rfl) (hpl : (backTo pos (starEach es X.env)).any (·.1) = false := by rfl) : EV X ca B (.Call (.Name x p) (e :: es) [] pos) ds (.v r) ds2 := by
  obtain ⟨f, fd, ps, G1, hm, kp, hb⟩ := G
  exact ev_callG G1 hgd (hr.mono hk) hm kp hb ha ar hR hn hs hg hdb he hpl
theorem ea1 {e1 : Expr} {o1 : Tm} (h1 : EV X ca B e1 ds o1 ds1) (hs : starEach [e1] X.env = (false, eval e1 X.env) :: starEach [] X.env := by rfl) : EA X ca B [e1] ds [o1] ds1 := ea_cons h1 ea_nil hs
theorem ev_lstE (h : EAD X ca B es ds xs ds1) (hz : xs.length ≤ 1000 := by simp) : EV X ca B (.List es pos) ds (.v (OD.l xs)) ds1 := ev_lstD h hz
theorem ev_tupD {t : Nat} (h : EAD X ca B es ds xs ds1) (hz : xs.length ≤ 1000 := by simp) : EV X ca B (.Tuple es t pos) ds (.d (.tup xs)) ds1 := ev_tup h hz
end
section
variable {X : Cx} {ca : CA} {B : Base} {ds ds1 ds2 ds3 : List Sl} {e e1 e2 e3 : Expr} {es : List Expr} {d d1 d2 d3 : D} {xs : List D}
theorem ead_nil : EAD X ca B [] ds [] ds := ea_nil
theorem ead_cons (h1 : EV X ca B e ds (.d d) ds1) (h2 : EAD X ca B es ds1 xs ds2) (hs : starEach (e :: es) X.env = (false, eval e X.env) :: starEach es X.env := by rfl) : EAD X ca B (e :: es) ds (d :: xs) ds2 := ea_cons h1 h2 hs
theorem ead1 (h1 : EV X ca B e1 ds (.d d1) ds1) (hs : starEach [e1] X.env = (false, eval e1 X.env) :: starEach [] X.env := by rfl) : EAD X ca B [e1] ds [d1] ds1 := ea_cons h1 ea_nil hs
theorem ead2 (h1 : EV X ca B e1 ds (.d d1) ds1) (h2 : EV X ca B e2 ds1 (.d d2) ds2) (hs : starEach [e1, e2] X.env = (false, eval e1 X.env) :: starEach [e2] X.env := by rfl) (hs2 : starEach [e2] X.env = (false, eval e2 X.env) :: starEach [] X.env := by rfl) : EAD X ca B [e1, e2] ds [d1, d2] ds2 := ea_cons h1 (ea_cons h2 ea_nil hs2) hs
theorem ead3 (h1 : EV X ca B e1 ds (.d d1) ds1) (h2 : EV X ca B e2 ds1 (.d d2) ds2) (h3 : EV X ca B e3 ds2 (.d d3) ds3) (hs : starEach [e1, e2, e3] X.env = (false, eval e1 X.env) :: starEach [e2, e3] X.env := by rfl) (hs2 : starEach [e2, e3] X.env = (false, eval e2 X.env) :: starEach [e3] X.env := by rfl) (hs3 : starEach [e3] X.env = (false, eval e3 X.env) :: starEach [] X.env := by rfl) : EAD X ca B [e1, e2, e3] ds [d1, d2, d3] ds3 := ea_cons h1 (ea_cons h2 (ea_cons h3 ea_nil hs3) hs2) hs
end
section
variable {X : Cx} {ca : CA} {B : Base} {ds ds1 : List Sl} {c a b : Expr} {o : Tm} {k : Bool} {pos : Pos}
/-- a if c else b, the slots stay -/
theorem ev_ifP (h1 : ET X ca B c ds k ds) (h2 : k = true → EV X ca B a ds o ds) (h3 : k = false → EV X ca B b ds o ds) : EV X ca B (.IfExp c a b pos) ds o ds := ev_if h1 h2 h3
end
end DL
/-! DL17: loops by a typed step. -/
namespace DL
open PySem PySem.Spec PyProof.Rows L2
theorem Wk.trans : ∀ {a b c : List Sl}, Wk a b → Wk b c → Wk a c
  | _, _, _, .nil, .nil => .nil
  | _, _, _, .keep w, .keep v => .keep (w.trans v)
  | _, _, _, .keep w, .drop v => .drop (w.trans v)
  | _, _, _, .drop w, .keep v => .drop (w.trans v)
  | _, _, _, .drop w, .drop v => .drop (w.trans v)
section
variable {X : Cx} {ca : CA} {B : Base} {ds ds1 ds2 : List Sl} {tg e : Expr} {body rest : List Stmt} {bs : List (List Stmt)} {out : Out} {P Q : Out → Prop} {pos : Pos} {xs : List D} {od : OD} {ws : List Nat}
theorem tg_pre (w : Wk ds ds1) (h : TG1 X ca B tg od ds1 ws ds2) : TG1 X ca B tg od ds ws ds2 := fun ts σ H v Q pl h0 q => h ts σ H v Q pl (h0.wk w) q
theorem lp_pre : ∀ {xs : List D} {ds ds1 : List Sl}, Wk ds ds1 → LP X ca B tg body xs ds1 out → LP X ca B tg body xs ds out
  | [], ds, ds1, w, h => by
    obtain ⟨d, w2, e⟩ := h
    exact ⟨d, w.trans w2, e⟩
  | x :: xs, ds, ds1, w, h => by
    obtain ⟨ds2, o, ws, h1, h2, h3⟩ := h
    exact ⟨ds2, o, ws, tg_pre w h1, h2, h3⟩
/-- the turns of a loop, with a post -/
def LPP (X : Cx) (ca : CA) (B : Base) (tg : Expr) (body : List Stmt) (xs : List D) (ds : List Sl) (P : Out → Prop) : Prop := ∃ out, LP X ca B tg body xs ds out ∧ P out
/-- what comes behind a loop -/
def Behind (X : Cx) (ca : CA) (B : Base) (rest : List Stmt) (bs : List (List Stmt)) (P : Out → Prop) : Out → Prop
  | .nx d => BP X ca B (rest :: bs) d P
  | .rt o d => P (.rt o d)
  | .ex c f d => P (.ex c f d)
  | _ => False
theorem bp_for (hp : PassesOwn (model X.prog X.w) X.A X.env X.xe) (hc : X.calm = true) (hi : IV X ca B tg e ds xs ds1) (hl : LPP X ca B tg body xs ds1 (Behind X ca B rest bs P)) (hs : ∀ x, foldedSetIterable e X.env x = pure x := by intro _; rfl) : BP X ca B ((.For tg e body [] pos :: rest) :: bs) ds P := by
  obtain ⟨out, h1, h2⟩ := hl
  have b := b1_for (pos := pos) hp hc hi h1 hs
  cases out with
  | nx d => exact bp_next b h2
  | rt o d => exact bp_stop b rfl h2
  | ex c f d => exact bp_stop b rfl h2
  | bk d => exact False.elim h2
  | ct d => exact False.elim h2
theorem bp_forK {kvs : List (Key × D)} {x : Str} {p : Pos} (i : Nat) (hp : PassesOwn (model X.prog X.w) X.A X.env X.xe) (hc : X.calm = true) (out : Out) (hl : ∀ B' : Base, B'.pr = B.pr → LP X ca B' tg body (kvs.map fun kv => keyD kv.1) ds out) (h2 : Behind X ca B rest bs P out) (hx : out.isEx = false)
    (h : ds[i]? = some (.v (.dat (.dK kvs))) := by rfl) (hN : X.N[i]? = some x := by rfl) (hv : Vis X.env.scope x := by first | exact Or.inl rfl | exact Or.inr (Or.inl rfl) | exact Or.inr (Or.inr rfl)) (hd : (x == ("__debug__" : Str)) = false := by decide)
    (hcd : (x == ("__classdict__" : Str)) = false := by decide) (hs : ∀ y, foldedSetIterable (.Name x p) X.env y = pure y := by intro _; rfl) : BP X ca B ((.For tg (.Name x p) body [] pos :: rest) :: bs) ds P := by
  have b := b1_forK (pos := pos) i hp hc hl hx h hN hv hd hcd hs
  cases out with
  | nx d => exact bp_next b h2
  | rt o d => exact bp_stop b rfl h2
  | ex c f d => cases hx
  | bk d => exact False.elim h2
  | ct d => exact False.elim h2
/-- one turn's end: on | broken off | a return or a raise -/
inductive Fl (σ ρ : Type) where
  | nx (s : σ) | bk (s : σ) | rt (r : ρ)
def loopF {α σ ρ : Type} (f : σ → α → Fl σ ρ) : List α → σ → Fl σ ρ
  | [], s => .nx s
  | a :: as, s => match f s a with
    | .nx s' => loopF f as s'
    | .bk s' => .nx s'
    | .rt r => .rt r
def Turned {σ ρ : Type} (enc : σ → List Sl) (ret : ρ → Out → Prop) : Fl σ ρ → Out → Prop
  | .nx s, o => ∃ d, (o = .nx d ∨ o = .ct d) ∧ Wk d (enc s)
  | .bk s, o => ∃ d, o = .bk d ∧ Wk d (enc s)
  | .rt r, o => ((∃ v d, o = .rt v d) ∨ ∃ c f d, o = .ex c f d) ∧ ret r o
def Looped {σ ρ : Type} (enc : σ → List Sl) (ret : ρ → Out → Prop) : Fl σ ρ → Out → Prop
  | .nx s, o => o = .nx (enc s)
  | .bk _, _ => False
  | .rt r, o => ((∃ v d, o = .rt v d) ∨ ∃ c f d, o = .ex c f d) ∧ ret r o
theorem lpp_loop {α σ ρ : Type} (enc : σ → List Sl) (it : α → D) (f : σ → α → Fl σ ρ) (I : σ → List α → Prop) (ret : ρ → Out → Prop)
    (step : ∀ s a as, I s (a :: as) → ∃ ds1 ws, TG1 X ca B tg (.dat (it a)) (enc s) ws ds1 ∧ BP X ca B [body] ds1 (Turned enc ret (f s a)) ∧ ∀ s', f s a = .nx s' → I s' as) :
    ∀ as s, I s as → LPP X ca B tg body (as.map it) (enc s) (Looped enc ret (loopF f as s))
  | [], s, _ => ⟨.nx (enc s), ⟨_, Wk.refl _, rfl⟩, rfl⟩
  | a :: as, s, h => by
    obtain ⟨ds1, ws, h1, h2, h3⟩ := step s a as h
    obtain ⟨o, b1, t1⟩ := h2.one
    unfold loopF
    cases e : f s a with
    | nx s' =>
      rw [e] at t1
      obtain ⟨d, ho, w⟩ := t1
      obtain ⟨out, l1, l2⟩ := lpp_loop enc it f I ret step as s' (h3 s' e)
      refine ⟨out, ⟨ds1, o, ws, h1, b1, ?_⟩, l2⟩
      rcases ho with rfl | rfl
      · exact lp_pre w l1
      · exact lp_pre w l1
    | bk s' =>
      rw [e] at t1
      obtain ⟨d, rfl, w⟩ := t1
      exact ⟨.nx (enc s'), ⟨ds1, _, ws, h1, b1, _, w, rfl⟩, rfl⟩
    | rt r =>
      rw [e] at t1
      obtain ⟨ho, hr⟩ := t1
      refine ⟨o, ⟨ds1, o, ws, h1, b1, ?_⟩, ho, hr⟩
      rcases ho with ⟨v, d, rfl⟩ | ⟨c, f, d, rfl⟩
      · rfl
      · rfl
theorem LPP.imp {P Q : Out → Prop} (h : LPP X ca B tg body xs ds P) (i : ∀ o, P o → Q o) : LPP X ca B tg body xs ds Q := by
  obtain ⟨o, h1, h2⟩ := h
  exact ⟨o, h1, i o h2⟩
theorem turned_nx {σ ρ : Type} {enc : σ → List Sl} {ret : ρ → Out → Prop} {s : σ} {d : List Sl} (w : Wk d (enc s)) : Turned enc ret (.nx s) (.nx d) := ⟨d, .inl rfl, w⟩
end
theorem enumD_map {α : Type} (g : α → D) : ∀ (xs : List α) (n : Nat), enumD n (xs.map g) = (xs.zipIdx n).map fun p => .tup [.int (p.2 : Nat), g p.1]
  | [], n => rfl
  | x :: xs, n => by
    rw [List.map_cons, List.zipIdx_cons, List.map_cons, enumD, enumD_map g xs (n + 1)]
theorem zipD_map {α β : Type} (g : α → D) (h : β → D) : ∀ (xs : List α) (ys : List β), zipD (xs.map g) (ys.map h) = (xs.zip ys).map fun p => .tup [g p.1, h p.2]
  | [], ys => by cases ys <;> rfl
  | x :: xs, [] => rfl
  | x :: xs, y :: ys => by
    rw [List.map_cons, List.map_cons, zipD, zipD_map g h xs ys]
    rfl
theorem loopF_nx {α σ ρ : Type} (f : σ → α → σ) : ∀ (as : List α) (s : σ), loopF (ρ := ρ) (fun s a => .nx (f s a)) as s = .nx (as.foldl f s)
  | [], s => rfl
  | a :: as, s => by
    show loopF _ as (f s a) = _
    rw [loopF_nx f as]
    rfl
theorem foldl_app {α β : Type} (g : α → List β) : ∀ (as : List α) (s : List β), as.foldl (fun s a => s ++ g a) s = s ++ as.flatMap g
  | [], s => by simp
  | a :: as, s => by
    rw [List.foldl_cons, foldl_app g as, List.flatMap_cons, List.append_assoc]
end DL
/-! DL18: comprehensions whose turns change nothing. -/
namespace DL
open PySem PySem.Spec PyProof.Rows L2
section
variable {X : Cx} {ca : CA} {B : Base} {ds ds1 : List Sl} {tg elt : Expr} {ifs : List Expr} {scope : Scope} {vs : List Nat}
theorem lc_pure {α : Type} (it : α → D) (p : α → Bool) (g : α → D) : ∀ (as : List α), (∀ a ∈ as, ∃ ds1 ws, (∀ X', InBlk X scope X' → TG1 X' ca B tg (.dat (it a)) ds ws ds1) ∧ (∀ i ∈ ws, i ∈ vs) ∧ (∀ X', InBlk X scope X' → ETs X' ca B ifs ds1 (p a) ds1) ∧
    (p a = true → ∀ X', InBlk X scope X' → EV X' ca B elt ds1 (.v (.dat (g a))) ds1) ∧ clr ds1 vs = ds) → LC X ca B scope vs tg ifs elt (as.map it) ds ((as.filter p).map g) ds
  | [], _ => ⟨rfl, rfl⟩
  | a :: as, h => by
    obtain ⟨ds1, ws, h1, h2, h3, h4, h5⟩ := h a (List.mem_cons_self ..)
    have ih := lc_pure it p g as fun b hb => h b (List.mem_cons_of_mem _ hb)
    refine ⟨ds1, p a, ds1, ws, h1, h2, h3, ?_⟩
    cases e : p a with
    | false =>
      refine .inl ⟨rfl, ?_⟩
      rw [h5, List.filter_cons_of_neg (by rw [e]; decide)]
      exact ih
    | true =>
      refine .inr ⟨rfl, g a, ds1, (as.filter p).map g, h4 e, ?_, ?_⟩
      · rw [List.filter_cons_of_pos e, List.map_cons]
      · rw [h5]
        exact ih
/-- no test -/
theorem lc_all {α : Type} (it : α → D) (g : α → D) (as : List α) (h : ∀ a ∈ as, ∃ ds1 ws, (∀ X', InBlk X scope X' → TG1 X' ca B tg (.dat (it a)) ds ws ds1) ∧ (∀ i ∈ ws, i ∈ vs) ∧ (∀ X', InBlk X scope X' → EV X' ca B elt ds1 (.v (.dat (g a))) ds1) ∧ clr ds1 vs = ds) :
    LC X ca B scope vs tg [] elt (as.map it) ds (as.map g) ds := by
  have := lc_pure (X := X) (ca := ca) (B := B) (ds := ds) (tg := tg) (elt := elt) (ifs := []) (scope := scope) (vs := vs) it (fun _ => true) g as fun a ha => by
    obtain ⟨ds1, ws, h1, h2, h3, h4⟩ := h a ha
    exact ⟨ds1, ws, h1, h2, fun X' _ => ets_nil, fun _ => h3, h4⟩
  rwa [List.filter_eq_self.mpr (fun _ _ => rfl)] at this
theorem set_back {ds : List Sl} {i : Nat} {v : Sl} (h : ds[i]? = some .no) : (ds.set i v).set i .no = ds := by
  apply List.ext_getElem?
  intro j
  by_cases e : i = j
  · subst e
    have hl := (List.getElem?_eq_some_iff.mp h).1
    rw [List.getElem?_set_self (by rw [List.length_set]; exact hl), h]
  · rw [List.getElem?_set_ne e, List.getElem?_set_ne e]
/-- for one name -/
theorem lc_name {α : Type} (i : Nat) {x : Str} {pos : Pos} (it : α → D) (g : α → D) (as : List α) (hN : X.N.Nodup)
    (he : ∀ a ∈ as, ∀ X', InBlk X scope X' → EV X' ca B elt (ds.set i (.v (.dat (it a)))) (.v (.dat (g a))) (ds.set i (.v (.dat (it a)))))
    (hp : B.pr i = false := by rfl) (h0 : ds[i]? = some .no := by rfl) (hi : X.N[i]? = some x := by rfl)
    (hx : ∀ X', InBlk X scope X' → Loc X'.env.scope x := by (rintro X' ⟨_, _, _, _, _, rfl⟩; first | exact .inl rfl | exact .inr rfl))
    (hf : ∀ X', InBlk X scope X' → X'.fn x = true ∨ X'.env.scope.names.lookup x = some .local := by (rintro X' ⟨_, _, _, _, _, rfl⟩; first | exact .inl rfl | exact .inr rfl)) :
    LC X ca B scope [i] (.Name x pos) [] elt (as.map it) ds (as.map g) ds := by
  refine lc_all it g as fun a ha => ⟨ds.set i (.v (.dat (it a))), [i], fun X' hX => ?_, fun j hj => hj, he a ha, set_back h0⟩
  have hl := (List.getElem?_eq_some_iff.mp h0).1
  have h1 := hx X' hX
  have h2 := hf X' hX
  obtain ⟨_, _, _, _, _, rfl⟩ := hX
  exact tg_name i hN h1 rfl hl hp hi h2
theorem lc_nameF {α : Type} (i : Nat) {x : Str} {pos : Pos} (it : α → D) (p : α → Bool) (g : α → D) (as : List α) (hN : X.N.Nodup)
    (ht : ∀ a ∈ as, ∀ X', InBlk X scope X' → ETs X' ca B ifs (ds.set i (.v (.dat (it a)))) (p a) (ds.set i (.v (.dat (it a)))))
    (he : ∀ a ∈ as, p a = true → ∀ X', InBlk X scope X' → EV X' ca B elt (ds.set i (.v (.dat (it a)))) (.v (.dat (g a))) (ds.set i (.v (.dat (it a)))))
    (hp : B.pr i = false := by rfl) (h0 : ds[i]? = some .no := by rfl) (hi : X.N[i]? = some x := by rfl)
    (hx : ∀ X', InBlk X scope X' → Loc X'.env.scope x := by (rintro X' ⟨_, _, _, _, _, rfl⟩; first | exact .inl rfl | exact .inr rfl))
    (hf : ∀ X', InBlk X scope X' → X'.fn x = true ∨ X'.env.scope.names.lookup x = some .local := by (rintro X' ⟨_, _, _, _, _, rfl⟩; first | exact .inl rfl | exact .inr rfl)) :
    LC X ca B scope [i] (.Name x pos) ifs elt (as.map it) ds ((as.filter p).map g) ds := by
  refine lc_pure it p g as fun a ha => ⟨ds.set i (.v (.dat (it a))), [i], fun X' hX => ?_, fun j hj => hj, ht a ha, he a ha, set_back h0⟩
  have hl := (List.getElem?_eq_some_iff.mp h0).1
  have h1 := hx X' hX
  have h2 := hf X' hX
  obtain ⟨_, _, _, _, _, rfl⟩ := hX
  exact tg_name i hN h1 rfl hl hp hi h2
end
end DL
/-! DLH: a law's end where its def wants that no guard is on its way. -/
namespace DL
open PySem PySem.Spec PyProof.Rows L2
section
variable {P : Program} {w : World} {K : PySem.W.Frag} {mg mb : Str → Option Value} {CT : CXT} {k : Nat} {fo a : Addr} {fd : FuncData} {x : Str} {sp : Sp} {s : Shared} {us : List Value} {ns : List Int}
def LawEnd (s : Shared) : Result → Shared → Prop := fun r t => r = .ok (.ret (.bool true)) ∧ OldK s.heap t.heap ∧ t.os = s.os ∧ AllBare t.gens
/-- from a heap that tracks the script alone, or nothing -/
theorem law_core {H : Hp} (kin : K.In s.heap) (nsm : s.heap.Ns mainGlobals mg) (nsb : s.heap.Ns builtinsNs mb) (bb : ∀ z : Str, z ≠ "__name__" → mb z = bootBuiltins z) (lim : s.heap.NoLimit) (gz : s.gens = #[])
    (ob : s.heap.get? a = some { cls := .type "list", data := .seq us.toArray }) (room : Room k callerA) (prom : ∀ B : Heap, K.In B → B.Ns mainGlobals mg → FnG P w K mg B CT k fo fd [x] sp)
    (bd : ∀ (t : Shared) (v : Value), BindsTo t fd ⟨[v], []⟩ [(x, v)]) (hO : Only H) (hs : sp [.ref a] H (fun v _ => v = .bl true) fun _ _ _ => False) (nocx : ∀ e t, CT [] H s (fun _ _ _ => False) e t → False)
    (hok : HOk P w H s.heap) (hA : ∀ b, H b ≠ none → b = a) (hK : H a ≠ none → K.lookup a = none) : codeAny (model P w) callerA (.call (.ref fo) ⟨[.ref a], []⟩) (LawEnd s) s := by
  have hid : ∀ {b : Addr} {o : Obj}, s.heap.get? b = some o → (∀ y, o.data ≠ .seq us.toArray y) → (hidT s.heap H).get? b = some o := fun {b o} e d => hidT_get e (by
    cases q : H b with
    | none => rfl
    | some y =>
      obtain rfl : b = a := hA b (by rw [q]; exact fun z => by cases z)
      rw [ob] at e
      cases e
      exact absurd rfl (d _))
  have moved : ∀ {b : Addr} {m : Str → Option Value}, s.heap.Ns b m → (hidT s.heap H).Ns b m := fun {b m} ⟨o, es, ep, e, d, r⟩ => ⟨o, es, ep, hid e (fun y z => by rw [d] at z; cases z), d, r⟩
  have kin2 : K.In (hidT s.heap H) := fun b o e => hidT_get (kin b o e) (by
    cases q : H b with
    | none => rfl
    | some y =>
      obtain rfl : b = a := hA b (by rw [q]; exact fun z => by cases z)
      rw [hK (by rw [q]; exact fun z => by cases z)] at e
      cases e)
  obtain ⟨mc, lim1, lim2⟩ := lim
  have md : Mod K mg (hidT s.heap H) := ⟨kin2, moved nsm, ⟨mb, moved nsb, bb⟩, ⟨mc, moved lim1, lim2⟩⟩
  have env : Env0 P w K mg (hidT s.heap H) callerA [] s H := ⟨rfl, md, fun b o e => of_hidT e, Nat.le_of_eq (hidT_size _ _), trivial, (fun b hb => by cases hb), hok, .of_eq gz⟩
  have go := (prom _ kin2 (moved nsm)).run callerA [] s H ⟨[.ref a], []⟩ [.ref a] [.ref a] (fun v _ => v = .bl true) (fun _ _ _ => False) rfl room env (bd s (.ref a)) (.cons rfl .nil) hs
  refine codeAny_mono go fun r t h => ?_
  match r, h with
  | .error e, h => exact (nocx e t h).elim
  | .ok .next, h => exact h.elim
  | .ok .brk, h => exact h.elim
  | .ok .cont, h => exact h.elim
  | .ok (.ret y), h =>
    obtain ⟨v, H', os, bare, un, hok', rel, q⟩ := h
    obtain rfl : v = .bl true := q
    obtain rfl : y = Value.bool true := rel
    refine ⟨rfl, OldK.of_keep fun b o e => ?_, os, bare⟩
    cases q2 : H b with
    | none => exact un.keep b o e q2 (fun z => by cases z) (by simp)
    | some y =>
      rcases hO b with z | ⟨o2, xs, z⟩
      · rw [q2] at z
        cases z
      · obtain ⟨g1, _⟩ := hok b _ z
        obtain ⟨g2, _⟩ := hok' b _ (un.frzs b o2 _ z)
        rw [e] at g1
        cases g1
        exact g2
theorem law_callG (kin : K.In s.heap) (nsm : s.heap.Ns mainGlobals mg) (nsb : s.heap.Ns builtinsNs mb) (bb : ∀ z : Str, z ≠ "__name__" → mb z = bootBuiltins z) (lim : s.heap.NoLimit) (gz : s.gens = #[])
    (ob : s.heap.get? a = some { cls := .type "list", data := .seq us.toArray }) (ii : IntsAre us ns) (le : ns.length ≤ sizeLine) (room : Room k callerA) (prom : ∀ B : Heap, K.In B → B.Ns mainGlobals mg → FnG P w K mg B CT k fo fd [x] sp)
    (bd : ∀ (t : Shared) (v : Value), BindsTo t fd ⟨[v], []⟩ [(x, v)]) (hs : ∀ H : Hp, Only H → SqL K H a (ns.map V.int) → sp [.ref a] H (fun v _ => v = .bl true) fun _ _ _ => False) (nocx : ∀ H e t, CT [] H s (fun _ _ _ => False) e t → False) :
    codeAny (model P w) callerA (.call (.ref fo) ⟨[.ref a], []⟩) (LawEnd s) s := by
  have rel := vals_ints ii
  have len := ii.length
  cases q : K.lookup a with
  | some o =>
    have e := kin a o q
    rw [ob] at e
    cases e
    have hO : Only (fun _ => none) := fun _ => .inl rfl
    exact law_core (H := fun _ => none) kin nsm nsb bb lim gz ob room prom bd hO (hs _ hO (.inr ⟨_, us.toArray, _, q, rfl, rfl, rfl, by rw [List.size_toArray, len]; exact le, by simpa using rel⟩)) (nocx _) (fun b u z => by cases z) (fun b z => absurd rfl z) (fun z => absurd rfl z)
  | none =>
    let H : Hp := fun b => if b = a then some (.frz { cls := .type "list", data := .seq us.toArray } (.lst (ns.map V.int))) else none
    have at_ : H a = some (.frz { cls := .type "list", data := .seq us.toArray } (.lst (ns.map V.int))) := if_pos rfl
    have off : ∀ {b : Addr}, b ≠ a → H b = none := fun n => if_neg n
    have hO : Only H := fun b => by
      by_cases c : b = a
      · rw [c]
        exact .inr ⟨_, _, at_⟩
      · exact .inl (off c)
    refine law_core (H := H) kin nsm nsb bb lim gz ob room prom bd hO (hs _ hO (.inl (.inr ⟨_, at_⟩))) (nocx _) (fun b y z => ?_) (fun b z => ?_) (fun _ => q)
    · by_cases c : b = a
      · subst c
        rw [at_] at z
        cases z
        exact ⟨ob, by rw [List.length_map]; exact le, us, _, rel, ob⟩
      · rw [off c] at z
        cases z
    · by_cases c : b = a
      · exact c
      · exact absurd (off c) z
end
/-- a law: F gives the written part, the function object, the promise over every base -/
theorem walk_ofG {l : PySem.W.OpenLaw} {n k : Nat} {q : Program} {loose : List Str} {XP : (Str → Option Value) → Heap → Prop} {YP : World → Heap → Prop} {d : DefRec} {CT : World → CXT} {x : Str}
    (most : l.most = some n) (n2 : n ≤ sizeLine) (dfl : d.params.defaults = []) (room : Room k callerA)
    (F : ∀ (w : World) (mg : Str → Option Value) (fo : Addr) (h : Heap), YP w h → h.Ns mainGlobals mg → mg d.name = some (.ref fo) →
      ∃ (K : PySem.W.Frag) (fd : FuncData) (sp : Sp), K.In h ∧ (∀ (t : Shared) (v : Value), BindsTo t fd ⟨[v], []⟩ [(x, v)]) ∧
        (∀ (H : Hp) (a : Addr) (ns : List Int), ns.length ≤ n → Only H → SqL K H a (ns.map V.int) → sp [.ref a] H (fun v _ => v = .bl true) fun _ _ _ => False) ∧
        ∀ B : Heap, K.In B → B.Ns mainGlobals mg → FnG l.prog w K mg B (CT w) k fo fd [x] sp)
    (nocx : ∀ (w : World) (H : Hp) (s : Shared) (e : Value) (t : Shared), CT w [] H s (fun _ _ _ => False) e t → False) :
    PySem.W.WalkO q loose XP YP l.row.toRowW d [] (fun f vs => PySem.call f vs) := by
  refine Att.attach_call most dfl fun w s₀ s mg mb fo o pm cd doc a us ns G Y _ _ _ hmg ob ii le gz => ?_
  obtain ⟨K, fd, sp, kin, bd, hs, prom⟩ := F w mg fo _ Y G.T.g hmg
  exact law_callG kin G.T.g G.T.b G.T.builtins G.T.nolimit gz ob ii (Nat.le_trans le n2) room prom bd (fun H hO hS => hs H a ns le hO hS) fun H e t => nocx w H s e t
end DL
/-! K74a: the program's small defs. -/
namespace K74
open PySem PySem.Spec PyProof.Rows L2 DL
def top (i : Nat) : Stmt := PySem.Challenge.pw_bothleast_k74_whole_matching_faults.main.body.getD i (.Pass ⟨0, 0, 0, 0⟩)
/-- the lives' fields, as data -/
structure Liv where
  hol : List (Int × Int)
  sum : List (Int × Int)
  loo : List Int
  low : Int
  high : Int
def encPs (ps : List (Int × Int)) : D := .tup (ps.map encP)
def encL (L : Liv) : D := .ins "Lives" [("hollows", encPs L.hol), ("summits", encPs L.sum), ("loose", .tup (L.loo.map .int)), ("lowest", .int L.low), ("highest", .int L.high), ("handles", .int L.loo.length)]
/-- what is known of the text -/
structure Txt (w : World) (K : PySem.W.Frag) (mg : Str → Option Value) (ca : CA) : Prop where
  cw : ca.w = w
  fLen : mg "len" = none
  fAbs : mg "abs" = none
  fMax : mg "max" = none
  fRange : mg "range" = none
  fEnum : mg "enumerate" = none
  fZip : mg "zip" = none
  fIsi : mg "isinstance" = none
  fInt : mg "int" = none
  fBool : mg "bool" = none
  fStr : mg "str" = none
  fTuple : mg "tuple" = none
  fList : mg "list" = none
  fSorted : mg "sorted" = none
  fSet : mg "set" = none
  fRepr : mg "repr" = none
  fAll : mg "all" = none
  fAny : mg "any" = none
  fDict : mg "dict" = none
  lCls : Cls K (ca "Lives")
  lNo : ∀ f ∈ (["hollows", "summits", "loose", "lowest", "highest", "handles"] : List Str), NoAttr K (ca "Lives") f
section
variable {P : Program} {w : World} {K : PySem.W.Frag} {mg : Str → Option Value} {base : Heap} {ca : CA}

def R_life_of : List OD → Res → Prop := fun ods res => ∃ p : Int × Int, ods = [.dat (encP p)] ∧ res = .ok (.dat (.int (p.2 - p.1))) (.dat .non)
theorem ok_life_of (h : Has K mg "life_of" (top 8)) : CallI P w K mg base ca 1 "life_of" 1 none R_life_of := by
  refine callI (N := ["pair"]) (ps := ["pair"]) h (fun kV doc pm an cdv ct us hl => by match us, hl with | [_], _ => rfl) ⟨rfl, rfl, rfl, by decide +kernel, rfl, by decide +kernel, by decide +kernel⟩ fun X B ods res ⟨f, cdv, A, outer, s', H, E, hX⟩ hr hpr hR hl => ?_
  subst hX
  obtain ⟨p, rfl, rfl⟩ := hR
  exact bp_ret (EV.sub (EV.ix (ev_var 0) ev_int (.tup _) rfl) (EV.ix (ev_var 0) ev_int (.tup _) rfl)) ⟨rfl, fun i h => (nomatch h)⟩
def iabs (i : Int) : Int := if i < 0 then -i else i
def gap (p q : Int × Int) : Int := 2 * (if iabs (p.2 - q.2) > iabs (p.1 - q.1) then iabs (p.2 - q.2) else iabs (p.1 - q.1))
def R_pair_gap : List OD → Res → Prop := fun ods res => ∃ p q : Int × Int, ods = [.dat (encP p), .dat (encP q)] ∧ res = .ok (.dat (.int (gap p q))) (.dat .non)
theorem ok_pair_gap (T : Txt w K mg ca) (h : Has K mg "pair_gap" (top 10)) : CallI P w K mg base ca 1 "pair_gap" 2 none R_pair_gap := by
  refine callI (N := ["pair", "other"]) (ps := ["pair", "other"]) h (fun kV doc pm an cdv ct us hl => by match us, hl with | [_, _], _ => rfl) ⟨rfl, rfl, rfl, by decide +kernel, rfl, by decide +kernel, by decide +kernel⟩ fun X B ods res ⟨f, cdv, A, outer, s', H, E, hX⟩ hr hpr hR hl => ?_
  subst hX
  obtain ⟨p, q, rfl, rfl⟩ := hR
  exact bp_ret (EV.mul ev_int (EV.max2 rfl (EV.abs (EV.sub (EV.ix (ev_var 0) ev_int (.tup _) rfl) (EV.ix (ev_var 1) ev_int (.tup _) rfl)) T.fAbs) (EV.abs (EV.sub (EV.ix (ev_var 0) ev_int (.tup _) rfl) (EV.ix (ev_var 1) ev_int (.tup _) rfl)) T.fAbs) T.fMax) (.inl (by decide))) ⟨rfl, fun i h => (nomatch h)⟩
end
end K74
/-! K74b: the exceptions, check_handles, check_call, pairs_of. -/
namespace K74
open PySem PySem.Spec PyProof.Rows L2 DL
/-- an exception class with __init__(self, what): self.what = what; self.code = name -/
def flds1 (x : Str) : List V → List (Str × V) := fun ws => match ws with
  | [v] => [("code", .str x), ("what", v)]
  | _ => []
def fldsD1 (x : Str) : List D → List (Str × D) := fun ws => match ws with
  | [v] => [("code", .str x), ("what", v)]
  | _ => []
theorem flds1_ok (x : Str) : FldsD (flds1 x) (fldsD1 x) := fun K ca F ds vs r => by
  cases r with
  | nil => exact .nil
  | cons h r =>
    cases r with
    | nil => exact .cons (.str x) (.cons h .nil)
    | cons _ _ => exact .nil
section
variable {P : Program} {w : World} {K : PySem.W.Frag} {mg : Str → Option Value} {base : Heap} {ca : CA}
/-- the __init__ of such a class -/
theorem init1 {C fI : Addr} {fd : FuncData} {qual x : Str} {params : Arguments} {scope : Scope} {p1 p2 p3 p4 p5 p6 p7 p8 : Pos} {j0 : Nat} (F : FunD K "__init__" qual params [.Assign [.Attribute (.Name "self" p1) "what" p2] (.Name "what" p3) p4, .Assign [.Attribute (.Name "self" p5) "code" p6] (.Constant (.str x) j0 p7) p8] scope [] [] fI fd)
    (T : OexC K C) (n1 : PySem.W.findIn K (.ref C) "what" = some none) (n2 : PySem.W.findIn K (.ref C) "code" = some none) (S : FnScope ["self", "what"] ["self", "what"] scope) (v1 : Vis scope "self") (v2 : Vis scope "what")
    (hs1 : ∀ env, env.scope = scope → swapsWith (.Name "what" p3) (some (.Attribute (.Name "self" p1) "what" p2)) p4.line env = pure false) (hs2 : ∀ env, env.scope = scope → swapsWith (.Constant (.str x) j0 p7) (some (.Attribute (.Name "self" p5) "code" p6)) p8.line env = pure false) :
    FnOk P w K mg base (CX P w) 1 fI fd ["self", "what"] (spX K C 1 (flds1 x)) := by
  refine F.ok S (fun vs H Q E h => ?_) fun cdv A outer s H vs Q E hr h => ?_
  · obtain ⟨a, ws, rfl, h2, _⟩ := h
    simp [h2]
  · obtain ⟨a, ws, rfl, h2, h3, h4⟩ := h
    obtain ⟨v, rfl⟩ : ∃ v, ws = [v] := by
      match ws, h2 with
      | [v], _ => exact ⟨v, rfl⟩
    refine ⟨_, pss_cons (ps_ost (pe_var (i := 0) rfl v1 (by decide) (by decide)) (pe_var (i := 1) rfl v2 (by decide) (by decide)) (hs1 _ rfl)) (pss_one (ps_ost (pe_var (i := 0) rfl v1 (by decide) (by decide)) pe_str (hs2 _ rfl))), ?_⟩
    refine ⟨v, rfl, .ref a, rfl, a, C, rfl, T, n1, .inl ⟨h3, fun dx hd hda => ⟨.ref a, rfl, a, C, rfl, T, n2, .inr ⟨dx, [("what", v)], ?_, ?_, by simp, ?_⟩⟩⟩⟩
    · rw [upd_same]
    · rw [upd_ne hda, upd_same]
    · refine h4 dx _ hd hda ?_ upd_same fun b h5 h6 => ?_
      · rw [upd_ne hda.symm, upd_same]
      · rw [upd_ne h6, upd_ne h5, upd_ne h6]
/-- what is known of such a class -/
structure ExcT (K : PySem.W.Frag) (mg : Str → Option Value) (ca : CA) (c : Str) (s : Stmt) : Prop where
  oex : OexC K (ca c)
  glo : mg c = some (.ref (ca c))
  ini : ∃ (fI : Addr) (fd : FuncData), PySem.W.findIn K (.ref (ca c)) "__init__" = some (some (.ref fI)) ∧ PySem.W.typeIn K (.ref fI) = some (.type "function") ∧ FunD K "__init__" (c ++ ".__init__") (defArgs s) (defBody s) (defScope s) [] [] fI fd
  nWhat : PySem.W.findIn K (.ref (ca c)) "what" = some none
  nCode : PySem.W.findIn K (.ref (ca c)) "code" = some none
  xf : XfC K (ca c)
theorem exi_BadValue (T : ExcT K mg ca "BadValue" (inClass (top 4) 0)) : ExI P w K mg base 1 "BadValue" (ca "BadValue") 1 (flds1 "BadValue") := by
  obtain ⟨fI, fd, h1, h2, F⟩ := T.ini
  refine ⟨T.oex, T.glo, fI, fd, ["self", "what"], h1, h2, init1 F T.oex T.nWhat T.nCode ⟨rfl, rfl, rfl, by decide +kernel, rfl, by decide +kernel, by decide +kernel⟩ (.inl rfl) (.inl rfl) (fun env h => rfl) (fun env h => rfl), ?_⟩
  exact F.bindsN fun kV doc pm an cdv ct us hl => by match us, hl with | [_, _], _ => rfl
theorem exi_Unlike (T : ExcT K mg ca "Unlike" (inClass (top 5) 0)) : ExI P w K mg base 1 "Unlike" (ca "Unlike") 1 (flds1 "Unlike") := by
  obtain ⟨fI, fd, h1, h2, F⟩ := T.ini
  refine ⟨T.oex, T.glo, fI, fd, ["self", "what"], h1, h2, init1 F T.oex T.nWhat T.nCode ⟨rfl, rfl, rfl, by decide +kernel, rfl, by decide +kernel, by decide +kernel⟩ (.inl rfl) (.inl rfl) (fun env h => rfl) (fun env h => rfl), ?_⟩
  exact F.bindsN fun kV doc pm an cdv ct us hl => by match us, hl with | [_, _], _ => rfl

/-! ### check_handles, check_call, pairs_of -/
def exU (x y : Str) : Res := .ex x [("code", .str x), ("what", .str y)] (.dat .non)
abbrev okN (d : D) : Res := .ok (.dat d) (.dat .non)
def R_check_handles : List OD → Res → Prop := fun ods res => ∃ a b : Liv, ods = [.dat (encL a), .dat (encL b)] ∧ res = if a.loo.length = b.loo.length then okN .non else exU "Unlike" "handles"
theorem ok_check_handles (T : Txt w K mg ca) (U : ExcT K mg ca "Unlike" (inClass (top 5) 0)) (h : Has K mg "check_handles" (top 12)) : CallI P w K mg base ca 3 "check_handles" 2 none R_check_handles := by
  refine callI (N := ["lives", "other"]) (ps := ["lives", "other"]) h (fun kV doc pm an cdv ct us hl => by match us, hl with | [_, _], _ => rfl) ⟨rfl, rfl, rfl, by decide +kernel, rfl, by decide +kernel, by decide +kernel⟩ fun X B ods res ⟨f, cdv, A, outer, s', H, E, hX⟩ hr hpr hR hl => ?_
  subst hX
  obtain ⟨a, b, rfl, rfl⟩ := hR
  refine bp_if (et_cmp op_ne (EV.fld (ev_var 0) T.lCls (T.lNo _ (by decide)) rfl) (EV.fld (ev_var 1) T.lCls (T.lNo _ (by decide)) rfl) ro_neI) (fun hk => ?_) fun hk => ?_
  · refine bp_stop (b1_raise rfl (exi_Unlike U) (flds1_ok _) hr (ead1 ev_str) rfl) rfl ?_
    have hne : a.loo.length ≠ b.loo.length := fun e => by simp [e] at hk
    rw [if_neg hne]
    exact ⟨rfl, rfl, fun i h => (nomatch h)⟩
  · have he : a.loo.length = b.loo.length := by
      have h1 := of_decide_eq_true (p := (a.loo.length : Int) = b.loo.length) (by simpa using hk)
      exact Int.ofNat_inj.mp h1
    rw [if_pos he]
    exact bp_nil (bp_nil (bp_end ⟨rfl, fun i h => (nomatch h)⟩))
def R_check_call : List OD → Res → Prop := fun ods res => ∃ (a b : Liv) (n : Int), ods = [.dat (encL a), .dat (encL b), .dat (.int n)] ∧ res = if a.loo.length = b.loo.length then (if n < 0 then exU "BadValue" "n" else okN .non) else exU "Unlike" "handles"
theorem ok_check_call (T : Txt w K mg ca) (U : ExcT K mg ca "Unlike" (inClass (top 5) 0)) (V : ExcT K mg ca "BadValue" (inClass (top 4) 0)) (h0 : Has K mg "check_handles" (top 12)) (h : Has K mg "check_call" (top 13)) : CallI P w K mg base ca 4 "check_call" 3 none R_check_call := by
  refine callI (N := ["lives", "other", "n"]) (ps := ["lives", "other", "n"]) h (fun kV doc pm an cdv ct us hl => by match us, hl with | [_, _, _], _ => rfl) ⟨rfl, rfl, rfl, by decide +kernel, rfl, by decide +kernel, by decide +kernel⟩ fun X B ods res ⟨f, cdv, A, outer, s', H, E, hX⟩ hr hpr hR hl => ?_
  subst hX
  obtain ⟨a, b, n, rfl, rfl⟩ := hR
  by_cases e : a.loo.length = b.loo.length
  · rw [if_pos e]
    refine bp_next (b1_expr (ev_fnD (ok_check_handles T U h0) hr (ead2 (ev_var 0) (ev_var 1)) ⟨a, b, rfl, by rw [if_pos e]⟩)) ?_
    refine bp_if (et_cmp op_lt (ev_var 2) ev_int ro_cmpI) (fun hk => ?_) fun hk => ?_
    · refine bp_stop (b1_raise rfl (exi_BadValue V) (flds1_ok _) (hr.mono (by decide)) (ead1 ev_str) rfl) rfl ?_
      rw [if_pos (of_decide_eq_true hk)]
      exact ⟨rfl, rfl, fun i h => (nomatch h)⟩
    · rw [if_neg (of_decide_eq_false hk)]
      exact bp_nil (bp_nil (bp_end ⟨rfl, fun i h => (nomatch h)⟩))
  · rw [if_neg e]
    exact bp_stop (b1_exprX (ex_fnD (ok_check_handles T U h0) hr (ead2 (ev_var 0) (ev_var 1)) ⟨a, b, rfl, by rw [if_neg e]; rfl⟩)) rfl ⟨rfl, rfl, fun i h => (nomatch h)⟩
def R_pairs_of : List OD → Res → Prop := fun ods res => ∃ (a : Liv) (k : Str), ods = [.dat (encL a), .dat (.str k)] ∧ res = okN (encPs (if k = "hollows" then a.hol else a.sum))
theorem ok_pairs_of (T : Txt w K mg ca) (h : Has K mg "pairs_of" (top 14)) : CallI P w K mg base ca 1 "pairs_of" 2 none R_pairs_of := by
  refine callI (N := ["lives", "kind"]) (ps := ["lives", "kind"]) h (fun kV doc pm an cdv ct us hl => by match us, hl with | [_, _], _ => rfl) ⟨rfl, rfl, rfl, by decide +kernel, rfl, by decide +kernel, by decide +kernel⟩ fun X B ods res ⟨f, cdv, A, outer, s', H, E, hX⟩ hr hpr hR hl => ?_
  subst hX
  obtain ⟨a, k, rfl, rfl⟩ := hR
  refine bp_ret (od := .dat (encPs (if k = "hollows" then a.hol else a.sum))) (ev_ifP (et_cmp op_eq (ev_var 1) ev_str ro_eqS) (fun hk => ?_) fun hk => ?_) ⟨rfl, fun i h => (nomatch h)⟩
  · rw [if_pos (of_decide_eq_true hk)]
    exact EV.fld (ev_var 0) T.lCls (T.lNo _ (by decide)) rfl
  · rw [if_neg (of_decide_eq_false hk)]
    exact EV.fld (ev_var 0) T.lCls (T.lNo _ (by decide)) rfl
end
end K74
/-! K74c: far_bars. -/
namespace K74
open PySem PySem.Spec PyProof.Rows L2 DL
/-- the bars that stand too far apart -/
def farB (i j n : Int) : Bool := decide (2 * iabs (i - j) > n)
def farLoo (n : Int) (ps : List ((Int × Int) × Nat)) : List D := (ps.filter fun p => farB p.1.1 p.1.2 n).map fun p => .tup [.str "loose", .int (p.2 : Nat)]
def farBars (a b : Liv) (n : Int) : List D :=
  farLoo n ((a.loo.zip b.loo).zipIdx) ++ (if farB a.low b.low n = true then [.tup [.str "lowest"]] else []) ++ (if farB a.high b.high n = true then [.tup [.str "highest"]] else [])
section
variable {P : Program} {w : World} {K : PySem.W.Frag} {mg : Str → Option Value} {base : Heap} {ca : CA}
def R_far_bars : List OD → Res → Prop := fun ods res => ∃ (a b : Liv) (n : Int), ods = [.dat (encL a), .dat (encL b), .dat (.int n)] ∧ a.loo.length ≤ 1000 ∧ res = okN (.lst (farBars a b n))
theorem ok_far_bars (T : Txt w K mg ca) (h : Has K mg "far_bars" (top 15)) : CallI P w K mg base ca 1 "far_bars" 3 none R_far_bars := by
  have nd : (["lives", "other", "n", "found", "index", "height", "height2"] : List Str).Nodup := by decide +kernel
  refine callI (N := ["lives", "other", "n", "found", "index", "height", "height2"]) (ps := ["lives", "other", "n"]) h (fun kV doc pm an cdv ct us hl => by match us, hl with | [_, _, _], _ => rfl) ⟨rfl, rfl, rfl, nd, rfl, by decide +kernel, by decide +kernel⟩ fun X B ods res ⟨f, cdv, A, outer, s', H, E, hX⟩ hr hpr hR hl => ?_
  subst hX
  obtain ⟨a, b, n, rfl, hz, rfl⟩ := hR
  have pr : ∀ i, B.pr i = false := fun i => by rw [hpr]; rfl
  refine bp_next (b1_set 3 (ev_lstE ead_nil) nd (hp := pr _)) ?_
  refine bp_for (passes_of rfl) rfl (iv_enumZ (EV.fld (ev_var 0) T.lCls (T.lNo _ (by decide)) rfl) (EV.fld (ev_var 1) T.lCls (T.lNo _ (by decide)) rfl) T.fEnum T.fZip) ?_
  rw [zipD_map, enumD_map]
  refine (lpp_loop (σ := List D) (ρ := Unit) (fun s => [.d (encL a), .d (encL b), .d (.int n), .v (OD.l s), .no, .no, .no]) _ (fun s p => .nx (s ++ farLoo n [p])) (fun s as => s.length + as.length ≤ 1000) (fun _ _ => False) (fun s p as hI => ?_) _ [] (by simp; omega)).imp ?_
  · refine ⟨_, _, tg_tup rfl (tgs_cons (tg_name 4 nd (hp := pr _)) (tgs_cons (tg_tup rfl (tgs_cons (tg_name 5 nd (hp := pr _)) (tgs_cons (tg_name 6 nd (hp := pr _)) tgs_nil)) rfl) tgs_nil)) rfl, ?_, fun s' e => ?_⟩
    · refine bp_if (et_cmp op_gt (EV.mul ev_int (EV.abs (EV.sub (ev_var 5) (ev_var 6)) T.fAbs) (.inl (by decide))) (ev_var 2) ro_cmpI) (fun hk => ?_) fun hk => ?_
      · refine bp_next (b1_expr (EV.append 3 (ev_tupD (ead2 ev_str (ev_var 4))) rfl (by simp at hI; omega))) ?_
        refine bp_nil (bp_nil (bp_end ?_))
        have e : farLoo n [p] = [.tup [.str "loose", .int (p.2 : Nat)]] := by
          have h1 : farB p.1.1 p.1.2 n = true := hk
          simp [farLoo, h1]
        show Turned _ _ (.nx (s ++ farLoo n [p])) _
        rw [e]
        exact turned_nx (.keep (.keep (.keep (.keep (.drop (.drop (.drop .nil)))))))
      · refine bp_nil (bp_nil (bp_end ?_))
        have e : farLoo n [p] = [] := by
          have h1 : farB p.1.1 p.1.2 n = false := hk
          simp [farLoo, h1]
        show Turned _ _ (.nx (s ++ farLoo n [p])) _
        rw [e, List.append_nil]
        exact turned_nx (.keep (.keep (.keep (.keep (.drop (.drop (.drop .nil)))))))
    · cases e
      have h1 : (farLoo n [p]).length ≤ 1 := by
        unfold farLoo
        rw [List.length_map]
        exact List.length_filter_le ..
      simp at hI ⊢
      omega
  · intro o ho
    rw [loopF_nx] at ho
    have e : ((a.loo.zip b.loo).zipIdx).foldl (fun s p => s ++ farLoo n [p]) [] = farLoo n ((a.loo.zip b.loo).zipIdx) := by
      rw [foldl_app]
      simp only [List.nil_append, farLoo]
      generalize (a.loo.zip b.loo).zipIdx = ps
      induction ps with
      | nil => rfl
      | cons p ps ih =>
        rw [List.flatMap_cons, ih]
        by_cases h1 : farB p.1.1 p.1.2 n = true
        · simp [h1]
        · simp [h1]
    rw [e] at ho
    subst ho
    have hlen : (farLoo n ((a.loo.zip b.loo).zipIdx)).length ≤ 1000 := by
      unfold farLoo
      rw [List.length_map]
      refine Nat.le_trans (List.length_filter_le ..) ?_
      simp
      omega
    refine bp_join (ds2 := [.d (encL a), .d (encL b), .d (.int n), .v (OD.l (farLoo n ((a.loo.zip b.loo).zipIdx) ++ (if farB a.low b.low n = true then [.tup [.str "lowest"]] else []))), .no, .no, .no]) (et_cmp op_gt (EV.mul ev_int (EV.abs (EV.sub (EV.fld (ev_var 0) T.lCls (T.lNo _ (by decide)) rfl) (EV.fld (ev_var 1) T.lCls (T.lNo _ (by decide)) rfl)) T.fAbs) (.inl (by decide))) (ev_var 2) ro_cmpI) (fun hk => ?_) (fun hk => ?_) ?_
    · have h1 : farB a.low b.low n = true := hk
      rw [if_pos h1]
      exact bp_next (b1_expr (EV.append 3 (ev_tupD (ead1 ev_str)) rfl (by omega))) (bp_nil (bp_end ⟨_, rfl, Wk.refl _⟩))
    · have h1 : farB a.low b.low n = false := hk
      rw [if_neg (by rw [h1]; decide), List.append_nil]
      exact bp_nil (bp_end ⟨_, rfl, Wk.refl _⟩)
    refine bp_join (ds2 := [.d (encL a), .d (encL b), .d (.int n), .v (OD.l (farBars a b n)), .no, .no, .no]) (et_cmp op_gt (EV.mul ev_int (EV.abs (EV.sub (EV.fld (ev_var 0) T.lCls (T.lNo _ (by decide)) rfl) (EV.fld (ev_var 1) T.lCls (T.lNo _ (by decide)) rfl)) T.fAbs) (.inl (by decide))) (ev_var 2) ro_cmpI) (fun hk => ?_) (fun hk => ?_) ?_
    · have h1 : farB a.high b.high n = true := hk
      unfold farBars
      rw [if_pos h1]
      refine bp_next (b1_expr (EV.append 3 (ev_tupD (ead1 ev_str)) rfl ?_)) (bp_nil (bp_end ⟨_, rfl, Wk.refl _⟩))
      rw [List.length_append]
      split <;> simp <;> omega
    · have h1 : farB a.high b.high n = false := hk
      unfold farBars
      rw [if_neg (c := farB a.high b.high n = true) (by rw [h1]; decide), List.append_nil]
      exact bp_nil (bp_end ⟨_, rfl, Wk.refl _⟩)
    exact bp_ret (ev_frz 3 rfl (frz_l _) (hp := pr _)) ⟨rfl, fun i h => (nomatch h)⟩
end
end K74
/-! K74d: is_index, left_out, wrong_place. -/
namespace K74
open PySem PySem.Spec PyProof.Rows L2 DL
theorem b_int : bootBuiltins "int" = some (.type "int") := by decide +kernel
theorem b_bool : bootBuiltins "bool" = some (.type "bool") := by decide +kernel
theorem b_str : bootBuiltins "str" = some (.type "str") := by decide +kernel
theorem b_tuple : bootBuiltins "tuple" = some (.type "tuple") := by decide +kernel
section
variable {P : Program} {w : World} {K : PySem.W.Frag} {mg : Str → Option Value} {base : Heap} {ca : CA}
def R_is_index : List OD → Res → Prop := fun ods res => ∃ (i n : Int), ods = [.dat (.int i), .dat (.int n)] ∧ res = okN (.bl (decide (0 ≤ i) && decide (i < n)))
theorem ok_is_index (T : Txt w K mg ca) (h : Has K mg "is_index" (top 16)) : CallI P w K mg base ca 1 "is_index" 2 none R_is_index := by
  refine callI (N := ["value", "count"]) (ps := ["value", "count"]) h (fun kV doc pm an cdv ct us hl => by match us, hl with | [_, _], _ => rfl) ⟨rfl, rfl, rfl, by decide +kernel, rfl, by decide +kernel, by decide +kernel⟩ fun X B ods res ⟨f, cdv, A, outer, s', H, E, hX⟩ hr hpr hR hl => ?_
  subst hX
  obtain ⟨i, n, rfl, rfl⟩ := hR
  refine bp_ret (od := .dat (.bl (true && (!false && (decide (0 ≤ i) && decide (i < n)))))) (ds1 := [.d (.int i), .d (.int n)]) (ev_and (EV.isi (ev_var 0) (ev_gty T.fInt b_int) rfl rfl T.fIsi) (fun _ => ev_and (ev_not (EV.isi (ev_var 0) (ev_gty T.fBool b_bool) rfl rfl T.fIsi)) (fun _ => ev_one (ev_chain op_le op_lt ev_int (ev_var 0) (ev_var 1))) fun _ => rfl) fun _ => rfl) ⟨?_, fun i h => (nomatch h)⟩
  simp
def optI : Option Nat → D
  | none => .non
  | some i => .int (i : Nat)
/-- the first long pair that is not told -/
def loCond (n : Int) (idx : List Int) (p : (Int × Int) × Nat) : Bool := decide (p.1.2 - p.1.1 > n) && !decide ((p.2 : Int) ∈ idx)
def leftOut (ps : List (Int × Int)) (n : Int) (idx : List Int) : Option Nat := (ps.zipIdx.find? (loCond n idx)).map (·.2)
def outF {ρ : Type} : Option ρ → Fl Unit ρ
  | none => .nx ()
  | some r => .rt r
theorem loop_find {α ρ : Type} (c : α → Bool) (g : α → ρ) : ∀ as : List α, loopF (σ := Unit) (fun _ a => if c a = true then .rt (g a) else .nx ()) as () = outF ((as.find? c).map g)
  | [] => rfl
  | a :: as => by
    unfold loopF
    by_cases h : c a = true
    · simp [h, outF]
    · simp only [if_neg h]
      rw [loop_find c g as]
      simp [h]
def R_left_out : List OD → Res → Prop := fun ods res => ∃ (ps : List (Int × Int)) (n : Int) (idx : List Int), ods = [.dat (encPs ps), .dat (.int n), .dat (.lst (idx.map .int))] ∧ idx.length ≤ 1000 ∧ res = okN (optI (leftOut ps n idx))
theorem ok_left_out (T : Txt w K mg ca) (h0 : Has K mg "life_of" (top 8)) (h : Has K mg "left_out" (top 21)) : CallI P w K mg base ca 2 "left_out" 3 none R_left_out := by
  have nd : (["pairs", "n", "indexes", "told", "index", "pair"] : List Str).Nodup := by decide +kernel
  refine callI (N := ["pairs", "n", "indexes", "told", "index", "pair"]) (ps := ["pairs", "n", "indexes"]) h (fun kV doc pm an cdv ct us hl => by match us, hl with | [_, _, _], _ => rfl) ⟨rfl, rfl, rfl, nd, rfl, by decide +kernel, by decide +kernel⟩ fun X B ods res ⟨f, cdv, A, outer, s', H, E, hX⟩ hr hpr hR hl => ?_
  subst hX
  obtain ⟨ps, n, idx, rfl, hz, rfl⟩ := hR
  have pr : ∀ i, B.pr i = false := fun i => by rw [hpr]; rfl
  refine bp_next (b1_set 3 (EV.setL rfl T.cw (ev_var 2) (.lst _) (by omega) T.fSet) nd (hp := pr _)) ?_
  refine bp_for (passes_of rfl) rfl (iv_enumT (ev_var 0) T.fEnum) ?_
  rw [enumD_map]
  refine (lpp_loop (σ := Unit) (ρ := Nat) (fun _ => [.d (encPs ps), .d (.int n), .d (.lst (idx.map .int)), .v (.set idx), .no, .no]) _ (fun _ p => if loCond n idx p = true then .rt p.2 else .nx ()) (fun _ _ => True) (fun r o => ∃ d, o = .rt (.dat (.int (r : Nat))) d) (fun s p as hI => ?_) _ () trivial).imp ?_
  · refine ⟨_, _, tg_tup rfl (tgs_cons (tg_name 4 nd (hp := pr _)) (tgs_cons (tg_name 5 nd (hp := pr _)) tgs_nil)) rfl, ?_, fun _ _ => trivial⟩
    refine bp_if (EW.pt (ew_and (et_cmp op_gt (ev_fnD (ok_life_of h0) hr (ead1 (ev_var 5)) ⟨p.1, rfl, rfl⟩) (ev_var 1) ro_cmpI) (fun _ => ew_and1 (et_cmp or_snotin (ev_var 4) (ev_al 3) (ro_notInSx T.cw (.al rfl (.own _))))) fun _ => rfl)) (fun hk => ?_) fun hk => ?_
    · have e : loCond n idx p = true := hk
      rw [if_pos e]
      exact bp_ret (ev_var 4) ⟨.inl ⟨_, _, rfl⟩, _, rfl⟩
    · have e : loCond n idx p = false := hk
      rw [if_neg (by rw [e]; decide)]
      exact bp_nil (bp_nil (bp_end (turned_nx (.keep (.keep (.keep (.keep (.drop (.drop .nil)))))))))
  · intro o ho
    rw [loop_find] at ho
    unfold leftOut
    cases e : (ps.zipIdx.find? (loCond n idx)).map (·.2) with
    | none =>
      rw [e] at ho
      subst ho
      exact bp_ret ev_non ⟨rfl, fun i h => (nomatch h)⟩
    | some r =>
      rw [e] at ho
      obtain ⟨_, d, rfl⟩ := ho
      exact ⟨rfl, fun i h => (nomatch h)⟩
end
end K74
/-! K74e: wrong_place. -/
namespace K74
open PySem PySem.Spec PyProof.Rows L2 DL
def encN (r : Nat × Nat) : D := .tup [.int (r.1 : Nat), .int (r.2 : Nat)]
theorem atI_nat {α : Type} {xs : List α} {i : Nat} (h : i < xs.length) : atI xs (i : Int) = some xs[i] := by
  unfold atI ixN
  have h1 : (0 : Int) ≤ (i : Int) := Int.natCast_nonneg i
  have h2 : (i : Int) < (xs.length : Int) := Int.ofNat_lt.mpr h
  rw [if_pos h1, if_pos h2]
  simp [h]
theorem atI_map {α : Type} {xs : List α} {i : Nat} (g : α → D) (d : α) (h : i < xs.length) : atI (xs.map g) (i : Int) = some (g (xs.getD i d)) := by
  rw [atI_nat (by rw [List.length_map]; exact h)]
  simp [List.getElem?_eq_getElem h]
abbrev P0 : Int × Int := (0, 0)
/-- a row's pair is wrong: told before, or too far apart -/
def wpBad (ps qs : List (Int × Int)) (n : Int) (s : List Int × List Int) (r : Nat × Nat) : Bool :=
  decide ((r.1 : Int) ∈ s.1) || (decide ((r.2 : Int) ∈ s.2) || decide (gap (ps.getD r.1 P0) (qs.getD r.2 P0) > n))
def wpStep (ps qs : List (Int × Int)) (n : Int) (s : List Int × List Int) (p : (Nat × Nat) × Nat) : Fl (List Int × List Int) Nat :=
  if wpBad ps qs n s p.1 = true then .rt p.2 else .nx ((p.1.1 : Int) :: s.1, (p.1.2 : Int) :: s.2)
def outOf {σ : Type} : Fl σ Nat → Option Nat
  | .rt r => some r
  | _ => none
def wrongPlace (ps qs : List (Int × Int)) (n : Int) (rows : List (Nat × Nat)) : Option Nat := outOf (loopF (wpStep ps qs n) rows.zipIdx ([], []))
section
variable {P : Program} {w : World} {K : PySem.W.Frag} {mg : Str → Option Value} {base : Heap} {ca : CA}
def R_wrong_place : List OD → Res → Prop := fun ods res => ∃ (ps qs : List (Int × Int)) (n : Int) (rows : List (Nat × Nat)), ods = [.dat (encPs ps), .dat (encPs qs), .dat (.int n), .dat (.lst (rows.map encN))] ∧
  (∀ r ∈ rows, r.1 < ps.length ∧ r.2 < qs.length) ∧ rows.length ≤ 1000 ∧ res = okN (optI (wrongPlace ps qs n rows))
theorem ok_wrong_place (T : Txt w K mg ca) (h0 : Has K mg "pair_gap" (top 10)) (h : Has K mg "wrong_place" (top 20)) : CallI P w K mg base ca 2 "wrong_place" 4 none R_wrong_place := by
  have nd : (["first", "second", "n", "rows", "here", "there", "place", "index", "index2"] : List Str).Nodup := by decide +kernel
  refine callI (N := ["first", "second", "n", "rows", "here", "there", "place", "index", "index2"]) (ps := ["first", "second", "n", "rows"]) h (fun kV doc pm an cdv ct us hl => by match us, hl with | [_, _, _, _], _ => rfl) ⟨rfl, rfl, rfl, nd, rfl, by decide +kernel, by decide +kernel⟩ fun X B ods res ⟨f, cdv, A, outer, s', H, E, hX⟩ hr hpr hR hl => ?_
  subst hX
  obtain ⟨ps, qs, n, rows, rfl, hrows, hz, rfl⟩ := hR
  have pr : ∀ i, B.pr i = false := fun i => by rw [hpr]; rfl
  refine bp_next (b1_set 4 (ev_set0 T.cw T.fSet) nd (hp := pr _)) ?_
  refine bp_next (b1_set 5 (ev_set0 T.cw T.fSet) nd (hp := pr _)) ?_
  refine bp_for (passes_of rfl) rfl (iv_enum (ev_var 3) T.fEnum) ?_
  rw [enumD_map]
  refine (lpp_loop (σ := List Int × List Int) (ρ := Nat) (fun s => [.d (encPs ps), .d (encPs qs), .d (.int n), .d (.lst (rows.map encN)), .v (.set s.1), .v (.set s.2), .no, .no, .no]) _ (wpStep ps qs n) (fun s as => (∀ r ∈ as, r.1.1 < ps.length ∧ r.1.2 < qs.length) ∧ s.1.length + as.length ≤ 1000 ∧ s.2.length + as.length ≤ 1000) (fun r o => ∃ d, o = .rt (.dat (.int (r : Nat))) d) (fun s p as hI => ?_) _ ([], []) ⟨fun r hr => ?_, by simpa using hz, by simpa using hz⟩).imp ?_
  · obtain ⟨hi, hz1, hz2⟩ := hI
    obtain ⟨hp1, hp2⟩ := hi p (List.mem_cons_self ..)
    simp at hz1 hz2
    refine ⟨_, _, tg_tup rfl (tgs_cons (tg_name 6 nd (hp := pr _)) (tgs_cons (tg_tup rfl (tgs_cons (tg_name 7 nd (hp := pr _)) (tgs_cons (tg_name 8 nd (hp := pr _)) tgs_nil)) rfl) tgs_nil)) rfl, ?_, fun s' e => ?_⟩
    · refine bp_if (EW.pt (ew_or (et_cmp or_sin (ev_var 7) (ev_al 4) (ro_inSx T.cw (.al rfl (.own _)))) (fun _ => ew_or (et_cmp or_sin (ev_var 8) (ev_al 5) (ro_inSx T.cw (.al rfl (.own _)))) (fun _ => ew_or1 (et_cmp op_gt (ev_fnD (ok_pair_gap T h0) hr (ead2 (EV.ix (ev_var 0) (ev_var 7) (.tup _) (atI_map encP P0 hp1)) (EV.ix (ev_var 1) (ev_var 8) (.tup _) (atI_map encP P0 hp2))) ⟨_, _, rfl, rfl⟩) (ev_var 2) ro_cmpI)) fun _ => rfl) fun _ => rfl)) (fun hk => ?_) fun hk => ?_
      · have e : wpBad ps qs n s p.1 = true := hk
        unfold wpStep
        rw [if_pos e]
        exact bp_ret (ev_var 6) ⟨.inl ⟨_, _, rfl⟩, _, rfl⟩
      · have e : wpBad ps qs n s p.1 = false := hk
        unfold wpStep
        rw [if_neg (by rw [e]; decide)]
        refine bp_nil (bp_next (b1_expr (EV.sadd T.cw 4 (ev_var 7) rfl (by omega))) (bp_next (b1_expr (EV.sadd T.cw 5 (ev_var 8) rfl (by omega))) (bp_nil (bp_end (turned_nx ?_)))))
        exact .keep (.keep (.keep (.keep (.keep (.keep (.drop (.drop (.drop .nil))))))))
    · unfold wpStep at e
      by_cases c : wpBad ps qs n s p.1 = true
      · rw [if_pos c] at e
        cases e
      · rw [if_neg c] at e
        cases e
        refine ⟨fun r hr => hi r (List.mem_cons_of_mem _ hr), ?_, ?_⟩
        · simp; omega
        · simp; omega
  · have hm : r.1 ∈ rows := by
      obtain ⟨⟨a, b⟩, c⟩ := r
      exact (List.mem_zipIdx hr).2.2 ▸ List.getElem_mem _
    exact hrows _ hm
  · intro o ho
    unfold wrongPlace
    cases e : loopF (wpStep ps qs n) rows.zipIdx ([], []) with
    | nx s =>
      rw [e] at ho
      subst ho
      exact bp_ret ev_non ⟨rfl, fun i h => (nomatch h)⟩
    | bk s =>
      rw [e] at ho
      exact False.elim ho
    | rt r =>
      rw [e] at ho
      obtain ⟨_, d, rfl⟩ := ho
      exact ⟨rfl, fun i h => (nomatch h)⟩
end
end K74
/-! K74f: matching_fault. -/
namespace K74
open PySem PySem.Spec PyProof.Rows L2 DL
structure Kd where
  nm : Str
  ps : List (Int × Int)
  qs : List (Int × Int)
  rows : List (Nat × Nat)
def kinds (a b : Liv) (hs ss : List (Nat × Nat)) : List Kd := [⟨"hollows", a.hol, b.hol, hs⟩, ⟨"summits", a.sum, b.sum, ss⟩]
def m1 (n : Int) (k : Kd) : Option D := (wrongPlace k.ps k.qs n k.rows).map fun i => .tup [.str "M1", .str k.nm, .int (i : Nat)]
def m2 (n : Int) (k : Kd) : Option D := match leftOut k.ps n (k.rows.map fun r => (r.1 : Int)) with
  | some i => some (.tup [.str "M2", .str k.nm, .int 0, .int (i : Nat)])
  | none => (leftOut k.qs n (k.rows.map fun r => (r.2 : Int))).map fun i => .tup [.str "M2", .str k.nm, .int 1, .int (i : Nat)]
def m3 : List D → D
  | [] => .non
  | .tup [x, y] :: _ => .tup [.str "M3", x, y]
  | .tup (x :: _) :: _ => .tup [.str "M3", x, .non]
  | _ => .non
def mfault (a b : Liv) (n : Int) (hs ss : List (Nat × Nat)) : D := match (kinds a b hs ss).findSome? (m1 n) with
  | some d => d
  | none => match (kinds a b hs ss).findSome? (m2 n) with
    | some d => d
    | none => m3 (farBars a b n)
theorem atI_zero {α : Type} (d : α) (ds : List α) : atI (d :: ds) 0 = some d := by
  unfold atI ixN
  rw [if_pos (Int.le_refl 0), if_pos (by simp)]
  rfl
theorem farBars_form (a b : Liv) (n : Int) : ∀ d ∈ farBars a b n, (∃ i : Nat, d = .tup [.str "loose", .int (i : Nat)]) ∨ ∃ x : Str, d = .tup [.str x] := fun d hd => by
  unfold farBars at hd
  rcases List.mem_append.mp hd with hd | hd
  · rcases List.mem_append.mp hd with hd | hd
    · unfold farLoo at hd
      obtain ⟨p, _, rfl⟩ := List.mem_map.mp hd
      exact .inl ⟨_, rfl⟩
    · split at hd
      · exact .inr ⟨_, List.mem_singleton.mp hd⟩
      · cases hd
  · split at hd
    · exact .inr ⟨_, List.mem_singleton.mp hd⟩
    · cases hd
structure Wh where
  i : Nat
  ps : List (Int × Int)
  sel : Nat × Nat → Int
def whs (k : Kd) : List Wh := [⟨0, k.ps, fun r => (r.1 : Int)⟩, ⟨1, k.qs, fun r => (r.2 : Int)⟩]
def m2i (n : Int) (k : Kd) (q : Wh) : Option D := (leftOut q.ps n (k.rows.map q.sel)).map fun i => .tup [.str "M2", .str k.nm, .int (q.i : Nat), .int (i : Nat)]
theorem m2_eq (n : Int) (k : Kd) : (whs k).findSome? (m2i n k) = m2 n k := by
  unfold whs m2 m2i
  simp only [List.findSome?_cons, List.findSome?_nil]
  cases leftOut k.ps n (k.rows.map fun r => (r.1 : Int)) with
  | some i => rfl
  | none =>
    cases leftOut k.qs n (k.rows.map fun r => (r.2 : Int)) <;> rfl
theorem loop_some {α ρ : Type} (c : α → Option ρ) : ∀ as : List α, loopF (σ := Unit) (fun _ a => outF (c a)) as () = outF (as.findSome? c)
  | [] => rfl
  | a :: as => by
    unfold loopF
    cases h : c a with
    | none =>
      show loopF _ as () = _
      rw [loop_some c as, List.findSome?_cons, h]
    | some r => rw [List.findSome?_cons, h]; rfl
section
variable {P : Program} {w : World} {K : PySem.W.Frag} {mg : Str → Option Value} {base : Heap} {ca : CA}
def okRows (ps qs : List (Int × Int)) (rows : List (Nat × Nat)) : Prop := (∀ r ∈ rows, r.1 < ps.length ∧ r.2 < qs.length) ∧ rows.length ≤ 1000
def R_matching_fault : List OD → Res → Prop := fun ods res => ∃ (a b : Liv) (n : Int) (hs ss : List (Nat × Nat)), ods = [.dat (encL a), .dat (encL b), .dat (.int n), .dat (.lst (hs.map encN)), .dat (.lst (ss.map encN))] ∧ a.loo.length ≤ 1000 ∧
  okRows a.hol b.hol hs ∧ okRows a.sum b.sum ss ∧ res = if a.loo.length = b.loo.length then (if n < 0 then exU "BadValue" "n" else okN (mfault a b n hs ss)) else exU "Unlike" "handles"
theorem pairs_h {a : Liv} {k : Str} {ps : List (Int × Int)} (h : (if k = "hollows" then a.hol else a.sum) = ps) : R_pairs_of [.dat (encL a), .dat (.str k)] (okN (encPs ps)) := ⟨a, k, rfl, by rw [h]⟩
theorem fn_matching_fault (T : Txt w K mg ca) (U : ExcT K mg ca "Unlike" (inClass (top 5) 0)) (V : ExcT K mg ca "BadValue" (inClass (top 4) 0)) (h0 : Has K mg "check_handles" (top 12)) (h1 : Has K mg "check_call" (top 13)) (h2 : Has K mg "pairs_of" (top 14)) (h3 : Has K mg "far_bars" (top 15)) (h4 : Has K mg "wrong_place" (top 20)) (h5 : Has K mg "left_out" (top 21))
    (h6 : Has K mg "life_of" (top 8)) (h7 : Has K mg "pair_gap" (top 10)) {f : Addr} {fd : FuncData} (F : FunD K "matching_fault" "matching_fault" (defArgs (top 19)) (defBody (top 19)) (defScope (top 19)) [] [] f fd) : FnOk P w K mg base (CX P w) 5 f fd ["lives", "other", "n", "hollows", "summits"] (spD K ca 5 none R_matching_fault) := by
  have nd : (["lives", "other", "n", "hollows", "summits", "kind", "rows", "place", "whose", "pairs", "index", "far", "row"] : List Str).Nodup := by decide +kernel
  refine okD (N := ["lives", "other", "n", "hollows", "summits", "kind", "rows", "place", "whose", "pairs", "index", "far", "row"]) F ⟨rfl, rfl, rfl, nd, rfl, by decide +kernel, by decide +kernel⟩ fun X B ods res ⟨cdv, A, outer, s', H, E, hX⟩ hr hpr hR hl => ?_
  subst hX
  obtain ⟨a, b, n, hs, ss, rfl, hlo, hrh, hrs, rfl⟩ := hR
  have pr : ∀ i, B.pr i = false := fun i => by rw [hpr]; rfl
  by_cases e1 : a.loo.length = b.loo.length
  · rw [if_pos e1]
    by_cases e2 : n < 0
    · rw [if_pos e2]
      exact bp_stop (b1_exprX (ex_fnD (ok_check_call T U V h0 h1) hr (ead3 (ev_var 0) (ev_var 1) (ev_var 2)) ⟨a, b, n, rfl, by rw [if_pos e1, if_pos e2]; rfl⟩)) rfl ⟨rfl, rfl, fun i h => (nomatch h)⟩
    · rw [if_neg e2]
      refine bp_next (b1_expr (ev_fnD (ok_check_call T U V h0 h1) hr (ead3 (ev_var 0) (ev_var 1) (ev_var 2)) ⟨a, b, n, rfl, by rw [if_pos e1, if_neg e2]⟩)) ?_
      have hk1 : ∀ k ∈ kinds a b hs ss, okRows k.ps k.qs k.rows ∧ (if k.nm = "hollows" then a.hol else a.sum) = k.ps ∧ (if k.nm = "hollows" then b.hol else b.sum) = k.qs := fun k hk => by
        rcases List.mem_cons.mp hk with e | hk
        · rw [e]
          exact ⟨hrh, rfl, rfl⟩
        · rw [List.mem_singleton.mp hk]
          exact ⟨hrs, if_neg (show ¬ ("summits" : Str) = "hollows" by decide), if_neg (show ¬ ("summits" : Str) = "hollows" by decide)⟩
      -- the first loop
      refine bp_for (passes_of rfl) rfl (iv_tup (ev_tupD (ead2 (ev_tupD (ead2 ev_str (ev_var 3))) (ev_tupD (ead2 ev_str (ev_var 4)))))) ?_
      refine (lpp_loop (σ := Unit) (ρ := D) (fun _ => [.d (encL a), .d (encL b), .d (.int n), .d (.lst (hs.map encN)), .d (.lst (ss.map encN)), .no, .no, .no, .no, .no, .no, .no, .no]) (fun k : Kd => .tup [.str k.nm, .lst (k.rows.map encN)]) (fun _ k => outF (m1 n k)) (fun _ as => ∀ k ∈ as, k ∈ kinds a b hs ss) (fun r o => ∃ d, o = .rt (.dat r) d) (fun s k as hI => ?_) (kinds a b hs ss) () (fun k hk => hk)).imp ?_
      · obtain ⟨q1, q2, q3⟩ := hk1 k (hI k (List.mem_cons_self ..))
        refine ⟨_, _, tg_tup rfl (tgs_cons (tg_name 5 nd (hp := pr _)) (tgs_cons (tg_name 6 nd (hp := pr _)) tgs_nil)) rfl, ?_, fun _ _ j hj => hI j (List.mem_cons_of_mem _ hj)⟩
        refine bp_next (b1_set 7 (ev_fnD (ok_wrong_place T h7 h4) hr (ead_cons (ev_fnD (ok_pairs_of T h2) hr (ead2 (ev_var 0) (ev_var 5)) (pairs_h q2)) (ead3 (ev_fnD (ok_pairs_of T h2) hr (ead2 (ev_var 1) (ev_var 5)) (pairs_h q3)) (ev_var 2) (ev_var 6))) ⟨_, _, n, _, rfl, q1.1, q1.2, rfl⟩) nd (hp := pr _)) ?_
        unfold m1
        cases e : wrongPlace k.ps k.qs n k.rows with
        | none => 
          refine bp_if (et_cmp op_notN (ev_var 7) ev_non ro_notN) (fun hk => by cases hk) fun hk => ?_
          exact bp_nil (bp_nil (bp_end (turned_nx (.keep (.keep (.keep (.keep (.keep (.drop (.drop (.drop (.keep (.keep (.keep (.keep (.keep .nil)))))))))))))))) 
        | some i =>
          refine bp_if (et_cmp op_notN (ev_var 7) ev_non ro_notN) (fun hk => ?_) fun hk => by cases hk
          exact bp_ret (ev_tupD (ead3 ev_str (ev_var 5) (ev_var 7))) ⟨.inl ⟨_, _, rfl⟩, _, rfl⟩
      · intro o ho
        rw [loop_some] at ho
        unfold mfault
        cases e : (kinds a b hs ss).findSome? (m1 n) with
        | some d =>
          rw [e] at ho
          obtain ⟨_, d, rfl⟩ := ho
          exact ⟨rfl, fun i h => (nomatch h)⟩
        | none =>
          rw [e] at ho
          subst ho
          -- the second loop
          refine bp_for (passes_of rfl) rfl (iv_tup (ev_tupD (ead2 (ev_tupD (ead2 ev_str (ev_var 3))) (ev_tupD (ead2 ev_str (ev_var 4)))))) ?_
          refine (lpp_loop (σ := Unit) (ρ := D) (fun _ => [.d (encL a), .d (encL b), .d (.int n), .d (.lst (hs.map encN)), .d (.lst (ss.map encN)), .no, .no, .no, .no, .no, .no, .no, .no]) (fun k : Kd => .tup [.str k.nm, .lst (k.rows.map encN)]) (fun _ k => outF (m2 n k)) (fun _ as => ∀ k ∈ as, k ∈ kinds a b hs ss) (fun r o => ∃ d, o = .rt (.dat r) d) (fun s k as hI => ?_) (kinds a b hs ss) () (fun k hk => hk)).imp ?_
          · obtain ⟨q1, q2, q3⟩ := hk1 k (hI k (List.mem_cons_self ..))
            refine ⟨_, _, tg_tup rfl (tgs_cons (tg_name 5 nd (hp := pr _)) (tgs_cons (tg_name 6 nd (hp := pr _)) tgs_nil)) rfl, ?_, fun _ _ j hj => hI j (List.mem_cons_of_mem _ hj)⟩
            refine bp_for (passes_of rfl) rfl (iv_enumT (ev_tupD (ead2 (ev_fnD (ok_pairs_of T h2) hr (ead2 (ev_var 0) (ev_var 5)) (pairs_h q2)) (ev_fnD (ok_pairs_of T h2) hr (ead2 (ev_var 1) (ev_var 5)) (pairs_h q3)))) T.fEnum) ?_
            refine (lpp_loop (σ := Unit) (ρ := D) (fun _ => [.d (encL a), .d (encL b), .d (.int n), .d (.lst (hs.map encN)), .d (.lst (ss.map encN)), .d (.str k.nm), .d (.lst (k.rows.map encN)), .no, .no, .no, .no, .no, .no]) (fun q : Wh => .tup [.int (q.i : Nat), encPs q.ps]) (fun _ q => outF (m2i n k q)) (fun _ as => ∀ q ∈ as, q ∈ whs k) (fun r o => ∃ d, o = .rt (.dat r) d) (fun s q as hI => ?_) (whs k) () (fun q hq => hq)).imp ?_
            · have hq := hI q (List.mem_cons_self ..)
              have hsel : ∀ r : Nat × Nat, atI [D.int (r.1 : Nat), D.int (r.2 : Nat)] (q.i : Int) = some (.int (q.sel r)) := fun r => by
                rcases List.mem_cons.mp hq with e | hq
                · rw [e]; rfl
                · rw [List.mem_singleton.mp hq]; rfl
              refine ⟨_, _, tg_tup rfl (tgs_cons (tg_name 8 nd (hp := pr _)) (tgs_cons (tg_name 9 nd (hp := pr _)) tgs_nil)) rfl, ?_, fun _ _ j hj => hI j (List.mem_cons_of_mem _ hj)⟩
              refine bp_next (b1_set 10 (ev_fnD (ok_left_out T h6 h5) hr (ead3 (ev_var 9) (ev_var 2) (EV.frz (ev_lc (own := [("row", 12)]) rfl nd (iv_list (ev_var 6)) (blkOk_by (by rfl)) (fun i hi od => by simp at hi; subst hi; exact fun z => by cases z) (fun i _ => pr i) (lc_name 12 encN (fun r => .int (q.sel r)) k.rows nd (fun r hr' X' hX' => by
                obtain ⟨_, _, _, _, _, rfl⟩ := hX'
                exact EV.ix (ev_var 12) (ev_var 8) (.tup _) (hsel r)) (hp := pr _)) (by rw [List.length_map]; have := q1.2; omega)) (frz_l _))) ⟨q.ps, n, k.rows.map q.sel, by rw [List.map_map]; rfl, by rw [List.length_map]; exact q1.2, rfl⟩) nd (hp := pr _)) ?_
              unfold m2i
              cases e : leftOut q.ps n (k.rows.map q.sel) with
              | none => 
                refine bp_if (et_cmp op_notN (ev_var 10) ev_non ro_notN) (fun hk => by cases hk) fun hk => ?_
                exact bp_nil (bp_nil (bp_end (turned_nx (.keep (.keep (.keep (.keep (.keep (.keep (.keep (.keep (.drop (.drop (.drop (.keep (.keep .nil))))))))))))))))
              | some i =>
                refine bp_if (et_cmp op_notN (ev_var 10) ev_non ro_notN) (fun hk => ?_) fun hk => by cases hk
                exact bp_ret (ev_tupD (ead_cons ev_str (ead3 (ev_var 5) (ev_var 8) (ev_var 10)))) ⟨.inl ⟨_, _, rfl⟩, _, rfl⟩
            · intro o ho
              rw [loop_some, m2_eq] at ho
              cases e : m2 n k with
              | some d =>
                rw [e] at ho
                obtain ⟨_, d, rfl⟩ := ho
                exact ⟨.inl ⟨_, _, rfl⟩, _, rfl⟩
              | none =>
                rw [e] at ho
                subst ho
                exact bp_nil (bp_end (turned_nx (.keep (.keep (.keep (.keep (.keep (.drop (.drop (.keep (.keep (.keep (.keep (.keep (.keep .nil)))))))))))))))
          · intro o ho
            rw [loop_some] at ho
            cases e : (kinds a b hs ss).findSome? (m2 n) with
            | some d =>
              rw [e] at ho
              obtain ⟨_, d, rfl⟩ := ho
              exact ⟨rfl, fun i h => (nomatch h)⟩
            | none =>
              rw [e] at ho
              subst ho
              refine bp_next (b1_set 11 (ev_fnD (ok_far_bars T h3) hr (ead3 (ev_var 0) (ev_var 1) (ev_var 2)) ⟨a, b, n, rfl, hlo, rfl⟩) nd (hp := pr _)) ?_
              have form := farBars_form a b n
              cases ef : farBars a b n with
              | nil =>
                refine bp_if (et_not (et_seq (ev_var 11) (.lst _))) (fun hk => ?_) fun hk => by cases hk
                exact bp_ret ev_non ⟨rfl, fun i h => (nomatch h)⟩
              | cons d ds =>
                rw [ef] at form
                refine bp_if (et_not (et_seq (ev_var 11) (.lst _))) (fun hk => by cases hk) fun hk => bp_nil ?_
                rcases form d (List.mem_cons_self ..) with ⟨i, rfl⟩ | ⟨x, rfl⟩
                · exact bp_ret (ev_tupD (ead3 ev_str (EV.ix (xs := [.str "loose", .int (i : Nat)]) (EV.ix (ev_var 11) ev_int (.lst _) (atI_zero _ _)) ev_int (.tup _) rfl) (ev_ifP (k := true) (et_cmp op_eq (EV.len (xs := [.str "loose", .int (i : Nat)]) (EV.ix (ev_var 11) ev_int (.lst _) (atI_zero _ _)) (.tup _) T.fLen) ev_int ro_eqI) (fun _ => EV.ix (xs := [.str "loose", .int (i : Nat)]) (EV.ix (ev_var 11) ev_int (.lst _) (atI_zero _ _)) ev_int (.tup _) rfl) (fun hk => by cases hk)))) ⟨rfl, fun i h => (nomatch h)⟩
                · exact bp_ret (ev_tupD (ead3 ev_str (EV.ix (xs := [.str x]) (EV.ix (ev_var 11) ev_int (.lst _) (atI_zero _ _)) ev_int (.tup _) rfl) (ev_ifP (k := false) (et_cmp op_eq (EV.len (xs := [.str x]) (EV.ix (ev_var 11) ev_int (.lst _) (atI_zero _ _)) (.tup _) T.fLen) ev_int ro_eqI) (fun hk => by cases hk) (fun _ => ev_non)))) ⟨rfl, fun i h => (nomatch h)⟩
  · rw [if_neg e1]
    exact bp_stop (b1_exprX (ex_fnD (ok_check_call T U V h0 h1) hr (ead3 (ev_var 0) (ev_var 1) (ev_var 2)) ⟨a, b, n, rfl, by rw [if_neg e1]; rfl⟩)) rfl ⟨rfl, rfl, fun i h => (nomatch h)⟩
theorem ok_matching_fault (T : Txt w K mg ca) (U : ExcT K mg ca "Unlike" (inClass (top 5) 0)) (V : ExcT K mg ca "BadValue" (inClass (top 4) 0)) (h0 : Has K mg "check_handles" (top 12)) (h1 : Has K mg "check_call" (top 13)) (h2 : Has K mg "pairs_of" (top 14)) (h3 : Has K mg "far_bars" (top 15)) (h4 : Has K mg "wrong_place" (top 20)) (h5 : Has K mg "left_out" (top 21))
    (h6 : Has K mg "life_of" (top 8)) (h7 : Has K mg "pair_gap" (top 10)) (h : Has K mg "matching_fault" (top 19)) : CallI P w K mg base ca 5 "matching_fault" 5 none R_matching_fault := by
  obtain ⟨f, fd, F, hm⟩ := h
  exact ⟨f, fd, _, fn_matching_fault T U V h0 h1 h2 h3 h4 h5 h6 h7 F, hm, F.kp, F.bindsN fun kV doc pm an cdv ct us hl => by match us, hl with | [_, _, _, _, _], _ => rfl⟩
end
end K74
/-! K74g: set_holds. -/
namespace K74
open PySem PySem.Spec PyProof.Rows L2 DL
def Liv.prs (a : Liv) (k : Str) : List (Int × Int) := if k = "hollows" then a.hol else a.sum
def idxOk (i n : Int) : Bool := decide (0 ≤ i) && decide (i < n)
def life (p : Int × Int) : Int := p.2 - p.1
def at0 (ps : List (Int × Int)) (i : Int) : Int × Int := ps.getD i.toNat P0
def shBad (mine : List (Int × Int)) (n bf i : Int) : Bool := !idxOk i mine.length || (decide (i ≤ bf) || decide (life (at0 mine i) ≤ n))
def shStep (mine : List (Int × Int)) (n bf i : Int) : Fl Int Unit := if shBad mine n bf i = true then .rt () else .nx i
def ascOk (mine : List (Int × Int)) (n : Int) (idx : List Int) : Bool := match loopF (shStep mine n) idx (-1) with
  | .nx _ => true
  | _ => false
def nearB (mine : List (Int × Int)) (n : Int) (idx : List Int) (q : Int × Int) : Bool := (idx.map fun i => decide (gap (at0 mine i) q ≤ n)).any id
def setHolds (a b : Liv) (n : Int) (k : Str) (wh : Int) (idx : List Int) : Bool :=
  idxOk wh 2 && (ascOk ((if wh = 0 then a else b).prs k) n idx && decide ((((if wh = 0 then b else a).prs k).filter (nearB ((if wh = 0 then a else b).prs k) n idx)).length < idx.length))
theorem atI_mapI {xs : List (Int × Int)} {i : Int} (h : idxOk i xs.length = true) : atI (xs.map encP) i = some (encP (at0 xs i)) := by
  unfold idxOk at h
  rw [Bool.and_eq_true, decide_eq_true_eq, decide_eq_true_eq] at h
  obtain ⟨m, rfl⟩ := Int.eq_ofNat_of_zero_le h.1
  have h2 : m < xs.length := Int.ofNat_lt.mp h.2
  exact atI_map encP P0 h2
theorem asc_all {mine : List (Int × Int)} {n : Int} : ∀ {idx : List Int} {bf s : Int}, loopF (shStep mine n) idx bf = .nx s → ∀ i ∈ idx, idxOk i mine.length = true
  | [], _, _, _, i, hi => by cases hi
  | j :: js, bf, s, h, i, hi => by
    unfold loopF shStep at h
    by_cases c : shBad mine n bf j = true
    · rw [if_pos c] at h
      cases h
    · rw [if_neg c] at h
      rcases List.mem_cons.mp hi with e | hi
      · rw [e]
        unfold shBad at c
        cases d : idxOk j mine.length with
        | true => rfl
        | false => rw [d] at c; exact absurd rfl c
      · exact asc_all (idx := js) h i hi
section
variable {P : Program} {w : World} {K : PySem.W.Frag} {mg : Str → Option Value} {base : Heap} {ca : CA}
def encI (i : Int) : D := .int i
def encBar3 (k : Str) (wh : Int) (idx : List Int) : D := .tup [.str k, .int wh, .tup (idx.map .int)]
def R_set_holds : List OD → Res → Prop := fun ods res => ∃ (a b : Liv) (n : Int) (k : Str) (wh : Int) (idx : List Int), ods = [.dat (encL a), .dat (encL b), .dat (.int n), .dat (encBar3 k wh idx)] ∧ (∀ k, (a.prs k).length ≤ 1000 ∧ (b.prs k).length ≤ 1000) ∧ idx.length ≤ 1000 ∧
  res = okN (.bl (setHolds a b n k wh idx))
theorem ok_set_holds (T : Txt w K mg ca) (h1 : Has K mg "is_index" (top 16)) (h2 : Has K mg "pairs_of" (top 14)) (h6 : Has K mg "life_of" (top 8)) (h7 : Has K mg "pair_gap" (top 10)) (h : Has K mg "set_holds" (top 18)) : CallI P w K mg base ca 2 "set_holds" 4 none R_set_holds := by
  have nd : (["lives", "other", "n", "value", "kind", "whose", "indexes", "mine", "theirs", "before", "index", "near", "pair"] : List Str).Nodup := by decide +kernel
  refine callI (N := ["lives", "other", "n", "value", "kind", "whose", "indexes", "mine", "theirs", "before", "index", "near", "pair"]) (ps := ["lives", "other", "n", "value"]) h (fun kV doc pm an cdv ct us hl => by match us, hl with | [_, _, _, _], _ => rfl) ⟨rfl, rfl, rfl, nd, rfl, by decide +kernel, by decide +kernel⟩ fun X B ods res ⟨f, cdv, A, outer, s', H, E, hX⟩ hr hpr hR hl => ?_
  subst hX
  obtain ⟨a, b, n, k, wh, idx, rfl, hlen, hz, rfl⟩ := hR
  have pr : ∀ i, B.pr i = false := fun i => by rw [hpr]; rfl
  refine bp_next (b1_asg (ev_var 3) (tg_tup rfl (tgs_cons (tg_name 4 nd (hp := pr _)) (tgs_cons (tg_name 5 nd (hp := pr _)) (tgs_cons (tg_name 6 nd (hp := pr _)) tgs_nil))) rfl)) ?_
  refine bp_if (EW.pt (ew_or (b1 := !idxOk wh 2) (b2 := false) (et_not (et_val (ev_fnD (ok_is_index T h1) hr (ead2 (ev_var 5) ev_int) ⟨wh, 2, rfl, rfl⟩))) (fun _ => ew_or1 (et_not (b1 := true) (et_val (EV.isi (ev_var 6) (ev_gty T.fTuple b_tuple) rfl rfl T.fIsi)))) fun _ => rfl)) (fun hk => ?_) fun hk => ?_
  · have e : idxOk wh 2 = false := by simpa using hk
    unfold setHolds
    rw [e]
    exact bp_ret ev_bl ⟨rfl, fun i h => (nomatch h)⟩
  · have e : idxOk wh 2 = true := by simpa using hk
    unfold setHolds
    rw [e]
    refine bp_nil ?_
    generalize hmine : (if wh = 0 then a else b).prs k = mine
    generalize htheirs : (if wh = 0 then b else a).prs k = theirs
    have lm : mine.length ≤ 1000 := by
      rw [← hmine]
      split
      · exact (hlen k).1
      · exact (hlen k).2
    have lt : theirs.length ≤ 1000 := by
      rw [← htheirs]
      split
      · exact (hlen k).2
      · exact (hlen k).1
    refine bp_next (b1_set 7 (ev_fnD (xs := [encL (if wh = 0 then a else b), .str k]) (ok_pairs_of T h2) hr (ead2 (ev_ifP (et_cmp op_eq (ev_var 5) ev_int ro_eqI) (fun hk => by rw [if_pos (of_decide_eq_true hk)]; exact ev_var 0) (fun hk => by rw [if_neg (of_decide_eq_false hk)]; exact ev_var 1)) (ev_var 4)) (pairs_h (ps := mine) hmine)) nd (hp := pr _)) ?_
    refine bp_next (b1_set 8 (ev_fnD (xs := [encL (if wh = 0 then b else a), .str k]) (ok_pairs_of T h2) hr (ead2 (ev_ifP (et_cmp op_eq (ev_var 5) ev_int ro_eqI) (fun hk => by rw [if_pos (of_decide_eq_true hk)]; exact ev_var 1) (fun hk => by rw [if_neg (of_decide_eq_false hk)]; exact ev_var 0)) (ev_var 4)) (pairs_h (ps := theirs) htheirs)) nd (hp := pr _)) ?_
    refine bp_next (b1_set 9 (EV.neg ev_int) nd (hp := pr _)) ?_
    refine bp_for (passes_of rfl) rfl (iv_tup (ev_var 6)) ?_
    refine (lpp_loop (σ := Int) (ρ := Unit) (fun bf => [.d (encL a), .d (encL b), .d (.int n), .d (encBar3 k wh idx), .d (.str k), .d (.int wh), .d (.tup (idx.map .int)), .d (encPs mine), .d (encPs theirs), .d (.int bf), .no, .no, .no]) D.int (shStep mine n) (fun _ _ => True) (fun _ o => ∃ d, o = .rt (.dat (.bl false)) d) (fun bf i as hI => ?_) idx (-1) trivial).imp ?_
    · refine ⟨_, _, tg_name 10 nd (hp := pr _), ?_, fun _ _ => trivial⟩
      refine bp_if (EW.pt (ew_or (et_not (et_val (ev_fnD (ok_is_index T h1) hr (ead2 (ev_var 10) (EV.len (ev_var 7) (.tup _) T.fLen)) ⟨i, mine.length, by rw [List.length_map]; rfl, rfl⟩))) (fun hk => ew_or (et_cmp op_le (ev_var 10) (ev_var 9) ro_cmpI) (fun _ => ew_or1 (et_cmp op_le (ev_fnD (ok_life_of h6) hr (ead1 (EV.ix (ev_var 7) (ev_var 10) (.tup _) (atI_mapI (xs := mine) ?_))) ⟨at0 mine i, rfl, rfl⟩) (ev_var 2) ro_cmpI)) fun _ => rfl) fun _ => rfl)) (fun hk => ?_) fun hk => ?_
      · have h9 : (!idxOk i mine.length) = false := hk
        simpa using h9
      · have e : shBad mine n bf i = true := hk
        unfold shStep
        rw [if_pos e]
        exact bp_ret ev_bl ⟨.inl ⟨_, _, rfl⟩, _, rfl⟩
      · have e : shBad mine n bf i = false := hk
        unfold shStep
        rw [if_neg (by rw [e]; decide)]
        refine bp_nil (bp_next (b1_set 9 (ev_var 10) nd (hp := pr _)) (bp_nil (bp_end (turned_nx ?_))))
        exact .keep (.keep (.keep (.keep (.keep (.keep (.keep (.keep (.keep (.keep (.drop (.keep (.keep .nil))))))))))))
    · intro o ho
      unfold ascOk
      cases e : loopF (shStep mine n) idx (-1) with
      | bk s =>
        rw [e] at ho
        exact False.elim ho
      | rt r =>
        rw [e] at ho
        obtain ⟨_, d, rfl⟩ := ho
        exact ⟨rfl, fun i h => (nomatch h)⟩
      | nx s =>
        rw [e] at ho
        subst ho
        refine bp_next (b1_setLc (p' := ⟨0, 0, 0, 0⟩) (own := [("pair", 12)]) 11 rfl nd (iv_tup (ev_var 8)) (blkOk_by (by rfl)) (fun i hi od => by simp at hi; subst hi; exact fun z => by cases z) (fun i _ => pr i) (lc_nameF 12 encP (nearB mine n idx) encP theirs nd (fun q hq X1 hX1 => ?_) (fun q hq _ X1 hX1 => ?_) (hp := pr _)) ?_ (hpi := pr _)) ?_
        · obtain ⟨_, _, _, _, _, rfl⟩ := hX1
          refine ets_one (et_val (EV.any (bs := idx.map fun i => decide (gap (at0 mine i) q ≤ n)) rfl (EV.cast (ev_lc (own := [("index", 10)]) rfl nd (iv_tup (ev_var 6)) (blkOk_by (by rfl)) (fun i hi od => by simp at hi; subst hi; exact fun z => by cases z) (fun i _ => pr i) (lc_name 10 D.int (fun i => .bl (decide (gap (at0 mine i) q ≤ n))) idx nd (fun i hi X2 hX2 => ?_) (hp := pr _)) ?_) (congrArg (fun l => Tm.v (OD.l l)) (show _ = (idx.map fun i => decide (gap (at0 mine i) q ≤ n)).map D.bl by rw [List.map_map]; rfl)) rfl) (.own _) T.fAny))
          · obtain ⟨_, _, _, _, _, rfl⟩ := hX2
            exact ev_cmp op_le (ev_fnD (ok_pair_gap T h7) hr (ead2 (EV.ix (ev_var 7) (ev_var 10) (.tup _) (atI_mapI (xs := mine) (asc_all e i hi))) (ev_var 12)) ⟨_, _, rfl, rfl⟩) (ev_var 2) ro_cmpI
          · rw [List.length_map]
            omega
        · obtain ⟨_, _, _, _, _, rfl⟩ := hX1
          exact ev_var 12
        · rw [List.length_map]
          have := List.length_filter_le (nearB mine n idx) theirs
          omega
        · refine bp_ret (ev_cmp op_lt (EV.len (ev_al 11) (.al rfl (.own _)) T.fLen) (EV.len (ev_var 6) (.tup _) T.fLen) ro_cmpI) ⟨?_, fun i h => (nomatch h)⟩
          simp
end
end K74
/-! K74h: bar_holds. -/
namespace K74
open PySem PySem.Spec PyProof.Rows L2 DL
section
variable {X : Cx} {ca : CA} {B : Base} {ds : List Sl} {o : DL.Tm} {ss : List Str} {y : Str} {k : Bool}
theorem inV_strs : ∀ ss : List Str, inV (.str y) (ss.map V.str) = decide (y ∈ ss)
  | [] => by simp [inV]
  | s :: ss => by
    have ih := inV_strs ss
    unfold inV at ih ⊢
    rw [List.map_cons, List.any_cons, ih]
    by_cases h : y = s
    · simp [eqV, h]
    · have h2 : ¬ s = y := fun e => h e.symm
      simp [eqV, h, h2]
theorem ro_inS (hs : Seq ds o k (ss.map .str)) : RO X ca B (rIn X.K false) (.str y) o ds (.bl (decide (y ∈ ss))) ds := fun ts σ H x z Q h q => by
  obtain rfl := h.pop.str
  obtain ⟨F, Hu, ow, rfl, C⟩ := h
  obtain ⟨a, vs, rfl, h, r⟩ := C.seq hs
  rw [reps_strs r] at h
  refine ⟨a, _, rfl, h, rfl, by simp [flatV], ?_⟩
  rw [if_neg (by decide), inV_strs]
  exact q _ _ (C.rest.rest.give (.bl _))
theorem ro_notInS (hs : Seq ds o k (ss.map .str)) : RO X ca B (rIn X.K true) (.str y) o ds (.bl (!decide (y ∈ ss))) ds := fun ts σ H x z Q h q => by
  obtain rfl := h.pop.str
  obtain ⟨F, Hu, ow, rfl, C⟩ := h
  obtain ⟨a, vs, rfl, h, r⟩ := C.seq hs
  rw [reps_strs r] at h
  refine ⟨a, _, rfl, h, rfl, by simp [flatV], ?_⟩
  rw [if_pos rfl, inV_strs]
  exact q _ _ (C.rest.rest.give (.bl _))
end
inductive Bar where
  | loose (i : Int) | low1 | high1 | lowN | high0 | loose1 | low3
  | set (k : Bool) (wh : Int) (idx : List Int)
  | two (k : Bool) (wh : Int)
def kname (k : Bool) : Str := if k then "summits" else "hollows"
def encBar : Bar → D
  | .loose i => .tup [.str "loose", .int i]
  | .low1 => .tup [.str "lowest"]
  | .high1 => .tup [.str "highest"]
  | .lowN => .tup [.str "lowest", .non]
  | .high0 => .tup [.str "highest", .int 0]
  | .loose1 => .tup [.str "loose"]
  | .low3 => .tup [.str "lowest", .int 0, .tup [.int 0]]
  | .set k wh idx => encBar3 (kname k) wh idx
  | .two k wh => .tup [.str (kname k), .int wh]
def barHolds (a b : Liv) (n : Int) : Bar → Bool
  | .loose i => idxOk i a.loo.length && inD (.tup [.str "loose", .int i]) (farBars a b n)
  | .low1 => inD (.tup [.str "lowest"]) (farBars a b n)
  | .high1 => inD (.tup [.str "highest"]) (farBars a b n)
  | .set k wh idx => setHolds a b n (kname k) wh idx
  | _ => false

mutual
def okW : D → Bool
  | .non => true
  | .bl _ => true
  | .int _ => true
  | .str x => PyData.strOk x
  | .lst ds => okWs ds
  | .tup ds => okWs ds
  | _ => false
def okWs : List D → Bool
  | [] => true
  | d :: ds => okW d && okWs ds
end
mutual
def dep : D → Nat
  | .lst ds => deps ds + 1
  | .tup ds => deps ds + 1
  | _ => 0
def deps : List D → Nat
  | [] => 0
  | d :: ds => max (dep d) (deps ds)
end
mutual
theorem okW_ok : ∀ d : D, okW d = true → pln d = true ∧ PyData.canLay0 (toPy d) = true ∧ PyData.depth (toPy d) = dep d
  | .non, _ => ⟨rfl, rfl, rfl⟩
  | .bl _, _ => ⟨rfl, rfl, rfl⟩
  | .int _, _ => ⟨rfl, rfl, rfl⟩
  | .str x, h => ⟨rfl, by rw [okW] at h; rw [toPy, PyData.canLay0]; exact h, rfl⟩
  | .lst ds, h => by
    rw [okW] at h
    obtain ⟨h1, h2, h3⟩ := okWs_ok ds h
    exact ⟨by rw [pln]; exact h1, by rw [toPy, PyData.canLay0]; exact h2, by rw [toPy, PyData.depth, dep, h3]⟩
  | .tup ds, h => by
    rw [okW] at h
    obtain ⟨h1, h2, h3⟩ := okWs_ok ds h
    exact ⟨by rw [pln]; exact h1, by rw [toPy, PyData.canLay0]; exact h2, by rw [toPy, PyData.depth, dep, h3]⟩
  | .ty _, h => by simp [okW] at h
  | .dK _, h => by simp [okW] at h
  | .dT _, h => by simp [okW] at h
  | .set _, h => by simp [okW] at h
  | .ins _ _, h => by simp [okW] at h
  | .obj _, h => by simp [okW] at h
  | .any, h => by simp [okW] at h
  | .ro _, h => by simp [okW] at h
theorem okWs_ok : ∀ ds : List D, okWs ds = true → plns ds = true ∧ PyData.canLayAll0 (toPys ds) = true ∧ PyData.depthAll (toPys ds) = deps ds
  | [], _ => ⟨rfl, rfl, rfl⟩
  | d :: ds, h => by
    rw [okWs, Bool.and_eq_true] at h
    obtain ⟨h1, h2, h3⟩ := okW_ok d h.1
    obtain ⟨k1, k2, k3⟩ := okWs_ok ds h.2
    exact ⟨by rw [plns, h1, k1]; rfl, by rw [toPys, PyData.canLayAll0, h2, k2]; rfl, by rw [toPys, PyData.depthAll, deps, h3, k3]⟩
end
theorem shD_of {d : D} (h : okW d = true) (hd : dep d ≤ 64) : shD d = true := by
  obtain ⟨h1, h2, h3⟩ := okW_ok d h
  unfold shD SeqAt.shaped
  rw [h1, h2, h3]
  simp [hd]
theorem okWs_all : ∀ {ds : List D}, (∀ d ∈ ds, okW d = true) → okWs ds = true
  | [], _ => rfl
  | d :: ds, h => by rw [okWs, h d (List.mem_cons_self ..), okWs_all fun e he => h e (List.mem_cons_of_mem _ he)]; rfl
theorem deps_all {m : Nat} : ∀ {ds : List D}, (∀ d ∈ ds, dep d ≤ m) → deps ds ≤ m
  | [], _ => Nat.zero_le _
  | d :: ds, h => by
    rw [deps]
    exact Nat.max_le.mpr ⟨h d (List.mem_cons_self ..), deps_all fun e he => h e (List.mem_cons_of_mem _ he)⟩
theorem farBars_form2 (a b : Liv) (n : Int) : ∀ d ∈ farBars a b n, (∃ i : Nat, d = .tup [.str "loose", .int (i : Nat)]) ∨ d = .tup [.str "lowest"] ∨ d = .tup [.str "highest"] := fun d hd => by
  unfold farBars at hd
  rcases List.mem_append.mp hd with hd | hd
  · rcases List.mem_append.mp hd with hd | hd
    · unfold farLoo at hd
      obtain ⟨p, _, rfl⟩ := List.mem_map.mp hd
      exact .inl ⟨_, rfl⟩
    · split at hd
      · exact .inr (.inl (List.mem_singleton.mp hd))
      · cases hd
  · split at hd
    · exact .inr (.inr (List.mem_singleton.mp hd))
    · cases hd
theorem okW_loose (i : Int) : okW (.tup [.str "loose", .int i]) = true := by
  rw [okW, okWs, okW, okWs, okW, okWs]
  decide +kernel
theorem okW_far (a b : Liv) (n : Int) : ∀ d ∈ farBars a b n, okW d = true ∧ dep d ≤ 1 := fun d hd => by
  rcases farBars_form2 a b n d hd with ⟨i, rfl⟩ | rfl | rfl
  · exact ⟨okW_loose _, by simp [dep, deps]⟩
  · exact ⟨by decide +kernel, by decide +kernel⟩
  · exact ⟨by decide +kernel, by decide +kernel⟩
theorem shD_far (a b : Liv) (n : Int) : shD (.lst (farBars a b n)) = true :=
  shD_of (by rw [okW]; exact okWs_all fun d hd => (okW_far a b n d hd).1) (by rw [dep]; have := deps_all (m := 1) fun d hd => (okW_far a b n d hd).2; omega)
end K74
/-! K74i: bar_holds. -/
namespace K74
open PySem PySem.Spec PyProof.Rows L2 DL
section
variable {P : Program} {w : World} {K : PySem.W.Frag} {mg : Str → Option Value} {base : Heap} {ca : CA}
def R_bar_holds : List OD → Res → Prop := fun ods res => ∃ (a b : Liv) (n : Int) (v : Bar), ods = [.dat (encL a), .dat (encL b), .dat (.int n), .dat (encBar v)] ∧ a.loo.length = b.loo.length ∧ a.loo.length ≤ 1000 ∧ (∀ k, (a.prs k).length ≤ 1000 ∧ (b.prs k).length ≤ 1000) ∧
  (∀ k wh idx, v = .set k wh idx → idx.length ≤ 1000) ∧ res = okN (.bl (barHolds a b n v))
theorem fn_bar_holds (T : Txt w K mg ca) (U : ExcT K mg ca "Unlike" (inClass (top 5) 0)) (h0 : Has K mg "check_handles" (top 12)) (h1 : Has K mg "is_index" (top 16)) (h2 : Has K mg "pairs_of" (top 14)) (h3 : Has K mg "far_bars" (top 15)) (h6 : Has K mg "life_of" (top 8)) (h7 : Has K mg "pair_gap" (top 10)) (h8 : Has K mg "set_holds" (top 18))
    {f : Addr} {fd : FuncData} (F : FunD K "bar_holds" "bar_holds" (defArgs (top 17)) (defBody (top 17)) (defScope (top 17)) [] [] f fd) : FnOk P w K mg base (CX P w) 4 f fd ["lives", "other", "n", "value"] (spD K ca 4 none R_bar_holds) := by
  have nd : (["lives", "other", "n", "value"] : List Str).Nodup := by decide +kernel
  refine okD (N := ["lives", "other", "n", "value"]) F ⟨rfl, rfl, rfl, nd, rfl, by decide +kernel, by decide +kernel⟩ fun X B ods res ⟨cdv, A, outer, s', H, E, hX⟩ hr hpr hR hl => ?_
  have hu : X.A.units + 65 < cLine := by have := hr.un; omega
  subst hX
  obtain ⟨a, b, n, v, rfl, hab, hz, hlen, hidx, rfl⟩ := hR
  have pr : ∀ i, B.pr i = false := fun i => by rw [hpr]; rfl
  refine bp_next (b1_expr (ev_fnD (ok_check_handles T U h0) hr (ead2 (ev_var 0) (ev_var 1)) ⟨a, b, rfl, by rw [if_pos hab]⟩)) ?_
  have tup : ∃ (x : Str) (r : List D), encBar v = .tup (.str x :: r) := by
    cases v <;> exact ⟨_, _, rfl⟩
  obtain ⟨x, r, hv⟩ := tup
  have e0 : atI (D.str x :: r) 0 = some (.str x) := atI_zero _ _
  rw [hv]
  -- the first test fails
  refine bp_if (EW.pt (ew_or (b1 := !true) (b2 := false || !true) (et_not (b1 := true) (et_val (EV.isi (ev_var 3) (ev_gty T.fTuple b_tuple) rfl rfl T.fIsi))) (fun _ => ew_or (b1 := false) (b2 := !true) (ET.cast (et_cmp op_eq (EV.len (xs := .str x :: r) (ev_var 3) (.tup _) T.fLen) ev_int ro_eqI) (by simp; omega) rfl) (fun _ => ew_or1 (et_not (b1 := true) (et_val (EV.isi (d := .str x) (EV.ix (ev_var 3) ev_int (.tup _) e0) (ev_gty T.fStr b_str) rfl rfl T.fIsi)))) fun _ => rfl) fun _ => rfl)) (fun hk => by cases hk) fun _ => bp_nil ?_
  by_cases c1 : x ∈ (["hollows", "summits"] : List Str)
  · refine bp_if (et_cmp op_in_seq (EV.ix (ev_var 3) ev_int (.tup _) e0) (ev_tupD (ead2 ev_str ev_str)) (ro_inS (ss := ["hollows", "summits"]) (.tup _))) (fun _ => ?_) fun hk => absurd c1 (of_decide_eq_false hk)
    cases v with
    | set k wh idx =>
      have hv' : D.tup (.str x :: r) = encBar3 (kname k) wh idx := hv.symm
      rw [hv']
      refine bp_ret (od := .dat (.bl (true && setHolds a b n (kname k) wh idx))) (ds1 := [.d (encL a), .d (encL b), .d (.int n), .d (encBar3 (kname k) wh idx)]) (ev_and (EV.cast (ev_cmp op_eq (EV.len (xs := [.str (kname k), .int wh, .tup (idx.map .int)]) (ev_var 3) (.tup _) T.fLen) ev_int ro_eqI) rfl rfl) (fun _ => ev_one (ev_fnD (ok_set_holds T h1 h2 h6 h7 h8) hr (ead_cons (ev_var 0) (ead3 (ev_var 1) (ev_var 2) (ev_var 3))) ⟨a, b, n, kname k, wh, idx, rfl, hlen, hidx k wh idx rfl, rfl⟩)) fun _ => rfl) ⟨rfl, fun i h => (nomatch h)⟩
    | two k wh =>
      have hv' : D.tup (.str x :: r) = .tup [.str (kname k), .int wh] := hv.symm
      rw [hv']
      exact bp_ret (od := .dat (.bl (false && false))) (ds1 := [.d (encL a), .d (encL b), .d (.int n), .d (.tup [.str (kname k), .int wh])]) (ev_and (EV.cast (ev_cmp op_eq (EV.len (xs := [.str (kname k), .int wh]) (ev_var 3) (.tup _) T.fLen) ev_int ro_eqI) rfl rfl) (fun h => by cases h) fun _ => rfl) ⟨rfl, fun i h => (nomatch h)⟩
    | _ =>
      cases hv
      exact absurd c1 (by decide)
  · refine bp_if (et_cmp op_in_seq (EV.ix (ev_var 3) ev_int (.tup _) e0) (ev_tupD (ead2 ev_str ev_str)) (ro_inS (ss := ["hollows", "summits"]) (.tup _))) (fun hk => absurd (of_decide_eq_true hk) c1) fun _ => bp_nil ?_
    have one : ∀ (y : Str) (rs : List D), D.tup (.str x :: r) = .tup (.str y :: rs) → y ≠ "loose" → okW (.tup (.str y :: rs)) = true → dep (.tup (.str y :: rs)) ≤ 64 → (rs = [] → barHolds a b n v = inD (.tup [.str y]) (farBars a b n)) → (rs ≠ [] → barHolds a b n v = false) →
        BP (cxOf (CX P w) P w K mg base ["lives", "other", "n", "value"] "bar_holds" (defScope (top 17)) f cdv A outer s' H E) ca B [(defBody (top 17)).drop 3] [.d (encL a), .d (encL b), .d (.int n), .d (.tup (.str x :: r))] (DL.Ends none (okN (.bl (barHolds a b n v)))) := fun y rs e ny ow dw b1 b2 => by
      cases e
      refine bp_if (et_cmp op_eq (EV.ix (ev_var 3) ev_int (.tup _) e0) ev_str ro_eqS) (fun hk => absurd (of_decide_eq_true hk) ny) fun _ => bp_nil ?_
      by_cases er : r = []
      · subst er
        rw [b1 rfl]
        exact bp_ret (od := .dat (.bl (true && inD (.tup [.str x]) (farBars a b n)))) (ds1 := [.d (encL a), .d (encL b), .d (.int n), .d (.tup [.str x])]) (ev_and (EV.cast (ev_cmp op_eq (EV.len (xs := [.str x]) (ev_var 3) (.tup _) T.fLen) ev_int ro_eqI) rfl rfl) (fun _ => ev_one (ev_cmp (op_inD hu) (ev_var 3) (ev_fnD (ok_far_bars T h3) hr (ead3 (ev_var 0) (ev_var 1) (ev_var 2)) ⟨a, b, n, rfl, hz, rfl⟩) (ro_inD (.dat _) (.dat _) (shD_of ow dw) (shD_far a b n)))) fun _ => rfl) ⟨rfl, fun i h => (nomatch h)⟩
      · rw [b2 er]
        have hne : ¬ ((r.length : Int) + 1 = 1) := fun z => er (List.length_eq_zero_iff.mp (by omega))
        exact bp_ret (od := .dat (.bl (false && false))) (ds1 := [.d (encL a), .d (encL b), .d (.int n), .d (.tup (.str x :: r))]) (ev_and (EV.cast (ev_cmp op_eq (EV.len (xs := .str x :: r) (ev_var 3) (.tup _) T.fLen) ev_int ro_eqI) (by simp only [List.length_cons, Int.natCast_add, Int.natCast_one]; rw [decide_eq_false hne]) rfl) (fun h => by cases h) fun _ => rfl) ⟨rfl, fun i h => (nomatch h)⟩
    cases v with
    | loose i =>
      cases hv
      refine bp_if (et_cmp op_eq (EV.ix (ev_var 3) ev_int (.tup _) e0) ev_str ro_eqS) (fun _ => ?_) fun hk => absurd rfl (of_decide_eq_false hk)
      refine bp_if (EW.pt (ew_or (b1 := false) (ET.cast (et_cmp op_ne (EV.len (xs := [.str "loose", .int i]) (ev_var 3) (.tup _) T.fLen) ev_int ro_neI) rfl rfl) (fun _ => ew_or1 (et_not (et_val (ev_fnD (xs := [.int i, .int a.loo.length]) (ok_is_index T h1) hr (ead2 (EV.ix (xs := [.str "loose", .int i]) (ev_var 3) ev_int (.tup _) rfl) (EV.fld (ev_var 0) T.lCls (T.lNo _ (by decide)) rfl)) ⟨i, a.loo.length, rfl, rfl⟩)))) fun _ => rfl)) (fun hk => ?_) fun hk => bp_nil ?_
      · have e : idxOk i a.loo.length = false := by
          have h9 : (!idxOk i a.loo.length) = true := hk
          simpa using h9
        show BP _ _ _ _ _ (DL.Ends none (okN (.bl (idxOk i a.loo.length && _))))
        rw [e]
        exact bp_ret ev_bl ⟨rfl, fun i h => (nomatch h)⟩
      · have e : idxOk i a.loo.length = true := by
          have h9 : (!idxOk i a.loo.length) = false := hk
          simpa using h9
        show BP _ _ _ _ _ (DL.Ends none (okN (.bl (idxOk i a.loo.length && inD (.tup [.str "loose", .int i]) (farBars a b n)))))
        rw [e]
        exact bp_ret (ev_cmp (op_inD hu) (ev_tupD (ead2 ev_str (EV.ix (xs := [.str "loose", .int i]) (ev_var 3) ev_int (.tup _) rfl))) (ev_fnD (ok_far_bars T h3) hr (ead3 (ev_var 0) (ev_var 1) (ev_var 2)) ⟨a, b, n, rfl, hz, rfl⟩) (ro_inD (.dat _) (.dat _) (shD_of (okW_loose i) (by simp [dep, deps])) (shD_far a b n))) ⟨rfl, fun i h => (nomatch h)⟩
    | loose1 =>
      cases hv
      refine bp_if (et_cmp op_eq (EV.ix (ev_var 3) ev_int (.tup _) e0) ev_str ro_eqS) (fun _ => ?_) fun hk => absurd rfl (of_decide_eq_false hk)
      refine bp_if (EW.pt (ew_or (b1 := true) (b2 := false) (ET.cast (et_cmp op_ne (EV.len (xs := [.str "loose"]) (ev_var 3) (.tup _) T.fLen) ev_int ro_neI) rfl rfl) (fun h => by cases h) fun _ => rfl)) (fun _ => ?_) fun hk => by cases hk
      exact bp_ret ev_bl ⟨rfl, fun i h => (nomatch h)⟩
    | low1 => exact one "lowest" [] hv.symm (by decide) (by decide +kernel) (by decide +kernel) (fun _ => rfl) fun z => absurd rfl z
    | high1 => exact one "highest" [] hv.symm (by decide) (by decide +kernel) (by decide +kernel) (fun _ => rfl) fun z => absurd rfl z
    | lowN => exact one "lowest" _ hv.symm (by decide) (by decide +kernel) (by decide +kernel) (fun z => by cases z) fun _ => rfl
    | high0 => exact one "highest" _ hv.symm (by decide) (by decide +kernel) (by decide +kernel) (fun z => by cases z) fun _ => rfl
    | low3 => exact one "lowest" _ hv.symm (by decide) (by decide +kernel) (by decide +kernel) (fun z => by cases z) fun _ => rfl
    | set k wh idx =>
      cases hv
      exact absurd (by cases k <;> decide) c1
    | two k wh =>
      cases hv
      exact absurd (by cases k <;> decide) c1
theorem ok_bar_holds (T : Txt w K mg ca) (U : ExcT K mg ca "Unlike" (inClass (top 5) 0)) (h0 : Has K mg "check_handles" (top 12)) (h1 : Has K mg "is_index" (top 16)) (h2 : Has K mg "pairs_of" (top 14)) (h3 : Has K mg "far_bars" (top 15)) (h6 : Has K mg "life_of" (top 8)) (h7 : Has K mg "pair_gap" (top 10)) (h8 : Has K mg "set_holds" (top 18))
    (h : Has K mg "bar_holds" (top 17)) : CallI P w K mg base ca 4 "bar_holds" 4 none R_bar_holds := by
  obtain ⟨f, fd, F, hm⟩ := h
  exact ⟨f, fd, _, fn_bar_holds T U h0 h1 h2 h3 h6 h7 h8 F, hm, F.kp, F.bindsN fun kV doc pm an cdv ct us hl => by match us, hl with | [_, _, _, _], _ => rfl⟩
end
end K74
/-! K74j: check_pairs, Lives. -/
namespace K74
open PySem PySem.Spec PyProof.Rows L2 DL
section
variable {X : Cx} {ca : CA} {B : Base} {ds : List Sl} {pos p : Pos} {d : D} {f x c : Str} {gs : List (Str × D)}
/-- self.f, self an owned instance -/
theorem EV.fldA (i : Nat) (T : Cls X.K (ca c)) (hn : NoAttr X.K (ca c) f) (h : fldD gs f = some d) (h0 : ds[i]? = some (.v (OD.i c gs)) := by rfl) (hN : X.N[i]? = some x := by rfl) (hv : Vis X.env.scope x := by first | exact Or.inl rfl | exact Or.inr (Or.inl rfl) | exact Or.inr (Or.inr rfl)) (hd : (x == ("__debug__" : Str)) = false := by decide)
    (hcd : (x == ("__classdict__" : Str)) = false := by decide) (hb : attributeBase (.Name x p) f X.env (eval (.Name x p) X.env) = eval (.Name x p) X.env := by rfl) : EV X ca B (.Attribute (.Name x p) f pos) ds (.d d) ds := fun ts σ H Q h1 q =>
  we_of (pe_fld pe_we hb) (ev_al i h0 hN hv hd hcd ts σ H _ h1 fun v H1 g1 => by
    obtain ⟨a, dx, fs, F, Hu, ow, rfl, rfl, C, hp, hdx, ne, hD, hu, hH, r⟩ := g1.alI h0 g1.alV
    obtain ⟨u, h2, h3⟩ := r.get h
    exact ⟨_, _, _, _, u, rfl, hH, T, hn, h2, q _ _ (C.rest.give h3)⟩)
end
section
variable {P : Program} {w : World} {K : PySem.W.Frag} {mg : Str → Option Value} {base : Heap} {ca : CA}
def R_check_pairs : List OD → Res → Prop := fun ods res => ∃ (x : Str) (ps : List (Int × Int)), ods = [.dat (.str x), .dat (.lst (ps.map encP))] ∧ (∀ p ∈ ps, p.1 < p.2) ∧ res = okN .non
theorem ok_check_pairs (h : Has K mg "check_pairs" (top 35)) : CallI P w K mg base ca 1 "check_pairs" 2 none R_check_pairs := by
  have nd : (["what", "pairs", "low", "high"] : List Str).Nodup := by decide +kernel
  refine callI (N := ["what", "pairs", "low", "high"]) (ps := ["what", "pairs"]) h (fun kV doc pm an cdv ct us hl => by match us, hl with | [_, _], _ => rfl) ⟨rfl, rfl, rfl, nd, rfl, by decide +kernel, by decide +kernel⟩ fun X B ods res ⟨f, cdv, A, outer, s', H, E, hX⟩ hr hpr hR hl => ?_
  subst hX
  obtain ⟨x, ps, rfl, hps, rfl⟩ := hR
  have pr : ∀ i, B.pr i = false := fun i => by rw [hpr]; rfl
  refine bp_for (passes_of rfl) rfl (iv_list (ev_var 1)) ?_
  refine (lpp_loop (σ := Unit) (ρ := Unit) (fun _ => [.d (.str x), .d (.lst (ps.map encP)), .no, .no]) encP (fun _ _ => .nx ()) (fun _ as => ∀ p ∈ as, p.1 < p.2) (fun _ _ => False) (fun s p as hI => ?_) ps () hps).imp ?_
  · refine ⟨_, _, tg_tup rfl (tgs_cons (tg_name 2 nd (hp := pr _)) (tgs_cons (tg_name 3 nd (hp := pr _)) tgs_nil)) rfl, ?_, fun _ _ q hq => hI q (List.mem_cons_of_mem _ hq)⟩
    have hp := hI p (List.mem_cons_self ..)
    refine bp_if (et_cmp op_ge (ev_var 2) (ev_var 3) ro_cmpI) (fun hk => ?_) fun hk => ?_
    · have := of_decide_eq_true hk
      omega
    · exact bp_nil (bp_nil (bp_end (turned_nx (.keep (.keep (.drop (.drop .nil)))))))
  · intro o ho
    rw [loopF_nx] at ho
    subst ho
    exact bp_nil (bp_end ⟨rfl, fun i h => (nomatch h)⟩)
/-- the raw five -/
structure Five where
  hol : List (Int × Int)
  sum : List (Int × Int)
  loo : List Int
  low : Int
  high : Int
def Five.liv (v : Five) : Liv := ⟨psort v.hol, psort v.sum, isort v.loo, v.low, v.high⟩
def Five.ok (v : Five) : Prop := (∀ p ∈ v.hol, p.1 < p.2) ∧ (∀ p ∈ v.sum, p.1 < p.2) ∧ v.hol.length ≤ 1000 ∧ v.sum.length ≤ 1000
def livF (L : Liv) : List (Str × D) := [("hollows", encPs L.hol), ("summits", encPs L.sum), ("loose", .tup (L.loo.map .int)), ("lowest", .int L.low), ("highest", .int L.high), ("handles", .int L.loo.length)]
theorem frz_liv (L : Liv) : (OD.i "Lives" (livF L)).frz = encL L := frz_i _ _
def R_lives : List OD → Res → Prop := fun ods res => ∃ v : Five, ods = [.ins "Lives" [], .dat (.lst (v.hol.map encP)), .dat (.lst (v.sum.map encP)), .dat (.lst (v.loo.map .int)), .dat (.int v.low), .dat (.int v.high)] ∧ v.ok ∧ res = .ok (.dat .non) (OD.i "Lives" (livF v.liv))
theorem ok_lives (T : Txt w K mg ca) (h0 : Has K mg "check_pairs" (top 35)) {fI : Addr} {fd : FuncData} (F : FunD K "__init__" "Lives.__init__" (defArgs (inClass (top 36) 0)) (defBody (inClass (top 36) 0)) (defScope (inClass (top 36) 0)) [] [] fI fd) :
    FnOk P w K mg base (CX P w) 2 fI fd ["self", "hollows", "summits", "loose", "lowest", "highest"] (spD K ca 6 (some 0) R_lives) := by
  have nd : (["self", "hollows", "summits", "loose", "lowest", "highest", "low", "high"] : List Str).Nodup := by decide +kernel
  refine okD (N := ["self", "hollows", "summits", "loose", "lowest", "highest", "low", "high"]) F ⟨rfl, rfl, rfl, nd, rfl, by decide +kernel, by decide +kernel⟩ fun X B ods res ⟨cdv, A, outer, s', H, E, hX⟩ hr hpr hR hl => ?_
  subst hX
  obtain ⟨v, rfl, hok, rfl⟩ := hR
  have pr : ∀ i, i ≠ 0 → B.pr i = false := fun i hi => by
    rw [hpr]
    show decide (some 0 = some i) = false
    exact decide_eq_false fun z => hi (by cases z; rfl)
  refine bp_next (b1_expr (ev_fnD (ok_check_pairs h0) hr (ead2 ev_str (ev_var 1)) ⟨_, v.hol, rfl, hok.1, rfl⟩)) ?_
  refine bp_next (b1_expr (ev_fnD (ok_check_pairs h0) hr (ead2 ev_str (ev_var 2)) ⟨_, v.sum, rfl, hok.2.1, rfl⟩)) ?_
  refine bp_next (b1_fld (c := "Lives") (gs := []) 0 (EV.tuple (EV.sortedP (ps := v.hol) (ev_lc (own := [("low", 6), ("high", 7)]) rfl nd (iv_list (ev_var 1)) (blkOk_by (by rfl)) (fun i hi od => by simp at hi; rcases hi with rfl | rfl <;> exact fun z => by cases z) (fun i hi => pr i (by simp at hi; omega)) (lc_all encP encP v.hol fun p hp => ⟨_, [6, 7], fun X' hX' => by
    obtain ⟨_, _, _, _, _, rfl⟩ := hX'
    exact tg_tup rfl (tgs_cons (tg_name 6 nd (hp := pr _ (by decide))) (tgs_cons (tg_name 7 nd (hp := pr _ (by decide))) tgs_nil)) rfl, fun i hi => hi, fun X' hX' => by
    obtain ⟨_, _, _, _, _, rfl⟩ := hX'
    exact ev_tupD (ead2 (ev_var 6) (ev_var 7)), rfl⟩) (by rw [List.length_map]; have := hok.2.2; omega)) (.own _) T.fSorted) (.own _) T.fTuple) T.lCls (T.lNo _ (by decide))) ?_
  refine bp_next (b1_fld (c := "Lives") (gs := (livF v.liv).take 1) 0 (EV.tuple (EV.sortedP (ps := v.sum) (ev_lc (own := [("low", 6), ("high", 7)]) rfl nd (iv_list (ev_var 2)) (blkOk_by (by rfl)) (fun i hi od => by simp at hi; rcases hi with rfl | rfl <;> exact fun z => by cases z) (fun i hi => pr i (by simp at hi; omega)) (lc_all encP encP v.sum fun p hp => ⟨_, [6, 7], fun X' hX' => by
    obtain ⟨_, _, _, _, _, rfl⟩ := hX'
    exact tg_tup rfl (tgs_cons (tg_name 6 nd (hp := pr _ (by decide))) (tgs_cons (tg_name 7 nd (hp := pr _ (by decide))) tgs_nil)) rfl, fun i hi => hi, fun X' hX' => by
    obtain ⟨_, _, _, _, _, rfl⟩ := hX'
    exact ev_tupD (ead2 (ev_var 6) (ev_var 7)), rfl⟩) (by rw [List.length_map]; have := hok.2.2; omega)) (.own _) T.fSorted) (.own _) T.fTuple) T.lCls (T.lNo _ (by decide)) (hz := by simp [livF])) ?_
  refine bp_next (b1_fld (c := "Lives") (gs := (livF v.liv).take 2) 0 (EV.tuple (EV.sortedI (ns := v.loo) (EV.list (ev_var 3) (.lst _) T.fList) (.own _) T.fSorted) (.own _) T.fTuple) T.lCls (T.lNo _ (by decide)) (hz := by simp [livF])) ?_
  refine bp_next (b1_fld (c := "Lives") (gs := (livF v.liv).take 3) 0 (ev_var 4) T.lCls (T.lNo _ (by decide)) (hz := by simp [livF])) ?_
  refine bp_next (b1_fld (c := "Lives") (gs := (livF v.liv).take 4) 0 (ev_var 5) T.lCls (T.lNo _ (by decide)) (hz := by simp [livF])) ?_
  refine bp_next (b1_fld (c := "Lives") (gs := (livF v.liv).take 5) (d := .int (isort v.loo).length) 0 (EV.cast (EV.len (xs := (isort v.loo).map .int) (EV.fldA (c := "Lives") (gs := (livF v.liv).take 5) 0 T.lCls (T.lNo _ (by decide)) rfl) (.tup _) T.fLen) (by rw [List.length_map]) rfl) T.lCls (T.lNo _ (by decide)) (hz := by simp [livF])) ?_
  exact bp_nil (bp_end ⟨rfl, fun i h => by cases h; rfl⟩)
end
end K74
/-! K74t: _law_take: the box is an owned list whose first item is an owned list. -/
namespace K74
open PySem PySem.Spec PyProof.Rows L2 DL
structure Box where
  cells : List Int
  here : Int
  mixed : Int
  cnt : Int
def boxOD (b : Box) : OD := .lst [OD.l (b.cells.map .int), .dat (.int b.here), .dat (.int b.mixed), .dat (.int b.cnt)]
section
variable {K : PySem.W.Frag} {ca : CA} {F H : Hp}
theorem boxOwns {b : Box} {v : V} {P : FP} (h : OwnsP K ca F H (boxOD b) v P) : ∃ p q, v = .ref p ∧ P p ∧ P q ∧ q ≠ p ∧ H p = some (.lst [.ref q, .int b.here, .int b.mixed, .int b.cnt]) ∧ H q = some (.lst (b.cells.map V.int)) := by
  unfold boxOD at h
  rw [OwnsP] at h
  obtain ⟨p, vs, rfl, hp, hH, hx⟩ := h
  rw [OwnsL] at hx
  obtain ⟨v0, r0, P1, P2, rfl, i1, i2, dj, x1, x2⟩ := hx
  obtain ⟨q, cs, rfl, hq, hQ, rq⟩ := owns_l x1
  rw [reps_ints rq] at hQ
  rw [OwnsL] at x2
  obtain ⟨v1, r1, P3, P4, rfl, i3, i4, dj2, x3, x4⟩ := x2
  rw [OwnsL] at x4
  obtain ⟨v2, r2, P5, P6, rfl, i5, i6, dj3, x5, x6⟩ := x4
  rw [OwnsL] at x6
  obtain ⟨v3, r3, P7, P8, rfl, i7, i8, dj4, x7, x8⟩ := x6
  rw [OwnsL] at x8
  subst x8
  rw [OwnsP] at x3 x5 x7
  cases x3
  cases x5
  cases x7
  exact ⟨p, q, rfl, hp, (i1 q hq).1, (i1 q hq).2, hH, hQ⟩
theorem boxMk {b : Box} {p q : Addr} {P : FP} (hp : P p) (hq : P q) (ne : q ≠ p) (h1 : H p = some (.lst [.ref q, .int b.here, .int b.mixed, .int b.cnt])) (h2 : H q = some (.lst (b.cells.map V.int))) : OwnsP K ca F H (boxOD b) (.ref p) P := by
  unfold boxOD
  rw [OwnsP]
  refine ⟨p, _, rfl, hp, h1, ?_⟩
  rw [OwnsL]
  refine ⟨_, _, fun a => a = q, fun _ => False, rfl, fun a z => by rw [z]; exact ⟨hq, ne⟩, fun a z => z.elim, fun a _ z => z, owns_l_mk rfl h2 (ints_reps _), ?_⟩
  rw [OwnsL]
  refine ⟨_, _, fun _ => False, fun _ => False, rfl, fun a z => z, fun a z => z, fun a _ z => z, by rw [OwnsP]; exact .int _, ?_⟩
  rw [OwnsL]
  refine ⟨_, _, fun _ => False, fun _ => False, rfl, fun a z => z, fun a z => z, fun a _ z => z, by rw [OwnsP]; exact .int _, ?_⟩
  rw [OwnsL]
  refine ⟨_, _, fun _ => False, fun _ => False, rfl, fun a z => z, fun a z => z, fun a _ z => z, by rw [OwnsP]; exact .int _, ?_⟩
  rw [OwnsL]
end
def big : Int := 10 ^ 18
def takeF (b : Box) (limit : Int) : Int × Box :=
  if decide (b.here < b.cells.length) && decide (b.cells.getD b.here.toNat 0 ≥ big) then (b.cells.getD b.here.toNat 0 % limit, { b with cells := b.cells.set b.here.toNat (b.cells.getD b.here.toNat 0 / limit) })
  else
    let small := if b.here < b.cells.length then b.cells.getD b.here.toNat 0 % 1000003 else 0
    let cnt := b.cnt + 1
    let mixed := (b.mixed * 48271 + small * 69621 + cnt * 7919 + 1) % 2147483647
    (mixed * 16807 % 2147483629 / 8 % limit, ⟨b.cells, if cnt % 3 = 0 then b.here + 1 else b.here, mixed, cnt⟩)
def R_take : List OD → Res → Prop := fun ods res => ∃ (b : Box) (limit : Int), ods = [boxOD b, .dat (.int limit)] ∧ 0 ≤ b.here ∧ 0 < limit ∧ limit < 1073741824 ∧ res = .ok (.dat (.int (takeF b limit).1)) (boxOD (takeF b limit).2)
/-- the second base: the box and its cells are both kept -/
def B2 (B : Base) (p q : Addr) (limit : Int) : Base := { B with pr := fun i => decide (i = 0) || decide (i = 2), v0 := [.ref p, .int limit, .ref q] }
def boxL (b : Box) (q : Addr) : List D := [.obj q, .int b.here, .int b.mixed, .int b.cnt]
section
variable {P : Program} {w : World} {K : PySem.W.Frag} {mg : Str → Option Value} {base : Heap} {ca : CA}
theorem take_back {B : Base} {b : Box} {p q : Addr} {limit : Int} {ds : List Sl} {v : V} {o : OD} {σ : L2.St} {H : Hp} (hpr : B.pr = prOf (some 0)) (hv : B.v0 = [.ref p, .int limit]) (h : holds K ca (B2 B p q limit) (.v (OD.l (boxL b q)) :: ds) [(v, .v o)] σ H) (h2 : (Sl.v (OD.l (boxL b q)) :: ds)[2]? = some (.v (OD.l (b.cells.map .int)))) :
    holds K ca B (.v (boxOD b) :: List.replicate ds.length .no) [(v, .v o)] σ H := by
  obtain ⟨F, Hu, ow, rfl, C⟩ := h
  obtain ⟨v0, e0, s0⟩ := C.prs 0 rfl
  obtain ⟨v2, e2, s2⟩ := C.prs 2 rfl
  obtain rfl : V.ref p = v0 := by simpa [B2] using e0
  obtain rfl : V.ref q = v2 := by simpa [B2] using e2
  obtain ⟨u, hu, x0⟩ := C.sl 0 _ rfl
  rw [s0] at hu
  cases hu
  obtain ⟨u, hu, x2⟩ := C.sl 2 _ h2
  rw [s2] at hu
  cases hu
  obtain ⟨p', us, ep, hp, hHp, r0⟩ := owns_l x0
  cases ep
  obtain ⟨q', cs, eq, hq, hHq, r2⟩ := owns_l x2
  cases eq
  rw [reps_ints r2] at hHq
  have hus : us = [.ref q, .int b.here, .int b.mixed, .int b.cnt] := by
    unfold boxL at r0
    cases r0 with
    | cons a1 r0 =>
      cases r0 with
      | cons a2 r0 =>
        cases r0 with
        | cons a3 r0 =>
          cases r0 with
          | cons a4 r0 =>
            cases r0
            cases a1
            cases a2
            cases a3
            cases a4
            rfl
  rw [hus] at hHp
  have ne : q ≠ p := fun e => by rw [e, hp] at hq; cases hq
  let ow2 : Addr → Option Own := fun a => match ow a with
    | some (.inl i) => if i = 0 ∨ i = 2 then some (.inl 0) else none
    | x => x
  have o3 : ∀ {a : Addr} {i : Nat}, ow2 a = some (.inl i) → i = 0 ∧ (ow a = some (.inl 0) ∨ ow a = some (.inl 2)) := fun {a i} e => by
    cases h : ow a with
    | none => simp [ow2, h] at e
    | some y =>
      cases y with
      | inr k => simp [ow2, h] at e
      | inl j =>
        simp only [ow2, h] at e
        by_cases c : j = 0 ∨ j = 2
        · rw [if_pos c] at e
          cases e
          rcases c with rfl | rfl
          · exact ⟨rfl, .inl rfl⟩
          · exact ⟨rfl, .inr rfl⟩
        · rw [if_neg c] at e
          cases e
  have o4 : ∀ {a : Addr} {k : Nat}, ow2 a = some (.inr k) → ow a = some (.inr k) := fun {a k} e => by
    cases h : ow a with
    | none => simp [ow2, h] at e
    | some y =>
      cases y with
      | inr k => simpa [ow2, h] using e
      | inl j =>
        simp only [ow2, h] at e
        by_cases c : j = 0 ∨ j = 2
        · rw [if_pos c] at e; cases e
        · rw [if_neg c] at e; cases e
  refine ⟨F, Hu, ow2, rfl, C.f0, C.fh, C.lks, C.fresh, C.keep, C.stay, fun a x e => ?_, fun a i e => ?_, fun a k e => C.ownT a k (o4 e), fun i hi => ?_, ?_, fun i od hi => ?_, ?_⟩
  · cases x with
    | inl i =>
      rcases (o3 e).2 with z | z
      · exact C.own a _ z
      · exact C.own a _ z
    | inr k => exact C.own a _ (o4 e)
  · obtain ⟨rfl, z⟩ := o3 e
    have z' : B.H0 a = none ∨ B.foot a := by
      rcases z with z | z
      · exact (C.ownS a 0 z).imp id fun y => y.1
      · exact (C.ownS a 2 z).imp id fun y => y.1
    exact z'.imp id fun y => ⟨y, by rw [hpr]; rfl⟩
  · rw [hpr] at hi
    have e : i = 0 := by
      have := of_decide_eq_true (p := some 0 = some i) hi
      cases this
      rfl
    rw [e]
    exact ⟨.ref p, by rw [hv]; rfl, s0⟩
  · have := C.len
    simpa using this
  · cases i with
    | zero =>
      cases hi
      refine ⟨_, s0, boxMk (by simp [ow2, hp]) (by simp [ow2, hq]) ne hHp hHq⟩
    | succ i =>
      have hi' : (List.replicate ds.length Sl.no)[i]? = some (.v od) := hi
      rw [List.getElem?_replicate] at hi'
      split at hi' <;> cases hi'
  · exact tms_imp (Ex.refl _) (fun a o k _ pa ha => ⟨ha, by simp [ow2, pa]⟩) C.tm
end
end K74
/-! K74u: _law_take. -/
namespace K74
open PySem PySem.Spec PyProof.Rows L2 DL
section
variable {P : Program} {w : World} {K : PySem.W.Frag} {mg : Str → Option Value} {base : Heap} {ca : CA}
theorem atI_int {xs : List Int} {i : Int} (h0 : 0 ≤ i) (h : i < xs.length) : atI (xs.map D.int) i = some (.int (xs.getD i.toNat 0)) := by
  obtain ⟨m, rfl⟩ := Int.eq_ofNat_of_zero_le h0
  exact atI_map D.int 0 (Int.ofNat_lt.mp h)
theorem ixN_nat {n : Nat} {i : Int} (h0 : 0 ≤ i) (h : i < n) : ixN n i = some i.toNat := by
  unfold ixN
  rw [if_pos h0, if_pos h]
theorem take_rest (T : Txt w K mg ca) {B : Base} {b : Box} {limit : Int} {p q : Addr} {f : Addr} {cdv : Value} {A : Around} {outer : List Env} {s' : Shared} {H : Hp} {E : XK} (h0 : 0 ≤ b.here) (hl : 0 < limit) (hl2 : limit < 1073741824) :
    ∃ ds, BS (cxOf (CX P w) P w K mg base ["box", "limit", "cells", "here", "got", "small"] "_law_take" (defScope (top 39)) f cdv A outer s' H E) ca (B2 B p q limit) ((defBody (top 39)).drop 1) [.v (OD.l (boxL b q)), .d (.int limit), .v (OD.l (b.cells.map .int)), .d (.int b.here), .no, .no] (.rt (.dat (.int (takeF b limit).1)) (.v (OD.l (boxL (takeF b limit).2 q)) :: ds)) ∧
      ds.length = 5 ∧ (Sl.v (OD.l (boxL (takeF b limit).2 q)) :: ds)[2]? = some (.v (OD.l ((takeF b limit).2.cells.map .int))) := by
  have nd : (["box", "limit", "cells", "here", "got", "small"] : List Str).Nodup := by decide +kernel
  have key : BP (cxOf (CX P w) P w K mg base ["box", "limit", "cells", "here", "got", "small"] "_law_take" (defScope (top 39)) f cdv A outer s' H E) ca (B2 B p q limit) [(defBody (top 39)).drop 1] [.v (OD.l (boxL b q)), .d (.int limit), .v (OD.l (b.cells.map .int)), .d (.int b.here), .no, .no]
      (fun o => ∃ ds, o = .rt (.dat (.int (takeF b limit).1)) (.v (OD.l (boxL (takeF b limit).2 q)) :: ds) ∧ ds.length = 5 ∧ (Sl.v (OD.l (boxL (takeF b limit).2 q)) :: ds)[2]? = some (.v (OD.l ((takeF b limit).2.cells.map .int)))) := by
    have hlen : (b.cells.map D.int).length = b.cells.length := List.length_map ..
    refine bp_if (EW.pt (ew_and (b1 := decide (b.here < b.cells.length)) (b2 := decide (b.cells.getD b.here.toNat 0 ≥ big)) (ET.cast (et_cmp op_lt (ev_var 3) (EV.len (xs := b.cells.map .int) (ev_al 2) (.al rfl (.own _)) T.fLen) ro_cmpI) (by rw [hlen]) rfl) (fun hk => ew_and1 (et_cmp op_ge (EV.ix (ev_al 2) (ev_var 3) (.al rfl (.own _)) (atI_int h0 (of_decide_eq_true hk))) (EV.pow ev_int ev_int ⟨by decide, by decide, by decide⟩) ro_cmpI)) fun _ => rfl)) (fun hk => ?_) fun hk => bp_nil ?_
    · have hc := hk
      rw [Bool.and_eq_true, decide_eq_true_eq] at hk
      unfold takeF
      rw [if_pos hc]
      refine bp_next (b1_set 4 (EV.mod (EV.intI (EV.ix (ev_al 2) (ev_var 3) (.al rfl (.own _)) (atI_int h0 hk.1)) T.fInt) (ev_var 1) hl) nd) ?_
      refine bp_next (b1_asg (EV.fdiv (EV.ix (ev_al 2) (ev_var 3) (.al rfl (.own _)) (atI_int h0 hk.1)) (ev_var 1) ⟨hl, hl2⟩) (tg_ixL (n := b.here.toNat) 2 (ev_var 3) (ixN_nat h0 (by rw [hlen]; exact hk.1)))) ?_
      refine bp_ret (ev_var 4) ⟨_, rfl, rfl, ?_⟩
      show some (Sl.v (OD.l ((b.cells.map D.int).set b.here.toNat (.int (b.cells.getD b.here.toNat 0 / limit))))) = _
      rw [List.map_set]
    · unfold takeF
      rw [if_neg (by rw [hk]; decide)]
      refine bp_next (b1_set 5 ev_int nd) ?_
      refine bp_join (k := decide (b.here < b.cells.length)) (ds2 := [.v (OD.l (boxL b q)), .d (.int limit), .v (OD.l (b.cells.map .int)), .d (.int b.here), .no, .d (.int (if b.here < b.cells.length then b.cells.getD b.here.toNat 0 % 1000003 else 0))]) (ET.cast (et_cmp op_lt (ev_var 3) (EV.len (xs := b.cells.map .int) (ev_al 2) (.al rfl (.own _)) T.fLen) ro_cmpI) (by rw [hlen]) rfl) (fun hc => ?_) (fun hc => ?_) ?_
      · have hc := of_decide_eq_true hc
        rw [if_pos hc]
        exact bp_next (b1_set 5 (EV.mod (EV.intI (EV.ix (ev_al 2) (ev_var 3) (.al rfl (.own _)) (atI_int h0 hc)) T.fInt) ev_int (by decide)) nd) (bp_nil (bp_end ⟨_, rfl, Wk.refl _⟩))
      · have hc := of_decide_eq_false hc
        rw [if_neg hc]
        exact bp_nil (bp_end ⟨_, rfl, Wk.refl _⟩)
      generalize (if b.here < b.cells.length then b.cells.getD b.here.toNat 0 % 1000003 else 0) = small
      refine bp_next (b1_asg (EV.add (EV.ix (ev_al 0) ev_int (.al rfl (.own (boxL b q))) rfl) ev_int) (tg_ixL (xs := boxL b q) (n := 3) 0 ev_int rfl)) ?_
      refine bp_next (b1_asg (EV.mod (EV.intI (EV.add (EV.add (EV.add (EV.mul (EV.ix (xs := [.obj q, .int b.here, .int b.mixed, .int (b.cnt + 1)]) (ev_al 0) ev_int (.al rfl (.own _)) rfl) ev_int (.inr (by decide))) (EV.mul (ev_var 5) ev_int (.inr (by decide)))) (EV.mul (EV.ix (xs := [.obj q, .int b.here, .int b.mixed, .int (b.cnt + 1)]) (ev_al 0) ev_int (.al rfl (.own _)) rfl) ev_int (.inr (by decide)))) ev_int) T.fInt) ev_int (by decide)) (tg_ixL (xs := [.obj q, .int b.here, .int b.mixed, .int (b.cnt + 1)]) (n := 2) 0 ev_int rfl)) ?_
      generalize hm : (b.mixed * 48271 + small * 69621 + (b.cnt + 1) * 7919 + 1) % 2147483647 = mixed
      refine bp_join (k := decide ((b.cnt + 1) % 3 = 0)) (ds2 := [.v (OD.l [.obj q, .int (if (b.cnt + 1) % 3 = 0 then b.here + 1 else b.here), .int mixed, .int (b.cnt + 1)]), .d (.int limit), .v (OD.l (b.cells.map .int)), .d (.int b.here), .no, .d (.int small)]) (et_cmp op_eq (EV.mod (EV.intI (EV.ix (xs := [.obj q, .int b.here, .int mixed, .int (b.cnt + 1)]) (ev_al 0) ev_int (.al (by rw [← hm]; rfl) (.own _)) rfl) T.fInt) ev_int (by decide)) ev_int ro_eqI) (fun hc => ?_) (fun hc => ?_) ?_
      · have hc := of_decide_eq_true hc
        rw [if_pos hc]
        exact bp_next (b1_asg (EV.add (ev_var 3) ev_int) (tg_ixL (xs := boxL ⟨b.cells, b.here, mixed, b.cnt + 1⟩ q) (n := 1) 0 ev_int rfl)) (bp_nil (bp_end ⟨_, rfl, Wk.refl _⟩))
      · have hc := of_decide_eq_false hc
        rw [if_neg hc]
        exact bp_nil (bp_end ⟨_, rfl, Wk.refl _⟩)
      generalize hh : (if (b.cnt + 1) % 3 = 0 then b.here + 1 else b.here) = here2
      refine bp_ret (od := .dat (.int (mixed * 16807 % 2147483629 / 8 % limit))) (ds1 := [.v (OD.l [.obj q, .int here2, .int mixed, .int (b.cnt + 1)]), .d (.int limit), .v (OD.l (b.cells.map .int)), .d (.int b.here), .no, .d (.int small)]) (EV.mod (EV.intI (EV.fdiv (EV.mod (EV.intI (EV.mul (EV.ix (xs := [.obj q, .int here2, .int mixed, .int (b.cnt + 1)]) (ev_al 0) ev_int (.al rfl (.own _)) rfl) ev_int (.inr (by decide))) T.fInt) ev_int (by decide)) ev_int ⟨by decide, by decide⟩) T.fInt) (ev_var 1) hl) ⟨[.d (.int limit), .v (OD.l (b.cells.map .int)), .d (.int b.here), .no, .d (.int small)], ?_, rfl, rfl⟩
      rw [← hh, ← hm]
      rfl
  obtain ⟨o, h1, ds, rfl, h2, h3⟩ := key.one
  exact ⟨ds, h1, h2, h3⟩
end
end K74
/-! K74v: _law_take as its callers see it. -/
namespace K74
open PySem PySem.Spec PyProof.Rows L2 DL
section
variable {P : Program} {w : World} {K : PySem.W.Frag} {mg : Str → Option Value} {base : Heap} {ca : CA}
theorem take_core {B : Base} {b : Box} {p q : Addr} {limit : Int} {v1 : V} {ow : Addr → Option Own} (hpr : B.pr = prOf (some 0)) (C : Core K ca B [.v (boxOD b), .d (.int limit)] [] [some (.ref p), some v1] B.F0 B.H0 ow) (op : ow p = some (.inl 0)) (oq : ow q = some (.inl 0)) (ne : q ≠ p) (h1 : B.H0 p = some (.lst [.ref q, .int b.here, .int b.mixed, .int b.cnt])) (h2 : B.H0 q = some (.lst (b.cells.map V.int))) :
    holds K ca (B2 B p q limit) [.v (OD.l (boxL b q)), .d (.int limit), .v (OD.l (b.cells.map .int)), .d (.int b.here), .no, .no] [] [some (.ref p), some (.int limit), some (.ref q), some (.int b.here), none, none] (lock B.lk B.H0) := by
  let ow2 : Addr → Option Own := fun a => if a = q then some (.inl 2) else if a = p then some (.inl 0) else none
  have e0 : ∀ {a : Addr} {x : Own}, ow2 a = some x → ow a = some (.inl 0) ∧ (x = .inl 0 ∨ x = .inl 2) := fun {a x} e => by
    by_cases c : a = q
    · simp only [ow2, if_pos c] at e
      cases e
      exact ⟨by rw [c]; exact oq, .inr rfl⟩
    · by_cases c2 : a = p
      · simp only [ow2, if_neg c, if_pos c2] at e
        cases e
        exact ⟨by rw [c2]; exact op, .inl rfl⟩
      · simp only [ow2, if_neg c, if_neg c2] at e
        cases e
  refine ⟨B.F0, B.H0, ow2, rfl, C.f0, C.fh, C.lks, C.fresh, C.keep, C.stay, fun a x e => C.own a _ (e0 e).1, fun a i e => ?_, fun a k e => ?_, fun i hi => ?_, rfl, fun i od hi => ?_, True.intro⟩
  · refine (C.ownS a 0 (e0 e).1).imp id fun y => ⟨y.1, ?_⟩
    rcases (e0 e).2 with z | z
    · cases z; rfl
    · cases z; rfl
  · rcases (e0 e).2 with z | z <;> cases z
  · have hi' : (decide (i = 0) || decide (i = 2)) = true := hi
    rw [Bool.or_eq_true, decide_eq_true_eq, decide_eq_true_eq] at hi'
    rcases hi' with rfl | rfl
    · exact ⟨_, rfl, rfl⟩
    · exact ⟨_, rfl, rfl⟩
  · match i, hi with
    | 0, hi =>
      cases hi
      exact ⟨_, rfl, owns_l_mk (by simp [ow2, Ne.symm ne]) h1 (.cons (.obj q) (.cons (.int _) (.cons (.int _) (.cons (.int _) .nil))))⟩
    | 1, hi =>
      cases hi
      exact ⟨_, rfl, by rw [OwnsP]; exact .int _⟩
    | 2, hi =>
      cases hi
      exact ⟨_, rfl, owns_l_mk (by simp [ow2]) h2 (ints_reps _)⟩
    | 3, hi =>
      cases hi
      exact ⟨_, rfl, by rw [OwnsP]; exact .int _⟩
    | 4, hi => cases hi
    | 5, hi => cases hi
    | (i + 6), hi => cases hi
theorem ok_take (T : Txt w K mg ca) (h : Has K mg "_law_take" (top 39)) : CallI P w K mg base ca 1 "_law_take" 2 (some 0) R_take := by
  obtain ⟨f, fd, F, hm⟩ := h
  have nd : (["box", "limit", "cells", "here", "got", "small"] : List Str).Nodup := by decide +kernel
  have S : FnScope ["box", "limit", "cells", "here", "got", "small"] ["box", "limit"] (defScope (top 39)) := ⟨rfl, rfl, rfl, nd, rfl, by decide +kernel, by decide +kernel⟩
  refine ⟨f, fd, ["box", "limit"], ?_, hm, F.kp, F.bindsN (fun kV doc pm an cdv ct us hl => by match us, hl with | [_, _], _ => rfl)⟩
  refine F.ok S (fun vs H Q E h => ?_) (fun cdv A outer s H vs Q E hr h => ?_)
  · obtain ⟨B, ods, res, _, hn, _, hs, _⟩ := h
    rw [hs.len, hn]
    rfl
  · obtain ⟨B, ods, res, hR, hn, hpr, hs, hq⟩ := h
    obtain ⟨b, limit, rfl, h0, hl, hl2, rfl⟩ := hR
    have hlen := hs.len
    obtain ⟨ow, rfl, C, hv⟩ := hs
    obtain ⟨v0, v1, rfl⟩ : ∃ v0 v1, vs = [v0, v1] := by
      match vs, hlen with
      | [a, b], _ => exact ⟨a, b, rfl⟩
    obtain ⟨u, hu, x0⟩ := C.sl 0 _ rfl
    cases hu
    obtain ⟨u, hu, x1⟩ := C.sl 1 _ rfl
    cases hu
    rw [OwnsP] at x1
    cases x1
    obtain ⟨p, q, rfl, op, oq, ne, h1, h2⟩ := boxOwns x0
    have C2 := take_core (limit := limit) hpr C op oq ne h1 h2
    have hp : lock B.lk B.H0 p = some (.lst [.ref q, .int b.here, .int b.mixed, .int b.cnt]) := by rw [lock_none (C.nolk op), h1]
    obtain ⟨ds, bs, hds, h5⟩ := take_rest (P := P) (base := base) T (B := B) (p := p) (q := q) (f := f) (cdv := cdv) (A := A) (outer := outer) (s' := s) (H := lock B.lk B.H0) (E := E) h0 hl hl2
    refine ⟨_, pss_cons (ps_par (i := 2) (j := 3) rfl nd rfl rfl (by decide) rfl rfl (pa_cons (pe_ix ix_seq (pe_var (i := 0) rfl (.inl rfl)) pe_int (fun _ _ => rfl)) (pa_cons (pe_ix ix_seq (pe_var (i := 0) rfl (.inl rfl)) pe_int (fun _ _ => rfl)) pa_nil)) rfl) pss_wb, ?_⟩
    refine ⟨.ref p, rfl, .inl ⟨p, _, 0, .ref q, rfl, rfl, .inl (.inl hp), rfl, ⟨.ref p, rfl, .inl ⟨p, _, 1, .int b.here, rfl, rfl, .inl (.inl hp), rfl, ⟨.ref q, .int b.here, rfl, ?_⟩⟩⟩⟩⟩
    refine bs [] _ _ _ (fun _ _ _ _ => False) (fun v i hm => by cases hm) takes_none5 C2 fun v σ H' h' => ?_
    exact hq v _ σ H' (take_back hpr hv h' h5) fun i hi => by cases hi; rfl
end
end K74
/-! K74w: the drawing defs over _law_take. -/
namespace K74
open PySem PySem.Spec PyProof.Rows L2 DL
theorem takeF_lt (b : Box) {l : Int} (h : 0 < l) : 0 ≤ (takeF b l).1 ∧ (takeF b l).1 < l := by
  unfold takeF
  split
  · exact ⟨Int.emod_nonneg _ (by omega), Int.emod_lt_of_pos _ h⟩
  · exact ⟨Int.emod_nonneg _ (by omega), Int.emod_lt_of_pos _ h⟩
theorem takeF_here (b : Box) (l : Int) (h : 0 ≤ b.here) : 0 ≤ (takeF b l).2.here := by
  unfold takeF
  split
  · exact h
  · show 0 ≤ (if (b.cnt + 1) % 3 = 0 then b.here + 1 else b.here)
    split <;> omega
section
variable {X : Cx} {ca : CA} {B : Base} {ds ds1 ds2 : List Sl} {e : Expr} {pos p p1 : Pos} {b b0 : Box} {l : Int} {k : Nat}
/-- _law_take(box, e), the box in slot 0 -/
theorem ev_take (G : CallI X.prog X.w X.K X.mg X.base ca 1 "_law_take" 2 (some 0) R_take) (hr : Room k X.A) (he : EV X ca B e ds (.int l) ds1) (h0 : 0 ≤ b.here) (hl : 0 < l ∧ l < 1073741824) (hk : 1 ≤ k := by decide) (hb : ds1[0]? = some (.v (boxOD b)) := by rfl) (h00 : ds[0]? = some (.v (boxOD b0)) := by rfl) (hs : ds1.set 0 (.v (boxOD (takeF b l).2)) = ds2 := by rfl)
    (hN : X.N[0]? = some ("box" : Str) := by rfl) (hv : Vis X.env.scope ("box" : Str) := by first | exact Or.inl rfl | exact Or.inr (Or.inl rfl) | exact Or.inr (Or.inr rfl)) (hg : Gl X "_law_take" := by rfl)
    (he1 : starEach [Expr.Name "box" p1, e] X.env = (false, eval (Expr.Name "box" p1) X.env) :: starEach [e] X.env := by rfl) (he2 : starEach [e] X.env = (false, eval e X.env) :: starEach [] X.env := by rfl) (hpl : (backTo pos (starEach [e] X.env)).any (·.1) = false := by rfl) :
    EV X ca B (.Call (.Name "_law_take" p) [.Name "box" p1, e] [] pos) ds (.int (takeF b l).1) ds2 :=
  ev_fn 0 G hr (ea_cons (ev_al 0 h00 hN hv) (ea1 he he2) he1) (.own hb (.dat .nil)) ⟨b, l, rfl, h0, hl.1, hl.2, rfl⟩ hk rfl hs hg (by decide) he1 hpl
end
section
variable {P : Program} {w : World} {K : PySem.W.Frag} {mg : Str → Option Value} {base : Heap} {ca : CA}
def R_of : List OD → Res → Prop := fun ods res => ∃ (b : Box) (xs : List D) (d : D), ods = [boxOD b, .dat (.lst xs)] ∧ 0 ≤ b.here ∧ 0 < xs.length ∧ xs.length < 1073741824 ∧ xs[(takeF b xs.length).1.toNat]? = some d ∧ res = .ok (.dat d) (boxOD (takeF b xs.length).2)
theorem ok_of (T : Txt w K mg ca) (h0 : Has K mg "_law_take" (top 39)) (h : Has K mg "_law_of" (top 40)) : CallI P w K mg base ca 2 "_law_of" 2 (some 0) R_of := by
  have nd : (["box", "things"] : List Str).Nodup := by decide +kernel
  refine callI (N := ["box", "things"]) (ps := ["box", "things"]) h (fun kV doc pm an cdv ct us hl => by match us, hl with | [_, _], _ => rfl) ⟨rfl, rfl, rfl, nd, rfl, by decide +kernel, by decide +kernel⟩ fun X B ods res ⟨f, cdv, A, outer, s', H, E, hX⟩ hr hpr hR hl => ?_
  subst hX
  obtain ⟨b, xs, d, rfl, hb, hx, hx2, hd, rfl⟩ := hR
  have hlt := takeF_lt b (l := xs.length) (by omega)
  refine bp_ret (EV.ix (xs := xs) (ev_var 1) (ev_take (ok_take T h0) hr (EV.len (xs := xs) (ev_var 1) (.lst _) T.fLen) hb ⟨by omega, by omega⟩) (.lst _) ?_) ⟨rfl, fun i h => by cases h; rfl⟩
  obtain ⟨m, hm⟩ := Int.eq_ofNat_of_zero_le hlt.1
  rw [hm] at hd ⊢
  have hm2 := hlt.2
  rw [hm] at hm2
  unfold atI ixN
  rw [if_pos (by omega), if_pos (by omega)]
  exact hd
def R_near1 : List OD → Res → Prop := fun ods res => ∃ (b : Box) (x far : Int), ods = [boxOD b, .dat (.int x), .dat (.int far)] ∧ 0 ≤ b.here ∧ 0 ≤ far ∧ far < 500000000 ∧ res = .ok (.dat (.int (x + (takeF b (2 * far + 1)).1 - far))) (boxOD (takeF b (2 * far + 1)).2)
theorem ok_number_near (T : Txt w K mg ca) (h0 : Has K mg "_law_take" (top 39)) (h : Has K mg "_law_number_near" (top 45)) : CallI P w K mg base ca 2 "_law_number_near" 3 (some 0) R_near1 := by
  have nd : (["box", "x", "far"] : List Str).Nodup := by decide +kernel
  refine callI (N := ["box", "x", "far"]) (ps := ["box", "x", "far"]) h (fun kV doc pm an cdv ct us hl => by match us, hl with | [_, _, _], _ => rfl) ⟨rfl, rfl, rfl, nd, rfl, by decide +kernel, by decide +kernel⟩ fun X B ods res ⟨f, cdv, A, outer, s', H, E, hX⟩ hr hpr hR hl => ?_
  subst hX
  obtain ⟨b, x, far, rfl, hb, hx, hx2, rfl⟩ := hR
  exact bp_ret (EV.sub (EV.add (ev_var 1) (ev_take (ok_take T h0) hr (EV.add (EV.mul ev_int (ev_var 2) (.inl (by decide))) ev_int) hb ⟨by omega, by omega⟩)) (ev_var 2)) ⟨rfl, fun i h => by cases h; rfl⟩
/-- the things in a drawn order: one turn -/
def mixS (s : Box × List D × List D) : Box × List D × List D :=
  let r := takeF s.1 s.2.1.length
  (r.2, s.2.1.eraseIdx r.1.toNat, s.2.2 ++ [s.2.1.getD r.1.toNat .non])
def mixF (b : Box) (xs : List D) : Box × List D × List D := (List.range xs.length).foldl (fun s _ => mixS s) (b, xs, [])
def R_mixed : List OD → Res → Prop := fun ods res => ∃ (b : Box) (xs : List D), ods = [boxOD b, .dat (.lst xs)] ∧ 0 ≤ b.here ∧ xs.length < 16777216 ∧ res = .ok (.dat (.lst (mixF b xs).2.2)) (boxOD (mixF b xs).1)
theorem ok_mixed (T : Txt w K mg ca) (h0 : Has K mg "_law_take" (top 39)) (h : Has K mg "_law_mixed" (top 41)) : CallI P w K mg base ca 2 "_law_mixed" 2 (some 0) R_mixed := by
  have nd : (["box", "things", "left", "found", "k"] : List Str).Nodup := by decide +kernel
  refine callI (N := ["box", "things", "left", "found", "k"]) (ps := ["box", "things"]) h (fun kV doc pm an cdv ct us hl => by match us, hl with | [_, _], _ => rfl) ⟨rfl, rfl, rfl, nd, rfl, by decide +kernel, by decide +kernel⟩ fun X B ods res ⟨f, cdv, A, outer, s', H, E, hX⟩ hr hpr hR hl => ?_
  subst hX
  obtain ⟨b, xs, rfl, hb, hx, rfl⟩ := hR
  have pr : ∀ i, B.pr (i + 1) = false := fun i => by rw [hpr]; rfl
  refine bp_next (b1_par2 (od1 := OD.l xs) (od2 := OD.l []) 2 3 rfl nd (ea_cons (EV.list (ev_var 1) (.lst _) T.fList) (ea1 (ev_lst (xs := []) ea_nil))) (hpi := pr _) (hpj := pr _)) ?_
  refine bp_for (passes_of rfl) rfl (iv_range1 (EV.len (xs := xs) (ev_var 1) (.lst _) T.fLen) T.fRange ⟨by omega, by omega⟩) ?_
  rw [Int.toNat_natCast]
  refine (lpp_loop (σ := Box × List D × List D) (ρ := Unit) (fun s => [.v (boxOD s.1), .d (.lst xs), .v (OD.l s.2.1), .v (OD.l s.2.2), .no]) (fun i : Nat => D.int (0 + (i : Nat))) (fun s _ => .nx (mixS s)) (fun s as => 0 ≤ s.1.here ∧ s.2.1.length = as.length ∧ as.length + s.2.2.length = xs.length) (fun _ _ => False) (fun s a as hI => ?_) (List.range xs.length) (b, xs, []) ⟨hb, by simp, by simp⟩).imp ?_
  · obtain ⟨bb, left, found⟩ := s
    obtain ⟨i1, i2, i3⟩ := hI
    have i1 : 0 ≤ bb.here := i1
    have i2 : left.length = as.length + 1 := by simpa using i2
    have i3 : as.length + 1 + found.length = xs.length := by simpa using i3
    have ht := takeF_lt bb (l := left.length) (by omega)
    have hix : ixN left.length (takeF bb left.length).1 = some (takeF bb left.length).1.toNat := ixN_nat ht.1 ht.2
    have hlt : (takeF bb left.length).1.toNat < left.length := by omega
    refine ⟨_, _, tg_name 4 nd (hp := pr _), ?_, fun s' e => ?_⟩
    · refine bp_next (b1_expr (EV.append (xs := found) 3 (EV.popAt (d := left.getD (takeF bb left.length).1.toNat .non) (xs := left) 2 (ev_take (ok_take T h0) hr (EV.len (xs := left) (ev_al 2) (.al rfl (.own _)) T.fLen) i1 ⟨by omega, by omega⟩) rfl hix (by rw [List.getD_eq_getElem?_getD, List.getElem?_eq_getElem hlt]; rfl) (by omega)) rfl (by omega))) ?_
      exact bp_nil (bp_end (turned_nx (.keep (.keep (.keep (.keep (.drop .nil)))))))
    · cases e
      refine ⟨takeF_here _ _ i1, ?_, ?_⟩
      · show (left.eraseIdx _).length = _
        rw [List.length_eraseIdx_of_lt hlt]
        omega
      · show as.length + (found ++ [_]).length = _
        simp
        omega
  · intro o ho
    rw [loopF_nx] at ho
    subst ho
    exact bp_ret (ev_frz 3 rfl (frz_l _) (hp := pr _)) ⟨rfl, fun i h => by cases h; rfl⟩
def R_put : List OD → Res → Prop := fun ods res => ∃ (b : Box) (xs : List D) (x : D), ods = [boxOD b, .dat (.lst xs), .dat x] ∧ 0 ≤ b.here ∧ xs.length < 100000 ∧ res = .ok (.dat (.lst (xs.take (takeF b (1 + xs.length)).1.toNat ++ [x] ++ xs.drop (takeF b (1 + xs.length)).1.toNat))) (boxOD (takeF b (1 + xs.length)).2)
end
end K74
/-! K74x: _law_plain, _law_near, _law_pair_near, _law_put, _law_sorted_lives, _law_made_lives. -/
namespace K74
open PySem PySem.Spec PyProof.Rows L2 DL
section
variable {P : Program} {w : World} {K : PySem.W.Frag} {mg : Str → Option Value} {base : Heap} {ca : CA}
def R_plain : List OD → Res → Prop := fun ods res => ∃ i : Int, ods = [.dat (.int i)] ∧ res = okN (.bl true)
theorem ok_plain (T : Txt w K mg ca) (h : Has K mg "_law_plain" (top 42)) : CallI P w K mg base ca 1 "_law_plain" 1 none R_plain := by
  refine callI (N := ["x"]) (ps := ["x"]) h (fun kV doc pm an cdv ct us hl => by match us, hl with | [_], _ => rfl) ⟨rfl, rfl, rfl, by decide +kernel, rfl, by decide +kernel, by decide +kernel⟩ fun X B ods res ⟨f, cdv, A, outer, s', H, E, hX⟩ hr hpr hR hl => ?_
  subst hX
  obtain ⟨i, rfl, rfl⟩ := hR
  exact bp_ret (od := .dat (.bl (true && !false))) (ds1 := [.d (.int i)]) (ev_and (EV.isi (ev_var 0) (ev_gty T.fInt b_int) rfl rfl T.fIsi) (fun _ => ev_one (ev_not (EV.isi (ev_var 0) (ev_gty T.fBool b_bool) rfl rfl T.fIsi))) fun _ => rfl) ⟨rfl, fun i h => (nomatch h)⟩
def near (a b n : Int) : Bool := decide (2 * iabs (a - b) ≤ n)
def R_near : List OD → Res → Prop := fun ods res => ∃ a b n : Int, ods = [.dat (.int a), .dat (.int b), .dat (.int n)] ∧ res = okN (.bl (near a b n))
theorem ok_near (T : Txt w K mg ca) (h : Has K mg "_law_near" (top 51)) : CallI P w K mg base ca 1 "_law_near" 3 none R_near := by
  refine callI (N := ["a", "b", "halves"]) (ps := ["a", "b", "halves"]) h (fun kV doc pm an cdv ct us hl => by match us, hl with | [_, _, _], _ => rfl) ⟨rfl, rfl, rfl, by decide +kernel, rfl, by decide +kernel, by decide +kernel⟩ fun X B ods res ⟨f, cdv, A, outer, s', H, E, hX⟩ hr hpr hR hl => ?_
  subst hX
  obtain ⟨a, b, n, rfl, rfl⟩ := hR
  exact bp_ret (ev_cmp op_le (EV.mul ev_int (EV.abs (EV.sub (ev_var 0) (ev_var 1)) T.fAbs) (.inl (by decide))) (ev_var 2) ro_cmpI) ⟨rfl, fun i h => (nomatch h)⟩
def nearP (p q : Int × Int) (n : Int) : Bool := near p.1 q.1 n && near p.2 q.2 n
def R_nearP : List OD → Res → Prop := fun ods res => ∃ (p q : Int × Int) (n : Int), ods = [.dat (encP p), .dat (encP q), .dat (.int n)] ∧ res = okN (.bl (nearP p q n))
theorem ok_pair_near (T : Txt w K mg ca) (h0 : Has K mg "_law_near" (top 51)) (h : Has K mg "_law_pair_near" (top 52)) : CallI P w K mg base ca 2 "_law_pair_near" 3 none R_nearP := by
  refine callI (N := ["one", "two", "halves"]) (ps := ["one", "two", "halves"]) h (fun kV doc pm an cdv ct us hl => by match us, hl with | [_, _, _], _ => rfl) ⟨rfl, rfl, rfl, by decide +kernel, rfl, by decide +kernel, by decide +kernel⟩ fun X B ods res ⟨f, cdv, A, outer, s', H, E, hX⟩ hr hpr hR hl => ?_
  subst hX
  obtain ⟨p, q, n, rfl, rfl⟩ := hR
  exact bp_ret (od := .dat (.bl (near p.1 q.1 n && near p.2 q.2 n))) (ds1 := [.d (encP p), .d (encP q), .d (.int n)]) (ev_and (ev_fnD (xs := [.int p.1, .int q.1, .int n]) (ok_near T h0) hr (ead3 (EV.ix (xs := [.int p.1, .int p.2]) (ev_var 0) ev_int (.tup _) rfl) (EV.ix (xs := [.int q.1, .int q.2]) (ev_var 1) ev_int (.tup _) rfl) (ev_var 2)) ⟨p.1, q.1, n, rfl, rfl⟩) (fun _ => ev_one (ev_fnD (xs := [.int p.2, .int q.2, .int n]) (ok_near T h0) hr (ead3 (EV.ix (xs := [.int p.1, .int p.2]) (ev_var 0) ev_int (.tup _) rfl) (EV.ix (xs := [.int q.1, .int q.2]) (ev_var 1) ev_int (.tup _) rfl) (ev_var 2)) ⟨p.2, q.2, n, rfl, rfl⟩)) fun _ => rfl) ⟨rfl, fun i h => (nomatch h)⟩
def enc5 (v : Five) : D := .lst [.lst (v.hol.map encP), .lst (v.sum.map encP), .lst (v.loo.map .int), .int v.low, .int v.high]
def sort5 (v : Five) : Five := ⟨psort v.hol, psort v.sum, isort v.loo, v.low, v.high⟩
def R_sorted : List OD → Res → Prop := fun ods res => ∃ v : Five, ods = [.dat (enc5 v)] ∧ res = okN (enc5 (sort5 v))
theorem ok_sorted (T : Txt w K mg ca) (h : Has K mg "_law_sorted_lives" (top 49)) : CallI P w K mg base ca 1 "_law_sorted_lives" 1 none R_sorted := by
  refine callI (N := ["five"]) (ps := ["five"]) h (fun kV doc pm an cdv ct us hl => by match us, hl with | [_], _ => rfl) ⟨rfl, rfl, rfl, by decide +kernel, rfl, by decide +kernel, by decide +kernel⟩ fun X B ods res ⟨f, cdv, A, outer, s', H, E, hX⟩ hr hpr hR hl => ?_
  subst hX
  obtain ⟨v, rfl, rfl⟩ := hR
  have g : ∀ {pos p p1 : Pos} {i : Int} {j : Nat} {d : D}, atI [D.lst (v.hol.map encP), .lst (v.sum.map encP), .lst (v.loo.map .int), .int v.low, .int v.high] i = some d → EV (cxOf (CX P w) P w K mg base ["five"] "_law_sorted_lives" (defScope (top 49)) f cdv A outer s' H E) ca B (.Subscript (.Name "five" p) (.Constant (.int i) j p1) pos) [.d (enc5 v)] (.d d) [.d (enc5 v)] := fun h => EV.ix (ev_var 0) ev_int (.lst _) h
  exact bp_ret (EV.frz (ev_lstE (ead_cons (EV.frz (EV.sortedP (ps := v.hol) (g rfl) (.lst _) T.fSorted) (frz_l _)) (ead_cons (EV.frz (EV.sortedP (ps := v.sum) (g rfl) (.lst _) T.fSorted) (frz_l _)) (ead3 (EV.frz (EV.sortedI (ns := v.loo) (g rfl) (.lst _) T.fSorted) (frz_l _)) (g rfl) (g rfl))))) (frz_l _)) ⟨rfl, fun i h => (nomatch h)⟩
/-- what is known of the class Lives -/
structure LivT (K : PySem.W.Frag) (mg : Str → Option Value) (ca : CA) : Prop where
  glo : mg "Lives" = some (.ref (ca "Lives"))
  ini : ∃ (fI : Addr) (fd : FuncData), Mk K (ca "Lives") fI ∧ FunD K "__init__" "Lives.__init__" (defArgs (inClass (top 36) 0)) (defBody (inClass (top 36) 0)) (defScope (inClass (top 36) 0)) [] [] fI fd
def R_made : List OD → Res → Prop := fun ods res => ∃ v : Five, ods = [.dat (enc5 v)] ∧ v.ok ∧ res = okN (encL v.liv)
theorem ok_made (T : Txt w K mg ca) (L : LivT K mg ca) (h0 : Has K mg "check_pairs" (top 35)) (h : Has K mg "_law_made_lives" (top 50)) : CallI P w K mg base ca 4 "_law_made_lives" 1 none R_made := by
  refine callI (N := ["five"]) (ps := ["five"]) h (fun kV doc pm an cdv ct us hl => by match us, hl with | [_], _ => rfl) ⟨rfl, rfl, rfl, by decide +kernel, rfl, by decide +kernel, by decide +kernel⟩ fun X B ods res ⟨f, cdv, A, outer, s', H, E, hX⟩ hr hpr hR hl => ?_
  subst hX
  obtain ⟨v, rfl, hok, rfl⟩ := hR
  obtain ⟨fI, fd, M, F⟩ := L.ini
  have g : ∀ {pos p p1 : Pos} {i : Int} {j : Nat} {d : D}, atI [D.lst (v.hol.map encP), .lst (v.sum.map encP), .lst (v.loo.map .int), .int v.low, .int v.high] i = some d → EV (cxOf (CX P w) P w K mg base ["five"] "_law_made_lives" (defScope (top 50)) f cdv A outer s' H E) ca B (.Subscript (.Name "five" p) (.Constant (.int i) j p1) pos) [.d (enc5 v)] (.d d) [.d (enc5 v)] := fun h => EV.ix (ev_var 0) ev_int (.lst _) h
  exact bp_ret (EV.frz (ev_make (c := "Lives") (xs := [.lst (v.hol.map encP), .lst (v.sum.map encP), .lst (v.loo.map .int), .int v.low, .int v.high]) M (ok_lives T h0 F) hr L.glo (F.bindsN (fun kV doc pm an cdv ct us hl => by match us, hl with | [_, _, _, _, _, _], _ => rfl)) (ead_cons (EV.frz (EV.list (xs := v.hol.map encP) (g rfl) (.lst _) T.fList) (frz_l _)) (ead_cons (EV.frz (EV.list (xs := v.sum.map encP) (g rfl) (.lst _) T.fList) (frz_l _)) (ead3 (EV.frz (EV.list (xs := v.loo.map .int) (g rfl) (.lst _) T.fList) (frz_l _)) (g rfl) (g rfl)))) ⟨v, rfl, hok, rfl⟩) (frz_liv _)) ⟨rfl, fun i h => (nomatch h)⟩
end
end K74
/-! K74y: comprehensions that change the box; _law_bent_pairs. -/
namespace K74
open PySem PySem.Spec PyProof.Rows L2 DL
/-- a comprehension's turns with a state; none: the test fails -/
def fmS {α β σ : Type} (f : σ → α → Option β × σ) : List α → σ → List β × σ
  | [], s => ([], s)
  | a :: as, s => match f s a with
    | (some x, s') => (x :: (fmS f as s').1, (fmS f as s').2)
    | (none, s') => fmS f as s'
section
variable {X : Cx} {ca : CA} {B : Base} {tg elt : Expr} {ifs : List Expr} {scope : Scope} {vs : List Nat}
theorem lc_st {α β σ : Type} (enc : σ → List Sl) (it : α → D) (g : β → D) (f : σ → α → Option β × σ) (I : σ → List α → Prop)
    (step : ∀ s a as, I s (a :: as) → (∃ ds1 b ds2 ws, (∀ X', InBlk X scope X' → TG1 X' ca B tg (.dat (it a)) (enc s) ws ds1) ∧ (∀ i ∈ ws, i ∈ vs) ∧ (∀ X', InBlk X scope X' → ETs X' ca B ifs ds1 b ds2) ∧
      ((b = false ∧ ∃ s', f s a = (none, s') ∧ clr ds2 vs = enc s') ∨ (b = true ∧ ∃ r s' ds3, f s a = (some r, s') ∧ (∀ X', InBlk X scope X' → EV X' ca B elt ds2 (.v (.dat (g r))) ds3) ∧ clr ds3 vs = enc s'))) ∧ I (f s a).2 as) :
    ∀ as s, I s as → LC X ca B scope vs tg ifs elt (as.map it) (enc s) ((fmS f as s).1.map g) (enc (fmS f as s).2)
  | [], s, _ => ⟨rfl, rfl⟩
  | a :: as, s, h => by
    obtain ⟨⟨ds1, b, ds2, ws, h1, h2, h3, h4⟩, h5⟩ := step s a as h
    refine ⟨ds1, b, ds2, ws, h1, h2, h3, ?_⟩
    rcases h4 with ⟨rfl, s', e, h6⟩ | ⟨rfl, r, s', ds3, e, h6, h7⟩
    · rw [e] at h5
      have ih := lc_st enc it g f I step as s' h5
      have e2 : fmS f (a :: as) s = fmS f as s' := by rw [fmS, e]
      rw [e2, ← h6] at *
      exact .inl ⟨rfl, by rw [h6]; exact ih⟩
    · rw [e] at h5
      have ih := lc_st enc it g f I step as s' h5
      have e2 : fmS f (a :: as) s = (r :: (fmS f as s').1, (fmS f as s').2) := by rw [fmS, e]
      rw [e2]
      exact .inr ⟨rfl, g r, ds3, _, h6, rfl, by rw [h7]; exact ih⟩
end
theorem okW_pair (p : Int × Int) : okW (encP p) = true := by
  unfold encP
  rw [okW, okWs, okW, okWs, okW, okWs]
  decide +kernel
theorem shD_pairs (ps : List (Int × Int)) : shD (.lst (ps.map encP)) = true :=
  shD_of (by rw [okW]; exact okWs_all fun d hd => by obtain ⟨p, _, rfl⟩ := List.mem_map.mp hd; exact okW_pair p) (by
    rw [dep]
    have := deps_all (ds := ps.map encP) (m := 1) fun d hd => by obtain ⟨p, _, rfl⟩ := List.mem_map.mp hd; simp [encP, dep, deps]
    omega)
theorem eqD_nil (ps : List (Int × Int)) : eqD (.lst (ps.map encP)) (.lst []) = decide (ps = []) := by
  cases ps with
  | nil => rfl
  | cons p ps => rfl
/-- the number near -/
def nearF (b : Box) (x far : Int) : Int × Box := (x + (takeF b (2 * far + 1)).1 - far, (takeF b (2 * far + 1)).2)
def bentS (far : Int) (s : Box × List (Int × Int)) (p : Int × Int) : Box × List (Int × Int) :=
  let r1 := nearF s.1 p.1 far
  let r2 := nearF r1.2 p.2 far
  if r1.1 < r2.1 then
    let r3 := takeF r2.2 5
    (r3.2, if r3.1 > 0 then s.2 ++ [(r1.1, r2.1)] else s.2)
  else (r2.2, s.2)
theorem nearF_here {b : Box} {x far : Int} (h : 0 ≤ b.here) : 0 ≤ (nearF b x far).2.here := takeF_here _ _ h
section
variable {X : Cx} {ca : CA} {B : Base} {ds ds1 ds2 : List Sl} {e e2 : Expr} {pos p p1 : Pos} {b b0 : Box} {x far : Int} {k : Nat}
/-- _law_number_near(box, e, e2), the box in slot 0 -/
theorem ev_near (G : CallI X.prog X.w X.K X.mg X.base ca 2 "_law_number_near" 3 (some 0) R_near1) (hr : Room k X.A) (he : EV X ca B e ds (.int x) ds) (he' : EV X ca B e2 ds (.int far) ds) (h0 : 0 ≤ b.here) (hl : 0 ≤ far ∧ far < 500000000) (hk : 2 ≤ k := by decide) (hb : ds[0]? = some (.v (boxOD b)) := by rfl) (hs : ds.set 0 (.v (boxOD (nearF b x far).2)) = ds2 := by rfl)
    (hN : X.N[0]? = some ("box" : Str) := by rfl) (hv : Vis X.env.scope ("box" : Str) := by first | exact Or.inl rfl | exact Or.inr (Or.inl rfl) | exact Or.inr (Or.inr rfl)) (hg : Gl X "_law_number_near" := by rfl)
    (he1 : starEach [Expr.Name "box" p1, e, e2] X.env = (false, eval (Expr.Name "box" p1) X.env) :: starEach [e, e2] X.env := by rfl) (he2 : starEach [e, e2] X.env = (false, eval e X.env) :: starEach [e2] X.env := by rfl) (he3 : starEach [e2] X.env = (false, eval e2 X.env) :: starEach [] X.env := by rfl) (hpl : (backTo pos (starEach [e, e2] X.env)).any (·.1) = false := by rfl) :
    EV X ca B (.Call (.Name "_law_number_near" p) [.Name "box" p1, e, e2] [] pos) ds (.int (nearF b x far).1) ds2 :=
  ev_fn 0 G hr (ea_cons (ev_al 0 hb hN hv) (ea_cons he (ea1 he' he3) he2) he1) (.own hb (.dat (.dat .nil))) ⟨b, x, far, rfl, h0, hl.1, hl.2, rfl⟩ hk rfl hs hg (by decide) he1 hpl
end
end K74
/-! K74z: _law_bent_pairs. -/
namespace K74
open PySem PySem.Spec PyProof.Rows L2 DL
def addS (far : Int) (s : Box × List (Int × Int)) : Box × List (Int × Int) :=
  let r := takeF s.1 12
  let r2 := takeF r.2 (1 + 2 * far)
  (r2.2, s.2 ++ [(r.1 - 4, r.1 - 4 + 1 + r2.1)])
def endB (s : Box × List (Int × Int)) : Box := if s.2 = [] then s.1 else if s.2.length < 5 then (takeF s.1 3).2 else s.1
def endK (s : Box × List (Int × Int)) : Bool := decide (s.2 = []) || (decide ((s.2.length : Int) < 5) && decide ((takeF s.1 3).1 = 0))
def endS (far : Int) (s : Box × List (Int × Int)) : Box × List (Int × Int) := if endK s = true then addS far (endB s, s.2) else (endB s, s.2)
def bentF (b : Box) (row : List (Int × Int)) (far : Int) : Box × List (Int × Int) := endS far (row.foldl (bentS far) (b, []))
def bentR (b : Box) (row : List (Int × Int)) (far : Int) : Box × List D × List D := mixF (bentF b row far).1 ((bentF b row far).2.map encP)
def R_bent : List OD → Res → Prop := fun ods res => ∃ (b : Box) (row : List (Int × Int)) (far : Int), ods = [boxOD b, .dat (.lst (row.map encP)), .dat (.int far)] ∧ 0 ≤ b.here ∧ 0 ≤ far ∧ far < 500000000 ∧ row.length < 100000 ∧ res = .ok (.dat (.lst (bentR b row far).2.2)) (boxOD (bentR b row far).1)
theorem bentS_here {far : Int} {s : Box × List (Int × Int)} {p : Int × Int} (h : 0 ≤ s.1.here) : 0 ≤ (bentS far s p).1.here := by
  unfold bentS
  dsimp only
  split
  · exact takeF_here _ _ (nearF_here (x := p.2) (far := far) (nearF_here (x := p.1) (far := far) h))
  · exact nearF_here (x := p.2) (far := far) (nearF_here (x := p.1) (far := far) h)
theorem bentS_len {far : Int} {s : Box × List (Int × Int)} {p : Int × Int} : (bentS far s p).2.length ≤ s.2.length + 1 := by
  unfold bentS
  dsimp only
  split
  · show (if _ then _ else _ : List (Int × Int)).length ≤ _
    split
    · simp
    · omega
  · show s.2.length ≤ _
    omega
theorem bent_inv {far : Int} : ∀ (row : List (Int × Int)) (s : Box × List (Int × Int)), 0 ≤ s.1.here → 0 ≤ (row.foldl (bentS far) s).1.here ∧ (row.foldl (bentS far) s).2.length ≤ s.2.length + row.length
  | [], s, h => ⟨h, by simp⟩
  | p :: row, s, h => by
    have ih := bent_inv (far := far) row (bentS far s p) (bentS_here h)
    have := bentS_len (far := far) (s := s) (p := p)
    exact ⟨ih.1, by rw [List.foldl_cons, List.length_cons]; omega⟩
theorem endB_here {s : Box × List (Int × Int)} (h : 0 ≤ s.1.here) : 0 ≤ (endB s).here := by
  unfold endB
  split
  · exact h
  · split
    · exact takeF_here _ _ h
    · exact h
section
variable {P : Program} {w : World} {K : PySem.W.Frag} {mg : Str → Option Value} {base : Heap} {ca : CA}
theorem ok_bent (T : Txt w K mg ca) (h0 : Has K mg "_law_take" (top 39)) (h1 : Has K mg "_law_number_near" (top 45)) (h2 : Has K mg "_law_mixed" (top 41)) (h : Has K mg "_law_bent_pairs" (top 46)) : CallI P w K mg base ca 3 "_law_bent_pairs" 3 (some 0) R_bent := by
  have nd : (["box", "row", "far", "found", "a", "b", "one", "two"] : List Str).Nodup := by decide +kernel
  refine callI (N := ["box", "row", "far", "found", "a", "b", "one", "two"]) (ps := ["box", "row", "far"]) h (fun kV doc pm an cdv ct us hl => by match us, hl with | [_, _, _], _ => rfl) ⟨rfl, rfl, rfl, nd, rfl, by decide +kernel, by decide +kernel⟩ fun X B ods res ⟨f, cdv, A, outer, s', H, E, hX⟩ hr hpr hR hl => ?_
  have hu : X.A.units + 64 < cLine := by have := hr.un; omega
  subst hX
  obtain ⟨b, row, far, rfl, hb, hf1, hf2, hlen, rfl⟩ := hR
  have pr : ∀ i, B.pr (i + 1) = false := fun i => by rw [hpr]; rfl
  refine bp_next (b1_set (od := OD.l []) 3 (ev_lst (xs := []) ea_nil) nd (hp := pr _)) ?_
  refine bp_for (passes_of rfl) rfl (iv_list (ev_var 1)) ?_
  refine (lpp_loop (σ := Box × List (Int × Int)) (ρ := Unit) (fun s => [.v (boxOD s.1), .d (.lst (row.map encP)), .d (.int far), .v (OD.l (s.2.map encP)), .no, .no, .no, .no]) encP (fun s p => .nx (bentS far s p)) (fun s as => 0 ≤ s.1.here ∧ s.2.length + as.length ≤ row.length) (fun _ _ => False) (fun s p as hI => ?_) row (b, []) ⟨hb, by simp⟩).imp ?_
  · obtain ⟨bb, fo⟩ := s
    obtain ⟨i1, i2⟩ := hI
    have i1 : 0 ≤ bb.here := i1
    have i2 : fo.length + (as.length + 1) ≤ row.length := by simpa using i2
    refine ⟨_, _, tg_tup rfl (tgs_cons (tg_name 4 nd (hp := pr _)) (tgs_cons (tg_name 5 nd (hp := pr _)) tgs_nil)) rfl, ?_, fun s' e => ?_⟩
    · refine bp_next (b1_par2 (od1 := .dat (.int (nearF bb p.1 far).1)) (od2 := .dat (.int (nearF (nearF bb p.1 far).2 p.2 far).1)) 6 7 rfl nd (ea_cons (ev_near (ok_number_near T h0 h1) hr (ev_var 4) (ev_var 2) i1 ⟨hf1, hf2⟩) (ea1 (ev_near (ok_number_near T h0 h1) hr (ev_var 5) (ev_var 2) (nearF_here i1) ⟨hf1, hf2⟩))) (hpi := pr _) (hpj := pr _)) ?_
      generalize hb1 : nearF bb p.1 far = r1
      generalize hb2 : nearF r1.2 p.2 far = r2
      have j2 : 0 ≤ r2.2.here := by rw [← hb2]; exact nearF_here (by rw [← hb1]; exact nearF_here i1)
      have ebs : bentS far (bb, fo) p = if r1.1 < r2.1 then ((takeF r2.2 5).2, if (takeF r2.2 5).1 > 0 then fo ++ [(r1.1, r2.1)] else fo) else (r2.2, fo) := by
        unfold bentS
        simp only [hb1, hb2]
      rw [ebs]
      refine bp_if (ds1 := [.v (boxOD (if r1.1 < r2.1 then (takeF r2.2 5).2 else r2.2)), .d (.lst (row.map encP)), .d (.int far), .v (OD.l (fo.map encP)), .d (.int p.1), .d (.int p.2), .d (.int r1.1), .d (.int r2.1)]) (EW.pt (ew_and (b1 := decide (r1.1 < r2.1)) (b2 := decide ((takeF r2.2 5).1 > 0)) (et_cmp op_lt (ev_var 6) (ev_var 7) ro_cmpI) (fun hk => ew_and1 (et_cmp op_gt (EV.cast (ev_take (ok_take T h0) hr ev_int j2 ⟨by decide, by decide⟩) rfl (by rw [if_pos (of_decide_eq_true hk)]; rfl)) ev_int ro_cmpI)) fun hk => by rw [if_neg (of_decide_eq_false hk)]; rfl)) (fun hk => ?_) fun hk => ?_
      · rw [Bool.and_eq_true, decide_eq_true_eq, decide_eq_true_eq] at hk
        rw [if_pos hk.1, if_pos hk.1, if_pos hk.2]
        refine bp_next (b1_expr (EV.append (xs := fo.map encP) 3 (ev_tupD (ead2 (ev_var 6) (ev_var 7))) rfl (by rw [List.length_map]; omega))) ?_
        refine bp_nil (bp_nil (bp_end (turned_nx ?_)))
        rw [List.map_append]
        exact .keep (.keep (.keep (.keep (.drop (.drop (.drop (.drop .nil)))))))
      · refine bp_nil (bp_nil (bp_end ?_))
        by_cases c : r1.1 < r2.1
        · rw [if_pos c, if_pos c]
          have c2 : ¬ (takeF r2.2 5).1 > 0 := fun z => by rw [decide_eq_true c, decide_eq_true z] at hk; cases hk
          rw [if_neg c2]
          exact turned_nx (.keep (.keep (.keep (.keep (.drop (.drop (.drop (.drop .nil))))))))
        · rw [if_neg c, if_neg c]
          exact turned_nx (.keep (.keep (.keep (.keep (.drop (.drop (.drop (.drop .nil))))))))
    · cases e
      have := bentS_len (far := far) (s := (bb, fo)) (p := p)
      have : (bentS far (bb, fo) p).2.length ≤ fo.length + 1 := this
      exact ⟨bentS_here i1, by omega⟩
  · intro o ho
    rw [loopF_nx] at ho
    subst ho
    obtain ⟨k1, k2⟩ := bent_inv (far := far) row (b, []) hb
    unfold bentR bentF
    generalize row.foldl (bentS far) (b, []) = s at k1 k2
    have k2 : s.2.length ≤ row.length := by simpa using k2
    have kb := endB_here k1
    refine bp_join (k := endK s) (ds1 := [.v (boxOD (endB s)), .d (.lst (row.map encP)), .d (.int far), .v (OD.l (s.2.map encP)), .no, .no, .no, .no]) (ds2 := [.v (boxOD (endS far s).1), .d (.lst (row.map encP)), .d (.int far), .v (OD.l ((endS far s).2.map encP)), .no, .no, .no, .no]) ?_ (fun hk => ?_) (fun hk => ?_) ?_
    · refine EW.pt (ew_or (b1 := decide (s.2 = [])) (b2 := decide ((s.2.length : Int) < 5) && decide ((takeF s.1 3).1 = 0)) (ET.cast (et_cmp (op_eqD hu) (ev_al 3) (ev_lst (xs := []) ea_nil) (ro_eqD (.al rfl (.own _)) (.own []) (shD_pairs _) rfl)) (eqD_nil _) rfl) (fun hk => ew_or1 (EW.pt (ew_and (ET.cast (et_cmp op_lt (EV.len (xs := s.2.map encP) (ev_al 3) (.al rfl (.own _)) T.fLen) ev_int ro_cmpI) (by rw [List.length_map]) rfl) (fun hk2 => ew_and1 (et_cmp op_eq (EV.cast (ev_take (ok_take T h0) hr ev_int k1 ⟨by decide, by decide⟩) rfl ?_) ev_int ro_eqI)) fun hk2 => ?_))) fun hk => ?_)
      · unfold endB
        rw [if_neg (of_decide_eq_false hk), if_pos (by have := of_decide_eq_true hk2; omega)]
        rfl
      · unfold endB
        rw [if_neg (of_decide_eq_false hk), if_neg (by have := of_decide_eq_false hk2; omega)]
      · unfold endB
        rw [if_pos (of_decide_eq_true hk)]
    · unfold endS
      rw [if_pos hk]
      refine bp_next (b1_set 6 (EV.sub (ev_take (ok_take T h0) hr ev_int kb ⟨by decide, by decide⟩) ev_int) nd (hp := pr _)) ?_
      refine bp_next (b1_expr (EV.append (xs := s.2.map encP) 3 (ev_tupD (ead2 (ev_var 6) (EV.add (EV.add (ev_var 6) ev_int) (ev_take (ok_take T h0) hr (EV.add ev_int (EV.mul ev_int (ev_var 2) (.inl (by decide)))) (takeF_here _ _ kb) ⟨by omega, by omega⟩)))) rfl (by rw [List.length_map]; omega))) ?_
      refine bp_nil (bp_end ⟨_, rfl, ?_⟩)
      unfold addS
      rw [List.map_append]
      exact .keep (.keep (.keep (.keep (.keep (.keep (.drop (.keep .nil)))))))
    · unfold endS
      rw [if_neg (by rw [hk]; decide)]
      exact bp_nil (bp_end ⟨_, rfl, Wk.refl _⟩)
    · have e1 : 0 ≤ (endS far s).1.here ∧ (endS far s).2.length ≤ s.2.length + 1 := by
        unfold endS
        split
        · exact ⟨takeF_here _ _ (takeF_here _ _ kb), by simp [addS]⟩
        · exact ⟨kb, by simp⟩
      refine bp_ret (ev_fn 0 (ok_mixed T h0 h2) hr (ea_cons (ev_al 0) (ea1 (ev_frz 3 rfl (frz_l _) (hp := pr _)))) (.own rfl (.dat .nil)) ⟨(endS far s).1, (endS far s).2.map encP, rfl, e1.1, by rw [List.length_map]; omega, rfl⟩) ⟨rfl, fun i h => by cases h; rfl⟩
end
end K74
/-! K74za: the drawn order, typed; _law_moved_lives. -/
namespace K74
open PySem PySem.Spec PyProof.Rows L2 DL
def mixSα {α : Type} (d : α) (s : Box × List α × List α) : Box × List α × List α :=
  let r := takeF s.1 s.2.1.length
  (r.2, s.2.1.eraseIdx r.1.toNat, s.2.2 ++ [s.2.1.getD r.1.toNat d])
def mixα {α : Type} (d : α) (b : Box) (xs : List α) : Box × List α × List α := (List.range xs.length).foldl (fun s _ => mixSα d s) (b, xs, [])
def mixG {α : Type} (g : α → D) (s : Box × List α × List α) : Box × List D × List D := (s.1, s.2.1.map g, s.2.2.map g)
theorem eraseIdx_map {α β : Type} (g : α → β) : ∀ (xs : List α) (i : Nat), (xs.map g).eraseIdx i = (xs.eraseIdx i).map g
  | [], i => by simp
  | x :: xs, 0 => by simp
  | x :: xs, i + 1 => by simp [eraseIdx_map g xs i]
theorem mixS_map {α : Type} (g : α → D) (d : α) (s : Box × List α × List α) (h : 0 < s.2.1.length) : mixS (mixG g s) = mixG g (mixSα d s) ∧ (mixSα d s).2.1.length = s.2.1.length - 1 := by
  obtain ⟨b, left, found⟩ := s
  have h : 0 < left.length := h
  have ht := takeF_lt b (l := left.length) (by omega)
  have hlt : (takeF b left.length).1.toNat < left.length := by omega
  unfold mixS mixSα mixG
  dsimp only
  rw [List.length_map]
  refine ⟨?_, ?_⟩
  · rw [eraseIdx_map, List.map_append]
    have e1 : (left.map g).getD (takeF b left.length).1.toNat .non = g (left.getD (takeF b left.length).1.toNat d) := by
      rw [List.getD_eq_getElem?_getD, List.getD_eq_getElem?_getD, List.getElem?_map, List.getElem?_eq_getElem hlt]
      rfl
    rw [e1]
    rfl
  · rw [List.length_eraseIdx_of_lt hlt]
theorem mix_go {α β : Type} (g : α → D) (d : α) : ∀ (ks : List β) (s : Box × List α × List α), ks.length ≤ s.2.1.length → ks.foldl (fun s _ => mixS s) (mixG g s) = mixG g (ks.foldl (fun s _ => mixSα d s) s)
  | [], s, _ => rfl
  | k :: ks, s, h => by
    rw [List.length_cons] at h
    obtain ⟨h1, h2⟩ := mixS_map g d s (by omega)
    rw [List.foldl_cons, List.foldl_cons, h1]
    exact mix_go g d ks _ (by omega)
theorem mixF_map {α : Type} (g : α → D) (d : α) (b : Box) (xs : List α) : mixF b (xs.map g) = mixG g (mixα d b xs) := by
  unfold mixF mixα
  rw [List.length_map]
  exact mix_go g d (List.range xs.length) (b, xs, []) (by simp)
theorem mixS_here {α : Type} {d : α} {s : Box × List α × List α} (h : 0 ≤ s.1.here) : 0 ≤ (mixSα d s).1.here := takeF_here _ _ h
theorem mixα_here {α β : Type} {d : α} : ∀ (ks : List β) (s : Box × List α × List α), 0 ≤ s.1.here → 0 ≤ (ks.foldl (fun s _ => mixSα d s) s).1.here
  | [], s, h => h
  | k :: ks, s, h => mixα_here ks _ (mixS_here h)
/-- the bent pairs and the box -/
def bentP (b : Box) (row : List (Int × Int)) (far : Int) : Box × List (Int × Int) :=
  let m := mixα (0, 0) (bentF b row far).1 (bentF b row far).2
  (m.1, m.2.2)
theorem bentR_P (b : Box) (row : List (Int × Int)) (far : Int) : (bentR b row far).1 = (bentP b row far).1 ∧ (bentR b row far).2.2 = (bentP b row far).2.map encP := by
  unfold bentR
  rw [mixF_map encP (0, 0)]
  exact ⟨rfl, rfl⟩
theorem bentF_here {b : Box} {row : List (Int × Int)} {far : Int} (h : 0 ≤ b.here) : 0 ≤ (bentF b row far).1.here := by
  have k := (bent_inv (far := far) row (b, []) h).1
  unfold bentF endS
  split
  · exact takeF_here _ _ (takeF_here _ _ (endB_here k))
  · exact endB_here k
theorem bentP_here {b : Box} {row : List (Int × Int)} {far : Int} (h : 0 ≤ b.here) : 0 ≤ (bentP b row far).1.here := mixα_here _ _ (bentF_here h)
def nearS (far : Int) (b : Box) (x : Int) : Option Int × Box := (some (nearF b x far).1, (nearF b x far).2)
/-- five lives near the five -/
def movedF (b : Box) (v : Five) (far : Int) : List D × Box :=
  let r1 := bentP b v.hol far
  let r2 := bentP r1.1 v.sum far
  let r3 := takeF r2.1 2
  let r4 := fmS (nearS (far * r3.1)) v.loo r3.2
  let r5 := fmS (nearS (far * r3.1)) [v.low, v.high] r4.2
  ([D.lst (r1.2.map encP), .lst (r2.2.map encP)] ++ [.lst (r4.1.map .int)] ++ r5.1.map .int, r5.2)
theorem fm_here {far : Int} : ∀ (xs : List Int) (b : Box), 0 ≤ b.here → 0 ≤ (fmS (nearS far) xs b).2.here
  | [], b, h => h
  | x :: xs, b, h => by
    show 0 ≤ (fmS (nearS far) xs (nearF b x far).2).2.here
    exact fm_here xs _ (nearF_here h)
theorem fm_len {far : Int} : ∀ (xs : List Int) (b : Box), (fmS (nearS far) xs b).1.length = xs.length
  | [], b => rfl
  | x :: xs, b => by
    show (fmS (nearS far) xs (nearF b x far).2).1.length + 1 = _
    rw [fm_len xs, List.length_cons]
end K74
/-! K74zb: _law_moved_lives. -/
namespace K74
open PySem PySem.Spec PyProof.Rows L2 DL
def R_moved : List OD → Res → Prop := fun ods res => ∃ (b : Box) (v : Five) (far : Int), ods = [boxOD b, .dat (enc5 v), .dat (.int far)] ∧ 0 ≤ b.here ∧ 0 ≤ far ∧ far < 1000 ∧ v.hol.length < 100000 ∧ v.sum.length < 100000 ∧ v.loo.length < 100000 ∧ res = .ok (.dat (.lst (movedF b v far).1)) (boxOD (movedF b v far).2)
section
variable {P : Program} {w : World} {K : PySem.W.Frag} {mg : Str → Option Value} {base : Heap} {ca : CA}
theorem ok_moved (T : Txt w K mg ca) (h0 : Has K mg "_law_take" (top 39)) (h1 : Has K mg "_law_number_near" (top 45)) (h2 : Has K mg "_law_mixed" (top 41)) (h3 : Has K mg "_law_bent_pairs" (top 46)) (h : Has K mg "_law_moved_lives" (top 48)) : CallI P w K mg base ca 4 "_law_moved_lives" 3 (some 0) R_moved := by
  have nd : (["box", "five", "far", "found", "x"] : List Str).Nodup := by decide +kernel
  refine callI (N := ["box", "five", "far", "found", "x"]) (ps := ["box", "five", "far"]) h (fun kV doc pm an cdv ct us hl => by match us, hl with | [_, _, _], _ => rfl) ⟨rfl, rfl, rfl, nd, rfl, by decide +kernel, by decide +kernel⟩ fun X B ods res ⟨f, cdv, A, outer, s', H, E, hX⟩ hr hpr hR hl => ?_
  subst hX
  obtain ⟨b, v, far, rfl, hb, hf1, hf2, z1, z2, z3, rfl⟩ := hR
  have pr : ∀ i, B.pr (i + 1) = false := fun i => by rw [hpr]; rfl
  have pr2 : ∀ i ∈ ([("x", 4)] : List (Str × Nat)).map (·.2), B.pr i = false := fun i hi => by
    simp at hi
    subst hi
    exact pr _
  obtain ⟨e1, e2⟩ := bentR_P b v.hol far
  obtain ⟨e3, e4⟩ := bentR_P (bentP b v.hol far).1 v.sum far
  unfold movedF
  dsimp only
  have k1 : 0 ≤ (bentP b v.hol far).1.here := bentP_here hb
  generalize hq1 : bentP b v.hol far = r1 at *
  have k2 : 0 ≤ (bentP r1.1 v.sum far).1.here := bentP_here k1
  generalize hq2 : bentP r1.1 v.sum far = r2 at *
  refine bp_next (b1_set (od := OD.l [.lst (r1.2.map encP), .lst (r2.2.map encP)]) (ds1 := [.v (boxOD r2.1), .d (enc5 v), .d (.int far), .no, .no]) 3 (ev_lstE (ead2 (ev_fn 0 (ok_bent T h0 h1 h2 h3) hr (ea_cons (ev_al 0) (ea_cons (EV.ix (xs := [.lst (v.hol.map encP), .lst (v.sum.map encP), .lst (v.loo.map .int), .int v.low, .int v.high]) (ev_var 1) ev_int (.lst _) rfl) (ea1 (ev_var 2)))) (.own rfl (.dat (.dat .nil))) ⟨b, v.hol, far, rfl, hb, hf1, by omega, z1, by rw [e1, e2]⟩) (ev_fn 0 (ok_bent T h0 h1 h2 h3) hr (ea_cons (ev_al 0) (ea_cons (EV.ix (xs := [.lst (v.hol.map encP), .lst (v.sum.map encP), .lst (v.loo.map .int), .int v.low, .int v.high]) (ev_var 1) ev_int (.lst _) rfl) (ea1 (ev_var 2)))) (.own rfl (.dat (.dat .nil))) ⟨r1.1, v.sum, far, rfl, k1, hf1, by omega, z2, by rw [e3, e4]⟩))) nd (hp := pr _)) ?_
  have ht := takeF_lt r2.1 (l := 2) (by decide)
  refine bp_next (b1_set 2 (EV.mul (ev_var 2) (ev_take (ok_take T h0) hr ev_int k2 ⟨by decide, by decide⟩) (.inl (by omega))) nd (hp := pr _)) ?_
  have k3 : 0 ≤ (takeF r2.1 2).2.here := takeF_here _ _ k2
  generalize takeF r2.1 2 = r3 at *
  have hfar : 0 ≤ far * r3.1 ∧ far * r3.1 < 500000000 := by
    have : r3.1 = 0 ∨ r3.1 = 1 := by omega
    rcases this with e | e <;> rw [e] <;> omega
  generalize far * r3.1 = far2 at *
  let fo : List D := [.lst (r1.2.map encP), .lst (r2.2.map encP)]
  let enc : Box → List Sl := fun b => [.v (boxOD b), .d (enc5 v), .d (.int far2), .v (OD.l fo), .no]
  have bare1 : ∀ b : Box, bare (enc b) (([("x", 4)] : List (Str × Nat)).map (·.2)) := fun b i hi od => by
    simp at hi
    subst hi
    exact fun z => by cases z
  have k4 : 0 ≤ (fmS (nearS far2) v.loo r3.2).2.here := fm_here _ _ k3
  have z4 := fm_len (far := far2) v.loo r3.2
  have z5 := fm_len (far := far2) [v.low, v.high] (fmS (nearS far2) v.loo r3.2).2
  refine bp_ret (EV.frz (EV.cat (xs := fo ++ [.lst ((fmS (nearS far2) v.loo r3.2).1.map .int)]) (ys := (fmS (nearS far2) [v.low, v.high] (fmS (nearS far2) v.loo r3.2).2).1.map .int) (EV.cat (xs := fo) (ys := [.lst ((fmS (nearS far2) v.loo r3.2).1.map .int)]) (ev_al 3) (ev_lstE (ead_cons (EV.frz (ev_lc (own := [("x", 4)]) rfl nd (iv_list (EV.ix (xs := [.lst (v.hol.map encP), .lst (v.sum.map encP), .lst (v.loo.map .int), .int v.low, .int v.high]) (ev_var 1) ev_int (.lst _) rfl)) (blkOk_by (by rfl)) (bare1 r3.2) pr2
    (lc_st enc D.int D.int (nearS far2) (fun b _ => 0 ≤ b.here) (fun b x as hI => ⟨⟨(enc b).set 4 (.d (.int x)), true, (enc b).set 4 (.d (.int x)), [4], fun X' hX' => by
      obtain ⟨_, _, _, _, _, rfl⟩ := hX'
      exact tg_name 4 nd (hl := (by decide : 4 < 5)) (hp := pr _), fun i hi => hi, fun X' _ => ets_nil, .inr ⟨rfl, (nearF b x far2).1, (nearF b x far2).2, (enc (nearF b x far2).2).set 4 (.d (.int x)), rfl, fun X' hX' => by
      obtain ⟨_, _, _, _, _, rfl⟩ := hX'
      exact ev_near (ok_number_near T h0 h1) hr (ev_var 4) (ev_var 2) hI hfar, rfl⟩⟩, nearF_here (x := x) (far := far2) hI⟩) v.loo r3.2 k3) (by rw [List.length_map, z4]; omega)) (frz_l _)) ead_nil)) (.al rfl (.own _)) (.own _) (by simp [fo]))
    (ev_lc (own := [("x", 4)]) rfl nd (iv_list (EV.frz (EV.sl (xs := [.lst (v.hol.map encP), .lst (v.sum.map encP), .lst (v.loo.map .int), .int v.low, .int v.high]) (i := some 3) (j := none) (ev_var 1) (eo_some ev_int) eo_none (.lst _)) (frz_l _))) (blkOk_by (by rfl)) (bare1 (fmS (nearS far2) v.loo r3.2).2) pr2
    (lc_st enc D.int D.int (nearS far2) (fun b _ => 0 ≤ b.here) (fun b x as hI => ⟨⟨(enc b).set 4 (.d (.int x)), true, (enc b).set 4 (.d (.int x)), [4], fun X' hX' => by
      obtain ⟨_, _, _, _, _, rfl⟩ := hX'
      exact tg_name 4 nd (hl := (by decide : 4 < 5)) (hp := pr _), fun i hi => hi, fun X' _ => ets_nil, .inr ⟨rfl, (nearF b x far2).1, (nearF b x far2).2, (enc (nearF b x far2).2).set 4 (.d (.int x)), rfl, fun X' hX' => by
      obtain ⟨_, _, _, _, _, rfl⟩ := hX'
      exact ev_near (ok_number_near T h0 h1) hr (ev_var 4) (ev_var 2) hI hfar, rfl⟩⟩, nearF_here (x := x) (far := far2) hI⟩) [v.low, v.high] (fmS (nearS far2) v.loo r3.2).2 k4) (by rw [List.length_map, z5]; show 2 < 16777216; decide)) (.own _) (.own _) (by rw [List.length_map, z5]; simp [fo])) (frz_l _)) ⟨rfl, fun i h => by cases h; rfl⟩
end
end K74
/-! K74zc: _law_put. -/
namespace K74
open PySem PySem.Spec PyProof.Rows L2 DL
def putF (b : Box) (xs : List D) (x : D) : List D := DL.cutD xs none (some (takeF b (1 + xs.length)).1) ++ [x] ++ DL.cutD xs (some (takeF b (1 + xs.length)).1) none
def R_put2 : List OD → Res → Prop := fun ods res => ∃ (b : Box) (xs : List D) (x : D), ods = [boxOD b, .dat (.lst xs), .dat x] ∧ 0 ≤ b.here ∧ xs.length < 100000 ∧ res = .ok (.dat (.lst (putF b xs x))) (boxOD (takeF b (1 + xs.length)).2)
theorem cutD_len {xs : List D} {i j : Option Int} : (DL.cutD xs i j).length ≤ xs.length := by
  unfold DL.cutD
  rw [List.length_take, List.length_drop]
  omega
section
variable {P : Program} {w : World} {K : PySem.W.Frag} {mg : Str → Option Value} {base : Heap} {ca : CA}
theorem ok_put (T : Txt w K mg ca) (h0 : Has K mg "_law_take" (top 39)) (h : Has K mg "_law_put" (top 44)) : CallI P w K mg base ca 2 "_law_put" 3 (some 0) R_put2 := by
  have nd : (["box", "row", "x", "k"] : List Str).Nodup := by decide +kernel
  refine callI (N := ["box", "row", "x", "k"]) (ps := ["box", "row", "x"]) h (fun kV doc pm an cdv ct us hl => by match us, hl with | [_, _, _], _ => rfl) ⟨rfl, rfl, rfl, nd, rfl, by decide +kernel, by decide +kernel⟩ fun X B ods res ⟨f, cdv, A, outer, s', H, E, hX⟩ hr hpr hR hl => ?_
  subst hX
  obtain ⟨b, xs, x, rfl, hb, hx, rfl⟩ := hR
  have pr : ∀ i, B.pr (i + 1) = false := fun i => by rw [hpr]; rfl
  have c1 := fun i j => cutD_len (xs := xs) (i := i) (j := j)
  refine bp_next (b1_set 3 (ev_take (ok_take T h0) hr (EV.add ev_int (EV.len (xs := xs) (ev_var 1) (.lst _) T.fLen)) hb ⟨by omega, by omega⟩) nd (hp := pr _)) ?_
  unfold putF
  generalize takeF b (1 + xs.length) = r
  refine bp_ret (EV.frz (EV.cat (xs := DL.cutD xs none (some r.1) ++ [x]) (ys := DL.cutD xs (some r.1) none) (EV.cat (xs := DL.cutD xs none (some r.1)) (ys := [x]) (EV.list (xs := DL.cutD xs none (some r.1)) (EV.sl (xs := xs) (j := some r.1) (ev_var 1) eo_none (eo_some (ev_var 3)) (.lst _)) (.own _) T.fList) (ev_lstE (ead_cons (ev_var 2) ead_nil)) (.own _) (.own _) ?_) (EV.list (xs := DL.cutD xs (some r.1) none) (EV.sl (xs := xs) (i := some r.1) (ev_var 1) (eo_some (ev_var 3)) eo_none (.lst _)) (.own _) T.fList) (.own _) (.own _) ?_) (frz_l _)) ⟨rfl, fun i h => by cases h; rfl⟩
  · have := c1 none (some r.1)
    show _ + 1 ≤ _
    omega
  · have := c1 none (some r.1)
    have := c1 (some r.1) none
    rw [List.length_append]
    show _ + 1 + _ ≤ _
    omega
end
end K74
/-! K74zd: _law_ends_near. -/
namespace K74
open PySem PySem.Spec PyProof.Rows L2 DL
def ends (v : Five) : List Int := v.loo ++ [v.low, v.high]
def endsNear (u v : Five) (n : Int) : Bool := ((ends u).zip (ends v)).all fun p => near p.1 p.2 n
theorem zip_ends (u v : Five) : zipD (u.loo.map D.int ++ [.int u.low, .int u.high]) (v.loo.map D.int ++ [.int v.low, .int v.high]) = ((ends u).zip (ends v)).map encP := by
  have e : ∀ u : Five, u.loo.map D.int ++ [.int u.low, .int u.high] = (ends u).map D.int := fun u => by unfold ends; rw [List.map_append]; rfl
  rw [e, e, zipD_map]
  rfl
section
variable {X : Cx} {ca : CA} {B : Base} {ds : List Sl} {a a2 : Expr} {pos pos2 p2 p3 p4 q1 q2 : Pos} {x : Str} {u : Five} {j j2 : Nat}
theorem EV.allB {X : Cx} {ca : CA} {B : Base} {ds ds1 : List Sl} {a : Expr} {pos p : Pos} (bs : List Bool) (hc : X.calm = true) (ha : EV X ca B a ds (.v (OD.l (bs.map .bl))) ds1) (hm : X.mg "all" = none) (hg : Gl X "all" := by rfl) (he : starEach [a] X.env = (false, eval a X.env) :: starEach [] X.env := by rfl) : EV X ca B (.Call (.Name "all" p) [a] [] pos) ds (.bl (bs.all id)) ds1 :=
  EV.all hc ha (.own _) hm hg he
theorem EV.anyB {X : Cx} {ca : CA} {B : Base} {ds ds1 : List Sl} {a : Expr} {pos p : Pos} (bs : List Bool) (hc : X.calm = true) (ha : EV X ca B a ds (.v (OD.l (bs.map .bl))) ds1) (hm : X.mg "any" = none) (hg : Gl X "any" := by rfl) (he : starEach [a] X.env = (false, eval a X.env) :: starEach [] X.env := by rfl) : EV X ca B (.Call (.Name "any" p) [a] [] pos) ds (.bl (bs.any id)) ds1 :=
  EV.any hc ha (.own _) hm hg he
/-- a[2] + a[3:] -/
theorem ev_ends (h : EV X ca B a ds (.d (enc5 u)) ds) (h2 : EV X ca B a2 ds (.d (enc5 u)) ds) (hz : u.loo.length < 1000) :
    EV X ca B (.BinOp (.Subscript a (.Constant (.int 2) j p2) pos2) .Add (.Subscript a2 (.Slice (some (.Constant (.int 3) j2 p3)) none none p4) q1) pos) ds (.v (OD.l (u.loo.map D.int ++ [.int u.low, .int u.high]))) ds :=
  EV.cat (xs := u.loo.map D.int) (ys := [.int u.low, .int u.high]) (EV.ix (xs := [.lst (u.hol.map encP), .lst (u.sum.map encP), .lst (u.loo.map .int), .int u.low, .int u.high]) h ev_int (.lst _) rfl) (EV.sl (xs := [.lst (u.hol.map encP), .lst (u.sum.map encP), .lst (u.loo.map .int), .int u.low, .int u.high]) (i := some 3) (j := none) h2 (eo_some ev_int) eo_none (.lst _)) (.dat _) (.own _) (by simp; omega)
end
def R_ends : List OD → Res → Prop := fun ods res => ∃ (u v : Five) (n : Int), ods = [.dat (enc5 u), .dat (enc5 v), .dat (.int n)] ∧ u.loo.length < 1000 ∧ v.loo.length < 1000 ∧ res = okN (.bl (endsNear u v n))
section
variable {P : Program} {w : World} {K : PySem.W.Frag} {mg : Str → Option Value} {base : Heap} {ca : CA}
theorem ok_ends (T : Txt w K mg ca) (h0 : Has K mg "_law_near" (top 51)) (h : Has K mg "_law_ends_near" (top 54)) : CallI P w K mg base ca 2 "_law_ends_near" 3 none R_ends := by
  have nd : (["a", "b", "halves", "x", "y"] : List Str).Nodup := by decide +kernel
  refine callI (N := ["a", "b", "halves", "x", "y"]) (ps := ["a", "b", "halves"]) h (fun kV doc pm an cdv ct us hl => by match us, hl with | [_, _, _], _ => rfl) ⟨rfl, rfl, rfl, nd, rfl, by decide +kernel, by decide +kernel⟩ fun X B ods res ⟨f, cdv, A, outer, s', H, E, hX⟩ hr hpr hR hl => ?_
  subst hX
  obtain ⟨u, v, n, rfl, z1, z2, rfl⟩ := hR
  have pr : ∀ i, B.pr i = false := fun i => by rw [hpr]; rfl
  have zl : ((ends u).zip (ends v)).length < 16777216 := by
    rw [List.length_zip]
    simp [ends]
    omega
  show BP _ ca B _ [.d (enc5 u), .d (enc5 v), .d (.int n), .no, .no] _
  generalize hbs : (((ends u).zip (ends v)).map fun p => near p.1 p.2 n) = bs
  have e : endsNear u v n = bs.all id := by
    rw [← hbs]
    unfold endsNear
    rw [List.all_map]
    rfl
  rw [e]
  refine bp_ret (od := .dat (.bl (bs.all id))) (ds1 := [.d (enc5 u), .d (enc5 v), .d (.int n), .no, .no]) (EV.allB bs rfl ?_ T.fAll) ⟨rfl, fun i h => (nomatch h)⟩
  subst hbs
  refine EV.cast (o := .v (OD.l (((ends u).zip (ends v)).map fun p => D.bl (near p.1 p.2 n)))) (ds1 := [.d (enc5 u), .d (enc5 v), .d (.int n), .no, .no]) (ev_lc (own := [("x", 3), ("y", 4)]) (ds1 := [.d (enc5 u), .d (enc5 v), .d (.int n), .no, .no]) (xs := ((ends u).zip (ends v)).map encP) rfl nd ?_ (blkOk_by (by rfl)) ?_ (fun i _ => pr i) ?_ (by rw [List.length_map]; exact zl)) (by rw [List.map_map]; rfl) rfl
  · rw [← zip_ends]
    refine iv_zip (ds1 := [.d (enc5 u), .d (enc5 v), .d (.int n), .no, .no]) ?_ ?_ T.fZip
    · refine EV.frz ?_ (frz_l _)
      exact ev_ends (u := u) (ev_var 0) (ev_var 0) z1
    · refine EV.frz ?_ (frz_l _)
      exact ev_ends (u := v) (ev_var 1) (ev_var 1) z2
  · exact fun i hi od => by simp at hi; rcases hi with rfl | rfl <;> exact fun z => by cases z
  · refine lc_all encP (fun p => .bl (near p.1 p.2 n)) ((ends u).zip (ends v)) fun p hp => ⟨[.d (enc5 u), .d (enc5 v), .d (.int n), .d (.int p.1), .d (.int p.2)], [3, 4], fun X' hX' => ?_, fun i hi => hi, fun X' hX' => ?_, rfl⟩
    · obtain ⟨_, _, _, _, _, rfl⟩ := hX'
      exact tg_tup rfl (tgs_cons (tg_name 3 nd (hp := pr _)) (tgs_cons (tg_name 4 nd (hp := pr _)) tgs_nil)) rfl
    · obtain ⟨_, _, _, _, _, rfl⟩ := hX'
      exact ev_fnD (xs := [.int p.1, .int p.2, .int n]) (ok_near T h0) hr (ead3 (ev_var 3) (ev_var 4) (ev_var 2)) ⟨p.1, p.2, n, rfl, rfl⟩
end
end K74
/-! K74ze: _law_box, _law_just. -/
namespace K74
open PySem PySem.Spec PyProof.Rows L2 DL
theorem cutD_map {α β : Type} (f : α → β) (xs : List α) (i j : Option Int) : DL.cutD (xs.map f) i j = (DL.cutD xs i j).map f := by
  unfold DL.cutD
  rw [List.length_map, List.map_take, List.map_drop]
def mixAll (m : Int) (c : Int) : Int := (m * 48271 + c % 1000003 * 911 + 59) % 2147483629
def boxF (ns : List Int) : Box := ⟨DL.cutD ns none (some 63), 0, (DL.cutD ns none (some 63)).foldl mixAll 16199, 0⟩
def R_box : List OD → Res → Prop := fun ods res => ∃ ns : List Int, ods = [.dat (.ro (ns.map .int))] ∧ ns.length ≤ 1000 ∧ res = .ok (boxOD (boxF ns)) (.dat .non)
def R_just : List OD → Res → Prop := fun ods res => ∃ d : D, ods = [.dat d, .dat d] ∧ rpD d = true ∧ shD d = true ∧ eqD d d = true ∧ res = okN (.bl true)
section
variable {P : Program} {w : World} {K : PySem.W.Frag} {mg : Str → Option Value} {base : Heap} {ca : CA}
theorem ok_box (T : Txt w K mg ca) (h : Has K mg "_law_box" (top 38)) : CallI P w K mg base ca 1 "_law_box" 1 none R_box := by
  have nd : (["script", "mixed", "cell"] : List Str).Nodup := by decide +kernel
  refine callI (N := ["script", "mixed", "cell"]) (ps := ["script"]) h (fun kV doc pm an cdv ct us hl => by match us, hl with | [_], _ => rfl) ⟨rfl, rfl, rfl, nd, rfl, by decide +kernel, by decide +kernel⟩ fun X B ods res ⟨f, cdv, A, outer, s', H, E, hX⟩ hr hpr hR hl => ?_
  subst hX
  obtain ⟨ns, rfl, hz, rfl⟩ := hR
  have pr : ∀ i, B.pr i = false := fun i => by rw [hpr]; rfl
  have zc : (DL.cutD ns none (some 63)).length < 16777216 := by
    unfold DL.cutD
    rw [List.length_take, List.length_drop]
    omega
  refine bp_next (b1_set 1 ev_int nd (hp := pr _)) ?_
  refine bp_for (xs := (DL.cutD ns none (some 63)).map D.int) (ds1 := [.d (.ro (ns.map .int)), .d (.int 16199), .no]) (passes_of rfl) rfl ?_ ?_
  · rw [← cutD_map]
    exact iv_list (EV.frz (EV.sl (xs := ns.map .int) (i := none) (j := some 63) (ev_var 0) eo_none (eo_some ev_int) (.ro _)) (frz_l _))
  refine (lpp_loop (σ := Int) (ρ := Unit) (fun m => [.d (.ro (ns.map .int)), .d (.int m), .no]) D.int (fun m c => .nx (mixAll m c)) (fun _ _ => True) (fun _ _ => False) (fun m c as hI => ?_) (DL.cutD ns none (some 63)) 16199 trivial).imp ?_
  · refine ⟨_, _, tg_name 2 nd (hp := pr _), ?_, fun _ _ => trivial⟩
    refine bp_next (b1_set 1 (EV.mod (EV.intI (EV.add (EV.add (EV.mul (ev_var 1) ev_int (.inr (by decide))) (EV.mul (EV.mod (EV.intI (ev_var 2) T.fInt) ev_int (by decide)) ev_int (.inr (by decide)))) ev_int) T.fInt) ev_int (by decide)) nd (hp := pr _)) ?_
    exact bp_nil (bp_end (turned_nx (.keep (.keep (.drop .nil)))))
  · intro o ho
    rw [loopF_nx] at ho
    subst ho
    refine bp_ret (od := boxOD (boxF ns)) (ds1 := [.d (.ro (ns.map .int)), .d (.int ((DL.cutD ns none (some 63)).foldl mixAll 16199)), .no]) (ev_lst (xs := [OD.l ((DL.cutD ns none (some 63)).map .int), .dat (.int 0), .dat (.int ((DL.cutD ns none (some 63)).foldl mixAll 16199)), .dat (.int 0)]) (ea_cons (ds1 := [.d (.ro (ns.map .int)), .d (.int ((DL.cutD ns none (some 63)).foldl mixAll 16199)), .no]) ?_ (ea_cons ev_int (ea_cons (ev_var 1) (ea1 ev_int))))) ⟨rfl, fun i h => (nomatch h)⟩
    refine ev_lc (own := [("cell", 2)]) (ds1 := [.d (.ro (ns.map .int)), .d (.int ((DL.cutD ns none (some 63)).foldl mixAll 16199)), .no]) (xs := (DL.cutD ns none (some 63)).map D.int) rfl nd ?_ (blkOk_by (by rfl)) ?_ (fun i _ => pr i) ?_ (by rw [List.length_map]; exact zc)
    · rw [← cutD_map]
      exact iv_list (EV.frz (EV.sl (xs := ns.map .int) (i := none) (j := some 63) (ev_var 0) eo_none (eo_some ev_int) (.ro _)) (frz_l _))
    · exact fun i hi od => by simp at hi; rcases hi with rfl; exact fun z => by cases z
    · refine lc_name 2 D.int D.int (DL.cutD ns none (some 63)) nd (fun c hc X' hX' => ?_) (hp := pr _)
      obtain ⟨_, _, _, _, _, rfl⟩ := hX'
      exact EV.intI (ev_var 2) T.fInt
theorem ok_just (T : Txt w K mg ca) (h : Has K mg "_law_just" (top 43)) : CallG P w K mg base ca 1 "_law_just" 2 none R_just := by
  have nd : (["told", "due"] : List Str).Nodup := by decide +kernel
  refine callG (N := ["told", "due"]) (ps := ["told", "due"]) h (fun kV doc pm an cdv ct us hl => by match us, hl with | [_, _], _ => rfl) ⟨rfl, rfl, rfl, nd, rfl, by decide +kernel, by decide +kernel⟩ fun X B ods res ⟨f, cdv, A, outer, s', H, E, hX⟩ hg hr hpr hR hl => ?_
  have hu : X.A.units + 70 < cLine := by have := hr.un; omega
  subst hX
  obtain ⟨d, rfl, h1, h2, h3, rfl⟩ := hR
  refine bp_ret (od := .dat (.bl (decide (reprD d = reprD d) && eqD d d))) (ds1 := [.d d, .d d]) (ev_and (ev_cmp op_eq (EV.repr hg hu (ev_var 0) (.dat _) h1 T.fRepr) (EV.repr hg hu (ev_var 1) (.dat _) h1 T.fRepr) ro_eqS) (fun _ => ev_one (ev_cmp (op_eqD (by omega)) (ev_var 0) (ev_var 1) (ro_eqD (.dat _) (.dat _) h2 h2))) fun _ => rfl) ⟨?_, fun i h => (nomatch h)⟩
  rw [h3]
  simp
end
end K74
/-! K74zf: _law_drawn_lives. -/
namespace K74
open PySem PySem.Spec PyProof.Rows L2 DL
def encR (r : List (Int × Int)) : D := .lst (r.map encP)
def atS (b : Box) (a : Int) : Box × Int := if (takeF b 2).1 = 0 then ((takeF (takeF b 2).2 12).2, (takeF (takeF b 2).2 12).1 - 4) else ((takeF b 2).2, a)
def dl1 (far : Int) (s : Box × Int × List (Int × Int)) : Box × Int × List (Int × Int) :=
  let u := atS s.1 s.2.1
  let r := nearF u.1 u.2 1
  let x := takeF r.2 3
  let y := takeF x.2 2
  (y.2, u.2, s.2.2 ++ [(r.1, if u.2 + x.1 + y.1 * far > r.1 + 1 then u.2 + x.1 + y.1 * far else r.1 + 1)])
def row1 (far : Int) (b : Box) : Box × List (Int × Int) :=
  let t := takeF b 12
  let m := takeF t.2 6
  let s := (List.range m.1.toNat).foldl (fun s _ => dl1 far s) (m.2, t.1 - 4, [])
  (s.1, s.2.2)
def rowS (far : Int) (s : Box × List (List (Int × Int))) : Box × List (List (Int × Int)) := ((row1 far s.1).1, s.2 ++ [(row1 far s.1).2])
def takeS (l : Int) (b : Box) (_ : Nat) : Option Int × Box := (some (takeF b l).1, (takeF b l).2)
def drawnF (b : Box) (far : Int) : Five × Box :=
  let r1 := row1 far b
  let r2 := row1 far r1.1
  let m := takeF r2.1 4
  let lo := fmS (takeS 9) (List.range m.1.toNat) m.2
  let x := takeF lo.2 9
  let y := takeF x.2 9
  (⟨r1.2, r2.2, lo.1, x.1 - 9, y.1 + 9⟩, y.2)
theorem atS_here {b : Box} {a : Int} (h : 0 ≤ b.here) : 0 ≤ (atS b a).1.here := by
  unfold atS
  split
  · exact takeF_here _ _ (takeF_here _ _ h)
  · exact takeF_here _ _ h
theorem dl1_here {far : Int} {s : Box × Int × List (Int × Int)} (h : 0 ≤ s.1.here) : 0 ≤ (dl1 far s).1.here := takeF_here _ _ (takeF_here _ _ (nearF_here (atS_here h)))
theorem dl1_len {far : Int} {s : Box × Int × List (Int × Int)} : (dl1 far s).2.2.length = s.2.2.length + 1 := by simp [dl1]
theorem dl1_inv {far : Int} {β : Type} : ∀ (as : List β) (s : Box × Int × List (Int × Int)), 0 ≤ s.1.here → (∀ p ∈ s.2.2, p.1 < p.2) → 0 ≤ (as.foldl (fun s _ => dl1 far s) s).1.here ∧ (as.foldl (fun s _ => dl1 far s) s).2.2.length = s.2.2.length + as.length ∧ ∀ p ∈ (as.foldl (fun s _ => dl1 far s) s).2.2, p.1 < p.2
  | [], s, h, hp => ⟨h, rfl, hp⟩
  | a :: as, s, h, hp => by
    have ih := dl1_inv (far := far) as (dl1 far s) (dl1_here h) (fun p hm => by
      unfold dl1 at hm
      rcases List.mem_append.mp hm with hm | hm
      · exact hp p hm
      · rw [List.mem_singleton.mp hm]
        dsimp only
        split <;> omega)
    rw [dl1_len] at ih
    refine ⟨ih.1, ?_, ih.2.2⟩
    rw [List.foldl_cons, ih.2.1, List.length_cons]
    omega
theorem row1_inv {far : Int} {b : Box} (h : 0 ≤ b.here) : 0 ≤ (row1 far b).1.here ∧ (row1 far b).2.length ≤ 5 ∧ ∀ p ∈ (row1 far b).2, p.1 < p.2 := by
  have ht := takeF_lt (takeF b 12).2 (l := 6) (by decide)
  have := dl1_inv (far := far) (List.range (takeF (takeF b 12).2 6).1.toNat) ((takeF (takeF b 12).2 6).2, (takeF b 12).1 - 4, []) (takeF_here _ _ (takeF_here _ _ h)) (fun p hp => by cases hp)
  refine ⟨this.1, ?_, this.2.2⟩
  have h2 := this.2.1
  unfold row1
  dsimp only
  rw [h2, List.length_range]
  show 0 + _ ≤ 5
  omega
theorem takeS_inv {l : Int} : ∀ (as : List Nat) (b : Box), 0 ≤ b.here → 0 ≤ (fmS (takeS l) as b).2.here ∧ (fmS (takeS l) as b).1.length = as.length
  | [], b, h => ⟨h, rfl⟩
  | a :: as, b, h => by
    have ih := takeS_inv (l := l) as (takeF b l).2 (takeF_here _ _ h)
    exact ⟨ih.1, by show (fmS (takeS l) as (takeF b l).2).1.length + 1 = _; rw [ih.2, List.length_cons]⟩
/-- what is known of drawn lives -/
structure Five.good (v : Five) : Prop where
  hol : ∀ p ∈ v.hol, p.1 < p.2
  sum : ∀ p ∈ v.sum, p.1 < p.2
  lh : v.hol.length ≤ 5
  ls : v.sum.length ≤ 5
  ll : v.loo.length ≤ 3
theorem drawnF_good {b : Box} {far : Int} (h : 0 ≤ b.here) : (drawnF b far).1.good ∧ 0 ≤ (drawnF b far).2.here := by
  have h1 := row1_inv (far := far) h
  have h2 := row1_inv (far := far) h1.1
  have ht := takeF_lt (row1 far (row1 far b).1).1 (l := 4) (by decide)
  have h3 := takeS_inv (l := 9) (List.range (takeF (row1 far (row1 far b).1).1 4).1.toNat) (takeF (row1 far (row1 far b).1).1 4).2 (takeF_here _ _ h2.1)
  refine ⟨⟨h1.2.2, h2.2.2, h1.2.1, h2.2.1, ?_⟩, takeF_here _ _ (takeF_here _ _ h3.1)⟩
  have h4 := h3.2
  unfold drawnF
  dsimp only
  rw [h4, List.length_range]
  omega
def R_drawn : List OD → Res → Prop := fun ods res => ∃ (b : Box) (far : Int), ods = [boxOD b, .dat (.int far)] ∧ 0 ≤ b.here ∧ 0 ≤ far ∧ far < 1000 ∧ res = .ok (.dat (enc5 (drawnF b far).1)) (boxOD (drawnF b far).2)
section
variable {P : Program} {w : World} {K : PySem.W.Frag} {mg : Str → Option Value} {base : Heap} {ca : CA}
theorem ok_drawn (T : Txt w K mg ca) (h0 : Has K mg "_law_take" (top 39)) (h1 : Has K mg "_law_number_near" (top 45)) (h : Has K mg "_law_drawn_lives" (top 47)) : CallI P w K mg base ca 3 "_law_drawn_lives" 2 (some 0) R_drawn := by
  have nd : (["box", "far", "found", "kind", "row", "at", "k", "one"] : List Str).Nodup := by decide +kernel
  refine callI (N := ["box", "far", "found", "kind", "row", "at", "k", "one"]) (ps := ["box", "far"]) h (fun kV doc pm an cdv ct us hl => by match us, hl with | [_, _], _ => rfl) ⟨rfl, rfl, rfl, nd, rfl, by decide +kernel, by decide +kernel⟩ fun X B ods res ⟨f, cdv, A, outer, s', H, E, hX⟩ hr hpr hR hl => ?_
  subst hX
  obtain ⟨b, far, rfl, hb, hf1, hf2, rfl⟩ := hR
  have pr : ∀ i, B.pr (i + 1) = false := fun i => by rw [hpr]; rfl
  refine bp_next (b1_set (od := OD.l []) 2 (ev_lst (xs := []) ea_nil) nd (hp := pr _)) ?_
  refine bp_for (passes_of rfl) rfl (iv_range1 ev_int T.fRange ⟨by decide, by decide⟩) ?_
  refine (lpp_loop (σ := Box × List (List (Int × Int))) (ρ := Unit) (fun s => [.v (boxOD s.1), .d (.int far), .v (OD.l (s.2.map encR)), .no, .no, .no, .no, .no]) (fun i : Nat => D.int (0 + (i : Nat))) (fun s _ => .nx (rowS far s)) (fun s as => 0 ≤ s.1.here ∧ s.2.length + as.length ≤ 2) (fun _ _ => False) (fun s a as hI => ?_) (List.range 2) (b, []) ⟨hb, by simp⟩).imp ?_
  · obtain ⟨bb, rows⟩ := s
    obtain ⟨i1, i2⟩ := hI
    have i1 : 0 ≤ bb.here := i1
    have i2 : rows.length + (as.length + 1) ≤ 2 := by simpa using i2
    refine ⟨_, _, tg_name 3 nd (hp := pr _), ?_, fun s' e => ?_⟩
    · refine bp_next (b1_par2 (od1 := OD.l []) (od2 := .dat (.int ((takeF bb 12).1 - 4))) 4 5 rfl nd (ea_cons (ev_lst (xs := []) ea_nil) (ea1 (EV.sub (ev_take (ok_take T h0) hr ev_int i1 ⟨by decide, by decide⟩) ev_int))) (hpi := pr _) (hpj := pr _)) ?_
      have k1 : 0 ≤ (takeF bb 12).2.here := takeF_here _ _ i1
      have er : rowS far (bb, rows) = ((row1 far bb).1, rows ++ [(row1 far bb).2]) := rfl
      rw [er]
      unfold row1
      dsimp only
      generalize takeF bb 12 = t at *
      have tm := takeF_lt t.2 (l := 6) (by decide)
      have k2 := takeF_here t.2 6 k1
      refine bp_for (passes_of rfl) rfl (iv_range1 (ev_take (ok_take T h0) hr ev_int k1 ⟨by decide, by decide⟩) T.fRange ⟨by omega, by omega⟩) ?_
      generalize takeF t.2 6 = m at *
      refine (lpp_loop (σ := Box × Int × List (Int × Int)) (ρ := Unit) (fun s => [.v (boxOD s.1), .d (.int far), .v (OD.l (rows.map encR)), .d (.int (0 + (a : Nat))), .v (OD.l (s.2.2.map encP)), .d (.int s.2.1), .no, .no]) (fun i : Nat => D.int (0 + (i : Nat))) (fun s _ => .nx (dl1 far s)) (fun s as => 0 ≤ s.1.here ∧ s.2.2.length + as.length ≤ 6) (fun _ _ => False) (fun s a' as' hI' => ?_) (List.range m.1.toNat) (m.2, t.1 - 4, []) ⟨k2, by simp; omega⟩).imp ?_
      · obtain ⟨b1, at1, row⟩ := s
        obtain ⟨j1, j2⟩ := hI'
        have j1 : 0 ≤ b1.here := j1
        have j2 : row.length + (as'.length + 1) ≤ 6 := by simpa using j2
        refine ⟨_, _, tg_name 6 nd (hp := pr _), ?_, fun s' e => ?_⟩
        · refine bp_join (k := decide ((takeF b1 2).1 = 0)) (ds2 := [.v (boxOD (atS b1 at1).1), .d (.int far), .v (OD.l (rows.map encR)), .d (.int (0 + (a : Nat))), .v (OD.l (row.map encP)), .d (.int (atS b1 at1).2), .d (.int (0 + (a' : Nat))), .no]) (et_cmp op_eq (ev_take (ok_take T h0) hr ev_int j1 ⟨by decide, by decide⟩) ev_int ro_eqI) (fun hk => ?_) (fun hk => ?_) ?_
          · unfold atS
            rw [if_pos (of_decide_eq_true hk)]
            exact bp_next (b1_set 5 (EV.sub (ev_take (ok_take T h0) hr ev_int (takeF_here _ _ j1) ⟨by decide, by decide⟩) ev_int) nd (hp := pr _)) (bp_nil (bp_end ⟨_, rfl, Wk.refl _⟩))
          · unfold atS
            rw [if_neg (of_decide_eq_false hk)]
            exact bp_nil (bp_end ⟨_, rfl, Wk.refl _⟩)
          have k3 := atS_here (a := at1) j1
          have e : (dl1 far (b1, at1, row)).2.2.map encP = row.map encP ++ [encP ((nearF (atS b1 at1).1 (atS b1 at1).2 1).1, if (atS b1 at1).2 + (takeF (nearF (atS b1 at1).1 (atS b1 at1).2 1).2 3).1 + (takeF (takeF (nearF (atS b1 at1).1 (atS b1 at1).2 1).2 3).2 2).1 * far > (nearF (atS b1 at1).1 (atS b1 at1).2 1).1 + 1 then (atS b1 at1).2 + (takeF (nearF (atS b1 at1).1 (atS b1 at1).2 1).2 3).1 + (takeF (takeF (nearF (atS b1 at1).1 (atS b1 at1).2 1).2 3).2 2).1 * far else (nearF (atS b1 at1).1 (atS b1 at1).2 1).1 + 1)] := by
            unfold dl1
            rw [List.map_append]
            rfl
          have e2 : (dl1 far (b1, at1, row)).1 = (takeF (takeF (nearF (atS b1 at1).1 (atS b1 at1).2 1).2 3).2 2).2 := rfl
          have e3 : (dl1 far (b1, at1, row)).2.1 = (atS b1 at1).2 := rfl
          generalize atS b1 at1 = u at *
          refine bp_next (b1_set 7 (ev_near (ok_number_near T h0 h1) hr (ev_var 5) ev_int k3 ⟨by decide, by decide⟩) nd (hp := pr _)) ?_
          have k4 : 0 ≤ (nearF u.1 u.2 1).2.here := nearF_here k3
          generalize nearF u.1 u.2 1 = r at *
          have k5 := takeF_here r.2 3 k4
          have ty := takeF_lt (takeF r.2 3).2 (l := 2) (by decide)
          refine bp_next (b1_expr (EV.append (xs := row.map encP) 4 (ev_tupD (ead2 (ev_var 7) (EV.max2 rfl (EV.add (ev_var 7) ev_int) (EV.add (EV.add (ev_var 5) (ev_take (ok_take T h0) hr ev_int k4 ⟨by decide, by decide⟩)) (EV.mul (ev_take (ok_take T h0) hr ev_int k5 ⟨by decide, by decide⟩) (ev_var 1) (.inl (by omega)))) T.fMax))) rfl (by rw [List.length_map]; omega))) ?_
          refine bp_nil (bp_end (turned_nx ?_))
          rw [e, e2, e3]
          exact .keep (.keep (.keep (.keep (.keep (.keep (.drop (.drop .nil)))))))
        · cases e
          refine ⟨dl1_here j1, ?_⟩
          rw [dl1_len]
          show row.length + 1 + _ ≤ 6
          omega
      · intro o ho
        rw [loopF_nx] at ho
        subst ho
        refine bp_next (b1_expr (EV.append (xs := rows.map encR) 2 (ev_frz 4 rfl (frz_l _) (hp := pr _)) rfl (by rw [List.length_map]; omega))) ?_
        refine bp_nil (bp_end (turned_nx ?_))
        rw [List.map_append]
        exact .keep (.keep (.keep (.drop (.drop (.drop (.drop (.drop .nil)))))))
    · cases e
      refine ⟨(row1_inv i1).1, ?_⟩
      show (rows ++ [_]).length + _ ≤ 2
      simp
      omega
  · intro o ho
    rw [loopF_nx] at ho
    have e : (List.range 2).foldl (fun s _ => rowS far s) (b, []) = ((row1 far (row1 far b).1).1, [(row1 far b).2, (row1 far (row1 far b).1).2]) := rfl
    rw [e] at ho
    subst ho
    have k1 := row1_inv (far := far) hb
    have k2 := row1_inv (far := far) k1.1
    unfold drawnF
    dsimp only
    generalize row1 far (row1 far b).1 = r2 at *
    generalize row1 far b = r1 at *
    have tm := takeF_lt r2.1 (l := 4) (by decide)
    have k3 := takeF_here r2.1 4 k2.1
    have k4 := takeS_inv (l := 9) (List.range (takeF r2.1 4).1.toNat) (takeF r2.1 4).2 k3
    let enc : Box → List Sl := fun b => [.v (boxOD b), .d (.int far), .v (OD.l ([r1.2, r2.2].map encR)), .no, .no, .no, .no, .no]
    generalize hLO : fmS (takeS 9) (List.range (takeF r2.1 4).1.toNat) (takeF r2.1 4).2 = LO at k4
    have k5 := takeF_here LO.2 9 k4.1
    refine bp_ret (od := .dat (.lst ([encR r1.2, encR r2.2] ++ [.lst (LO.1.map .int), .int ((takeF LO.2 9).1 - 9), .int ((takeF (takeF LO.2 9).2 9).1 + 9)]))) (ds1 := enc (takeF (takeF LO.2 9).2 9).2) (EV.frz (od := OD.l ([encR r1.2, encR r2.2] ++ [.lst (LO.1.map .int), .int ((takeF LO.2 9).1 - 9), .int ((takeF (takeF LO.2 9).2 9).1 + 9)])) (EV.cat (xs := [encR r1.2, encR r2.2]) (ys := [.lst (LO.1.map .int), .int ((takeF LO.2 9).1 - 9), .int ((takeF (takeF LO.2 9).2 9).1 + 9)]) (ds1 := enc r2.1) (o1 := .al 2) (ev_al 2) (ev_lstE ?_) (.al rfl (.own _)) (.own _) (by simp)) (frz_l _)) ⟨rfl, fun i h => by cases h; rfl⟩
    refine ead3 (ds1 := enc LO.2) (ds2 := enc (takeF LO.2 9).2) (EV.frz (od := OD.l (LO.1.map .int)) (ev_lc (own := [("k", 6)]) (ds1 := enc (takeF r2.1 4).2) (xs := (List.range (takeF r2.1 4).1.toNat).map fun i : Nat => D.int (0 + (i : Nat))) rfl nd ?_ (blkOk_by (by rfl)) ?_ ?_ ?_ ?_) (frz_l _)) (EV.sub (ev_take (ok_take T h0) hr ev_int k4.1 ⟨by decide, by decide⟩) ev_int) (EV.add (ev_take (ok_take T h0) hr ev_int k5 ⟨by decide, by decide⟩) ev_int)
    · exact iv_range1 (ev_take (ok_take T h0) hr ev_int k2.1 ⟨by decide, by decide⟩) T.fRange ⟨by omega, by omega⟩
    · exact fun i hi od => by simp at hi; rcases hi with rfl; exact fun z => by cases z
    · exact fun i hi => by simp at hi; rcases hi with rfl; exact pr _
    · subst hLO
      exact lc_st enc (fun i : Nat => D.int (0 + (i : Nat))) D.int (takeS 9) (fun b _ => 0 ≤ b.here) (fun b x as hI => ⟨⟨(enc b).set 6 (.d (.int (0 + (x : Nat)))), true, (enc b).set 6 (.d (.int (0 + (x : Nat)))), [6], fun X' hX' => by
        obtain ⟨_, _, _, _, _, rfl⟩ := hX'
        exact tg_name 6 nd (hl := (by decide : 6 < 8)) (hp := pr _), fun i hi => hi, fun X' _ => ets_nil, .inr ⟨rfl, (takeF b 9).1, (takeF b 9).2, (enc (takeF b 9).2).set 6 (.d (.int (0 + (x : Nat)))), rfl, fun X' hX' => by
        obtain ⟨_, _, _, _, _, rfl⟩ := hX'
        exact ev_take (ok_take T h0) hr ev_int hI ⟨by decide, by decide⟩, rfl⟩⟩, takeF_here b 9 hI⟩) (List.range (takeF r2.1 4).1.toNat) (takeF r2.1 4).2 k3
    · rw [List.length_map, k4.2, List.length_range]
      omega
end
end K74
/-! K74zg0: the masks of _law_matched, plain. -/
namespace K74
open PySem PySem.Spec PyProof.Rows L2 DL
abbrev Ix := List (Nat × Nat)
abbrev Ms := List (Nat × Ix)
def putM (kvs : Ms) (k : Nat) (v : Ix) : Ms := if (kvs.any fun kv => decide (kv.1 = k)) = true then kvs.map (fun kv => if kv.1 = k then (kv.1, v) else kv) else kvs ++ [(k, v)]
def getM (kvs : Ms) (k : Nat) : Ix := ((kvs.find? fun kv => decide (kv.1 = k)).map (·.2)).getD []
def encM (kvs : Ms) : List (Key × D) := kvs.map fun kv => (.inl (kv.1 : Int), .lst (kv.2.map encN))
theorem inl_eq {a b : Nat} : ((Sum.inl (a : Int) : Key) = .inl (b : Int)) ↔ a = b := ⟨fun h => by cases h; rfl, fun h => by rw [h]⟩
theorem put_enc (kvs : Ms) (k : Nat) (v : Ix) : putD (encM kvs) (.inl (k : Int)) (.lst (v.map encN)) = encM (putM kvs k v) := by
  have e : ((encM kvs).any fun kv => decide (kv.1 = (.inl (k : Int) : Key))) = kvs.any fun kv => decide (kv.1 = k) := by
    unfold encM
    rw [List.any_map]
    congr 1
    funext kv
    exact decide_eq_decide.mpr inl_eq
  unfold putD putM
  rw [e]
  split
  · unfold encM
    rw [List.map_map, List.map_map]
    refine List.map_congr_left fun kv _ => ?_
    show (if (.inl (kv.1 : Int) : Key) = .inl (k : Int) then _ else _) = _
    by_cases c : kv.1 = k
    · rw [if_pos (inl_eq.mpr c)]
      show _ = (fun kv : Nat × Ix => ((.inl (kv.1 : Int) : Key), D.lst (kv.2.map encN))) (if kv.1 = k then (kv.1, v) else kv)
      rw [if_pos c]
    · rw [if_neg (fun z => c (inl_eq.mp z))]
      show _ = (fun kv : Nat × Ix => ((.inl (kv.1 : Int) : Key), D.lst (kv.2.map encN))) (if kv.1 = k then (kv.1, v) else kv)
      rw [if_neg c]
  · unfold encM
    rw [List.map_append]
    rfl
theorem get_enc {k : Nat} : ∀ {kvs : Ms}, k ∈ kvs.map (·.1) → getD? (encM kvs) (.inl (k : Int)) = some (.lst ((getM kvs k).map encN))
  | [], h => by cases h
  | (a, v) :: kvs, h => by
    by_cases c : a = k
    · have e : decide ((.inl (a : Int) : Key) = .inl (k : Int)) = true := decide_eq_true (inl_eq.mpr c)
      have e2 : decide (a = k) = true := decide_eq_true c
      simp [getD?, encM, getM, List.find?, e, e2]
      simp [c]
    · have e : decide ((.inl (a : Int) : Key) = .inl (k : Int)) = false := decide_eq_false fun z => c (inl_eq.mp z)
      have e2 : decide (a = k) = false := decide_eq_false c
      have ih := get_enc (k := k) (kvs := kvs) (by
        rw [List.map_cons] at h
        exact (List.mem_cons.mp h).resolve_left fun z => c z.symm)
      have g : getM ((a, v) :: kvs) k = getM kvs k := by
        unfold getM
        rw [List.find?_cons]
        show (Option.map _ (match decide (a = k) with | true => _ | false => _)).getD [] = _
        rw [e2]
      have g2 : getD? (encM ((a, v) :: kvs)) (.inl (k : Int)) = getD? (encM kvs) (.inl (k : Int)) := by
        unfold getD? encM
        rw [List.map_cons, List.find?_cons]
        show Option.map _ (match decide ((.inl (a : Int) : Key) = .inl (k : Int)) with | true => _ | false => _) = _
        rw [e]
      rw [g, g2, ih]
theorem putM_len (kvs : Ms) (k : Nat) (v : Ix) : (putM kvs k v).length ≤ kvs.length + 1 := by
  unfold putM
  split <;> simp
theorem encM_len (kvs : Ms) : (encM kvs).length = kvs.length := List.length_map ..
def bitz (m j : Nat) : Bool := decide (m / 2 ^ j % 2 = 0)
theorem bit_int (m j : Nat) : (m : Int) / (1 * 2 ^ ((j : Int)).toNat) % 2 = ((m / 2 ^ j % 2 : Nat) : Int) := by
  rw [Int.toNat_natCast]
  push_cast
  rw [Int.one_mul]
def innerS (masks : Ms) (i : Nat) (p : Int × Int) (n : Int) (m : Nat) (found : Ms) (jq : (Int × Int) × Nat) : Ms := if (bitz m jq.2 && nearP p jq.1 n) = true then putM found (m + 2 ^ jq.2) (getM masks m ++ [(i, jq.2)]) else found
def shortS (masks : Ms) (p : Int × Int) (n : Int) (found : Ms) (m : Nat) : Ms := if p.2 - p.1 ≤ n then putM found m (getM masks m) else found
def maskS (masks : Ms) (two : List (Int × Int)) (i : Nat) (p : Int × Int) (n : Int) (found : Ms) (m : Nat) : Ms := two.zipIdx.foldl (innerS masks i p n m) (shortS masks p n found m)
def pairS (two : List (Int × Int)) (n : Int) (masks : Ms) (ip : (Int × Int) × Nat) : Ms := (masks.map (·.1)).foldl (maskS masks two ip.2 ip.1 n) []
def masksF (one two : List (Int × Int)) (n : Int) : Ms := one.zipIdx.foldl (pairS two n) [(0, [])]
def okMask (two : List (Int × Int)) (n : Int) (m : Nat) : Bool := (two.zipIdx.map fun jq => decide (jq.1.2 - jq.1.1 ≤ n) || decide (m / 2 ^ jq.2 % 2 = 1)).all id
def matchedF (one two : List (Int × Int)) (n : Int) : Option Ix := (((masksF one two n).map (·.1)).find? (okMask two n)).map (getM (masksF one two n))
def encO : Option Ix → D
  | none => .non
  | some l => .lst (l.map encN)
theorem inner_len {masks : Ms} {i : Nat} {p : Int × Int} {n : Int} {m : Nat} : ∀ (as : List ((Int × Int) × Nat)) (f : Ms), (as.foldl (innerS masks i p n m) f).length ≤ f.length + as.length
  | [], f => by simp
  | a :: as, f => by
    have ih := inner_len (masks := masks) (i := i) (p := p) (n := n) (m := m) as (innerS masks i p n m f a)
    have : (innerS masks i p n m f a).length ≤ f.length + 1 := by
      unfold innerS
      split
      · exact putM_len ..
      · omega
    rw [List.foldl_cons, List.length_cons]
    omega
theorem short_len {masks : Ms} {p : Int × Int} {n : Int} {f : Ms} {m : Nat} : (shortS masks p n f m).length ≤ f.length + 1 := by
  unfold shortS
  split
  · exact putM_len ..
  · omega
theorem mask_len {masks : Ms} {two : List (Int × Int)} (h : two.length ≤ 5) {i : Nat} {p : Int × Int} {n : Int} {f : Ms} {m : Nat} : (maskS masks two i p n f m).length ≤ f.length + 6 := by
  have h1 := inner_len (masks := masks) (i := i) (p := p) (n := n) (m := m) two.zipIdx (shortS masks p n f m)
  have h2 := short_len (masks := masks) (p := p) (n := n) (f := f) (m := m)
  rw [List.length_zipIdx] at h1
  unfold maskS
  omega
theorem masks_len {masks : Ms} {two : List (Int × Int)} (h : two.length ≤ 5) {i : Nat} {p : Int × Int} {n : Int} : ∀ (ms : List Nat) (f : Ms), (ms.foldl (maskS masks two i p n) f).length ≤ f.length + 6 * ms.length
  | [], f => by simp
  | m :: ms, f => by
    have ih := masks_len (masks := masks) h (i := i) (p := p) (n := n) ms (maskS masks two i p n f m)
    have := mask_len (masks := masks) h (i := i) (p := p) (n := n) (f := f) (m := m)
    rw [List.foldl_cons, List.length_cons]
    omega
theorem pair_len {two : List (Int × Int)} (h : two.length ≤ 5) {n : Int} {masks : Ms} {ip : (Int × Int) × Nat} : (pairS two n masks ip).length ≤ 6 * masks.length := by
  have := masks_len (masks := masks) h (i := ip.2) (p := ip.1) (n := n) (masks.map (·.1)) []
  rw [List.length_map] at this
  unfold pairS
  simpa using this
theorem putM_all {Q : Nat → Ix → Prop} {f : Ms} {k : Nat} {v : Ix} (h : ∀ kv ∈ f, Q kv.1 kv.2) (hv : Q k v) : ∀ kv ∈ putM f k v, Q kv.1 kv.2 := by
  unfold putM
  split
  · intro kv hm
    obtain ⟨x, hx, rfl⟩ := List.mem_map.mp hm
    by_cases c : x.1 = k
    · rw [if_pos c]
      show Q x.1 v
      rw [c]
      exact hv
    · rw [if_neg c]
      exact h x hx
  · intro kv hm
    rcases List.mem_append.mp hm with hm | hm
    · exact h kv hm
    · rw [List.mem_singleton.mp hm]
      exact hv
theorem getM_all {Q : Nat → Ix → Prop} {k : Nat} : ∀ {f : Ms}, (∀ kv ∈ f, Q kv.1 kv.2) → k ∈ f.map (·.1) → Q k (getM f k)
  | [], _, h => by cases h
  | (a, v) :: f, h, hk => by
    by_cases c : a = k
    · have e : getM ((a, v) :: f) k = v := by
        unfold getM
        rw [List.find?_cons]
        show (Option.map _ (match decide (a = k) with | true => _ | false => _)).getD [] = _
        rw [decide_eq_true c]
        rfl
      rw [e, ← c]
      exact h (a, v) (List.mem_cons_self ..)
    · have g : getM ((a, v) :: f) k = getM f k := by
        unfold getM
        rw [List.find?_cons]
        show (Option.map _ (match decide (a = k) with | true => _ | false => _)).getD [] = _
        rw [decide_eq_false c]
      rw [g]
      exact getM_all (fun kv hm => h kv (List.mem_cons_of_mem _ hm)) (by
        rw [List.map_cons] at hk
        exact (List.mem_cons.mp hk).resolve_left fun z => c z.symm)
section
variable {Q0 Q1 : Nat → Ix → Prop} {ms : Ms} {i : Nat} {p : Int × Int} {n : Int} {two : List (Int × Int)}
theorem inner_all {m : Nat} (h0 : Q0 m (getM ms m)) (ext : ∀ m L j q, (q, j) ∈ two.zipIdx → Q0 m L → bitz m j = true → nearP p q n = true → Q1 (m + 2 ^ j) (L ++ [(i, j)])) :
    ∀ (as : List ((Int × Int) × Nat)) (f : Ms), (∀ a ∈ as, a ∈ two.zipIdx) → (∀ kv ∈ f, Q1 kv.1 kv.2) → ∀ kv ∈ as.foldl (innerS ms i p n m) f, Q1 kv.1 kv.2
  | [], f, _, hf => hf
  | (q, j) :: as, f, ha, hf => by
    refine inner_all h0 ext as _ (fun a hm => ha a (List.mem_cons_of_mem _ hm)) ?_
    unfold innerS
    split
    · rename_i c
      rw [Bool.and_eq_true] at c
      exact putM_all hf (ext m _ j q (ha _ (List.mem_cons_self ..)) h0 c.1 c.2)
    · exact hf
theorem masks_all (h0 : ∀ kv ∈ ms, Q0 kv.1 kv.2) (short : ∀ m L, Q0 m L → p.2 - p.1 ≤ n → Q1 m L) (ext : ∀ m L j q, (q, j) ∈ two.zipIdx → Q0 m L → bitz m j = true → nearP p q n = true → Q1 (m + 2 ^ j) (L ++ [(i, j)])) :
    ∀ (as : List Nat) (f : Ms), (∀ m ∈ as, m ∈ ms.map (·.1)) → (∀ kv ∈ f, Q1 kv.1 kv.2) → ∀ kv ∈ as.foldl (maskS ms two i p n) f, Q1 kv.1 kv.2
  | [], f, _, hf => hf
  | m :: as, f, ha, hf => by
    refine masks_all h0 short ext as _ (fun a hm => ha a (List.mem_cons_of_mem _ hm)) ?_
    have hq := getM_all h0 (ha m (List.mem_cons_self ..))
    unfold maskS
    refine inner_all hq ext _ _ (fun a h => h) ?_
    unfold shortS
    split
    · rename_i c
      exact putM_all hf (short m _ hq c)
    · exact hf
theorem pair_all (h0 : ∀ kv ∈ ms, Q0 kv.1 kv.2) (short : ∀ m L, Q0 m L → p.2 - p.1 ≤ n → Q1 m L) (ext : ∀ m L j q, (q, j) ∈ two.zipIdx → Q0 m L → bitz m j = true → nearP p q n = true → Q1 (m + 2 ^ j) (L ++ [(i, j)])) :
    ∀ kv ∈ pairS two n ms (p, i), Q1 kv.1 kv.2 := masks_all h0 short ext _ _ (fun m h => h) (fun kv h => by cases h)
end
theorem pair_vlen {two : List (Int × Int)} {n : Int} {ms : Ms} {ip : (Int × Int) × Nat} {c : Nat} (h : ∀ kv ∈ ms, kv.2.length ≤ c) : ∀ kv ∈ pairS two n ms ip, kv.2.length ≤ c + 1 :=
  pair_all (Q0 := fun _ L => L.length ≤ c) (Q1 := fun _ L => L.length ≤ c + 1) h (fun m L h _ => by omega) (fun m L j q _ h _ _ => by rw [List.length_append]; show L.length + 1 ≤ _; omega)
theorem frz_kM (kvs : Ms) : (OD.k (encM kvs)).frz = .dK (encM kvs) := frz_k _
theorem keys_enc (kvs : Ms) : ((encM kvs).map fun kv => keyD kv.1) = (kvs.map (·.1)).map fun m : Nat => D.int (m : Int) := by
  unfold encM
  rw [List.map_map, List.map_map]
  rfl
end K74
/-! K74zg: _law_matched. -/
namespace K74
open PySem PySem.Spec PyProof.Rows L2 DL
theorem lp_of_lpp {X : Cx} {ca : CA} {B : Base} {tg : Expr} {body : List Stmt} {xs : List D} {ds : List Sl} {out : Out} (h : LPP X ca B tg body xs ds (fun o => o = out)) : LP X ca B tg body xs ds out := by
  obtain ⟨o, h1, rfl⟩ := h
  exact h1
theorem dk_nil : ([] : List (Key × D)) = encM [] := rfl
theorem mem_zipIdx_lt {α : Type} {xs : List α} {r : α × Nat} (h : r ∈ xs.zipIdx) : r.2 < xs.length := by
  obtain ⟨a, i⟩ := r
  have := List.mem_zipIdx h
  show i < xs.length
  omega
def R_matched : List OD → Res → Prop := fun ods res => ∃ (one two : List (Int × Int)) (n : Int), ods = [.dat (.lst (one.map encP)), .dat (.lst (two.map encP)), .dat (.int n)] ∧ one.length ≤ 5 ∧ two.length ≤ 5 ∧ res = okN (encO (matchedF one two n))
section
variable {P : Program} {w : World} {K : PySem.W.Frag} {mg : Str → Option Value} {base : Heap} {ca : CA}
theorem ok_matched (T : Txt w K mg ca) (h0 : Has K mg "_law_near" (top 51)) (h1 : Has K mg "_law_pair_near" (top 52)) (h : Has K mg "_law_matched" (top 53)) : CallI P w K mg base ca 3 "_law_matched" 3 none R_matched := by
  have nd : (["one", "two", "halves", "masks", "i", "p", "found", "mask", "j", "q"] : List Str).Nodup := by decide +kernel
  refine callI (N := ["one", "two", "halves", "masks", "i", "p", "found", "mask", "j", "q"]) (ps := ["one", "two", "halves"]) h (fun kV doc pm an cdv ct us hl => by match us, hl with | [_, _, _], _ => rfl) ⟨rfl, rfl, rfl, nd, rfl, by decide +kernel, by decide +kernel⟩ fun X B ods res ⟨f, cdv, A, outer, s', H, E, hX⟩ hr hpr hR hl => ?_
  have hu : X.A.units + 64 < cLine := by have := hr.un; omega
  have hu1 : X.A.units + 1 < cLine := by omega
  subst hX
  obtain ⟨one, two, n, rfl, z1, z2, rfl⟩ := hR
  have pr : ∀ (B' : Base), B'.pr = B.pr → ∀ i, B'.pr i = false := fun B' e i => by rw [e, hpr]; rfl
  refine bp_next (b1_set 3 (EV.frz (ev_disp1 (kk := .inl 0) (d := .lst []) ev_int (EV.frz (ev_lst (xs := []) ea_nil) (frz_l []))) (frz_k _)) nd (hp := pr B rfl _)) ?_
  refine bp_for (ds1 := [.d (.lst (one.map encP)), .d (.lst (two.map encP)), .d (.int n), .d (.dK (encM [(0, [])])), .no, .no, .no, .no, .no, .no]) (passes_of rfl) rfl (iv_enum (ev_var 0) T.fEnum) ?_
  rw [enumD_map]
  refine (lpp_loop (σ := Ms) (ρ := Unit) (fun ms => [.d (.lst (one.map encP)), .d (.lst (two.map encP)), .d (.int n), .d (.dK (encM ms)), .no, .no, .no, .no, .no, .no]) _ (fun ms ip => .nx (pairS two n ms ip)) (fun ms as => ms.length * 6 ^ as.length ≤ 7776 ∧ ∀ kv ∈ ms, kv.2.length + as.length ≤ 5) (fun _ _ => False) (fun ms ip as0 i0 => ?_) _ [(0, [])] ⟨?_, ?_⟩).imp ?_
  · obtain ⟨i1, iv⟩ := i0
    have hp6 : 1 ≤ 6 ^ as0.length := Nat.one_le_pow _ _ (by decide)
    have i1 : ms.length * (6 ^ as0.length * 6) ≤ 7776 := by rw [← Nat.pow_succ]; exact i1
    have i4 : ms.length * 6 * 6 ^ as0.length ≤ 7776 := by rw [Nat.mul_assoc, Nat.mul_comm 6]; exact i1
    have i3 : ms.length * 6 ≤ 7776 := Nat.le_trans (by have := Nat.mul_le_mul_left (ms.length * 6) hp6; omega) i4
    refine ⟨_, _, tg_tup rfl (tgs_cons (tg_name 4 nd (hp := pr B rfl _)) (tgs_cons (tg_name 5 nd (hp := pr B rfl _)) tgs_nil)) rfl, ?_, fun s' e => ?_⟩
    · refine bp_next (b1_set (od := OD.k []) 6 (ev_dnew (t := 0)) nd (hp := pr B rfl _)) ?_
      refine bp_forK (kvs := encM ms) 3 (passes_of rfl) rfl (.nx [.d (.lst (one.map encP)), .d (.lst (two.map encP)), .d (.int n), .d (.dK (encM ms)), .d (.int (ip.2 : Nat)), .d (encP ip.1), .v (OD.k (encM (pairS two n ms ip))), .no, .no, .no]) (fun B1 hB1 => lp_of_lpp ?_) ?_ rfl
      · rw [keys_enc]
        refine (lpp_loop (σ := Ms) (ρ := Unit) (fun fo => [.d (.lst (one.map encP)), .d (.lst (two.map encP)), .d (.int n), .d (.dK (encM ms)), .d (.int (ip.2 : Nat)), .d (encP ip.1), .v (OD.k (encM fo)), .no, .no, .no]) (fun m : Nat => D.int (m : Int)) (fun fo m => .nx (maskS ms two ip.2 ip.1 n fo m)) (fun fo as => fo.length + 6 * as.length ≤ 7776 ∧ ∀ m ∈ as, m ∈ ms.map (·.1)) (fun _ _ => False) (fun fo m as hI => ?_) (ms.map (·.1)) [] ⟨by rw [List.length_map]; show 0 + _ ≤ _; omega, fun m hm => hm⟩).imp ?_
        · obtain ⟨j1, j2⟩ := hI
          have j1 : fo.length + 6 * (as.length + 1) ≤ 7776 := by simpa using j1
          have jm : m ∈ ms.map (·.1) := j2 m (List.mem_cons_self ..)
          refine ⟨_, _, tg_name 7 nd (hp := pr B1 hB1 _), ?_, fun s' e => ?_⟩
          · have ls := short_len (masks := ms) (p := ip.1) (n := n) (f := fo) (m := m)
            refine bp_join (k := decide (ip.1.2 - ip.1.1 ≤ n)) (ds2 := [.d (.lst (one.map encP)), .d (.lst (two.map encP)), .d (.int n), .d (.dK (encM ms)), .d (.int (ip.2 : Nat)), .d (encP ip.1), .v (OD.k (encM (shortS ms ip.1 n fo m))), .d (.int (m : Nat)), .no, .no]) (et_cmp op_le (EV.sub (EV.ix (xs := [.int ip.1.1, .int ip.1.2]) (ev_var 5) ev_int (.tup _) rfl) (EV.ix (xs := [.int ip.1.1, .int ip.1.2]) (ev_var 5) ev_int (.tup _) rfl)) (ev_var 2) ro_cmpI) (fun hk => ?_) (fun hk => ?_) ?_
            · unfold shortS
              rw [if_pos (of_decide_eq_true hk), ← put_enc]
              exact bp_next (b1_asg (EV.ixK (kvs := encM ms) (k := .inl (m : Int)) hu1 (ev_var 3) (ev_var 7) (.dat _) (get_enc jm)) (tg_ixK (kvs := encM fo) (k := .inl (m : Int)) 6 (ev_var 7) hu1 (by rw [encM_len]; omega))) (bp_nil (bp_end ⟨_, rfl, Wk.refl _⟩))
            · unfold shortS
              rw [if_neg (of_decide_eq_false hk)]
              exact bp_nil (bp_end ⟨_, rfl, Wk.refl _⟩)
            refine bp_for (ds1 := [.d (.lst (one.map encP)), .d (.lst (two.map encP)), .d (.int n), .d (.dK (encM ms)), .d (.int (ip.2 : Nat)), .d (encP ip.1), .v (OD.k (encM (shortS ms ip.1 n fo m))), .d (.int (m : Nat)), .no, .no]) (passes_of rfl) rfl (iv_enum (ev_var 1) T.fEnum) ?_
            rw [enumD_map]
            refine (lpp_loop (σ := Ms) (ρ := Unit) (fun fo => [.d (.lst (one.map encP)), .d (.lst (two.map encP)), .d (.int n), .d (.dK (encM ms)), .d (.int (ip.2 : Nat)), .d (encP ip.1), .v (OD.k (encM fo)), .d (.int (m : Nat)), .no, .no]) _ (fun fo jq => .nx (innerS ms ip.2 ip.1 n m fo jq)) (fun fo as => fo.length + as.length ≤ 7776 ∧ ∀ r ∈ as, r.2 < 5) (fun _ _ => False) (fun fo jq as hI => ?_) two.zipIdx (shortS ms ip.1 n fo m) ⟨by rw [List.length_zipIdx]; omega, fun r hr => by have := mem_zipIdx_lt hr; omega⟩).imp ?_
            · obtain ⟨q1, q2⟩ := hI
              have q1 : fo.length + (as.length + 1) ≤ 7776 := by simpa using q1
              have q3 : jq.2 < 5 := q2 jq (List.mem_cons_self ..)
              refine ⟨_, _, tg_tup rfl (tgs_cons (tg_name 8 nd (hp := pr B1 hB1 _)) (tgs_cons (tg_name 9 nd (hp := pr B1 hB1 _)) tgs_nil)) rfl, ?_, fun s' e => ?_⟩
              · have p2 : (1 : Int) * 2 ^ ((jq.2 : Int)).toNat = ((2 ^ jq.2 : Nat) : Int) := by
                  rw [Int.toNat_natCast]
                  push_cast
                  rw [Int.one_mul]
                have p3 : 0 < 2 ^ jq.2 ∧ 2 ^ jq.2 ≤ 16 := ⟨Nat.pow_pos (by decide), Nat.le_trans (Nat.pow_le_pow_right (by decide) (show jq.2 ≤ 4 by omega)) (by decide)⟩
                refine bp_if (k := bitz m jq.2 && nearP ip.1 jq.1 n) (EW.pt (ew_and (b1 := bitz m jq.2) (b2 := nearP ip.1 jq.1 n) (ET.cast (et_cmp op_eq (EV.mod (EV.intI (EV.fdiv (ev_var 7) (EV.shl ev_int (ev_var 8) ⟨by omega, by omega, by decide⟩) ⟨by rw [p2]; omega, by rw [p2]; omega⟩) T.fInt) ev_int (by decide)) ev_int ro_eqI) ?_ rfl) (fun _ => ew_and1 (et_val (ev_fnD (xs := [encP ip.1, encP jq.1, .int n]) (ok_pair_near T h0 h1) hr (ead3 (ev_var 5) (ev_var 9) (ev_var 2)) ⟨ip.1, jq.1, n, rfl, rfl⟩))) fun _ => rfl)) (fun hk => ?_) fun hk => ?_
                · unfold bitz
                  rw [bit_int]
                  exact decide_eq_decide.mpr ⟨fun z => by omega, fun z => by omega⟩
                · unfold innerS
                  rw [if_pos hk]
                  refine bp_next (b1_asg (EV.frz (EV.cat (xs := (getM ms m).map encN) (ys := [encN (ip.2, jq.2)]) (EV.ixK (kvs := encM ms) (k := .inl (m : Int)) hu1 (ev_var 3) (ev_var 7) (.dat _) (get_enc jm)) (ev_lstE (ead1 (ev_tupD (ead2 (ev_var 4) (ev_var 8))))) (.dat _) (.own _) ?_) (frz_l _)) (tg_ixK (kvs := encM fo) (k := .inl ((m + 2 ^ jq.2 : Nat) : Int)) 6 (EV.cast (EV.add (ev_var 7) (EV.shl ev_int (ev_var 8) ⟨by omega, by omega, by decide⟩)) (by rw [p2]; rfl) rfl) hu1 (by rw [encM_len]; omega))) ?_
                  · have := getM_all (Q := fun _ L => L.length + (as0.length + 1) ≤ 5) iv jm
                    rw [List.length_map]
                    show _ + 1 ≤ _
                    have this : (getM ms m).length + (as0.length + 1) ≤ 5 := this
                    omega
                  · refine bp_nil (bp_nil (bp_end (turned_nx ?_)))
                    have e : (getM ms m).map encN ++ [encN (ip.2, jq.2)] = (getM ms m ++ [(ip.2, jq.2)]).map encN := by rw [List.map_append]; rfl
                    rw [e, put_enc]
                    exact .keep (.keep (.keep (.keep (.keep (.keep (.keep (.keep (.drop (.drop .nil)))))))))
                · unfold innerS
                  rw [if_neg (by rw [hk]; decide)]
                  exact bp_nil (bp_nil (bp_end (turned_nx (.keep (.keep (.keep (.keep (.keep (.keep (.keep (.keep (.drop (.drop .nil))))))))))))) 
              · cases e
                refine ⟨?_, fun r hr => q2 r (List.mem_cons_of_mem _ hr)⟩
                have : (innerS ms ip.2 ip.1 n m fo jq).length ≤ fo.length + 1 := by
                  unfold innerS
                  split
                  · exact putM_len ..
                  · omega
                omega
            · intro o ho
              rw [loopF_nx] at ho
              subst ho
              refine bp_nil (bp_end (turned_nx ?_))
              exact .keep (.keep (.keep (.keep (.keep (.keep (.keep (.drop (.drop (.drop .nil)))))))))
          · cases e
            have := mask_len (masks := ms) z2 (i := ip.2) (p := ip.1) (n := n) (f := fo) (m := m)
            exact ⟨by omega, fun m' hm => j2 m' (List.mem_cons_of_mem _ hm)⟩
        · intro o ho
          rw [loopF_nx] at ho
          exact ho
      · refine bp_next (b1_set 3 (EV.frz (EV.dict (kvs := encM (pairS two n ms ip)) (ev_al 6) (.al rfl (.own _)) T.fDict) (frz_k _)) nd (hp := pr B rfl _)) ?_
        exact bp_nil (bp_end (turned_nx (.keep (.keep (.keep (.keep (.drop (.drop (.drop (.drop (.drop (.drop .nil)))))))))))) 
    · cases e
      have := pair_len z2 (n := n) (masks := ms) (ip := ip)
      refine ⟨?_, fun kv hkv => ?_⟩
      rotate_left
      · have hv : ∀ kv ∈ ms, kv.2.length ≤ 4 - as0.length := fun kv hm => by
          have := iv kv hm
          rw [List.length_cons] at this
          omega
        have h5 := pair_vlen (two := two) (n := n) (ip := ip) hv kv hkv
        have h6 : as0.length ≤ 4 := by
          cases ms with
          | nil => cases hkv
          | cons x xs =>
            have := iv x (List.mem_cons_self ..)
            rw [List.length_cons] at this
            omega
        omega
      calc (pairS two n ms ip).length * 6 ^ as0.length ≤ 6 * ms.length * 6 ^ as0.length := Nat.mul_le_mul_right _ this
        _ = ms.length * 6 * 6 ^ as0.length := by rw [Nat.mul_comm 6]
        _ ≤ 7776 := i4
  · rw [List.length_zipIdx]
    show 1 * _ ≤ _
    have : 6 ^ one.length ≤ 6 ^ 5 := Nat.pow_le_pow_right (by decide) z1
    omega
  · intro kv hkv
    rw [List.mem_singleton.mp hkv, List.length_zipIdx]
    show 0 + _ ≤ 5
    omega
  · intro o ho
    rw [loopF_nx] at ho
    subst ho
    have em : one.zipIdx.foldl (pairS two n) [(0, [])] = masksF one two n := rfl
    rw [em]
    unfold matchedF
    generalize masksF one two n = ms
    let ds0 : List Sl := [.d (.lst (one.map encP)), .d (.lst (two.map encP)), .d (.int n), .d (.dK (encM ms)), .no, .no, .no, .no, .no, .no]
    let dsm : Nat → List Sl := fun m => [.d (.lst (one.map encP)), .d (.lst (two.map encP)), .d (.int n), .d (.dK (encM ms)), .no, .no, .no, .d (.int (m : Nat)), .no, .no]
    refine bp_forK (kvs := encM ms) 3 (passes_of rfl) rfl (match (ms.map (·.1)).find? (okMask two n) with
      | none => .nx ds0
      | some m => .rt (.dat (.lst ((getM ms m).map encN))) (dsm m)) (fun B1 hB1 => lp_of_lpp ?_) ?_ ?_
    · rw [keys_enc]
      refine (lpp_loop (σ := Unit) (ρ := Nat) (fun _ => ds0) (fun m : Nat => D.int (m : Int)) (fun _ m => if okMask two n m = true then .rt m else .nx ()) (fun _ as => ∀ m ∈ as, m ∈ ms.map (·.1)) (fun m o => o = .rt (.dat (.lst ((getM ms m).map encN))) (dsm m)) (fun _ m as hI => ?_) (ms.map (·.1)) () (fun m hm => hm)).imp ?_
      · have jm : m ∈ ms.map (·.1) := hI m (List.mem_cons_self ..)
        refine ⟨_, _, tg_name 7 nd (hl := (by decide : 7 < 10)) (hp := pr B1 hB1 _), ?_, fun _ _ m' hm => hI m' (List.mem_cons_of_mem _ hm)⟩
        have hbs : okMask two n m = (two.zipIdx.map fun jq => decide (jq.1.2 - jq.1.1 ≤ n) || decide (m / 2 ^ jq.2 % 2 = 1)).all id := rfl
        generalize hb : (two.zipIdx.map fun jq => decide (jq.1.2 - jq.1.1 ≤ n) || decide (m / 2 ^ jq.2 % 2 = 1)) = bs at hbs
        rw [hbs]
        refine bp_if (k := bs.all id) (ds1 := dsm m) (et_val (EV.allB bs rfl ?_ T.fAll)) (fun hk => ?_) fun hk => ?_
        · subst hb
          refine EV.cast (o := .v (OD.l (two.zipIdx.map fun jq => D.bl (decide (jq.1.2 - jq.1.1 ≤ n) || decide (m / 2 ^ jq.2 % 2 = 1))))) (ds1 := dsm m) (ev_lc (own := [("j", 8), ("q", 9)]) (ds1 := dsm m) (xs := two.zipIdx.map fun p => .tup [.int (p.2 : Nat), encP p.1]) rfl nd ?_ (blkOk_by (by rfl)) ?_ (fun i _ => pr B1 hB1 i) ?_ (by rw [List.length_map, List.length_zipIdx]; omega)) (by rw [List.map_map]; rfl) rfl
          · rw [← enumD_map]
            exact iv_enum (ev_var 1) T.fEnum
          · exact fun i hi od => by simp at hi; rcases hi with rfl | rfl <;> exact fun z => by cases z
          · refine lc_all (fun p : (Int × Int) × Nat => .tup [.int (p.2 : Nat), encP p.1]) (fun jq => D.bl (decide (jq.1.2 - jq.1.1 ≤ n) || decide (m / 2 ^ jq.2 % 2 = 1))) two.zipIdx fun jq hjq => ⟨[.d (.lst (one.map encP)), .d (.lst (two.map encP)), .d (.int n), .d (.dK (encM ms)), .no, .no, .no, .d (.int (m : Nat)), .d (.int (jq.2 : Nat)), .d (encP jq.1)], [8, 9], fun X' hX' => ?_, fun i hi => hi, fun X' hX' => ?_, rfl⟩
            · obtain ⟨_, _, _, _, _, rfl⟩ := hX'
              show TG1 _ ca B1 _ _ [.d (.lst (one.map encP)), .d (.lst (two.map encP)), .d (.int n), .d (.dK (encM ms)), .no, .no, .no, .d (.int (m : Nat)), .no, .no] _ _
              exact tg_tup rfl (tgs_cons (tg_name 8 nd (hp := pr B1 hB1 _)) (tgs_cons (tg_name 9 nd (hp := pr B1 hB1 _)) tgs_nil)) rfl
            · obtain ⟨_, _, _, _, _, rfl⟩ := hX'
              have q3 := mem_zipIdx_lt hjq
              have p2 : (1 : Int) * 2 ^ ((jq.2 : Int)).toNat = ((2 ^ jq.2 : Nat) : Int) := by
                rw [Int.toNat_natCast]
                push_cast
                rw [Int.one_mul]
              have p3 : 0 < 2 ^ jq.2 ∧ 2 ^ jq.2 ≤ 16 := ⟨Nat.pow_pos (by decide), Nat.le_trans (Nat.pow_le_pow_right (by decide) (show jq.2 ≤ 4 by omega)) (by decide)⟩
              refine ev_or (b1 := decide (jq.1.2 - jq.1.1 ≤ n)) (b2 := decide (m / 2 ^ jq.2 % 2 = 1)) (ev_cmp op_le (EV.sub (EV.ix (xs := [.int jq.1.1, .int jq.1.2]) (ev_var 9) ev_int (.tup _) rfl) (EV.ix (xs := [.int jq.1.1, .int jq.1.2]) (ev_var 9) ev_int (.tup _) rfl)) (ev_var 2) ro_cmpI) (fun _ => ev_one (EV.cast (ev_cmp op_eq (EV.mod (EV.intI (EV.fdiv (ev_var 7) (EV.shl ev_int (ev_var 8) ⟨by omega, by omega, by decide⟩) ⟨by rw [p2]; omega, by rw [p2]; omega⟩) T.fInt) ev_int (by decide)) ev_int ro_eqI) ?_ rfl)) fun _ => rfl
              rw [bit_int]
              exact congrArg (fun b => Tm.bl b) (decide_eq_decide.mpr ⟨fun z => by omega, fun z => by omega⟩)
        · rw [if_pos hk]
          exact bp_ret (EV.ixK (kvs := encM ms) (k := .inl (m : Int)) hu1 (ev_var 3) (ev_var 7) (.dat _) (get_enc jm)) ⟨.inl ⟨_, _, rfl⟩, rfl⟩
        · rw [if_neg (by rw [hk]; decide)]
          exact bp_nil (bp_nil (bp_end (turned_nx (.keep (.keep (.keep (.keep (.keep (.keep (.keep (.drop (.keep (.keep .nil)))))))))))))
      · intro o ho
        rw [loop_find] at ho
        cases e : (ms.map (·.1)).find? (okMask two n) with
        | none =>
          rw [e] at ho
          exact ho
        | some r =>
          rw [e] at ho
          exact ho.2
    · cases e : (ms.map (·.1)).find? (okMask two n) with
      | none => exact bp_ret ev_non ⟨rfl, fun i h => (nomatch h)⟩
      | some r => exact ⟨rfl, fun i h => (nomatch h)⟩
    · cases e : (ms.map (·.1)).find? (okMask two n) <;> rfl
end
end K74
/-! K74zh0: the least halves, plain. -/
namespace K74
open PySem PySem.Spec PyProof.Rows L2 DL
def Five.small (v : Five) : Prop := v.hol.length ≤ 5 ∧ v.sum.length ≤ 5 ∧ v.loo.length ≤ 3
def Five.kd (v : Five) (i : Nat) : List (Int × Int) := if i = 0 then v.hol else v.sum
def Five.its (v : Five) : List D := [.lst (v.hol.map encP), .lst (v.sum.map encP), .lst (v.loo.map .int), .int v.low, .int v.high]
theorem at_kd (v : Five) {i : Nat} (h : i < 2) : atI v.its (0 + (i : Int)) = some (.lst ((v.kd i).map encP)) := by
  rcases (show i = 0 ∨ i = 1 by omega) with rfl | rfl <;> rfl
theorem kd_len {v : Five} (h : v.small) (i : Nat) : (v.kd i).length ≤ 5 := by
  unfold Five.kd
  split
  · exact h.1
  · exact h.2.1
def bothF (u v : Five) (n : Int) : Option (Ix × Ix) := if endsNear u v n = true then (match matchedF u.hol v.hol n, matchedF u.sum v.sum n with
  | some a, some b => some (a, b)
  | _, _ => none) else none
def encB : Option (Ix × Ix) → D
  | none => .non
  | some (a, b) => .lst [.lst (a.map encN), .lst (b.map encN)]
def markP (p q : Int × Int) : List Int := [2 * iabs (p.1 - q.1), 2 * iabs (p.2 - q.2)]
def markR (qs : List (Int × Int)) (m : List Int) (p : Int × Int) : List Int := qs.foldl (fun m q => m ++ markP p q) m
def lifeI (p : Int × Int) : Int := p.2 - p.1
def kindM (ps qs : List (Int × Int)) (ms : List Int) : List Int := ps.foldl (markR qs) (ms ++ ps.map lifeI ++ qs.map lifeI)
def mark0 (u v : Five) : List Int := [0] ++ ((ends u).zip (ends v)).map fun p => 2 * iabs (p.1 - p.2)
def marksF (u v : Five) : List Int := (List.range 2).foldl (fun ms i => kindM (u.kd i) (v.kd i) ms) (mark0 u v)
def umsF (u v : Five) : List Int := usort (marksF u v)
def srchS (u v : Five) (ums : List Int) (s : Nat × Nat) : Fl (Nat × Nat) Unit := if s.1 ≥ s.2 then .bk s else if bothF u v (ums.getD ((s.1 + s.2) / 2) 0) = none then .nx ((s.1 + s.2) / 2 + 1, s.2) else .nx (s.1, (s.1 + s.2) / 2)
def srchF (u v : Five) (ums : List Int) : Nat × Nat := match loopF (fun s (_ : Nat) => srchS u v ums s) (List.range 20) (0, ums.length - 1) with
  | .nx s => s
  | _ => (0, 0)
def nearnessF (u v : Five) : Int := (umsF u v).getD (srchF u v (umsF u v)).1 0
theorem markR_len (qs : List (Int × Int)) (p : Int × Int) : ∀ m : List Int, (markR qs m p).length = m.length + 2 * qs.length := by
  induction qs with
  | nil => intro m; rfl
  | cons q qs ih =>
    intro m
    have := ih (m ++ markP p q)
    unfold markR at this ⊢
    rw [List.foldl_cons, this, List.length_append, List.length_cons]
    show m.length + 2 + _ = _
    omega
theorem markRs_len (qs : List (Int × Int)) : ∀ (ps : List (Int × Int)) (m : List Int), (ps.foldl (markR qs) m).length = m.length + ps.length * (2 * qs.length)
  | [], m => by simp
  | p :: ps, m => by
    rw [List.foldl_cons, markRs_len qs ps, markR_len, List.length_cons, Nat.add_mul, Nat.one_mul]
    omega
theorem kindM_len (ps qs : List (Int × Int)) (ms : List Int) : (kindM ps qs ms).length = ms.length + ps.length + qs.length + ps.length * (2 * qs.length) := by
  unfold kindM
  rw [markRs_len, List.length_append, List.length_append, List.length_map, List.length_map]
theorem kindM_le {u v : Five} (hu : u.small) (hv : v.small) (i : Nat) (ms : List Int) : (kindM (u.kd i) (v.kd i) ms).length ≤ ms.length + 60 := by
  rw [kindM_len]
  have h1 := kd_len hu i
  have h2 := kd_len hv i
  have : (u.kd i).length * (2 * (v.kd i).length) ≤ 5 * (2 * 5) := Nat.mul_le_mul h1 (by omega)
  omega
theorem mark0_len {u v : Five} (hu : u.small) : (mark0 u v).length ≤ 6 := by
  have := hu.2.2
  simp [mark0, ends]
  omega
theorem marksF_len {u v : Five} (hu : u.small) (hv : v.small) : (marksF u v).length ≤ 126 := by
  have h0 := mark0_len (v := v) hu
  have h1 := kindM_le hu hv 0 (mark0 u v)
  have h2 := kindM_le hu hv 1 (kindM (u.kd 0) (v.kd 0) (mark0 u v))
  show (kindM (u.kd 1) (v.kd 1) (kindM (u.kd 0) (v.kd 0) (mark0 u v))).length ≤ 126
  omega
theorem uins_len (x : Int) : ∀ ys : List Int, (uins x ys).length ≤ ys.length + 1
  | [] => by simp [uins]
  | y :: ys => by
    unfold uins
    split
    · simp
    · split
      · simp
      · have := uins_len x ys
        simp
        omega
theorem usort_len : ∀ ns : List Int, (usort ns).length ≤ ns.length
  | [] => by simp [usort]
  | n :: ns => by
    have h1 := uins_len n (usort ns)
    have h2 := usort_len ns
    simp [usort]
    omega
theorem mem_kindM {ps qs : List (Int × Int)} {ms : List Int} {x : Int} : x ∈ kindM ps qs ms ↔ x ∈ ms ∨ (∃ p ∈ ps, x = lifeI p) ∨ (∃ q ∈ qs, x = lifeI q) ∨ ∃ p ∈ ps, ∃ q ∈ qs, x ∈ markP p q := by
  have r : ∀ (qs : List (Int × Int)) (p : Int × Int) (m : List Int), x ∈ markR qs m p ↔ x ∈ m ∨ ∃ q ∈ qs, x ∈ markP p q := fun qs p => by
    induction qs with
    | nil => intro m; simp [markR]
    | cons q qs ih =>
      intro m
      have := ih (m ++ markP p q)
      unfold markR at this ⊢
      rw [List.foldl_cons, this, List.mem_append]
      simp only [List.mem_cons, exists_eq_or_imp]
      exact or_assoc
  have rs : ∀ (ps : List (Int × Int)) (m : List Int), x ∈ ps.foldl (markR qs) m ↔ x ∈ m ∨ ∃ p ∈ ps, ∃ q ∈ qs, x ∈ markP p q := fun ps => by
    induction ps with
    | nil => intro m; simp
    | cons p ps ih =>
      intro m
      rw [List.foldl_cons, ih, r]
      simp only [List.mem_cons, exists_eq_or_imp]
      exact or_assoc
  unfold kindM
  rw [rs, List.mem_append, List.mem_append, List.mem_map, List.mem_map]
  constructor
  · rintro (((h | ⟨p, h, rfl⟩) | ⟨q, h, rfl⟩) | h)
    · exact .inl h
    · exact .inr (.inl ⟨p, h, rfl⟩)
    · exact .inr (.inr (.inl ⟨q, h, rfl⟩))
    · exact .inr (.inr (.inr h))
  · rintro (h | ⟨p, h, rfl⟩ | ⟨q, h, rfl⟩ | h)
    · exact .inl (.inl (.inl h))
    · exact .inl (.inl (.inr ⟨p, h, rfl⟩))
    · exact .inl (.inr ⟨q, h, rfl⟩)
    · exact .inr h
theorem zero_mem (u v : Five) : (0 : Int) ∈ umsF u v := by
  unfold umsF
  rw [mem_usort]
  show (0 : Int) ∈ kindM (u.kd 1) (v.kd 1) (kindM (u.kd 0) (v.kd 0) (mark0 u v))
  rw [mem_kindM, mem_kindM]
  exact .inl (.inl (by simp [mark0]))
theorem ums_pos (u v : Five) : 0 < (umsF u v).length := List.length_pos_of_mem (zero_mem u v)
/-- the search's invariant -/
theorem srch_end {u v : Five} {ums : List Int} {α : Type} : ∀ (as : List α) (s : Nat × Nat), s.1 ≤ s.2 → s.2 - s.1 < 2 ^ as.length → s.2 < ums.length → (s.2 = ums.length - 1 ∨ bothF u v (ums.getD s.2 0) ≠ none) →
    ∃ s', loopF (fun s (_ : α) => srchS u v ums s) as s = .nx s' ∧ s'.1 = s'.2 ∧ s'.2 < ums.length ∧ (s'.2 = ums.length - 1 ∨ bothF u v (ums.getD s'.2 0) ≠ none)
  | [], s, h1, h2, h3, h4 => ⟨s, rfl, by simp at h2; omega, h3, h4⟩
  | a :: as, s, h1, h2, h3, h4 => by
    rw [List.length_cons, Nat.pow_succ] at h2
    unfold loopF
    by_cases c : s.1 ≥ s.2
    · refine ⟨s, ?_, by omega, h3, h4⟩
      unfold srchS
      rw [if_pos c]
    · by_cases d : bothF u v (ums.getD ((s.1 + s.2) / 2) 0) = none
      · have e : srchS u v ums s = .nx ((s.1 + s.2) / 2 + 1, s.2) := by
          unfold srchS
          rw [if_neg c, if_pos d]
        rw [e]
        exact srch_end as _ (by show _ + 1 ≤ s.2; omega) (by show s.2 - (_ + 1) < _; omega) h3 h4
      · have e : srchS u v ums s = .nx (s.1, (s.1 + s.2) / 2) := by
          unfold srchS
          rw [if_neg c, if_neg d]
        rw [e]
        exact srch_end as _ (by show s.1 ≤ _; omega) (by show _ / 2 - s.1 < _; omega) (by show _ / 2 < _; omega) (.inr d)
theorem srchF_ok {u v : Five} (hu : u.small) (hv : v.small) : (srchF u v (umsF u v)).1 < (umsF u v).length ∧ ((srchF u v (umsF u v)).1 = (umsF u v).length - 1 ∨ bothF u v (nearnessF u v) ≠ none) := by
  have hp := ums_pos u v
  have hl : (umsF u v).length ≤ 126 := Nat.le_trans (usort_len _) (marksF_len hu hv)
  obtain ⟨s, h1, h2, h3, h4⟩ := srch_end (u := u) (v := v) (ums := umsF u v) (List.range 20) (0, (umsF u v).length - 1) (Nat.zero_le _) (by rw [List.length_range]; show _ - 1 - 0 < _; omega) (by show _ - 1 < _; omega) (.inl rfl)
  have e : srchF u v (umsF u v) = s := by
    unfold srchF
    rw [h1]
  unfold nearnessF
  rw [e, h2]
  exact ⟨h3, h4⟩
end K74
/-! K74zh: _law_both_matched. -/
namespace K74
open PySem PySem.Spec PyProof.Rows L2 DL
def R_both : List OD → Res → Prop := fun ods res => ∃ (u v : Five) (n : Int), ods = [.dat (enc5 u), .dat (enc5 v), .dat (.int n)] ∧ u.small ∧ v.small ∧ res = okN (encB (bothF u v n))
section
variable {P : Program} {w : World} {K : PySem.W.Frag} {mg : Str → Option Value} {base : Heap} {ca : CA}
theorem ok_both (T : Txt w K mg ca) (h0 : Has K mg "_law_near" (top 51)) (h1 : Has K mg "_law_pair_near" (top 52)) (h2 : Has K mg "_law_matched" (top 53)) (h3 : Has K mg "_law_ends_near" (top 54)) (h : Has K mg "_law_both_matched" (top 55)) : CallI P w K mg base ca 4 "_law_both_matched" 3 none R_both := by
  have nd : (["a", "b", "halves", "one", "two"] : List Str).Nodup := by decide +kernel
  refine callI (N := ["a", "b", "halves", "one", "two"]) (ps := ["a", "b", "halves"]) h (fun kV doc pm an cdv ct us hl => by match us, hl with | [_, _, _], _ => rfl) ⟨rfl, rfl, rfl, nd, rfl, by decide +kernel, by decide +kernel⟩ fun X B ods res ⟨f, cdv, A, outer, s', H, E, hX⟩ hr hpr hR hl => ?_
  subst hX
  obtain ⟨u, v, n, rfl, hu, hv, rfl⟩ := hR
  have pr : ∀ i, B.pr i = false := fun i => by rw [hpr]; rfl
  have ho : ∀ o : Option Ix, encO o ≠ .any := fun o => by cases o <;> exact fun z => by cases z
  refine bp_if (k := !endsNear u v n) (et_not (et_val (ev_fnD (ok_ends T h0 h3) hr (ead3 (ev_var 0) (ev_var 1) (ev_var 2)) ⟨u, v, n, rfl, by have := hu.2.2; omega, by have := hv.2.2; omega, rfl⟩))) (fun hk => ?_) fun hk => bp_nil ?_
  · have e : ¬ endsNear u v n = true := fun z => by rw [z] at hk; cases hk
    unfold bothF
    rw [if_neg e]
    exact bp_ret ev_non ⟨rfl, fun i h => (nomatch h)⟩
  · have e : endsNear u v n = true := by simpa using hk
    unfold bothF
    rw [if_pos e]
    refine bp_next (b1_par2 (od1 := .dat (encO (matchedF u.hol v.hol n))) (od2 := .dat (encO (matchedF u.sum v.sum n))) 3 4 rfl nd (ea_cons (ev_fnD (xs := [.lst (u.hol.map encP), .lst (v.hol.map encP), .int n]) (ok_matched T h0 h1 h2) hr (ead3 (EV.ix (xs := u.its) (ev_var 0) ev_int (.lst _) rfl) (EV.ix (xs := v.its) (ev_var 1) ev_int (.lst _) rfl) (ev_var 2)) ⟨u.hol, v.hol, n, rfl, hu.1, hv.1, rfl⟩) (ea1 (ev_fnD (xs := [.lst (u.sum.map encP), .lst (v.sum.map encP), .int n]) (ok_matched T h0 h1 h2) hr (ead3 (EV.ix (xs := u.its) (ev_var 0) ev_int (.lst _) rfl) (EV.ix (xs := v.its) (ev_var 1) ev_int (.lst _) rfl) (ev_var 2)) ⟨u.sum, v.sum, n, rfl, hu.2.1, hv.2.1, rfl⟩))) (hpi := pr _) (hpj := pr _)) ?_
    generalize matchedF u.hol v.hol n = m1
    generalize matchedF u.sum v.sum n = m2
    refine bp_if (EW.pt (ew_or (b1 := isNonD (encO m1)) (b2 := isNonD (encO m2)) (et_cmp op_isN (ev_var 3) ev_non (ro_isN (ho m1))) (fun _ => ew_or1 (et_cmp op_isN (ev_var 4) ev_non (ro_isN (ho m2)))) fun _ => rfl)) (fun hk => ?_) fun hk => bp_nil ?_
    · cases m1 with
      | none => exact bp_ret ev_non ⟨rfl, fun i h => (nomatch h)⟩
      | some x =>
        cases m2 with
        | none => exact bp_ret ev_non ⟨rfl, fun i h => (nomatch h)⟩
        | some y => cases hk
    · cases m1 with
      | none => cases hk
      | some x =>
        cases m2 with
        | none => cases hk
        | some y => exact bp_ret (EV.frz (ev_lstE (ead2 (ev_var 3) (ev_var 4))) (frz_l _)) ⟨rfl, fun i h => (nomatch h)⟩
end
end K74
/-! K74zi: _law_nearness. -/
namespace K74
open PySem PySem.Spec PyProof.Rows L2 DL
def R_nearness : List OD → Res → Prop := fun ods res => ∃ u v : Five, ods = [.dat (enc5 u), .dat (enc5 v)] ∧ u.small ∧ v.small ∧ res = okN (.int (nearnessF u v))
section
variable {P : Program} {w : World} {K : PySem.W.Frag} {mg : Str → Option Value} {base : Heap} {ca : CA}
theorem ok_nearness (T : Txt w K mg ca) (h0 : Has K mg "_law_near" (top 51)) (h1 : Has K mg "_law_pair_near" (top 52)) (h2 : Has K mg "_law_matched" (top 53)) (h3 : Has K mg "_law_ends_near" (top 54)) (h4 : Has K mg "_law_both_matched" (top 55)) (h : Has K mg "_law_nearness" (top 56)) : CallI P w K mg base ca 5 "_law_nearness" 2 none R_nearness := by
  have nd : (["a", "b", "marks", "kind", "x", "y", "p", "q", "under", "over", "k", "middle"] : List Str).Nodup := by decide +kernel
  refine callI (N := ["a", "b", "marks", "kind", "x", "y", "p", "q", "under", "over", "k", "middle"]) (ps := ["a", "b"]) h (fun kV doc pm an cdv ct us hl => by match us, hl with | [_, _], _ => rfl) ⟨rfl, rfl, rfl, nd, rfl, by decide +kernel, by decide +kernel⟩ fun X B ods res ⟨f, cdv, A, outer, s', H, E, hX⟩ hr hpr hR hl => ?_
  subst hX
  obtain ⟨u, v, rfl, hu, hv, rfl⟩ := hR
  have pr : ∀ i, B.pr i = false := fun i => by rw [hpr]; rfl
  have zl : ((ends u).zip (ends v)).length ≤ 5 := by
    rw [List.length_zip]
    have := hu.2.2
    simp [ends]
    omega
  -- the first marks
  refine bp_next (b1_set (od := OD.l ((mark0 u v).map .int)) (ds1 := [.d (enc5 u), .d (enc5 v), .no, .no, .no, .no, .no, .no, .no, .no, .no, .no]) 2 (EV.cast (o := .v (OD.l ([.int 0] ++ ((ends u).zip (ends v)).map fun p => D.int (2 * iabs (p.1 - p.2))))) (ds1 := [.d (enc5 u), .d (enc5 v), .no, .no, .no, .no, .no, .no, .no, .no, .no, .no]) (EV.cat (xs := [.int 0]) (ys := ((ends u).zip (ends v)).map fun p => D.int (2 * iabs (p.1 - p.2))) (ds1 := [.d (enc5 u), .d (enc5 v), .no, .no, .no, .no, .no, .no, .no, .no, .no, .no]) (ev_lstE (ead1 ev_int)) (ev_lc (own := [("x", 4), ("y", 5)]) (ds1 := [.d (enc5 u), .d (enc5 v), .no, .no, .no, .no, .no, .no, .no, .no, .no, .no]) (xs := ((ends u).zip (ends v)).map encP) (out := ((ends u).zip (ends v)).map fun p => D.int (2 * iabs (p.1 - p.2))) rfl nd ?_ (blkOk_by (by rfl)) ?_ (fun i _ => pr i) ?_ (by rw [List.length_map]; omega)) (.own _) (.own _) (by rw [List.length_map]; show 1 + _ ≤ _; omega)) (by unfold mark0; rw [List.map_append, List.map_map]; rfl) rfl) nd (hp := pr _)) ?_
  · rw [← zip_ends]
    refine iv_zip (ds1 := [.d (enc5 u), .d (enc5 v), .no, .no, .no, .no, .no, .no, .no, .no, .no, .no]) ?_ ?_ T.fZip
    · exact EV.frz (ev_ends (u := u) (ev_var 0) (ev_var 0) (by have := hu.2.2; omega)) (frz_l _)
    · exact EV.frz (ev_ends (u := v) (ev_var 1) (ev_var 1) (by have := hv.2.2; omega)) (frz_l _)
  · exact fun i hi od => by simp at hi; rcases hi with rfl | rfl <;> exact fun z => by cases z
  · refine lc_all encP (fun p => D.int (2 * iabs (p.1 - p.2))) ((ends u).zip (ends v)) fun p hp => ⟨[.d (enc5 u), .d (enc5 v), .no, .no, .d (.int p.1), .d (.int p.2), .no, .no, .no, .no, .no, .no], [4, 5], fun X' hX' => ?_, fun i hi => hi, fun X' hX' => ?_, rfl⟩
    · obtain ⟨_, _, _, _, _, rfl⟩ := hX'
      exact tg_tup rfl (tgs_cons (tg_name 4 nd (hp := pr _)) (tgs_cons (tg_name 5 nd (hp := pr _)) tgs_nil)) rfl
    · obtain ⟨_, _, _, _, _, rfl⟩ := hX'
      exact EV.mul ev_int (EV.abs (EV.sub (ev_var 4) (ev_var 5)) T.fAbs) (.inl (by decide))
  -- both kinds
  refine bp_for (ds1 := [.d (enc5 u), .d (enc5 v), .v (OD.l ((mark0 u v).map .int)), .no, .no, .no, .no, .no, .no, .no, .no, .no]) (passes_of rfl) rfl (iv_range1 ev_int T.fRange ⟨by decide, by decide⟩) ?_
  refine (lpp_loop (σ := List Int) (ρ := Unit) (fun ms => [.d (enc5 u), .d (enc5 v), .v (OD.l (ms.map .int)), .no, .no, .no, .no, .no, .no, .no, .no, .no]) (fun i : Nat => D.int (0 + (i : Nat))) (fun ms i => .nx (kindM (u.kd i) (v.kd i) ms)) (fun ms as => ms.length + 60 * as.length ≤ 126 ∧ ∀ i ∈ as, i < 2) (fun _ _ => False) (fun ms i as hI => ?_) (List.range 2) (mark0 u v) ⟨by have := mark0_len (v := v) hu; simp; omega, fun i hi => List.mem_range.mp hi⟩).imp ?_
  · obtain ⟨i1, i2⟩ := hI
    have i1 : ms.length + 60 * (as.length + 1) ≤ 126 := by simpa using i1
    have i3 : i < 2 := i2 i (List.mem_cons_self ..)
    have lu := kd_len hu i
    have lv := kd_len hv i
    have au := at_kd u i3
    have av := at_kd v i3
    refine ⟨_, _, tg_name 3 nd (hp := pr _), ?_, fun s' e => ?_⟩
    · let S1 : List Int → List Sl := fun ms => [.d (enc5 u), .d (enc5 v), .v (OD.l (ms.map .int)), .d (.int (0 + (i : Nat))), .no, .no, .no, .no, .no, .no, .no, .no]
      refine bp_next (b1_set (od := OD.l ((ms ++ (u.kd i).map lifeI ++ (v.kd i).map lifeI).map .int)) (ds1 := [.d (enc5 u), .d (enc5 v), .v (OD.l (ms.map .int)), .d (.int (0 + (i : Nat))), .no, .no, .no, .no, .no, .no, .no, .no]) (ds2 := [.d (enc5 u), .d (enc5 v), .v (OD.l ((ms ++ (u.kd i).map lifeI ++ (v.kd i).map lifeI).map .int)), .d (.int (0 + (i : Nat))), .no, .no, .no, .no, .no, .no, .no, .no]) 2 (EV.cast (o := .v (OD.l ((ms.map .int ++ (u.kd i).map fun p => D.int (lifeI p)) ++ (v.kd i).map fun p => D.int (lifeI p)))) (ds1 := [.d (enc5 u), .d (enc5 v), .v (OD.l (ms.map .int)), .d (.int (0 + (i : Nat))), .no, .no, .no, .no, .no, .no, .no, .no]) (EV.cat (xs := ms.map .int ++ (u.kd i).map fun p => D.int (lifeI p)) (ys := (v.kd i).map fun p => D.int (lifeI p)) (ds1 := [.d (enc5 u), .d (enc5 v), .v (OD.l (ms.map .int)), .d (.int (0 + (i : Nat))), .no, .no, .no, .no, .no, .no, .no, .no])
        (EV.cat (xs := ms.map .int) (ys := (u.kd i).map fun p => D.int (lifeI p)) (ds1 := [.d (enc5 u), .d (enc5 v), .v (OD.l (ms.map .int)), .d (.int (0 + (i : Nat))), .no, .no, .no, .no, .no, .no, .no, .no]) (ev_al 2) (ev_lc (own := [("x", 4), ("y", 5)]) (ds1 := [.d (enc5 u), .d (enc5 v), .v (OD.l (ms.map .int)), .d (.int (0 + (i : Nat))), .no, .no, .no, .no, .no, .no, .no, .no]) (xs := (u.kd i).map encP) (out := (u.kd i).map fun p => D.int (lifeI p)) rfl nd (iv_list (EV.ix (xs := u.its) (ev_var 0) (ev_var 3) (.lst _) au)) (blkOk_by (by rfl)) ?_ (fun i _ => pr i) ?_ (by rw [List.length_map]; omega)) (.al rfl (.own _)) (.own _) (by rw [List.length_map, List.length_map]; omega))
        (ev_lc (own := [("x", 4), ("y", 5)]) (ds1 := [.d (enc5 u), .d (enc5 v), .v (OD.l (ms.map .int)), .d (.int (0 + (i : Nat))), .no, .no, .no, .no, .no, .no, .no, .no]) (xs := (v.kd i).map encP) (out := (v.kd i).map fun p => D.int (lifeI p)) rfl nd (iv_list (EV.ix (xs := v.its) (ev_var 1) (ev_var 3) (.lst _) av)) (blkOk_by (by rfl)) ?_ (fun i _ => pr i) ?_ (by rw [List.length_map]; omega)) (.own _) (.own _) (by rw [List.length_append, List.length_map, List.length_map, List.length_map]; omega)) (by rw [List.map_append, List.map_append, List.map_map, List.map_map]; rfl) rfl) nd (hp := pr _)) ?_
      · exact fun i hi od => by simp at hi; rcases hi with rfl | rfl <;> exact fun z => by cases z
      · refine lc_all encP (fun p => D.int (lifeI p)) (u.kd i) fun p hp => ⟨[.d (enc5 u), .d (enc5 v), .v (OD.l (ms.map .int)), .d (.int (0 + (i : Nat))), .d (.int p.1), .d (.int p.2), .no, .no, .no, .no, .no, .no], [4, 5], fun X' hX' => ?_, fun i hi => hi, fun X' hX' => ?_, rfl⟩
        · obtain ⟨_, _, _, _, _, rfl⟩ := hX'
          exact tg_tup rfl (tgs_cons (tg_name 4 nd (hp := pr _)) (tgs_cons (tg_name 5 nd (hp := pr _)) tgs_nil)) rfl
        · obtain ⟨_, _, _, _, _, rfl⟩ := hX'
          exact EV.sub (ev_var 5) (ev_var 4)
      · exact fun i hi od => by simp at hi; rcases hi with rfl | rfl <;> exact fun z => by cases z
      · refine lc_all encP (fun p => D.int (lifeI p)) (v.kd i) fun p hp => ⟨[.d (enc5 u), .d (enc5 v), .v (OD.l (ms.map .int)), .d (.int (0 + (i : Nat))), .d (.int p.1), .d (.int p.2), .no, .no, .no, .no, .no, .no], [4, 5], fun X' hX' => ?_, fun i hi => hi, fun X' hX' => ?_, rfl⟩
        · obtain ⟨_, _, _, _, _, rfl⟩ := hX'
          exact tg_tup rfl (tgs_cons (tg_name 4 nd (hp := pr _)) (tgs_cons (tg_name 5 nd (hp := pr _)) tgs_nil)) rfl
        · obtain ⟨_, _, _, _, _, rfl⟩ := hX'
          exact EV.sub (ev_var 5) (ev_var 4)
      have l1 : (ms ++ (u.kd i).map lifeI ++ (v.kd i).map lifeI).length ≤ 136 := by
        rw [List.length_append, List.length_append, List.length_map, List.length_map]
        omega
      unfold kindM
      generalize ms ++ (u.kd i).map lifeI ++ (v.kd i).map lifeI = ms1 at *
      generalize u.kd i = ps at *
      generalize v.kd i = qs at *
      refine bp_for (ds1 := [.d (enc5 u), .d (enc5 v), .v (OD.l (ms1.map .int)), .d (.int (0 + (i : Nat))), .no, .no, .no, .no, .no, .no, .no, .no]) (passes_of rfl) rfl (iv_list (EV.ix (xs := u.its) (ev_var 0) (ev_var 3) (.lst _) au)) ?_
      refine (lpp_loop (σ := List Int) (ρ := Unit) (fun ms => [.d (enc5 u), .d (enc5 v), .v (OD.l (ms.map .int)), .d (.int (0 + (i : Nat))), .no, .no, .no, .no, .no, .no, .no, .no]) encP (fun m p => .nx (markR qs m p)) (fun m as => m.length + 10 * as.length ≤ 1000) (fun _ _ => False) (fun m p as hI => ?_) ps ms1 (by omega)).imp ?_
      · have hI : m.length + 10 * (as.length + 1) ≤ 1000 := by simpa using hI
        refine ⟨_, _, tg_tup rfl (tgs_cons (tg_name 4 nd (hp := pr _)) (tgs_cons (tg_name 5 nd (hp := pr _)) tgs_nil)) rfl, ?_, fun s' e => ?_⟩
        · let S2 : List Int → List Sl := fun ms => [.d (enc5 u), .d (enc5 v), .v (OD.l (ms.map .int)), .d (.int (0 + (i : Nat))), .d (.int p.1), .d (.int p.2), .no, .no, .no, .no, .no, .no]
          refine bp_for (ds1 := [.d (enc5 u), .d (enc5 v), .v (OD.l (m.map .int)), .d (.int (0 + (i : Nat))), .d (.int p.1), .d (.int p.2), .no, .no, .no, .no, .no, .no]) (passes_of rfl) rfl (iv_list (EV.ix (xs := v.its) (ev_var 1) (ev_var 3) (.lst _) av)) ?_
          refine (lpp_loop (σ := List Int) (ρ := Unit) (fun ms => [.d (enc5 u), .d (enc5 v), .v (OD.l (ms.map .int)), .d (.int (0 + (i : Nat))), .d (.int p.1), .d (.int p.2), .no, .no, .no, .no, .no, .no]) encP (fun m q => .nx (m ++ markP p q)) (fun m as => m.length + 2 * as.length ≤ 2000) (fun _ _ => False) (fun m q as hI => ?_) qs m (by omega)).imp ?_
          · have hI : m.length + 2 * (as.length + 1) ≤ 2000 := by simpa using hI
            refine ⟨_, _, tg_tup rfl (tgs_cons (tg_name 6 nd (hp := pr _)) (tgs_cons (tg_name 7 nd (hp := pr _)) tgs_nil)) rfl, ?_, fun s' e => ?_⟩
            · let S3 : List Int → List Sl := fun ms => [.d (enc5 u), .d (enc5 v), .v (OD.l (ms.map .int)), .d (.int (0 + (i : Nat))), .d (.int p.1), .d (.int p.2), .d (.int q.1), .d (.int q.2), .no, .no, .no, .no]
              refine bp_next (b1_set (od := OD.l ((m ++ markP p q).map .int)) (ds1 := [.d (enc5 u), .d (enc5 v), .v (OD.l (m.map .int)), .d (.int (0 + (i : Nat))), .d (.int p.1), .d (.int p.2), .d (.int q.1), .d (.int q.2), .no, .no, .no, .no]) (ds2 := [.d (enc5 u), .d (enc5 v), .v (OD.l ((m ++ markP p q).map .int)), .d (.int (0 + (i : Nat))), .d (.int p.1), .d (.int p.2), .d (.int q.1), .d (.int q.2), .no, .no, .no, .no]) 2 (EV.cast (o := .v (OD.l (m.map .int ++ (markP p q).map .int))) (ds1 := [.d (enc5 u), .d (enc5 v), .v (OD.l (m.map .int)), .d (.int (0 + (i : Nat))), .d (.int p.1), .d (.int p.2), .d (.int q.1), .d (.int q.2), .no, .no, .no, .no]) (EV.cat (xs := m.map .int) (ys := (markP p q).map .int) (ds1 := [.d (enc5 u), .d (enc5 v), .v (OD.l (m.map .int)), .d (.int (0 + (i : Nat))), .d (.int p.1), .d (.int p.2), .d (.int q.1), .d (.int q.2), .no, .no, .no, .no]) (ev_al 2) (ev_lstE (xs := (markP p q).map .int) (ead2 (EV.mul ev_int (EV.abs (EV.sub (ev_var 4) (ev_var 6)) T.fAbs) (.inl (by decide))) (EV.mul ev_int (EV.abs (EV.sub (ev_var 5) (ev_var 7)) T.fAbs) (.inl (by decide)))) (by simp [markP])) (.al rfl (.own _)) (.own _) (by rw [List.length_map]; show _ + 2 ≤ _; omega)) (by rw [List.map_append]) rfl) nd (hp := pr _)) ?_
              exact bp_nil (bp_end (turned_nx (.keep (.keep (.keep (.keep (.keep (.keep (.drop (.drop (.keep (.keep (.keep (.keep .nil)))))))))))))) 
            · cases e
              rw [List.length_append]
              show _ + 2 + _ ≤ _
              omega
          · intro o ho
            rw [loopF_nx] at ho
            subst ho
            exact bp_nil (bp_end (turned_nx (.keep (.keep (.keep (.keep (.drop (.drop (.keep (.keep (.keep (.keep (.keep (.keep .nil)))))))))))))) 
        · cases e
          rw [markR_len]
          omega
      · intro o ho
        rw [loopF_nx] at ho
        subst ho
        exact bp_nil (bp_end (turned_nx (.keep (.keep (.keep (.drop (.keep (.keep (.keep (.keep (.keep (.keep (.keep (.keep .nil))))))))))))))
    · cases e
      have := kindM_le hu hv i ms
      exact ⟨by omega, fun j hj => i2 j (List.mem_cons_of_mem _ hj)⟩
  intro o ho
  rw [loopF_nx] at ho
  have em : (List.range 2).foldl (fun ms i => kindM (u.kd i) (v.kd i) ms) (mark0 u v) = marksF u v := rfl
  rw [em] at ho
  subst ho
  have ml := marksF_len hu hv
  have hs := srchF_ok hu hv
  have hp := ums_pos u v
  refine bp_next (b1_set (od := OD.l ((umsF u v).map .int)) (ds1 := [.d (enc5 u), .d (enc5 v), .v (OD.l ((marksF u v).map .int)), .no, .no, .no, .no, .no, .no, .no, .no, .no]) (ds2 := [.d (enc5 u), .d (enc5 v), .v (OD.l ((umsF u v).map .int)), .no, .no, .no, .no, .no, .no, .no, .no, .no]) 2 (EV.sortedS (ns := marksF u v) (ds1 := [.d (enc5 u), .d (enc5 v), .v (OD.l ((marksF u v).map .int)), .no, .no, .no, .no, .no, .no, .no, .no, .no]) rfl T.cw (EV.setL rfl T.cw (ev_al 2) (.al rfl (.own _)) (by omega) T.fSet) (.own _) T.fSorted) nd (hp := pr _)) ?_
  unfold nearnessF
  generalize umsF u v = ums at *
  refine bp_next (b1_par2 (od1 := .dat (.int (0 : Nat))) (od2 := .dat (.int ((ums.length - 1 : Nat) : Int))) (ds2 := [.d (enc5 u), .d (enc5 v), .v (OD.l (ums.map .int)), .no, .no, .no, .no, .no, .d (.int ((((0, ums.length - 1) : Nat × Nat)).1 : Nat)), .d (.int ((((0, ums.length - 1) : Nat × Nat)).2 : Nat)), .no, .no]) 8 9 rfl nd (ea_cons ev_int (ea1 (EV.cast (EV.sub (EV.len (xs := ums.map .int) (ev_al 2) (.al rfl (.own _)) T.fLen) ev_int) (by rw [List.length_map]; exact congrArg (fun i => Tm.int i) (by omega)) rfl))) (hpi := pr _) (hpj := pr _)) ?_
  refine bp_for (ds1 := [.d (enc5 u), .d (enc5 v), .v (OD.l (ums.map .int)), .no, .no, .no, .no, .no, .d (.int ((((0, ums.length - 1) : Nat × Nat)).1 : Nat)), .d (.int ((((0, ums.length - 1) : Nat × Nat)).2 : Nat)), .no, .no]) (passes_of rfl) rfl (iv_range1 ev_int T.fRange ⟨by decide, by decide⟩) ?_
  refine (lpp_loop (σ := Nat × Nat) (ρ := Unit) (fun s => [.d (enc5 u), .d (enc5 v), .v (OD.l (ums.map .int)), .no, .no, .no, .no, .no, .d (.int ((s).1 : Nat)), .d (.int ((s).2 : Nat)), .no, .no]) (fun i : Nat => D.int (0 + (i : Nat))) (fun s _ => srchS u v ums s) (fun s as => s.1 ≤ s.2 ∧ s.2 < ums.length) (fun _ _ => False) (fun s i as hI => ?_) (List.range 20) (0, ums.length - 1) ⟨Nat.zero_le _, by show _ - 1 < _; omega⟩).imp ?_
  · obtain ⟨i1, i2⟩ := hI
    refine ⟨_, _, tg_name 10 nd (hp := pr _), ?_, fun s' e => ?_⟩
    · refine bp_if (k := decide ((s.1 : Int) ≥ (s.2 : Int))) (et_cmp op_ge (ev_var 8) (ev_var 9) ro_cmpI) (fun hk => ?_) fun hk => bp_nil ?_
      · have hk := of_decide_eq_true hk
        unfold srchS
        rw [if_pos (by omega)]
        exact bp_stop b1_break rfl ⟨_, rfl, .keep (.keep (.keep (.keep (.keep (.keep (.keep (.keep (.keep (.keep (.drop (.keep .nil)))))))))))⟩
      · have hk := of_decide_eq_false hk
        have hm : (s.1 + s.2) / 2 < ums.length := by omega
        unfold srchS
        rw [if_neg (by omega)]
        refine bp_next (b1_set (od := .dat (.int (((s.1 + s.2) / 2 : Nat) : Int))) 11 (EV.cast (EV.fdiv (EV.add (ev_var 8) (ev_var 9)) ev_int ⟨by decide, by decide⟩) (congrArg (fun i => Tm.int i) (by omega)) rfl) nd (hp := pr _)) ?_
        generalize hmm : (s.1 + s.2) / 2 = m at *
        refine bp_if (k := isNonD (encB (bothF u v (ums.getD m 0)))) (et_cmp op_isN (ev_fnD (xs := [enc5 u, enc5 v, .int (ums.getD m 0)]) (ok_both T h0 h1 h2 h3 h4) hr (ead3 (ev_var 0) (ev_var 1) (EV.ix (xs := ums.map .int) (ev_al 2) (ev_var 11) (.al rfl (.own _)) (atI_map D.int 0 hm))) ⟨u, v, ums.getD m 0, rfl, hu, hv, rfl⟩) ev_non (ro_isN (by cases bothF u v (ums.getD m 0) <;> exact fun z => by cases z))) (fun hk => ?_) fun hk => ?_
        · have e : bothF u v (ums.getD m 0) = none := by
            cases e : bothF u v (ums.getD m 0) with
            | none => rfl
            | some x => rw [e] at hk; cases hk
          rw [if_pos e]
          exact bp_next (b1_set (od := .dat (.int ((m + 1 : Nat) : Int))) 8 (EV.cast (o := .int ((m : Int) + 1)) (EV.add (ev_var 11) ev_int) (congrArg (fun i => Tm.int i) (by omega)) rfl) nd (hp := pr _)) (bp_nil (bp_nil (bp_end (turned_nx (.keep (.keep (.keep (.keep (.keep (.keep (.keep (.keep (.keep (.keep (.drop (.drop .nil)))))))))))))))) 
        · have e : ¬ bothF u v (ums.getD m 0) = none := fun z => by rw [z] at hk; cases hk
          rw [if_neg e]
          exact bp_next (b1_set (od := .dat (.int (m : Int))) 9 (ev_var 11) nd (hp := pr _)) (bp_nil (bp_nil (bp_end (turned_nx (.keep (.keep (.keep (.keep (.keep (.keep (.keep (.keep (.keep (.keep (.drop (.drop .nil))))))))))))))))
    · unfold srchS at e
      by_cases c : s.1 ≥ s.2
      · rw [if_pos c] at e
        cases e
      · rw [if_neg c] at e
        by_cases d : bothF u v (ums.getD ((s.1 + s.2) / 2) 0) = none
        · rw [if_pos d] at e
          cases e
          exact ⟨by show _ + 1 ≤ s.2; omega, i2⟩
        · rw [if_neg d] at e
          cases e
          exact ⟨by show s.1 ≤ _; omega, by show _ / 2 < _; omega⟩
  · intro o ho
    obtain ⟨hs1, hs2⟩ := hs
    unfold srchF at hs1 ⊢
    cases e : loopF (fun s (_ : Nat) => srchS u v ums s) (List.range 20) (0, ums.length - 1) with
    | nx s =>
      rw [e] at ho hs1
      subst ho
      exact bp_ret (EV.ix (xs := ums.map .int) (ev_al 2) (ev_var 8) (.al rfl (.own _)) (atI_map D.int 0 hs1)) ⟨rfl, fun i h => (nomatch h)⟩
    | bk s =>
      rw [e] at ho
      exact False.elim ho
    | rt r =>
      rw [e] at ho
      exact False.elim ho.2
end
end K74
/-! K74zj0: keys in dicts, ints in lists; the third condition, plain. -/
namespace DL
open PySem PySem.Spec PyProof.Rows L2
def rDIn : R2 := fun x y H Q => ∃ a o, y = .ref a ∧ DGet H a x o ∧ Q (.bl o.isSome) H
theorem op_inDict {X : Cx} (hu : X.A.units + 1 < cLine) : OpR X (compareOp .In) rDIn := by
  intro pins s σ H x y v u Q I rx ry h
  obtain ⟨a, o, rfl, g, q⟩ := h
  cases ry
  exact d_in hu I g rx fun s' I' => ⟨.bl o.isSome, H, I', rfl, q⟩
section
variable {X : Cx} {ca : CA} {B : Base} {ds : List Sl} {o : DL.Tm} {kvs : List (Key × D)} {k : Key}
theorem valV_some {ps : List (Key × V)} : (valV ps k).isSome = ps.any fun kv => decide (kv.1 = k) := by
  unfold valV
  rw [Option.isSome_map]
  induction ps with
  | nil => rfl
  | cons p ps ih =>
    rw [List.find?_cons, List.any_cons]
    cases h : decide (p.1 = k) with
    | true => rfl
    | false => simpa using ih
theorem ro_inK (hs : Dk ds o kvs) : RO X ca B rDIn (.d (keyD k)) o ds (.bl (kvs.any fun kv => decide (kv.1 = k))) ds := fun ts σ H x y Q h q => by
  obtain rfl := h.pop.key
  obtain ⟨F, Hu, ow, rfl, C⟩ := h
  obtain ⟨a, ps, rfl, rd, r⟩ := C.dk hs
  refine ⟨a, valV ps k, rfl, .inl ⟨ps, k, rd, rfl, rfl⟩, ?_⟩
  rw [valV_some, r.any fun z => decide (z = k)]
  exact q _ _ (C.rest.rest.give (.bl _))
theorem inV_ints {y : Int} : ∀ ns : List Int, inV (.int y) (ns.map V.int) = decide (y ∈ ns)
  | [] => by simp [inV]
  | s :: ss => by
    have ih := inV_ints (y := y) ss
    unfold inV at ih ⊢
    rw [List.map_cons, List.any_cons, ih]
    by_cases h : y = s
    · simp [eqV, h]
    · have h2 : ¬ s = y := fun e => h e.symm
      simp [eqV, h, h2]
variable {kk : Bool} {ns : List Int} {y : Int}
theorem ro_inI (hs : Seq ds o kk (ns.map .int)) : RO X ca B (rIn X.K false) (.int y) o ds (.bl (decide (y ∈ ns))) ds := fun ts σ H x z Q h q => by
  obtain rfl := h.pop.int
  obtain ⟨F, Hu, ow, rfl, C⟩ := h
  obtain ⟨a, vs, rfl, h, r⟩ := C.seq hs
  rw [reps_ints r] at h
  refine ⟨a, _, rfl, h, rfl, by simp [flatV], ?_⟩
  rw [if_neg (by decide), inV_ints]
  exact q _ _ (C.rest.rest.give (.bl _))
theorem ro_notInI (hs : Seq ds o kk (ns.map .int)) : RO X ca B (rIn X.K true) (.int y) o ds (.bl (!decide (y ∈ ns))) ds := fun ts σ H x z Q h q => by
  obtain rfl := h.pop.int
  obtain ⟨F, Hu, ow, rfl, C⟩ := h
  obtain ⟨a, vs, rfl, h, r⟩ := C.seq hs
  rw [reps_ints r] at h
  refine ⟨a, _, rfl, h, rfl, by simp [flatV], ?_⟩
  rw [if_pos rfl, inV_ints]
  exact q _ _ (C.rest.rest.give (.bl _))
end
end DL
namespace K74
open PySem PySem.Spec PyProof.Rows L2 DL
/-- a dict of ints, each True -/
def encT (s : List Int) : List (Key × D) := s.reverse.map fun i => (.inl i, .bl true)
theorem encT_any (s : List Int) (i : Int) : ((encT s).any fun kv => decide (kv.1 = (.inl i : Key))) = decide (i ∈ s) := by
  unfold encT
  rw [List.any_map, Bool.eq_iff_iff, List.any_eq_true, decide_eq_true_eq]
  constructor
  · rintro ⟨x, hx, e⟩
    have e' : (Sum.inl x : Key) = .inl i := of_decide_eq_true e
    cases e'
    exact List.mem_reverse.mp hx
  · exact fun h => ⟨i, List.mem_reverse.mpr h, decide_eq_true rfl⟩
theorem encT_put {s : List Int} {i : Int} (h : ¬ i ∈ s) : putD (encT s) (.inl i) (.bl true) = encT (i :: s) := by
  unfold putD
  rw [encT_any, if_neg (by simpa using h)]
  unfold encT
  rw [List.reverse_cons, List.map_append]
  rfl
theorem encT_len (s : List Int) : (encT s).length = s.length := by simp [encT]
theorem near_gap (p q : Int × Int) (n : Int) : (!nearP p q n) = decide (gap p q > n) := by
  unfold nearP near gap
  rw [Bool.eq_iff_iff, Bool.not_eq_true', Bool.and_eq_false_iff, decide_eq_false_iff_not, decide_eq_false_iff_not, decide_eq_true_eq]
  split <;> omega
theorem nearP_iff {p q : Int × Int} {n : Int} : nearP p q n = true ↔ gap p q ≤ n := by
  have := near_gap p q n
  cases h : nearP p q n with
  | true =>
    rw [h] at this
    have := of_decide_eq_false this.symm
    simp
    omega
  | false =>
    rw [h] at this
    have := of_decide_eq_true this.symm
    simp
    omega
theorem near_far (a b n : Int) : (!near a b n) = farB a b n := by
  unfold near farB
  rw [Bool.eq_iff_iff, Bool.not_eq_true', decide_eq_false_iff_not, decide_eq_true_eq]
  omega
def livOf (v : Five) : Liv := ⟨v.hol, v.sum, v.loo, v.low, v.high⟩
def looC (n : Int) (p : (Int × Int) × Nat) : Bool := farB p.1.1 p.1.2 n
def ff3 (u v : Five) (n : Int) : D := match ((u.loo.zip v.loo).zipIdx).find? (looC n) with
  | some p => .tup [.str "M3", .str "loose", .int (p.2 : Nat)]
  | none => if farB u.low v.low n = true then .tup [.str "M3", .str "lowest", .non] else if farB u.high v.high n = true then .tup [.str "M3", .str "highest", .non] else .non
theorem ff3_eq (u v : Five) (n : Int) : ff3 u v n = m3 (farBars (livOf u) (livOf v) n) := by
  unfold ff3 farBars livOf
  dsimp only
  have e : ∀ ps : List ((Int × Int) × Nat), farLoo n ps = (ps.filter (looC n)).map fun p => .tup [.str "loose", .int (p.2 : Nat)] := fun ps => rfl
  rw [e, ← List.head?_filter]
  cases ((u.loo.zip v.loo).zipIdx).filter (looC n) with
  | cons p ps => rfl
  | nil =>
    show (if _ then _ else _) = m3 ((_ ++ _ : List D))
    rw [List.map_nil, List.nil_append]
    by_cases h : farB u.low v.low n = true
    · rw [if_pos h, if_pos h]
      rfl
    · rw [if_neg h, if_neg h, List.nil_append]
      by_cases h : farB u.high v.high n = true
      · rw [if_pos h, if_pos h]
        rfl
      · rw [if_neg h, if_neg h]
        rfl
theorem zip_at {us vs : List Int} {p : (Int × Int) × Nat} (h : p ∈ (us.zip vs).zipIdx) : p.2 < us.length ∧ p.2 < vs.length ∧ us.getD p.2 0 = p.1.1 ∧ vs.getD p.2 0 = p.1.2 := by
  obtain ⟨z, i⟩ := p
  have h1 := List.mem_zipIdx_iff_getElem?.mp h
  obtain ⟨h2, h3⟩ := List.getElem?_zip_eq_some.mp h1
  have h4 := (List.getElem?_eq_some_iff.mp h2).1
  have h5 := (List.getElem?_eq_some_iff.mp h3).1
  refine ⟨h4, h5, ?_, ?_⟩
  · rw [List.getD_eq_getElem?_getD]
    show (us[i]?).getD 0 = _
    rw [h2]
    rfl
  · rw [List.getD_eq_getElem?_getD]
    show (vs[i]?).getD 0 = _
    rw [h3]
    rfl
end K74
/-! K74zj: _law_first_fault (printed by wip/gen/zj.py). -/
namespace K74
open PySem PySem.Spec PyProof.Rows L2 DL
def R_ffault : List OD → Res → Prop := fun ods res => ∃ (u v : Five) (n : Int) (hs ss : List (Nat × Nat)), ods = [.dat (enc5 u), .dat (enc5 v), .dat (.int n), .dat (.lst (hs.map encN)), .dat (.lst (ss.map encN))] ∧ u.loo.length = v.loo.length ∧ u.loo.length ≤ 1000 ∧
  okRows u.hol v.hol hs ∧ okRows u.sum v.sum ss ∧ res = okN (mfault (livOf u) (livOf v) n hs ss)
theorem range2 {α : Type} (a b : Nat × α) (h1 : a.1 = 0) (h2 : b.1 = 1) : rngD 0 (2 : Int).toNat = [a, b].map fun p => D.int (0 + (p.1 : Nat)) := by
  show [D.int (0 + ((0 : Nat) : Int)), D.int (0 + ((1 : Nat) : Int))] = [D.int (0 + (a.1 : Nat)), D.int (0 + (b.1 : Nat))]
  rw [h1, h2]
section
variable {P : Program} {w : World} {K : PySem.W.Frag} {mg : Str → Option Value} {base : Heap} {ca : CA}
theorem ok_ffault (T : Txt w K mg ca) (h0 : Has K mg "_law_near" (top 51)) (h1 : Has K mg "_law_pair_near" (top 52)) (h : Has K mg "_law_first_fault" (top 57)) : CallI P w K mg base ca 3 "_law_first_fault" 5 none R_ffault := by
  have nd : (["a", "b", "halves", "one", "two", "words", "kind", "row", "left", "right", "k", "i", "j", "whose", "used", "x"] : List Str).Nodup := by decide +kernel
  refine callI (N := ["a", "b", "halves", "one", "two", "words", "kind", "row", "left", "right", "k", "i", "j", "whose", "used", "x"]) (ps := ["a", "b", "halves", "one", "two"]) h (fun kV doc pm an cdv ct us hl => by match us, hl with | [_, _, _, _, _], _ => rfl) ⟨rfl, rfl, rfl, nd, rfl, by decide +kernel, by decide +kernel⟩ fun X B ods res ⟨f, cdv, A, outer, s', H, E, hX⟩ hr hpr hR hl => ?_
  have hu : X.A.units + 1 < cLine := by have := hr.un; omega
  subst hX
  obtain ⟨u, v, n, hs, ss, rfl, hlo, hl2, hrh, hrs, rfl⟩ := hR
  have pr : ∀ i, B.pr i = false := fun i => by rw [hpr]; rfl
  let kz : List (Nat × Kd) := [(0, ⟨"hollows", u.hol, v.hol, hs⟩), (1, ⟨"summits", u.sum, v.sum, ss⟩)]
  have hk1 : ∀ p ∈ kz, okRows p.2.ps p.2.qs p.2.rows ∧ atI u.its (0 + (p.1 : Int)) = some (.lst (p.2.ps.map encP)) ∧ atI v.its (0 + (p.1 : Int)) = some (.lst (p.2.qs.map encP)) ∧ atI [D.lst (hs.map encN), .lst (ss.map encN)] (0 + (p.1 : Int)) = some (.lst (p.2.rows.map encN)) ∧ atI [D.str "hollows", .str "summits"] (0 + (p.1 : Int)) = some (.str p.2.nm) := fun p hp => by
    rcases List.mem_cons.mp hp with e | hp
    · rw [e]
      exact ⟨hrh, rfl, rfl, rfl, rfl⟩
    · rw [List.mem_singleton.mp hp]
      exact ⟨hrs, rfl, rfl, rfl, rfl⟩
  have ek : rngD 0 (2 : Int).toNat = kz.map fun p => D.int (0 + (p.1 : Nat)) := rfl
  have e1 : kz.findSome? (fun p => m1 n p.2) = (kinds (livOf u) (livOf v) hs ss).findSome? (m1 n) := rfl
  have e2 : kz.findSome? (fun p => m2 n p.2) = (kinds (livOf u) (livOf v) hs ss).findSome? (m2 n) := rfl
  clear_value kz
  refine bp_next (b1_set 5 (EV.frz (ev_lstE (ead2 ev_str ev_str)) (frz_l _)) nd (hp := pr _)) ?_
  -- M1
  refine bp_for (ds1 := [.d (enc5 u), .d (enc5 v), .d (.int n), .d (.lst (hs.map encN)), .d (.lst (ss.map encN)), .d (.lst [.str "hollows", .str "summits"]), .no, .no, .no, .no, .no, .no, .no, .no, .no, .no]) (passes_of rfl) rfl (iv_range1 ev_int T.fRange ⟨by decide, by decide⟩) ?_
  rw [ek]
  refine (lpp_loop (σ := Unit) (ρ := D) (fun _ => [.d (enc5 u), .d (enc5 v), .d (.int n), .d (.lst (hs.map encN)), .d (.lst (ss.map encN)), .d (.lst [.str "hollows", .str "summits"]), .no, .no, .no, .no, .no, .no, .no, .no, .no, .no]) (fun p : Nat × Kd => D.int (0 + (p.1 : Nat))) (fun _ p => outF (m1 n p.2)) (fun _ as => ∀ p ∈ as, p ∈ kz) (fun r o => ∃ d, o = .rt (.dat r) d) (fun s p as hI => ?_) kz () (fun p hp => hp)).imp ?_
  · obtain ⟨q1, q2, q3, q4, q5⟩ := hk1 p (hI p (List.mem_cons_self ..))
    refine ⟨_, _, tg_name 6 nd (hp := pr _), ?_, fun _ _ j hj => hI j (List.mem_cons_of_mem _ hj)⟩
    refine bp_next (b1_par3 (od1 := .dat (.lst (p.2.rows.map encN))) (od2 := OD.k []) (od3 := OD.k []) (ds2 := [.d (enc5 u), .d (enc5 v), .d (.int n), .d (.lst (hs.map encN)), .d (.lst (ss.map encN)), .d (.lst [.str "hollows", .str "summits"]), .d (.int (0 + (p.1 : Nat))), .d (.lst (p.2.rows.map encN)), .v (OD.k (encT [])), .v (OD.k (encT [])), .no, .no, .no, .no, .no, .no]) 7 8 9 rfl nd (ea_cons (EV.ix (xs := [.lst (hs.map encN), .lst (ss.map encN)]) (ev_lstE (ead2 (ev_var 3) (ev_var 4))) (ev_var 6) (.own _) q4) (ea_cons (ev_dnew (t := 0)) (ea1 (ev_dnew (t := 0))))) (hpi := pr _) (hpj := pr _) (hpl := pr _)) ?_
    refine bp_for (ds1 := [.d (enc5 u), .d (enc5 v), .d (.int n), .d (.lst (hs.map encN)), .d (.lst (ss.map encN)), .d (.lst [.str "hollows", .str "summits"]), .d (.int (0 + (p.1 : Nat))), .d (.lst (p.2.rows.map encN)), .v (OD.k (encT [])), .v (OD.k (encT [])), .no, .no, .no, .no, .no, .no]) (passes_of rfl) rfl (iv_enum (ev_var 7) T.fEnum) ?_
    rw [enumD_map]
    refine (lpp_loop (σ := List Int × List Int) (ρ := Nat) (fun s => [.d (enc5 u), .d (enc5 v), .d (.int n), .d (.lst (hs.map encN)), .d (.lst (ss.map encN)), .d (.lst [.str "hollows", .str "summits"]), .d (.int (0 + (p.1 : Nat))), .d (.lst (p.2.rows.map encN)), .v (OD.k (encT s.1)), .v (OD.k (encT s.2)), .no, .no, .no, .no, .no, .no]) (fun r : (Nat × Nat) × Nat => .tup [.int (r.2 : Nat), encN r.1]) (wpStep p.2.ps p.2.qs n) (fun s as => (∀ r ∈ as, r.1.1 < p.2.ps.length ∧ r.1.2 < p.2.qs.length) ∧ s.1.length + as.length ≤ 1000 ∧ s.2.length + as.length ≤ 1000) (fun r o => ∃ d, o = .rt (.dat (.tup [.str "M1", .str p.2.nm, .int (r : Nat)])) d) (fun s r as hI => ?_) p.2.rows.zipIdx ([], []) ⟨fun r hr => ?_, by simpa using q1.2, by simpa using q1.2⟩).imp ?_
    · obtain ⟨hi, hz1, hz2⟩ := hI
      obtain ⟨hp1, hp2⟩ := hi r (List.mem_cons_self ..)
      simp at hz1 hz2
      refine ⟨_, _, tg_tup rfl (tgs_cons (tg_name 10 nd (hp := pr _)) (tgs_cons (tg_tup rfl (tgs_cons (tg_name 11 nd (hp := pr _)) (tgs_cons (tg_name 12 nd (hp := pr _)) tgs_nil)) rfl) tgs_nil)) rfl, ?_, fun s' e => ?_⟩
      · refine bp_if (k := wpBad p.2.ps p.2.qs n s r.1) (ds1 := [.d (enc5 u), .d (enc5 v), .d (.int n), .d (.lst (hs.map encN)), .d (.lst (ss.map encN)), .d (.lst [.str "hollows", .str "summits"]), .d (.int (0 + (p.1 : Nat))), .d (.lst (p.2.rows.map encN)), .v (OD.k (encT s.1)), .v (OD.k (encT s.2)), .d (.int (r.2 : Nat)), .d (.int (r.1.1 : Nat)), .d (.int (r.1.2 : Nat)), .no, .no, .no]) (EW.pt (ew_or (b1 := decide ((r.1.1 : Int) ∈ s.1)) (b2 := decide ((r.1.2 : Int) ∈ s.2) || decide (gap (p.2.ps.getD r.1.1 P0) (p.2.qs.getD r.1.2 P0) > n)) (ET.cast (et_cmp (op_inDict hu) (ev_var 11) (ev_al 8) (ro_inK (k := .inl (r.1.1 : Int)) (.al rfl (.own (encT s.1))))) (encT_any _ _) rfl) (fun _ => ew_or (ET.cast (et_cmp (op_inDict hu) (ev_var 12) (ev_al 9) (ro_inK (k := .inl (r.1.2 : Int)) (.al rfl (.own (encT s.2))))) (encT_any _ _) rfl) (fun _ => ew_or1 (ET.cast (et_not (et_val (ev_fnD (xs := [encP (p.2.ps.getD r.1.1 P0), encP (p.2.qs.getD r.1.2 P0), .int n]) (ok_pair_near T h0 h1) hr (ead3 (EV.ix (xs := p.2.ps.map encP) (EV.ix (xs := u.its) (ev_var 0) (ev_var 6) (.lst _) q2) (ev_var 11) (.lst _) (atI_map encP P0 hp1)) (EV.ix (xs := p.2.qs.map encP) (EV.ix (xs := v.its) (ev_var 1) (ev_var 6) (.lst _) q3) (ev_var 12) (.lst _) (atI_map encP P0 hp2)) (ev_var 2)) ⟨_, _, n, rfl, rfl⟩))) (near_gap _ _ _) rfl)) fun _ => rfl) fun _ => rfl)) (fun hk => ?_) fun hk => ?_
        · unfold wpStep
          rw [if_pos hk]
          exact bp_ret (ev_tupD (ead3 ev_str (EV.ix (xs := [.str "hollows", .str "summits"]) (ev_var 5) (ev_var 6) (.lst _) q5) (ev_var 10))) ⟨.inl ⟨_, _, rfl⟩, _, rfl⟩
        · unfold wpStep
          rw [if_neg (by rw [hk]; decide)]
          have n1 : ¬ (r.1.1 : Int) ∈ s.1 := fun z => by
            unfold wpBad at hk
            rw [decide_eq_true z] at hk
            cases hk
          have n2 : ¬ (r.1.2 : Int) ∈ s.2 := fun z => by
            unfold wpBad at hk
            rw [decide_eq_true z, Bool.true_or, Bool.or_true] at hk
            cases hk
          refine bp_nil (bp_next (b1_asgT (xs := [.bl true, .bl true]) (ds2 := [.d (enc5 u), .d (enc5 v), .d (.int n), .d (.lst (hs.map encN)), .d (.lst (ss.map encN)), .d (.lst [.str "hollows", .str "summits"]), .d (.int (0 + (p.1 : Nat))), .d (.lst (p.2.rows.map encN)), .v (OD.k (putD (encT s.1) (.inl (r.1.1 : Int)) (.bl true))), .v (OD.k (putD (encT s.2) (.inl (r.1.2 : Int)) (.bl true))), .d (.int (r.2 : Nat)), .d (.int (r.1.1 : Nat)), .d (.int (r.1.2 : Nat)), .no, .no, .no]) rfl (ead2 ev_bl ev_bl) (tgs_cons (tg_ixK (kvs := encT s.1) (k := .inl (r.1.1 : Int)) 8 (ev_var 11) hu (by rw [encT_len]; omega)) (tgs_cons (tg_ixK (kvs := encT s.2) (k := .inl (r.1.2 : Int)) 9 (ev_var 12) hu (by rw [encT_len]; omega)) tgs_nil)) rfl) (bp_nil (bp_end (turned_nx ?_))))
          rw [encT_put n1, encT_put n2]
          exact (.keep (.keep (.keep (.keep (.keep (.keep (.keep (.keep (.keep (.keep (.drop (.drop (.drop (.keep (.keep (.keep .nil))))))))))))))))
      · unfold wpStep at e
        by_cases c : wpBad p.2.ps p.2.qs n s r.1 = true
        · rw [if_pos c] at e
          cases e
        · rw [if_neg c] at e
          cases e
          refine ⟨fun r hr => hi r (List.mem_cons_of_mem _ hr), ?_, ?_⟩
          · simp; omega
          · simp; omega
    · have hm : r.1 ∈ p.2.rows := by
        obtain ⟨⟨a, b⟩, c⟩ := r
        exact (List.mem_zipIdx hr).2.2 ▸ List.getElem_mem _
      exact q1.1 _ hm
    · intro o ho
      unfold m1 wrongPlace
      cases e : loopF (wpStep p.2.ps p.2.qs n) p.2.rows.zipIdx ([], []) with
      | nx s =>
        rw [e] at ho
        subst ho
        exact bp_nil (bp_end (turned_nx (.keep (.keep (.keep (.keep (.keep (.keep (.drop (.drop (.drop (.drop (.keep (.keep (.keep (.keep (.keep (.keep .nil))))))))))))))))))
      | bk s =>
        rw [e] at ho
        exact False.elim ho
      | rt r =>
        rw [e] at ho
        obtain ⟨_, d, rfl⟩ := ho
        exact ⟨.inl ⟨_, _, rfl⟩, _, rfl⟩
  intro o ho
  rw [loop_some, e1] at ho
  unfold mfault
  cases e : (kinds (livOf u) (livOf v) hs ss).findSome? (m1 n) with
  | some d =>
    rw [e] at ho
    obtain ⟨_, d, rfl⟩ := ho
    exact ⟨rfl, fun i h => (nomatch h)⟩
  | none =>
    rw [e] at ho
    subst ho
    -- M2
    refine bp_for (ds1 := [.d (enc5 u), .d (enc5 v), .d (.int n), .d (.lst (hs.map encN)), .d (.lst (ss.map encN)), .d (.lst [.str "hollows", .str "summits"]), .no, .no, .no, .no, .no, .no, .no, .no, .no, .no]) (passes_of rfl) rfl (iv_range1 ev_int T.fRange ⟨by decide, by decide⟩) ?_
    rw [ek]
    refine (lpp_loop (σ := Unit) (ρ := D) (fun _ => [.d (enc5 u), .d (enc5 v), .d (.int n), .d (.lst (hs.map encN)), .d (.lst (ss.map encN)), .d (.lst [.str "hollows", .str "summits"]), .no, .no, .no, .no, .no, .no, .no, .no, .no, .no]) (fun p : Nat × Kd => D.int (0 + (p.1 : Nat))) (fun _ p => outF (m2 n p.2)) (fun _ as => ∀ p ∈ as, p ∈ kz) (fun r o => ∃ d, o = .rt (.dat r) d) (fun s p as hI => ?_) kz () (fun p hp => hp)).imp ?_
    · obtain ⟨q1, q2, q3, q4, q5⟩ := hk1 p (hI p (List.mem_cons_self ..))
      refine ⟨_, _, tg_name 6 nd (hp := pr _), ?_, fun _ _ j hj => hI j (List.mem_cons_of_mem _ hj)⟩
      refine bp_for (ds1 := [.d (enc5 u), .d (enc5 v), .d (.int n), .d (.lst (hs.map encN)), .d (.lst (ss.map encN)), .d (.lst [.str "hollows", .str "summits"]), .d (.int (0 + (p.1 : Nat))), .no, .no, .no, .no, .no, .no, .no, .no, .no]) (passes_of rfl) rfl (iv_range1 ev_int T.fRange ⟨by decide, by decide⟩) ?_
      have ew : rngD 0 (2 : Int).toNat = (whs p.2).map fun q => D.int (0 + (q.i : Nat)) := rfl
      rw [ew]
      refine (lpp_loop (σ := Unit) (ρ := D) (fun _ => [.d (enc5 u), .d (enc5 v), .d (.int n), .d (.lst (hs.map encN)), .d (.lst (ss.map encN)), .d (.lst [.str "hollows", .str "summits"]), .d (.int (0 + (p.1 : Nat))), .no, .no, .no, .no, .no, .no, .no, .no, .no]) (fun q : Wh => D.int (0 + (q.i : Nat))) (fun _ q => outF (m2i n p.2 q)) (fun _ as => ∀ q ∈ as, q ∈ whs p.2) (fun r o => ∃ d, o = .rt (.dat r) d) (fun s q as hI => ?_) (whs p.2) () (fun q hq => hq)).imp ?_
      · have hq := hI q (List.mem_cons_self ..)
        have hsel : ∀ r : Nat × Nat, atI [D.int (r.1 : Nat), D.int (r.2 : Nat)] (0 + (q.i : Int)) = some (.int (q.sel r)) := fun r => by
          rcases List.mem_cons.mp hq with e | hq
          · rw [e]; rfl
          · rw [List.mem_singleton.mp hq]; rfl
        obtain ⟨y, hy1, hy2⟩ : ∃ y : Five, atI [enc5 u, enc5 v] (0 + (q.i : Int)) = some (.lst y.its) ∧ atI y.its (0 + (p.1 : Int)) = some (.lst (q.ps.map encP)) := by
          rcases List.mem_cons.mp hq with e | hq
          · rw [e]; exact ⟨u, rfl, q2⟩
          · rw [List.mem_singleton.mp hq]; exact ⟨v, rfl, q3⟩
        refine ⟨_, _, tg_name 13 nd (hp := pr _), ?_, fun _ _ j hj => hI j (List.mem_cons_of_mem _ hj)⟩
        refine bp_next (b1_setLc (p' := ⟨0, 0, 0, 0⟩) (own := [("x", 15)]) (ds1 := [.d (enc5 u), .d (enc5 v), .d (.int n), .d (.lst (hs.map encN)), .d (.lst (ss.map encN)), .d (.lst [.str "hollows", .str "summits"]), .d (.int (0 + (p.1 : Nat))), .no, .no, .no, .no, .no, .no, .d (.int (0 + (q.i : Nat))), .no, .no]) (ds2 := [.d (enc5 u), .d (enc5 v), .d (.int n), .d (.lst (hs.map encN)), .d (.lst (ss.map encN)), .d (.lst [.str "hollows", .str "summits"]), .d (.int (0 + (p.1 : Nat))), .no, .no, .no, .no, .no, .no, .d (.int (0 + (q.i : Nat))), .no, .no]) (xs := p.2.rows.map encN) (out := (p.2.rows.map q.sel).map .int) (ds3 := [.d (enc5 u), .d (enc5 v), .d (.int n), .d (.lst (hs.map encN)), .d (.lst (ss.map encN)), .d (.lst [.str "hollows", .str "summits"]), .d (.int (0 + (p.1 : Nat))), .no, .no, .no, .no, .no, .no, .d (.int (0 + (q.i : Nat))), .v (OD.l ((p.2.rows.map q.sel).map .int)), .no]) 14 rfl nd ?_ (blkOk_by (by rfl)) ?_ (fun i _ => pr i) ?_ ?_ (hpi := pr _)) ?_
        · exact iv_list (EV.ix (xs := [.lst (hs.map encN), .lst (ss.map encN)]) (ev_lstE (ead2 (ev_var 3) (ev_var 4))) (ev_var 6) (.own _) q4)
        · exact fun i hi od => by simp at hi; rcases hi with rfl; exact fun z => by cases z
        · rw [List.map_map]
          refine lc_name 15 encN (fun r => .int (q.sel r)) p.2.rows nd (fun r hr' X' hX' => ?_) (hp := pr _)
          obtain ⟨_, _, _, _, _, rfl⟩ := hX'
          exact EV.ix (xs := [.int (r.1 : Nat), .int (r.2 : Nat)]) (ev_var 15) (ev_var 13) (.tup _) (hsel r)
        · rw [List.length_map, List.length_map]
          have := q1.2
          omega
        generalize hidx : p.2.rows.map q.sel = idx
        refine bp_for (ds1 := [.d (enc5 u), .d (enc5 v), .d (.int n), .d (.lst (hs.map encN)), .d (.lst (ss.map encN)), .d (.lst [.str "hollows", .str "summits"]), .d (.int (0 + (p.1 : Nat))), .no, .no, .no, .no, .no, .no, .d (.int (0 + (q.i : Nat))), .v (OD.l (idx.map .int)), .no]) (passes_of rfl) rfl (iv_enum (EV.ix (xs := y.its) (EV.ix (xs := [enc5 u, enc5 v]) (ev_lstE (ead2 (ev_var 0) (ev_var 1))) (ev_var 13) (.own _) hy1) (ev_var 6) (.lst _) hy2) T.fEnum) ?_
        rw [enumD_map]
        refine (lpp_loop (σ := Unit) (ρ := Nat) (fun _ => [.d (enc5 u), .d (enc5 v), .d (.int n), .d (.lst (hs.map encN)), .d (.lst (ss.map encN)), .d (.lst [.str "hollows", .str "summits"]), .d (.int (0 + (p.1 : Nat))), .no, .no, .no, .no, .no, .no, .d (.int (0 + (q.i : Nat))), .v (OD.l (idx.map .int)), .no]) (fun r : (Int × Int) × Nat => .tup [.int (r.2 : Nat), encP r.1]) (fun _ r => if loCond n idx r = true then .rt r.2 else .nx ()) (fun _ _ => True) (fun r o => ∃ d, o = .rt (.dat (.tup [.str "M2", .str p.2.nm, .int (q.i : Nat), .int (r : Nat)])) d) (fun s r as hI => ?_) _ () trivial).imp ?_
        · refine ⟨_, _, tg_tup rfl (tgs_cons (tg_name 10 nd (hp := pr _)) (tgs_cons (tg_name 15 nd (hp := pr _)) tgs_nil)) rfl, ?_, fun _ _ => trivial⟩
          refine bp_if (k := loCond n idx r) (EW.pt (ew_and (b1 := decide (r.1.2 - r.1.1 > n)) (b2 := !decide ((r.2 : Int) ∈ idx)) (et_cmp op_gt (EV.sub (EV.ix (xs := [.int r.1.1, .int r.1.2]) (ev_var 15) ev_int (.tup _) rfl) (EV.ix (xs := [.int r.1.1, .int r.1.2]) (ev_var 15) ev_int (.tup _) rfl)) (ev_var 2) ro_cmpI) (fun _ => ew_and1 (et_cmp op_notIn_seq (ev_var 10) (ev_al 14) (ro_notInI (.al rfl (.own _))))) fun _ => rfl)) (fun hk => ?_) fun hk => ?_
          · rw [if_pos hk]
            exact bp_ret (EV.cast (o := .d (.tup [.str "M2", .str p.2.nm, .int (0 + (q.i : Nat)), .int (r.2 : Nat)])) (ev_tupD (ead_cons ev_str (ead3 (EV.ix (xs := [.str "hollows", .str "summits"]) (ev_var 5) (ev_var 6) (.lst _) q5) (ev_var 13) (ev_var 10)))) (by rw [Int.zero_add]) rfl) ⟨.inl ⟨_, _, rfl⟩, _, rfl⟩
          · rw [if_neg (by rw [hk]; decide)]
            exact bp_nil (bp_nil (bp_end (turned_nx (.keep (.keep (.keep (.keep (.keep (.keep (.keep (.keep (.keep (.keep (.drop (.keep (.keep (.keep (.keep (.drop .nil)))))))))))))))))))
        · intro o ho
          rw [loop_find] at ho
          unfold m2i leftOut
          rw [hidx]
          cases e : (q.ps.zipIdx.find? (loCond n idx)).map (·.2) with
          | none =>
            rw [e] at ho
            subst ho
            exact bp_nil (bp_end (turned_nx (.keep (.keep (.keep (.keep (.keep (.keep (.keep (.keep (.keep (.keep (.keep (.keep (.keep (.drop (.drop (.keep .nil))))))))))))))))))
          | some r =>
            rw [e] at ho
            obtain ⟨_, d, rfl⟩ := ho
            exact ⟨.inl ⟨_, _, rfl⟩, _, rfl⟩
      · intro o ho
        rw [loop_some, m2_eq] at ho
        cases e : m2 n p.2 with
        | some d =>
          rw [e] at ho
          obtain ⟨_, d, rfl⟩ := ho
          exact ⟨.inl ⟨_, _, rfl⟩, _, rfl⟩
        | none =>
          rw [e] at ho
          subst ho
          exact bp_nil (bp_end (turned_nx (.keep (.keep (.keep (.keep (.keep (.keep (.drop (.keep (.keep (.keep (.keep (.keep (.keep (.keep (.keep (.keep .nil))))))))))))))))))
    intro o ho
    rw [loop_some, e2] at ho
    cases e : (kinds (livOf u) (livOf v) hs ss).findSome? (m2 n) with
    | some d =>
      rw [e] at ho
      obtain ⟨_, d, rfl⟩ := ho
      exact ⟨rfl, fun i h => (nomatch h)⟩
    | none =>
      rw [e] at ho
      subst ho
      show BP _ _ _ _ _ (DL.Ends none (okN (m3 (farBars (livOf u) (livOf v) n))))
      rw [← ff3_eq]
      -- M3
      refine bp_for (ds1 := [.d (enc5 u), .d (enc5 v), .d (.int n), .d (.lst (hs.map encN)), .d (.lst (ss.map encN)), .d (.lst [.str "hollows", .str "summits"]), .no, .no, .no, .no, .no, .no, .no, .no, .no, .no]) (passes_of rfl) rfl (iv_range1 (EV.len (xs := u.loo.map .int) (EV.ix (xs := u.its) (ev_var 0) ev_int (.lst _) rfl) (.lst _) T.fLen) T.fRange (by rw [List.length_map]; omega)) ?_
      have er : rngD 0 ((u.loo.map D.int).length : Int).toNat = ((u.loo.zip v.loo).zipIdx).map fun p => D.int (0 + (p.2 : Nat)) := by
        have e9 : ((u.loo.zip v.loo).zipIdx).map (fun p => D.int (0 + (p.2 : Nat))) = (((u.loo.zip v.loo).zipIdx).map (·.2)).map fun i => D.int (0 + (i : Nat)) := by
          rw [List.map_map]
          rfl
        rw [e9, List.zipIdx_map_snd, List.length_zip, ← hlo, Nat.min_self, Int.toNat_natCast, List.length_map, ← List.range_eq_range']
        rfl
      rw [er]
      refine (lpp_loop (σ := Unit) (ρ := Nat) (fun _ => [.d (enc5 u), .d (enc5 v), .d (.int n), .d (.lst (hs.map encN)), .d (.lst (ss.map encN)), .d (.lst [.str "hollows", .str "summits"]), .no, .no, .no, .no, .no, .no, .no, .no, .no, .no]) (fun p : (Int × Int) × Nat => D.int (0 + (p.2 : Nat))) (fun _ p => if looC n p = true then .rt p.2 else .nx ()) (fun _ as => ∀ p ∈ as, p ∈ (u.loo.zip v.loo).zipIdx) (fun r o => ∃ d, o = .rt (.dat (.tup [.str "M3", .str "loose", .int (r : Nat)])) d) (fun s p as hI => ?_) _ () (fun p hp => hp)).imp ?_
      · obtain ⟨w1, w2, w3, w4⟩ := zip_at (hI p (List.mem_cons_self ..))
        have g1 : atI (u.loo.map D.int) (0 + (p.2 : Int)) = some (.int p.1.1) := by rw [Int.zero_add, atI_map D.int 0 w1, w3]
        have g2 : atI (v.loo.map D.int) (0 + (p.2 : Int)) = some (.int p.1.2) := by rw [Int.zero_add, atI_map D.int 0 w2, w4]
        refine ⟨_, _, tg_name 10 nd (hp := pr _), ?_, fun _ _ j hj => hI j (List.mem_cons_of_mem _ hj)⟩
        refine bp_if (k := looC n p) (ET.cast (et_not (et_val (ev_fnD (xs := [.int p.1.1, .int p.1.2, .int n]) (ok_near T h0) hr (ead3 (EV.ix (xs := u.loo.map .int) (EV.ix (xs := u.its) (ev_var 0) ev_int (.lst _) rfl) (ev_var 10) (.lst _) g1) (EV.ix (xs := v.loo.map .int) (EV.ix (xs := v.its) (ev_var 1) ev_int (.lst _) rfl) (ev_var 10) (.lst _) g2) (ev_var 2)) ⟨p.1.1, p.1.2, n, rfl, rfl⟩))) (near_far _ _ _) rfl) (fun hk => ?_) fun hk => ?_
        · rw [if_pos hk]
          exact bp_ret (EV.cast (o := .d (.tup [.str "M3", .str "loose", .int (0 + (p.2 : Nat))])) (ev_tupD (ead3 ev_str ev_str (ev_var 10))) (by rw [Int.zero_add]) rfl) ⟨.inl ⟨_, _, rfl⟩, _, rfl⟩
        · rw [if_neg (by rw [hk]; decide)]
          exact bp_nil (bp_nil (bp_end (turned_nx (.keep (.keep (.keep (.keep (.keep (.keep (.keep (.keep (.keep (.keep (.drop (.keep (.keep (.keep (.keep (.keep .nil)))))))))))))))))))
      · intro o ho
        rw [loop_find] at ho
        unfold ff3
        cases e : ((u.loo.zip v.loo).zipIdx).find? (looC n) with
        | some r =>
          rw [e] at ho
          obtain ⟨_, d, rfl⟩ := ho
          exact ⟨rfl, fun i h => (nomatch h)⟩
        | none =>
          rw [e] at ho
          subst ho
          refine bp_if (k := farB u.low v.low n) (ET.cast (et_not (et_val (ev_fnD (xs := [.int u.low, .int v.low, .int n]) (ok_near T h0) hr (ead3 (EV.ix (xs := u.its) (ev_var 0) ev_int (.lst _) rfl) (EV.ix (xs := v.its) (ev_var 1) ev_int (.lst _) rfl) (ev_var 2)) ⟨_, _, n, rfl, rfl⟩))) (near_far _ _ _) rfl) (fun hk => ?_) fun hk => bp_nil ?_
          · dsimp only
            rw [if_pos hk]
            exact bp_ret (ev_tupD (ead3 ev_str ev_str ev_non)) ⟨rfl, fun i h => (nomatch h)⟩
          dsimp only
          rw [if_neg (by rw [hk]; decide)]
          refine bp_if (k := farB u.high v.high n) (ET.cast (et_not (et_val (ev_fnD (xs := [.int u.high, .int v.high, .int n]) (ok_near T h0) hr (ead3 (EV.ix (xs := u.its) (ev_var 0) ev_int (.lst _) rfl) (EV.ix (xs := v.its) (ev_var 1) ev_int (.lst _) rfl) (ev_var 2)) ⟨_, _, n, rfl, rfl⟩))) (near_far _ _ _) rfl) (fun hk => ?_) fun hk => bp_nil ?_
          · rw [if_pos hk]
            exact bp_ret (ev_tupD (ead3 ev_str ev_str ev_non)) ⟨rfl, fun i h => (nomatch h)⟩
          rw [if_neg (by rw [hk]; decide)]
          exact bp_ret ev_non ⟨rfl, fun i h => (nomatch h)⟩
end
end K74
/-! K74zk0: bars, plain. -/
namespace K74
open PySem PySem.Spec PyProof.Rows L2 DL
def rngI (n : Nat) : List Int := (List.range n).map fun i : Nat => (0 + (i : Int))
theorem rng_enc (n : Nat) : rngD 0 n = (rngI n).map D.int := by
  unfold rngI
  rw [List.map_map]
  rfl
theorem mem_rngI {n : Nat} {i : Int} : i ∈ rngI n ↔ idxOk i n = true := by
  unfold rngI idxOk
  rw [List.mem_map, Bool.and_eq_true, decide_eq_true_eq, decide_eq_true_eq]
  constructor
  · rintro ⟨k, hk, rfl⟩
    have := List.mem_range.mp hk
    omega
  · rintro ⟨h1, h2⟩
    exact ⟨i.toNat, List.mem_range.mpr (by omega), by omega⟩
theorem rngI_lt (n : Nat) : (rngI n).Pairwise (· < ·) := by
  unfold rngI
  rw [List.pairwise_map]
  exact List.pairwise_lt_range.imp fun {a b} h => by omega
theorem rngI_len (n : Nat) : (rngI n).length = n := by simp [rngI]
def isNx {σ ρ : Type} : Fl σ ρ → Bool
  | .nx _ => true
  | _ => false
theorem asc_iff {mine : List (Int × Int)} {n : Int} : ∀ {idx : List Int} {bf : Int}, isNx (loopF (shStep mine n) idx bf) = true ↔ (∀ i ∈ idx, bf < i) ∧ idx.Pairwise (· < ·) ∧ ∀ i ∈ idx, idxOk i mine.length = true ∧ ¬ life (at0 mine i) ≤ n
  | [], bf => by simp [loopF, isNx]
  | i :: idx, bf => by
    unfold loopF shStep
    by_cases c : shBad mine n bf i = true
    · rw [if_pos c]
      constructor
      · intro h
        cases h
      · rintro ⟨h1, h2, h3⟩
        exfalso
        have g1 := h1 i (List.mem_cons_self ..)
        obtain ⟨g2, g3⟩ := h3 i (List.mem_cons_self ..)
        unfold shBad at c
        rw [g2] at c
        simp at c
        rcases c with c | c
        · omega
        · omega
    · rw [if_neg c]
      show isNx (loopF (shStep mine n) idx i) = true ↔ _
      rw [asc_iff]
      unfold shBad at c
      simp at c
      obtain ⟨c1, c2, c3⟩ := c
      constructor
      · rintro ⟨h1, h2, h3⟩
        refine ⟨fun j hj => ?_, List.pairwise_cons.mpr ⟨h1, h2⟩, fun j hj => ?_⟩
        · rcases List.mem_cons.mp hj with e | hj
          · omega
          · have := h1 j hj
            omega
        · rcases List.mem_cons.mp hj with e | hj
          · rw [e]
            exact ⟨c1, by omega⟩
          · exact h3 j hj
      · rintro ⟨h1, h2, h3⟩
        obtain ⟨k1, k2⟩ := List.pairwise_cons.mp h2
        exact ⟨k1, k2, fun j hj => h3 j (List.mem_cons_of_mem _ hj)⟩
theorem ascOk_nx (mine : List (Int × Int)) (n : Int) (idx : List Int) : ascOk mine n idx = isNx (loopF (shStep mine n) idx (-1)) := by
  unfold ascOk isNx
  cases loopF (shStep mine n) idx (-1) <;> rfl
def rowOk (m : Nat) (idx : List Int) : Bool := decide (idx = (rngI m).filter fun i => decide (i ∈ idx))
def anyShort (mine : List (Int × Int)) (n : Int) (idx : List Int) : Bool := (idx.map fun i => decide (life (at0 mine i) ≤ n)).any id
theorem rowOk_idx {m : Nat} {idx : List Int} (h : rowOk m idx = true) : ∀ i ∈ idx, idxOk i m = true := fun i hi => by
  have e := of_decide_eq_true h
  rw [e] at hi
  exact mem_rngI.mp (List.mem_filter.mp hi).1
theorem ascOk_eq (mine : List (Int × Int)) (n : Int) (idx : List Int) : ascOk mine n idx = (rowOk mine.length idx && !anyShort mine n idx) := by
  rw [ascOk_nx, Bool.eq_iff_iff, asc_iff, Bool.and_eq_true, Bool.not_eq_true']
  unfold rowOk anyShort
  rw [decide_eq_true_eq, List.any_map, List.any_eq_false]
  constructor
  · rintro ⟨h1, h2, h3⟩
    refine ⟨lt_unique h2 ((rngI_lt _).filter _) fun k => ?_, fun i hi => ?_⟩
    · rw [List.mem_filter, decide_eq_true_eq, mem_rngI]
      exact ⟨fun h => ⟨(h3 k h).1, h⟩, fun h => h.2⟩
    · have := (h3 i hi).2
      simpa using this
  · rintro ⟨h1, h2⟩
    have hi : ∀ i ∈ idx, idxOk i mine.length = true := fun i hi => by
      rw [h1] at hi
      exact mem_rngI.mp (List.mem_filter.mp hi).1
    refine ⟨fun i h => ?_, ?_, fun i h => ⟨hi i h, by simpa using h2 i h⟩⟩
    · have := hi i h
      unfold idxOk at this
      rw [Bool.and_eq_true, decide_eq_true_eq] at this
      omega
    · rw [h1]
      exact (rngI_lt _).filter _
theorem eqD_ints (ns ms : List Int) : eqD (.lst (ns.map .int)) (.lst (ms.map .int)) = decide (ns = ms) := by
  unfold eqD
  rw [toPy, toPy, toPys_map, toPys_map, List.map_map, List.map_map]
  rw [PyData.eqv]
  have e : ∀ xs : List Int, xs.map (toPy ∘ D.int) = xs.map PyData.int := fun xs => rfl
  rw [e, e, PySem.W.ked_eqvAll]
theorem okW_ints (ns : List Int) : okWs (ns.map .int) = true := okWs_all fun d hd => by
  obtain ⟨i, _, rfl⟩ := List.mem_map.mp hd
  rfl
theorem dep_ints (ns : List Int) : deps (ns.map .int) = 0 := Nat.le_zero.mp (deps_all fun d hd => by
  obtain ⟨i, _, rfl⟩ := List.mem_map.mp hd
  exact Nat.le_refl 0)
theorem shD_ints (ns : List Int) : shD (.lst (ns.map .int)) = true := shD_of (by rw [okW]; exact okW_ints ns) (by rw [dep, dep_ints]; decide)
theorem okW_bar (v : Bar) : okW (encBar v) = true ∧ dep (encBar v) ≤ 2 := by
  cases v with
  | loose i => exact ⟨okW_loose i, by simp [encBar, dep, deps]⟩
  | set k wh idx =>
    refine ⟨?_, ?_⟩
    · show okW (.tup [.str (kname k), .int wh, .tup (idx.map .int)]) = true
      rw [okW, okWs, okW, okWs, okW, okWs, okW, okWs, okW_ints]
      cases k <;> decide +kernel
    · show dep (.tup [.str (kname k), .int wh, .tup (idx.map .int)]) ≤ 2
      simp [dep, deps, dep_ints]
  | two k wh =>
    refine ⟨?_, by simp [encBar, dep, deps]⟩
    show okW (.tup [.str (kname k), .int wh]) = true
    rw [okW, okWs, okW, okWs, okW, okWs]
    cases k <;> decide +kernel
  | _ => exact ⟨by decide +kernel, by decide +kernel⟩
theorem shD_bar (v : Bar) : shD (encBar v) = true := shD_of (okW_bar v).1 (by have := (okW_bar v).2; omega)
theorem bar_nonempty (v : Bar) : eqD (encBar v) (.tup []) = false := by
  cases v <;> rfl
/-- == of what farBars holds -/
theorem eq_loose (i j : Int) : eqD (.tup [.str "loose", .int i]) (.tup [.str "loose", .int j]) = decide (i = j) := by
  unfold eqD
  simp only [toPy, toPys]
  rw [PyData.eqv, PyData.eqvAll, PyData.eqvAll, PyData.eqvAll]
  have e1 : PyData.eqv (.str "loose") (.str "loose") = true := by decide +kernel
  rw [e1]
  simp [PyData.eqv]
  rw [Bool.eq_iff_iff]
  simp
theorem inD_app (d : D) (xs ys : List D) : inD d (xs ++ ys) = (inD d xs || inD d ys) := by
  unfold inD
  rw [List.any_append]
theorem inD_if (d e : D) (b : Bool) : inD d (if b = true then [e] else []) = (b && eqD e d) := by
  cases b <;> simp [inD]
theorem ne_loose (i : Int) : eqD (.tup [.str "loose", .int i]) (.tup [.str "lowest"]) = false ∧ eqD (.tup [.str "loose", .int i]) (.tup [.str "highest"]) = false ∧ eqD (.tup [.str "lowest"]) (.tup [.str "loose", .int i]) = false ∧ eqD (.tup [.str "highest"]) (.tup [.str "loose", .int i]) = false := by
  refine ⟨?_, ?_, ?_, ?_⟩ <;> (unfold eqD; simp only [toPy, toPys]; rw [PyData.eqv, PyData.eqvAll]) <;> simp [PyData.eqvAll]
theorem low_low : eqD (.tup [.str "lowest"]) (.tup [.str "lowest"]) = true ∧ eqD (.tup [.str "highest"]) (.tup [.str "highest"]) = true ∧ eqD (.tup [.str "lowest"]) (.tup [.str "highest"]) = false ∧ eqD (.tup [.str "highest"]) (.tup [.str "lowest"]) = false := by
  refine ⟨by decide +kernel, by decide +kernel, by decide +kernel, by decide +kernel⟩
theorem in_loo (n i : Int) (ps : List ((Int × Int) × Nat)) : inD (.tup [.str "loose", .int i]) (farLoo n ps) = ps.any fun p => farB p.1.1 p.1.2 n && decide ((p.2 : Int) = i) := by
  unfold inD farLoo
  rw [List.any_map, List.any_filter]
  congr 1
  funext p
  show (_ && eqD _ _) = _
  rw [eq_loose]
theorem far_low (a b : Liv) (n : Int) : inD (.tup [.str "lowest"]) (farBars a b n) = farB a.low b.low n ∧ inD (.tup [.str "highest"]) (farBars a b n) = farB a.high b.high n := by
  have e : ∀ x : Str, (∀ i : Int, eqD (.tup [.str "loose", .int i]) (.tup [.str x]) = false) → inD (.tup [.str x]) (farLoo n ((a.loo.zip b.loo).zipIdx)) = false := fun x hx => by
    unfold inD farLoo
    rw [List.any_map, List.any_eq_false]
    intro p hp
    show ¬ eqD _ _ = true
    rw [hx]
    decide
  obtain ⟨l1, l2, l3, l4⟩ := low_low
  unfold farBars
  refine ⟨?_, ?_⟩
  · rw [inD_app, inD_app, inD_if, inD_if, e _ fun i => (ne_loose i).1, l1, l4]
    simp
  · rw [inD_app, inD_app, inD_if, inD_if, e _ fun i => (ne_loose i).2.1, l2, l3]
    simp
theorem far_loo (u v : Five) (n i : Int) (hl : u.loo.length = v.loo.length) (hi : idxOk i u.loo.length = true) : inD (.tup [.str "loose", .int i]) (farBars (livOf u) (livOf v) n) = farB (u.loo.getD i.toNat 0) (v.loo.getD i.toNat 0) n := by
  obtain ⟨_, _, n3, n4⟩ := ne_loose i
  unfold farBars
  rw [inD_app, inD_app, inD_if, inD_if, n3, n4, Bool.and_false, Bool.and_false, Bool.or_false, Bool.or_false, in_loo]
  unfold idxOk at hi
  rw [Bool.and_eq_true, decide_eq_true_eq, decide_eq_true_eq] at hi
  obtain ⟨m, rfl⟩ := Int.eq_ofNat_of_zero_le hi.1
  have hm : m < u.loo.length := by omega
  have hm2 : m < v.loo.length := by omega
  rw [Int.toNat_natCast]
  show ((u.loo.zip v.loo).zipIdx.any _) = _
  rw [Bool.eq_iff_iff, List.any_eq_true]
  constructor
  · rintro ⟨p, hp, h⟩
    rw [Bool.and_eq_true, decide_eq_true_eq] at h
    obtain ⟨_, _, w3, w4⟩ := zip_at hp
    have e : p.2 = m := by omega
    rw [← e, w3, w4]
    exact h.1
  · intro h
    refine ⟨((u.loo.getD m 0, v.loo.getD m 0), m), ?_, ?_⟩
    · rw [List.mem_zipIdx_iff_getElem?]
      show (u.loo.zip v.loo)[m]? = some _
      rw [List.getElem?_zip_eq_some]
      refine ⟨?_, ?_⟩
      · show u.loo[m]? = some (u.loo.getD m 0)
        rw [List.getD_eq_getElem?_getD, List.getElem?_eq_getElem hm]
        rfl
      · show v.loo[m]? = some (v.loo.getD m 0)
        rw [List.getD_eq_getElem?_getD, List.getElem?_eq_getElem hm2]
        rfl
    · rw [h]
      simp
theorem prs_kd (v : Five) (k : Bool) : (livOf v).prs (kname k) = v.kd (if k then 1 else 0) := by
  cases k
  · rfl
  · unfold Liv.prs kname
    rw [if_pos rfl, if_neg (by decide)]
    rfl
end K74
/-! K74zk: _law_is_bar (printed by wip/gen/zk.py). -/
namespace K74
open PySem PySem.Spec PyProof.Rows L2 DL
def R_isbar : List OD → Res → Prop := fun ods res => ∃ (u v : Five) (n : Int) (w : Bar), ods = [.dat (enc5 u), .dat (enc5 v), .dat (.int n), .dat (encBar w)] ∧ u.loo.length = v.loo.length ∧ u.small ∧ v.small ∧ (∀ k wh idx, w = .set k wh idx → idx.length ≤ 1000) ∧ res = okN (.bl (barHolds (livOf u) (livOf v) n w))
theorem ew_cast {X : Cx} {ca : CA} {B : Base} {e : Expr} {ds ds1 : List Sl} {b1 b2 : Bool} (h : EW X ca B e ds b1 ds1) (hb : b1 = b2) : EW X ca B e ds b2 ds1 := hb ▸ h
section
variable {P : Program} {w : World} {K : PySem.W.Frag} {mg : Str → Option Value} {base : Heap} {ca : CA}
theorem ok_isbar (T : Txt w K mg ca) (h0 : Has K mg "_law_near" (top 51)) (h1 : Has K mg "_law_pair_near" (top 52)) (h2 : Has K mg "_law_plain" (top 42)) (h : Has K mg "_law_is_bar" (top 58)) : CallI P w K mg base ca 3 "_law_is_bar" 4 none R_isbar := by
  have nd : (["a", "b", "halves", "told", "k", "kind", "mine", "others", "row", "x", "q"] : List Str).Nodup := by decide +kernel
  refine callI (N := ["a", "b", "halves", "told", "k", "kind", "mine", "others", "row", "x", "q"]) (ps := ["a", "b", "halves", "told"]) h (fun kV doc pm an cdv ct us hl => by match us, hl with | [_, _, _, _], _ => rfl) ⟨rfl, rfl, rfl, nd, rfl, by decide +kernel, by decide +kernel⟩ fun X B ods res ⟨f, cdv, A, outer, s', H, E, hX⟩ hr hpr hR hl => ?_
  have hu9 : X.A.units + 64 < cLine := by have := hr.un; omega
  subst hX
  obtain ⟨u, v, n, bar, rfl, hlo, hu, hv, hidx, rfl⟩ := hR
  have pr : ∀ i, B.pr i = false := fun i => by rw [hpr]; rfl
  have sb := shD_bar bar
  have nb := bar_nonempty bar
  -- lowest, highest
  have low : ∀ (jj : Nat) (x : Str) (rs : List D) (au av : Int), (["lowest", "highest"] : List Str)[jj]? = some x → (∀ m z, m < jj → (["lowest", "highest"] : List Str)[m]? = some z → z ≠ x) → atI u.its ((jj : Int) + 3) = some (.int au) → atI v.its ((jj : Int) + 3) = some (.int av) →
      BP (cxOf (CX P w) P w K mg base ["a", "b", "halves", "told", "k", "kind", "mine", "others", "row", "x", "q"] "_law_is_bar" (defScope (top 58)) f cdv A outer s' H E) ca B [(defBody (top 58)).drop 1] [.d (enc5 u), .d (enc5 v), .d (.int n), .d (.tup (.str x :: rs)), .no, .no, .no, .no, .no, .no, .no] (DL.Ends none (okN (.bl (decide (rs = []) && farB au av n)))) := fun jj x rs au av hj hf ha hb => by
    have hm : x ∈ (["lowest", "highest"] : List Str) := List.mem_of_getElem? hj
    refine bp_if (et_cmp op_in_seq (EV.ix (ev_var 3) ev_int (.tup _) (atI_zero _ _)) (ev_lstE (ead2 ev_str ev_str)) (ro_inS (ss := ["lowest", "highest"]) (.own [.str "lowest", .str "highest"]))) (fun _ => ?_) fun hk => absurd hm (of_decide_eq_false hk)
    refine bp_next (b1_set (ds2 := [.d (enc5 u), .d (enc5 v), .d (.int n), .d (.tup (.str x :: rs)), .d (.int ((jj : Int) + 3)), .no, .no, .no, .no, .no, .no]) 4 (EV.add (EV.index (ss := ["lowest", "highest"]) (ev_lstE (ead2 ev_str ev_str)) (EV.ix (ev_var 3) ev_int (.tup _) (atI_zero _ _)) (.own [.str "lowest", .str "highest"]) (.own [.str "lowest", .str "highest"]) hj hf) ev_int) nd (hp := pr _)) ?_
    refine bp_ret (od := .dat (.bl (decide (rs = []) && farB au av n))) (ds1 := [.d (enc5 u), .d (enc5 v), .d (.int n), .d (.tup (.str x :: rs)), .d (.int ((jj : Int) + 3)), .no, .no, .no, .no, .no, .no]) (ev_and (EV.cast (ev_cmp op_eq (EV.len (xs := .str x :: rs) (ev_var 3) (.tup _) T.fLen) ev_int ro_eqI) (congrArg (fun b => Tm.bl b) (decide_eq_decide.mpr ?_)) rfl) (fun _ => ev_one (EV.cast (ev_not (ev_fnD (xs := [.int au, .int av, .int n]) (ok_near T h0) hr (ead3 (EV.ix (xs := u.its) (ev_var 0) (ev_var 4) (.lst _) ha) (EV.ix (xs := v.its) (ev_var 1) (ev_var 4) (.lst _) hb) (ev_var 2)) ⟨au, av, n, rfl, rfl⟩)) (congrArg (fun b => Tm.bl b) (near_far _ _ _)) rfl)) fun _ => rfl) ⟨rfl, fun i h => (nomatch h)⟩
    rw [List.length_cons, ← List.length_eq_zero_iff]
    omega
  -- the first test fails
  have first : ∀ (x : Str) (r : List D), encBar bar = .tup (.str x :: r) → x ∈ (["hollows", "summits", "loose", "lowest", "highest"] : List Str) →
      BP (cxOf (CX P w) P w K mg base ["a", "b", "halves", "told", "k", "kind", "mine", "others", "row", "x", "q"] "_law_is_bar" (defScope (top 58)) f cdv A outer s' H E) ca B [(defBody (top 58)).drop 1] [.d (enc5 u), .d (enc5 v), .d (.int n), .d (encBar bar), .no, .no, .no, .no, .no, .no, .no] (DL.Ends none (okN (.bl (barHolds (livOf u) (livOf v) n bar)))) →
      BP (cxOf (CX P w) P w K mg base ["a", "b", "halves", "told", "k", "kind", "mine", "others", "row", "x", "q"] "_law_is_bar" (defScope (top 58)) f cdv A outer s' H E) ca B [defBody (top 58)] [.d (enc5 u), .d (enc5 v), .d (.int n), .d (encBar bar), .no, .no, .no, .no, .no, .no, .no] (DL.Ends none (okN (.bl (barHolds (livOf u) (livOf v) n bar)))) := fun x r e hm hgo => by
    refine bp_if (k := false) (EW.pt (ew_or (b1 := !true) (b2 := false) (et_not (b1 := true) (et_val ?_)) (fun _ => ew_or (b1 := false) (b2 := false) (ET.cast (et_cmp (op_eqD hu9) (ev_var 3) (ev_tupD ead_nil) (ro_eqD (.dat _) (.dat _) sb (by decide +kernel))) nb rfl) (fun _ => ew_or1 (ET.cast (et_cmp op_notIn_seq ?_ (ev_lstE (ead_cons ev_str (ead_cons ev_str (ead3 ev_str ev_str ev_str)))) (ro_notInS (y := x) (ss := ["hollows", "summits", "loose", "lowest", "highest"]) (.own [.str "hollows", .str "summits", .str "loose", .str "lowest", .str "highest"]))) (by rw [decide_eq_true hm]; rfl) rfl)) fun _ => rfl) fun _ => rfl)) (fun hk => by cases hk) fun _ => bp_nil hgo
    · rw [e]
      exact EV.isi (ev_var 3) (ev_gty T.fTuple b_tuple) rfl rfl T.fIsi
    · rw [e]
      exact EV.ix (ev_var 3) ev_int (.tup _) (atI_zero _ _)
  show BP _ ca B _ [.d (enc5 u), .d (enc5 v), .d (.int n), .d (encBar bar), .no, .no, .no, .no, .no, .no, .no] _
  obtain ⟨fl1, fl2⟩ := far_low (livOf u) (livOf v) n
  cases bar with
  | low1 =>
    refine first "lowest" [] rfl (by decide) ?_
    have := low 0 "lowest" [] u.low v.low rfl (fun m z hm => absurd hm (by omega)) rfl rfl
    rw [show barHolds (livOf u) (livOf v) n .low1 = (decide (([] : List D) = []) && farB u.low v.low n) from fl1.trans (by simp; rfl)]
    exact this
  | high1 =>
    refine first "highest" [] rfl (by decide) ?_
    have := low 1 "highest" [] u.high v.high rfl (fun m z hm hz => by have e : m = 0 := by omega
                                                                      subst e; cases hz; decide) rfl rfl
    rw [show barHolds (livOf u) (livOf v) n .high1 = (decide (([] : List D) = []) && farB u.high v.high n) from fl2.trans (by simp; rfl)]
    exact this
  | lowN =>
    refine first "lowest" [.non] rfl (by decide) ?_
    exact low 0 "lowest" [.non] u.low v.low rfl (fun m z hm => absurd hm (by omega)) rfl rfl
  | high0 =>
    refine first "highest" [.int 0] rfl (by decide) ?_
    exact low 1 "highest" [.int 0] u.high v.high rfl (fun m z hm hz => by have e : m = 0 := by omega
                                                                          subst e; cases hz; decide) rfl rfl
  | low3 =>
    refine first "lowest" [.int 0, .tup [.int 0]] rfl (by decide) ?_
    exact low 0 "lowest" [.int 0, .tup [.int 0]] u.low v.low rfl (fun m z hm => absurd hm (by omega)) rfl rfl
  | loose i =>
    refine first "loose" [.int i] rfl (by decide) ?_
    show BP _ ca B _ [.d (enc5 u), .d (enc5 v), .d (.int n), .d (.tup [.str "loose", .int i]), .no, .no, .no, .no, .no, .no, .no] _
    refine bp_if (k := false) (ET.cast (et_cmp op_in_seq (EV.ix (xs := [.str "loose", .int i]) (ev_var 3) ev_int (.tup _) rfl) (ev_lstE (ead2 ev_str ev_str)) (ro_inS (y := "loose") (ss := ["lowest", "highest"]) (.own [.str "lowest", .str "highest"]))) (by decide) rfl) (fun hk => by cases hk) fun _ => bp_nil ?_
    refine bp_if (k := true) (ET.cast (et_cmp op_eq (EV.ix (xs := [.str "loose", .int i]) (ev_var 3) ev_int (.tup _) rfl) ev_str ro_eqS) (by decide) rfl) (fun _ => ?_) fun hk => by cases hk
    refine bp_if (k := !idxOk i u.loo.length) (EW.pt (ew_or (b1 := false) (b2 := !idxOk i u.loo.length) (ET.cast (et_cmp op_ne (EV.len (xs := [.str "loose", .int i]) (ev_var 3) (.tup _) T.fLen) ev_int ro_neI) rfl rfl) (fun _ => ew_or (b1 := !true) (b2 := !idxOk i u.loo.length) (et_not (et_val (ev_fnD (xs := [.int i]) (ok_plain T h2) hr (ead1 (EV.ix (xs := [.str "loose", .int i]) (ev_var 3) ev_int (.tup _) rfl)) ⟨i, rfl, rfl⟩))) (fun _ => ew_cast (ew_or (b1 := decide (i < 0)) (b2 := decide (i ≥ u.loo.length)) (et_cmp op_lt (EV.ix (xs := [.str "loose", .int i]) (ev_var 3) ev_int (.tup _) rfl) ev_int ro_cmpI) (fun _ => ew_or1 (ET.cast (et_cmp op_ge (EV.ix (xs := [.str "loose", .int i]) (ev_var 3) ev_int (.tup _) rfl) (EV.len (xs := u.loo.map .int) (EV.ix (xs := u.its) (ev_var 0) ev_int (.lst _) rfl) (.lst _) T.fLen) ro_cmpI) (by rw [List.length_map]) rfl)) fun _ => rfl) ?_) fun _ => rfl) fun _ => rfl)) (fun hk => ?_) fun hk => bp_nil ?_
    · unfold idxOk
      rw [Bool.eq_iff_iff]
      simp
      all_goals omega
    · have e : idxOk i u.loo.length = false := by simpa using hk
      show BP _ _ _ _ _ (DL.Ends none (okN (.bl (idxOk i u.loo.length && _))))
      rw [e]
      exact bp_ret ev_bl ⟨rfl, fun i h => (nomatch h)⟩
    · have e : idxOk i u.loo.length = true := by simpa using hk
      show BP _ _ _ _ _ (DL.Ends none (okN (.bl (idxOk i u.loo.length && inD (.tup [.str "loose", .int i]) (farBars (livOf u) (livOf v) n)))))
      rw [far_loo u v n i hlo e, e]
      have e2 := e
      unfold idxOk at e2
      rw [Bool.and_eq_true, decide_eq_true_eq, decide_eq_true_eq] at e2
      exact bp_ret (od := .dat (.bl (farB (u.loo.getD i.toNat 0) (v.loo.getD i.toNat 0) n))) (ds1 := [.d (enc5 u), .d (enc5 v), .d (.int n), .d (.tup [.str "loose", .int i]), .no, .no, .no, .no, .no, .no, .no]) (EV.cast (ev_not (ev_fnD (xs := [.int (u.loo.getD i.toNat 0), .int (v.loo.getD i.toNat 0), .int n]) (ok_near T h0) hr (ead3 (EV.ix (xs := u.loo.map .int) (EV.ix (xs := u.its) (ev_var 0) ev_int (.lst _) rfl) (EV.ix (xs := [.str "loose", .int i]) (ev_var 3) ev_int (.tup _) rfl) (.lst _) (atI_int e2.1 e2.2)) (EV.ix (xs := v.loo.map .int) (EV.ix (xs := v.its) (ev_var 1) ev_int (.lst _) rfl) (EV.ix (xs := [.str "loose", .int i]) (ev_var 3) ev_int (.tup _) rfl) (.lst _) (atI_int e2.1 (by omega))) (ev_var 2)) ⟨_, _, n, rfl, rfl⟩)) (congrArg (fun b => Tm.bl b) (near_far _ _ _)) rfl) ⟨rfl, fun i h => (nomatch h)⟩
  | loose1 =>
    refine first "loose" [] rfl (by decide) ?_
    show BP _ ca B _ [.d (enc5 u), .d (enc5 v), .d (.int n), .d (.tup [.str "loose"]), .no, .no, .no, .no, .no, .no, .no] _
    refine bp_if (k := false) (ET.cast (et_cmp op_in_seq (EV.ix (xs := [.str "loose"]) (ev_var 3) ev_int (.tup _) rfl) (ev_lstE (ead2 ev_str ev_str)) (ro_inS (y := "loose") (ss := ["lowest", "highest"]) (.own [.str "lowest", .str "highest"]))) (by decide) rfl) (fun hk => by cases hk) fun _ => bp_nil ?_
    refine bp_if (k := true) (ET.cast (et_cmp op_eq (EV.ix (xs := [.str "loose"]) (ev_var 3) ev_int (.tup _) rfl) ev_str ro_eqS) (by decide) rfl) (fun _ => ?_) fun hk => by cases hk
    refine bp_if (k := true) (EW.pt (ew_or (b1 := true) (b2 := true) (ET.cast (et_cmp op_ne (EV.len (xs := [.str "loose"]) (ev_var 3) (.tup _) T.fLen) ev_int ro_neI) rfl rfl) (fun hk => by cases hk) fun _ => rfl)) (fun _ => ?_) fun hk => by cases hk
    exact bp_ret ev_bl ⟨rfl, fun i h => (nomatch h)⟩
  | two k wh =>
    refine first (kname k) [.int wh] rfl (by cases k <;> decide) ?_
    show BP _ ca B _ [.d (enc5 u), .d (enc5 v), .d (.int n), .d (.tup [.str (kname k), .int wh]), .no, .no, .no, .no, .no, .no, .no] _
    refine bp_if (k := false) (ET.cast (et_cmp op_in_seq (EV.ix (xs := [.str (kname k), .int wh]) (ev_var 3) ev_int (.tup _) rfl) (ev_lstE (ead2 ev_str ev_str)) (ro_inS (y := kname k) (ss := ["lowest", "highest"]) (.own [.str "lowest", .str "highest"]))) (by cases k <;> decide) rfl) (fun hk => by cases hk) fun _ => bp_nil ?_
    refine bp_if (k := false) (ET.cast (et_cmp op_eq (EV.ix (xs := [.str (kname k), .int wh]) (ev_var 3) ev_int (.tup _) rfl) ev_str ro_eqS) (by cases k <;> decide) rfl) (fun hk => by cases hk) fun _ => bp_nil ?_
    refine bp_if (k := true) (EW.pt (ew_or (b1 := true) (b2 := true) (ET.cast (et_cmp op_ne (EV.len (xs := [.str (kname k), .int wh]) (ev_var 3) (.tup _) T.fLen) ev_int ro_neI) rfl rfl) (fun hk => by cases hk) fun _ => rfl)) (fun _ => ?_) fun hk => by cases hk
    exact bp_ret ev_bl ⟨rfl, fun i h => (nomatch h)⟩
  | set k wh idx =>
    have hz := hidx k wh idx rfl
    refine first (kname k) [.int wh, .tup (idx.map .int)] rfl (by cases k <;> decide) ?_
    show BP _ ca B _ [.d (enc5 u), .d (enc5 v), .d (.int n), .d (.tup [.str (kname k), .int wh, .tup (idx.map .int)]), .no, .no, .no, .no, .no, .no, .no] _
    refine bp_if (k := false) (ET.cast (et_cmp op_in_seq (EV.ix (xs := [.str (kname k), .int wh, .tup (idx.map .int)]) (ev_var 3) ev_int (.tup _) rfl) (ev_lstE (ead2 ev_str ev_str)) (ro_inS (y := kname k) (ss := ["lowest", "highest"]) (.own [.str "lowest", .str "highest"]))) (by cases k <;> decide) rfl) (fun hk => by cases hk) fun _ => bp_nil ?_
    refine bp_if (k := false) (ET.cast (et_cmp op_eq (EV.ix (xs := [.str (kname k), .int wh, .tup (idx.map .int)]) (ev_var 3) ev_int (.tup _) rfl) ev_str ro_eqS) (by cases k <;> decide) rfl) (fun hk => by cases hk) fun _ => bp_nil ?_
    refine bp_if (k := !idxOk wh 2) (EW.pt (ew_or (b1 := false) (b2 := !idxOk wh 2) (ET.cast (et_cmp op_ne (EV.len (xs := [.str (kname k), .int wh, .tup (idx.map .int)]) (ev_var 3) (.tup _) T.fLen) ev_int ro_neI) rfl rfl) (fun _ => ew_or (b1 := !true) (b2 := !idxOk wh 2) (et_not (et_val (ev_fnD (xs := [.int wh]) (ok_plain T h2) hr (ead1 (EV.ix (xs := [.str (kname k), .int wh, .tup (idx.map .int)]) (ev_var 3) ev_int (.tup _) rfl)) ⟨wh, rfl, rfl⟩))) (fun _ => ew_cast (ew_or (b1 := !decide (wh ∈ ([0, 1] : List Int))) (b2 := !true) (et_cmp op_notIn_seq (EV.ix (xs := [.str (kname k), .int wh, .tup (idx.map .int)]) (ev_var 3) ev_int (.tup _) rfl) (ev_lstE (ead2 ev_int ev_int)) (ro_notInI (ns := [0, 1]) (.own [.int 0, .int 1]))) (fun _ => ew_or1 (et_not (b1 := true) (et_val (EV.isi (d := .tup (idx.map .int)) (EV.ix (xs := [.str (kname k), .int wh, .tup (idx.map .int)]) (ev_var 3) ev_int (.tup _) rfl) (ev_gty T.fTuple b_tuple) rfl rfl T.fIsi)))) fun _ => rfl) ?_) fun _ => rfl) fun _ => rfl)) (fun hk => ?_) fun hk => bp_nil ?_
    · unfold idxOk
      rw [Bool.eq_iff_iff]
      simp
      all_goals omega
    · have e : idxOk wh 2 = false := by simpa using hk
      show BP _ _ _ _ _ (DL.Ends none (okN (.bl (idxOk wh 2 && _))))
      rw [e]
      exact bp_ret ev_bl ⟨rfl, fun i h => (nomatch h)⟩
    · have e : idxOk wh 2 = true := by simpa using hk
      show BP _ _ _ _ _ (DL.Ends none (okN (.bl (setHolds (livOf u) (livOf v) n (kname k) wh idx))))
      unfold setHolds
      rw [e, Bool.true_and]
      have hw : wh = 0 ∨ wh = 1 := by
        unfold idxOk at e
        rw [Bool.and_eq_true, decide_eq_true_eq, decide_eq_true_eq] at e
        omega
      obtain ⟨y1, y2, a1, a2, e1, e2, m1, m2⟩ : ∃ y1 y2 : Five, atI [enc5 u, enc5 v] wh = some (.lst y1.its) ∧ atI [enc5 v, enc5 u] wh = some (.lst y2.its) ∧ (if wh = 0 then livOf u else livOf v) = livOf y1 ∧ (if wh = 0 then livOf v else livOf u) = livOf y2 ∧ y1.small ∧ y2.small := by
        rcases hw with rfl | rfl
        · exact ⟨u, v, rfl, rfl, rfl, rfl, hu, hv⟩
        · exact ⟨v, u, rfl, rfl, rfl, rfl, hv, hu⟩
      rw [e1, e2, prs_kd, prs_kd]
      have hk2 : (if k then 1 else 0 : Nat) < 2 := by split <;> decide
      have b1 := at_kd y1 hk2
      have b2 := at_kd y2 hk2
      have lm := kd_len m1 (if k then 1 else 0)
      have lt := kd_len m2 (if k then 1 else 0)
      have hj : (["hollows", "summits"] : List Str)[(if k then 1 else 0 : Nat)]? = some (kname k) := by cases k <;> rfl
      have hf : ∀ m z, m < (if k then 1 else 0 : Nat) → (["hollows", "summits"] : List Str)[m]? = some z → z ≠ kname k := by
        cases k
        · intro m z hm
          exact absurd hm (Nat.not_lt_zero _)
        · intro m z hm hz
          have e : m = 0 := by
            have : m < 1 := hm
            omega
          subst e
          cases hz
          decide
      generalize y1.kd (if k then 1 else 0) = mine at *
      generalize y2.kd (if k then 1 else 0) = theirs at *
      generalize (if k then 1 else 0 : Nat) = kk at *
      rw [Int.zero_add] at b1 b2
      refine bp_next (b1_set (ds2 := [.d (enc5 u), .d (enc5 v), .d (.int n), .d (.tup [.str (kname k), .int wh, .tup (idx.map .int)]), .no, .d (.int (kk : Nat)), .no, .no, .no, .no, .no]) 5 (EV.index (ss := ["hollows", "summits"]) (ev_lstE (ead2 ev_str ev_str)) (EV.ix (xs := [.str (kname k), .int wh, .tup (idx.map .int)]) (ev_var 3) ev_int (.tup _) rfl) (.own [.str "hollows", .str "summits"]) (.own [.str "hollows", .str "summits"]) hj hf) nd (hp := pr _)) ?_
      refine bp_next (b1_asgT (xs := [.lst (mine.map encP), .lst (theirs.map encP), .lst (idx.map .int)]) (ds1 := [.d (enc5 u), .d (enc5 v), .d (.int n), .d (.tup [.str (kname k), .int wh, .tup (idx.map .int)]), .no, .d (.int (kk : Nat)), .no, .no, .no, .no, .no]) (ds2 := [.d (enc5 u), .d (enc5 v), .d (.int n), .d (.tup [.str (kname k), .int wh, .tup (idx.map .int)]), .no, .d (.int (kk : Nat)), .d (.lst (mine.map encP)), .d (.lst (theirs.map encP)), .d (.lst (idx.map .int)), .no, .no]) rfl (ead3 (EV.ix (xs := y1.its) (EV.ix (xs := [enc5 u, enc5 v]) (ev_lstE (ead2 (ev_var 0) (ev_var 1))) (EV.ix (xs := [.str (kname k), .int wh, .tup (idx.map .int)]) (ev_var 3) ev_int (.tup _) rfl) (.own _) a1) (ev_var 5) (.lst _) b1) (EV.ix (xs := y2.its) (EV.ix (xs := [enc5 v, enc5 u]) (ev_lstE (ead2 (ev_var 1) (ev_var 0))) (EV.ix (xs := [.str (kname k), .int wh, .tup (idx.map .int)]) (ev_var 3) ev_int (.tup _) rfl) (.own _) a2) (ev_var 5) (.lst _) b2) (EV.frz (EV.list (xs := idx.map .int) (EV.ix (xs := [.str (kname k), .int wh, .tup (idx.map .int)]) (ev_var 3) ev_int (.tup _) rfl) (.tup _) T.fList) (frz_l _))) (tgs_cons (tg_name 6 nd (hp := pr _)) (tgs_cons (tg_name 7 nd (hp := pr _)) (tgs_cons (tg_name 8 nd (hp := pr _)) tgs_nil))) rfl) ?_
      rw [ascOk_eq]
      refine bp_if (k := !rowOk mine.length idx) (EW.pt (ew_or (b1 := !true) (b2 := !rowOk mine.length idx) (ET.cast (et_not (et_val (EV.allB (ds1 := [.d (enc5 u), .d (enc5 v), .d (.int n), .d (.tup [.str (kname k), .int wh, .tup (idx.map .int)]), .no, .d (.int (kk : Nat)), .d (.lst (mine.map encP)), .d (.lst (theirs.map encP)), .d (.lst (idx.map .int)), .no, .no]) (idx.map fun _ => true) rfl ?all T.fAll))) (by simp) rfl) (fun _ => ew_or1 (ET.cast (et_cmp (op_neD hu9) (ev_var 8) (ev_lc (own := [("k", 4)]) (ds1 := [.d (enc5 u), .d (enc5 v), .d (.int n), .d (.tup [.str (kname k), .int wh, .tup (idx.map .int)]), .no, .d (.int (kk : Nat)), .d (.lst (mine.map encP)), .d (.lst (theirs.map encP)), .d (.lst (idx.map .int)), .no, .no]) (ds2 := [.d (enc5 u), .d (enc5 v), .d (.int n), .d (.tup [.str (kname k), .int wh, .tup (idx.map .int)]), .no, .d (.int (kk : Nat)), .d (.lst (mine.map encP)), .d (.lst (theirs.map encP)), .d (.lst (idx.map .int)), .no, .no]) (xs := rngD 0 ((mine.length : Int)).toNat) (out := ((rngI mine.length).filter fun i => decide (i ∈ idx)).map D.int) rfl nd ?iv (blkOk_by (by rfl)) ?bare (fun i _ => pr i) ?lc ?len) (ro_neD (.dat _) (.own _) (shD_ints _) (shD_ints _))) (by rw [eqD_ints]; rfl) rfl)) fun _ => rfl)) (fun hk => ?_) fun hk => bp_nil ?_
      case all =>
        refine EV.cast (o := .v (OD.l (idx.map fun _ => D.bl true))) (ds1 := [.d (enc5 u), .d (enc5 v), .d (.int n), .d (.tup [.str (kname k), .int wh, .tup (idx.map .int)]), .no, .d (.int (kk : Nat)), .d (.lst (mine.map encP)), .d (.lst (theirs.map encP)), .d (.lst (idx.map .int)), .no, .no]) (ev_lc (own := [("x", 9)]) (ds1 := [.d (enc5 u), .d (enc5 v), .d (.int n), .d (.tup [.str (kname k), .int wh, .tup (idx.map .int)]), .no, .d (.int (kk : Nat)), .d (.lst (mine.map encP)), .d (.lst (theirs.map encP)), .d (.lst (idx.map .int)), .no, .no]) (xs := idx.map D.int) rfl nd (iv_list (ev_var 8)) (blkOk_by (by rfl)) ?_ (fun i _ => pr i) ?_ (by rw [List.length_map]; omega)) (by rw [List.map_map]; rfl) rfl
        · exact fun i hi od => by simp at hi; rcases hi with rfl; exact fun z => by cases z
        · refine lc_name 9 D.int (fun _ => .bl true) idx nd (fun i hi X' hX' => ?_) (hp := pr _)
          obtain ⟨_, _, _, _, _, rfl⟩ := hX'
          exact ev_fnD (xs := [.int i]) (ok_plain T h2) hr (ead1 (ev_var 9)) ⟨i, rfl, rfl⟩
      case iv => exact iv_range1 (EV.cast (EV.len (xs := mine.map encP) (ev_var 6) (.lst _) T.fLen) (by rw [List.length_map]) rfl) T.fRange ⟨by omega, by omega⟩
      case bare => exact fun i hi od => by simp at hi; rcases hi with rfl; exact fun z => by cases z
      case lc =>
        rw [Int.toNat_natCast, rng_enc]
        refine lc_nameF 4 D.int (fun i => decide (i ∈ idx)) D.int (rngI mine.length) nd (fun i hi X' hX' => ?_) (fun i hi _ X' hX' => ?_) (hp := pr _)
        · obtain ⟨_, _, _, _, _, rfl⟩ := hX'
          exact ets_one (et_cmp op_in_seq (ev_var 4) (ev_var 8) (ro_inI (.lst _)))
        · obtain ⟨_, _, _, _, _, rfl⟩ := hX'
          exact ev_var 4
      case len =>
        rw [List.length_map]
        have := List.length_filter_le (fun i => decide (i ∈ idx)) (rngI mine.length)
        rw [rngI_len] at this
        omega
      · have e : rowOk mine.length idx = false := by simpa using hk
        rw [e]
        exact bp_ret ev_bl ⟨rfl, fun i h => (nomatch h)⟩
      have e : rowOk mine.length idx = true := by simpa using hk
      have hin := rowOk_idx e
      rw [e, Bool.true_and]
      have hsh : anyShort mine n idx = (idx.map fun i => decide (life (at0 mine i) ≤ n)).any id := rfl
      generalize hbs : (idx.map fun i => decide (life (at0 mine i) ≤ n)) = bs at hsh
      rw [hsh]
      refine bp_if (k := bs.any id) (ds1 := [.d (enc5 u), .d (enc5 v), .d (.int n), .d (.tup [.str (kname k), .int wh, .tup (idx.map .int)]), .no, .d (.int (kk : Nat)), .d (.lst (mine.map encP)), .d (.lst (theirs.map encP)), .d (.lst (idx.map .int)), .no, .no]) (et_val (EV.anyB bs rfl ?any T.fAny)) (fun hk => ?_) fun hk => bp_nil ?_
      case any =>
        subst hbs
        refine EV.cast (o := .v (OD.l (idx.map fun i => D.bl (decide (life (at0 mine i) ≤ n))))) (ds1 := [.d (enc5 u), .d (enc5 v), .d (.int n), .d (.tup [.str (kname k), .int wh, .tup (idx.map .int)]), .no, .d (.int (kk : Nat)), .d (.lst (mine.map encP)), .d (.lst (theirs.map encP)), .d (.lst (idx.map .int)), .no, .no]) (ev_lc (own := [("k", 4)]) (ds1 := [.d (enc5 u), .d (enc5 v), .d (.int n), .d (.tup [.str (kname k), .int wh, .tup (idx.map .int)]), .no, .d (.int (kk : Nat)), .d (.lst (mine.map encP)), .d (.lst (theirs.map encP)), .d (.lst (idx.map .int)), .no, .no]) (xs := idx.map D.int) rfl nd (iv_list (ev_var 8)) (blkOk_by (by rfl)) ?_ (fun i _ => pr i) ?_ (by rw [List.length_map]; omega)) (by rw [List.map_map]; rfl) rfl
        · exact fun i hi od => by simp at hi; rcases hi with rfl; exact fun z => by cases z
        · refine lc_name 4 D.int (fun i => .bl (decide (life (at0 mine i) ≤ n))) idx nd (fun i hi X' hX' => ?_) (hp := pr _)
          obtain ⟨_, _, _, _, _, rfl⟩ := hX'
          exact ev_cmp op_le (EV.sub (EV.ix (xs := [.int (at0 mine i).1, .int (at0 mine i).2]) (EV.ix (xs := mine.map encP) (ev_var 6) (ev_var 4) (.lst _) (atI_mapI (hin i hi))) ev_int (.tup _) rfl) (EV.ix (xs := [.int (at0 mine i).1, .int (at0 mine i).2]) (EV.ix (xs := mine.map encP) (ev_var 6) (ev_var 4) (.lst _) (atI_mapI (hin i hi))) ev_int (.tup _) rfl)) (ev_var 2) ro_cmpI
      · rw [hk]
        exact bp_ret ev_bl ⟨rfl, fun i h => (nomatch h)⟩
      rw [hk, Bool.not_false, Bool.true_and]
      have hnb : ∀ q, nearB mine n idx q = (idx.map fun i => nearP (at0 mine i) q n).any id := fun q => by
        unfold nearB
        congr 1
        refine List.map_congr_left fun i _ => ?_
        rw [Bool.eq_iff_iff, nearP_iff, decide_eq_true_eq]
      refine bp_ret (od := .dat (.bl (decide ((theirs.filter (nearB mine n idx)).length < idx.length)))) (ds1 := [.d (enc5 u), .d (enc5 v), .d (.int n), .d (.tup [.str (kname k), .int wh, .tup (idx.map .int)]), .no, .d (.int (kk : Nat)), .d (.lst (mine.map encP)), .d (.lst (theirs.map encP)), .d (.lst (idx.map .int)), .no, .no]) (EV.cast (ev_cmp op_lt (EV.len (xs := (theirs.filter (nearB mine n idx)).map encP) (ds1 := [.d (enc5 u), .d (enc5 v), .d (.int n), .d (.tup [.str (kname k), .int wh, .tup (idx.map .int)]), .no, .d (.int (kk : Nat)), .d (.lst (mine.map encP)), .d (.lst (theirs.map encP)), .d (.lst (idx.map .int)), .no, .no]) (o := .v (OD.l ((theirs.filter (nearB mine n idx)).map encP))) ?_ (.own _) T.fLen) (EV.len (xs := idx.map .int) (ev_var 8) (.lst _) T.fLen) ro_cmpI) (congrArg (fun b => Tm.bl b) (decide_eq_decide.mpr (by rw [List.length_map, List.length_map]; omega))) rfl) ⟨rfl, fun i h => (nomatch h)⟩
      refine ev_lc (own := [("q", 10)]) (ds1 := [.d (enc5 u), .d (enc5 v), .d (.int n), .d (.tup [.str (kname k), .int wh, .tup (idx.map .int)]), .no, .d (.int (kk : Nat)), .d (.lst (mine.map encP)), .d (.lst (theirs.map encP)), .d (.lst (idx.map .int)), .no, .no]) (ds2 := [.d (enc5 u), .d (enc5 v), .d (.int n), .d (.tup [.str (kname k), .int wh, .tup (idx.map .int)]), .no, .d (.int (kk : Nat)), .d (.lst (mine.map encP)), .d (.lst (theirs.map encP)), .d (.lst (idx.map .int)), .no, .no]) (xs := theirs.map encP) rfl nd (iv_list (ev_var 7)) (blkOk_by (by rfl)) ?_ (fun i _ => pr i) (lc_nameF 10 encP (nearB mine n idx) encP theirs nd (fun q hq X1 hX1 => ?_) (fun q hq _ X1 hX1 => ?_) (hp := pr _)) ?_
      · exact fun i hi od => by simp at hi; rcases hi with rfl; exact fun z => by cases z
      · obtain ⟨_, _, _, _, _, rfl⟩ := hX1
        rw [hnb q]
        generalize hb2 : (idx.map fun i => nearP (at0 mine i) q n) = bs2
        refine ets_one (et_val (EV.anyB (ds1 := [.d (enc5 u), .d (enc5 v), .d (.int n), .d (.tup [.str (kname k), .int wh, .tup (idx.map .int)]), .no, .d (.int (kk : Nat)), .d (.lst (mine.map encP)), .d (.lst (theirs.map encP)), .d (.lst (idx.map .int)), .no, .d (encP q)]) bs2 rfl ?_ T.fAny))
        subst hb2
        refine EV.cast (o := .v (OD.l (idx.map fun i => D.bl (nearP (at0 mine i) q n)))) (ds1 := [.d (enc5 u), .d (enc5 v), .d (.int n), .d (.tup [.str (kname k), .int wh, .tup (idx.map .int)]), .no, .d (.int (kk : Nat)), .d (.lst (mine.map encP)), .d (.lst (theirs.map encP)), .d (.lst (idx.map .int)), .no, .d (encP q)]) (ev_lc (own := [("k", 4)]) (ds1 := [.d (enc5 u), .d (enc5 v), .d (.int n), .d (.tup [.str (kname k), .int wh, .tup (idx.map .int)]), .no, .d (.int (kk : Nat)), .d (.lst (mine.map encP)), .d (.lst (theirs.map encP)), .d (.lst (idx.map .int)), .no, .d (encP q)]) (xs := idx.map D.int) rfl nd (iv_list (ev_var 8)) (blkOk_by (by rfl)) ?_ (fun i _ => pr i) (lc_name 4 D.int (fun i => .bl (nearP (at0 mine i) q n)) idx nd (fun i hi X2 hX2 => ?_) (hp := pr _)) (by rw [List.length_map]; omega)) (by rw [List.map_map]; rfl) rfl
        · exact fun i hi od => by simp at hi; rcases hi with rfl; exact fun z => by cases z
        · obtain ⟨_, _, _, _, _, rfl⟩ := hX2
          exact ev_fnD (xs := [encP (at0 mine i), encP q, .int n]) (ok_pair_near T h0 h1) hr (ead3 (EV.ix (xs := mine.map encP) (ev_var 6) (ev_var 4) (.lst _) (atI_mapI (hin i hi))) (ev_var 10) (ev_var 2)) ⟨_, _, n, rfl, rfl⟩
      · obtain ⟨_, _, _, _, _, rfl⟩ := hX1
        exact ev_var 10
      · rw [List.length_map]
        have := List.length_filter_le (nearB mine n idx) theirs
        omega
end
end K74
/-! K74zl: _law_bent_row (printed by wip/gen/zl.py). -/
namespace K74
open PySem PySem.Spec PyProof.Rows L2 DL
def putT {α : Type} (k : Int) (xs : List α) (x : α) : List α := DL.cutD xs none (some k) ++ [x] ++ DL.cutD xs (some k) none
theorem putF_map {α : Type} (g : α → D) (b : Box) (xs : List α) (x : α) : putF b (xs.map g) (g x) = (putT (takeF b (1 + xs.length)).1 xs x).map g := by
  unfold putF putT
  rw [List.length_map, cutD_map, cutD_map, List.map_append, List.map_append]
  rfl
theorem putT_mem {α : Type} {k : Int} {xs : List α} {x y : α} (h : y ∈ putT k xs x) : y = x ∨ y ∈ xs := by
  unfold putT DL.cutD at h
  rcases List.mem_append.mp h with h | h
  · rcases List.mem_append.mp h with h | h
    · exact .inr (List.drop_subset _ _ (List.take_subset _ _ h))
    · exact .inl (List.mem_singleton.mp h)
  · exact .inr (List.drop_subset _ _ (List.take_subset _ _ h))
theorem cut_len {α : Type} {xs : List α} {i j : Option Int} : (DL.cutD xs i j).length ≤ xs.length := by
  unfold DL.cutD
  rw [List.length_take, List.length_drop]
  omega
theorem putT_len {α : Type} {k : Int} {xs : List α} {x : α} : (putT k xs x).length ≤ 2 * xs.length + 1 := by
  unfold putT
  have h1 := cut_len (xs := xs) (i := none) (j := some k)
  have h2 := cut_len (xs := xs) (i := some k) (j := none)
  rw [List.length_append, List.length_append]
  show _ + 1 + _ ≤ _
  omega
theorem mix_inv {α β : Type} {d : α} {Q : α → Prop} : ∀ (ks : List β) (s : Box × List α × List α), ks.length ≤ s.2.1.length → (∀ x ∈ s.2.1, Q x) → (∀ x ∈ s.2.2, Q x) → (∀ x ∈ (ks.foldl (fun s _ => mixSα d s) s).2.2, Q x) ∧ (ks.foldl (fun s _ => mixSα d s) s).2.2.length = s.2.2.length + ks.length
  | [], s, _, h1, h2 => ⟨h2, rfl⟩
  | k :: ks, s, hl, h1, h2 => by
    obtain ⟨b, left, found⟩ := s
    have hl : ks.length + 1 ≤ left.length := by simpa using hl
    have ht := takeF_lt b (l := left.length) (by omega)
    have hlt : (takeF b left.length).1.toNat < left.length := by omega
    have ih := mix_inv (d := d) (Q := Q) ks (mixSα d (b, left, found)) (by
      show ks.length ≤ (left.eraseIdx _).length
      rw [List.length_eraseIdx_of_lt hlt]
      omega) (fun x hx => h1 x (List.eraseIdx_subset hx)) (fun x hx => by
      rcases List.mem_append.mp hx with hx | hx
      · exact h2 x hx
      · rw [List.mem_singleton.mp hx]
        refine h1 _ ?_
        show left.getD _ d ∈ left
        rw [List.getD_eq_getElem?_getD, List.getElem?_eq_getElem hlt]
        exact List.getElem_mem _)
    refine ⟨ih.1, ?_⟩
    have h3 := ih.2
    rw [List.foldl_cons, h3]
    show (found ++ [_]).length + _ = found.length + (ks.length + 1)
    simp
    omega
theorem mixα_inv {α : Type} {d : α} {Q : α → Prop} {b : Box} {xs : List α} (h : ∀ x ∈ xs, Q x) : (∀ x ∈ (mixα d b xs).2.2, Q x) ∧ (mixα d b xs).2.2.length = xs.length := by
  have := mix_inv (d := d) (Q := Q) (List.range xs.length) (b, xs, []) (by simp) h (fun x hx => by cases hx)
  exact ⟨this.1, by
    have h2 := this.2
    rw [List.length_range] at h2
    exact h2.trans (Nat.zero_add _)⟩
def bentRow (b : Box) (row : Ix) (one two : List (Int × Int)) : Ix × Box :=
  let w := takeF b 6
  if (decide (one = []) || (decide (two = []) || decide (w.1 = 0))) = true then (row, w.2) else
    let x := takeF w.2 one.length
    let y := takeF x.2 two.length
    if (decide (w.1 = 1) && !decide (row = [])) = true then
      (putT (takeF (takeF y.2 row.length).2 (1 + row.length)).1 row (row.getD (takeF y.2 row.length).1.toNat (0, 0)), (takeF (takeF y.2 row.length).2 (1 + row.length)).2)
    else if (decide (w.1 = 2) && !decide (row = [])) = true then
      (row.set (takeF y.2 row.length).1.toNat (if (takeF (takeF y.2 row.length).2 2).1 = 0 then (x.1.toNat, (row.getD (takeF y.2 row.length).1.toNat (0, 0)).2) else ((row.getD (takeF y.2 row.length).1.toNat (0, 0)).1, y.1.toNat)), (takeF (takeF y.2 row.length).2 2).2)
    else if (decide (w.1 = 3) && !decide (row = [])) = true then
      (row.eraseIdx (takeF y.2 row.length).1.toNat, (takeF y.2 row.length).2)
    else if decide (w.1 = 4) = true then
      (putT (takeF y.2 (1 + row.length)).1 row (x.1.toNat, y.1.toNat), (takeF y.2 (1 + row.length)).2)
    else ((mixα (0, 0) y.2 row).2.2, (mixα (0, 0) y.2 row).1)
theorem getD_mem {α : Type} {xs : List α} {i : Nat} {d : α} (h : i < xs.length) : xs.getD i d ∈ xs := by
  rw [List.getD_eq_getElem?_getD, List.getElem?_eq_getElem h]
  exact List.getElem_mem _
theorem bentRow_ok {b : Box} {row : Ix} {one two : List (Int × Int)} (hb : 0 ≤ b.here) (h : ∀ r ∈ row, r.1 < one.length ∧ r.2 < two.length) : 0 ≤ (bentRow b row one two).2.here ∧ (∀ r ∈ (bentRow b row one two).1, r.1 < one.length ∧ r.2 < two.length) ∧ (bentRow b row one two).1.length ≤ 2 * row.length + 1 := by
  have k1 : 0 ≤ (takeF b 6).2.here := takeF_here _ _ hb
  unfold bentRow
  dsimp only
  generalize takeF b 6 = w at *
  by_cases c0 : (decide (one = []) || (decide (two = []) || decide (w.1 = 0))) = true
  · rw [if_pos c0]
    exact ⟨k1, h, by show row.length ≤ _; omega⟩
  rw [if_neg c0]
  have n1 : 0 < one.length := List.length_pos_iff.mpr fun z => c0 (by rw [decide_eq_true z]; rfl)
  have n2 : 0 < two.length := List.length_pos_iff.mpr fun z => c0 (by rw [decide_eq_true z]; simp)
  have tx := takeF_lt w.2 (l := one.length) (by omega)
  have k2 := takeF_here w.2 one.length k1
  generalize takeF w.2 one.length = x at *
  have ty := takeF_lt x.2 (l := two.length) (by omega)
  have k3 := takeF_here x.2 two.length k2
  generalize takeF x.2 two.length = y at *
  by_cases c1 : (decide (w.1 = 1) && !decide (row = [])) = true
  · rw [if_pos c1]
    have hr : row ≠ [] := by
      rw [Bool.and_eq_true, Bool.not_eq_true', decide_eq_false_iff_not] at c1
      exact c1.2
    have hp := List.length_pos_iff.mpr hr
    have tp := takeF_lt y.2 (l := row.length) (by omega)
    refine ⟨takeF_here _ _ (takeF_here _ _ k3), fun r hr => ?_, putT_len⟩
    rcases putT_mem hr with e | hr
    · rw [e]
      exact h _ (getD_mem (by omega))
    · exact h r hr
  rw [if_neg c1]
  by_cases c2 : (decide (w.1 = 2) && !decide (row = [])) = true
  · rw [if_pos c2]
    have hr : row ≠ [] := by
      rw [Bool.and_eq_true, Bool.not_eq_true', decide_eq_false_iff_not] at c2
      exact c2.2
    have hp := List.length_pos_iff.mpr hr
    have tp := takeF_lt y.2 (l := row.length) (by omega)
    have ho := h _ (getD_mem (d := (0, 0)) (show (takeF y.2 row.length).1.toNat < row.length by omega))
    refine ⟨takeF_here _ _ (takeF_here _ _ k3), fun r hr => ?_, by rw [List.length_set]; omega⟩
    rcases List.mem_or_eq_of_mem_set hr with hr | e
    · exact h r hr
    · rw [e]
      split
      · exact ⟨by show x.1.toNat < _; omega, ho.2⟩
      · exact ⟨ho.1, by show y.1.toNat < _; omega⟩
  rw [if_neg c2]
  by_cases c3 : (decide (w.1 = 3) && !decide (row = [])) = true
  · rw [if_pos c3]
    refine ⟨takeF_here _ _ k3, fun r hr => h r (List.eraseIdx_subset hr), ?_⟩
    have := List.length_eraseIdx_le row (takeF y.2 row.length).1.toNat
    show (row.eraseIdx _).length ≤ _
    omega
  rw [if_neg c3]
  by_cases c4 : decide (w.1 = 4) = true
  · rw [if_pos c4]
    refine ⟨takeF_here _ _ k3, fun r hr => ?_, putT_len⟩
    rcases putT_mem hr with e | hr
    · rw [e]
      exact ⟨by show x.1.toNat < _; omega, by show y.1.toNat < _; omega⟩
    · exact h r hr
  rw [if_neg c4]
  have hm := mixα_inv (d := ((0, 0) : Nat × Nat)) (b := y.2) h
  exact ⟨mixα_here _ _ k3, hm.1, by rw [hm.2]; omega⟩
theorem shD_ixs (row : Ix) : shD (.lst (row.map encN)) = true := by
  have e : row.map encN = (row.map fun r : Nat × Nat => ((r.1 : Int), (r.2 : Int))).map encP := by
    rw [List.map_map]
    rfl
  rw [e]
  exact shD_pairs _
theorem eqD_nilN (row : Ix) : eqD (.lst (row.map encN)) (.lst []) = decide (row = []) := by
  cases row with
  | nil => rfl
  | cons p ps => rfl
theorem encN_of {x y : Int} (hx : 0 ≤ x) (hy : 0 ≤ y) : D.tup [.int x, .int y] = encN (x.toNat, y.toNat) := by
  unfold encN
  rw [Int.toNat_of_nonneg hx, Int.toNat_of_nonneg hy]
def R_bentrow : List OD → Res → Prop := fun ods res => ∃ (b : Box) (row : Ix) (one two : List (Int × Int)), ods = [boxOD b, .dat (.lst (row.map encN)), .dat (.lst (one.map encP)), .dat (.lst (two.map encP))] ∧ 0 ≤ b.here ∧ row.length < 1000 ∧ one.length < 1000 ∧ two.length < 1000 ∧ res = .ok (.dat (.lst ((bentRow b row one two).1.map encN))) (boxOD (bentRow b row one two).2)
section
variable {P : Program} {w : World} {K : PySem.W.Frag} {mg : Str → Option Value} {base : Heap} {ca : CA}
theorem ok_bentrow (T : Txt w K mg ca) (h0 : Has K mg "_law_take" (top 39)) (h1 : Has K mg "_law_of" (top 40)) (h2 : Has K mg "_law_mixed" (top 41)) (h3 : Has K mg "_law_put" (top 44)) (h : Has K mg "_law_bent_row" (top 59)) : CallI P w K mg base ca 3 "_law_bent_row" 4 (some 0) R_bentrow := by
  have nd : (["box", "row", "one", "two", "way", "found", "fresh", "place"] : List Str).Nodup := by decide +kernel
  refine callI (N := ["box", "row", "one", "two", "way", "found", "fresh", "place"]) (ps := ["box", "row", "one", "two"]) h (fun kV doc pm an cdv ct us hl => by match us, hl with | [_, _, _, _], _ => rfl) ⟨rfl, rfl, rfl, nd, rfl, by decide +kernel, by decide +kernel⟩ fun X B ods res ⟨f, cdv, A, outer, s', H, E, hX⟩ hr hpr hR hl => ?_
  have hu : X.A.units + 64 < cLine := by have := hr.un; omega
  subst hX
  obtain ⟨b, row, one, two, rfl, hb, z0, z1, z2, rfl⟩ := hR
  have pr : ∀ i, B.pr (i + 1) = false := fun i => by rw [hpr]; rfl
  have lr : (row.map encN).length = row.length := List.length_map ..
  have k1 : 0 ≤ (takeF b 6).2.here := takeF_here _ _ hb
  refine bp_next (b1_par2 (od1 := .dat (.int (takeF b 6).1)) (od2 := OD.l (row.map encN)) 4 5 rfl nd (ea_cons (ev_take (ok_take T h0) hr ev_int hb ⟨by decide, by decide⟩) (ea1 (EV.list (ev_var 1) (.lst _) T.fList))) (hpi := pr _) (hpj := pr _)) ?_
  unfold bentRow
  dsimp only
  generalize takeF b 6 = w at *
  refine bp_if (k := decide (one = []) || (decide (two = []) || decide (w.1 = 0))) (ds1 := [.v (boxOD w.2), .d (.lst (row.map encN)), .d (.lst (one.map encP)), .d (.lst (two.map encP)), .d (.int w.1), .v (OD.l (row.map encN)), .no, .no]) (EW.pt (ew_or (ET.cast (et_cmp (op_eqD hu) (ev_var 2) (ev_lst (xs := []) ea_nil) (ro_eqD (.dat _) (.own []) (shD_pairs _) rfl)) (eqD_nil _) rfl) (fun _ => ew_or (ET.cast (et_cmp (op_eqD hu) (ev_var 3) (ev_lst (xs := []) ea_nil) (ro_eqD (.dat _) (.own []) (shD_pairs _) rfl)) (eqD_nil _) rfl) (fun _ => ew_or1 (et_cmp op_eq (ev_var 4) ev_int ro_eqI)) fun _ => rfl) fun _ => rfl)) (fun c0 => ?_) fun c0 => bp_nil ?_
  · rw [if_pos c0]
    exact bp_ret (ev_frz 5 rfl (frz_l _) (hp := pr _)) ⟨rfl, fun i h => by cases h; rfl⟩
  rw [if_neg (by rw [c0]; decide)]
  have n1 : 0 < one.length := List.length_pos_iff.mpr fun z => by rw [decide_eq_true z] at c0; cases c0
  have n2 : 0 < two.length := List.length_pos_iff.mpr fun z => by rw [decide_eq_true z] at c0; simp at c0
  have tx := takeF_lt w.2 (l := one.length) (by omega)
  have k2 := takeF_here w.2 one.length k1
  have ty := takeF_lt (takeF w.2 one.length).2 (l := two.length) (by omega)
  refine bp_next (b1_set (ds2 := [.v (boxOD (takeF (takeF w.2 one.length).2 two.length).2), .d (.lst (row.map encN)), .d (.lst (one.map encP)), .d (.lst (two.map encP)), .d (.int w.1), .v (OD.l (row.map encN)), .d (encN ((takeF w.2 one.length).1.toNat, (takeF (takeF w.2 one.length).2 two.length).1.toNat)), .no]) 6 (EV.cast (ev_tupD (ead2 (ev_take (ok_take T h0) hr (EV.cast (EV.len (xs := one.map encP) (ev_var 2) (.lst _) T.fLen) (by rw [List.length_map]) rfl) k1 ⟨by omega, by omega⟩) (ev_take (ok_take T h0) hr (EV.cast (EV.len (xs := two.map encP) (ev_var 3) (.lst _) T.fLen) (by rw [List.length_map]) rfl) k2 ⟨by omega, by omega⟩))) (congrArg Tm.d (encN_of tx.1 ty.1)) rfl) nd (hp := pr _)) ?_
  generalize takeF w.2 one.length = x at *
  have k3 := takeF_here x.2 two.length k2
  generalize takeF x.2 two.length = y at *
  have ne : ∀ c : Bool, (c && !decide (row = [])) = true → 0 < row.length := fun c h => by
    rw [Bool.and_eq_true, Bool.not_eq_true', decide_eq_false_iff_not] at h
    exact List.length_pos_iff.mpr h.2
  -- way 1
  refine bp_if (k := decide (w.1 = 1) && !decide (row = [])) (ds1 := [.v (boxOD y.2), .d (.lst (row.map encN)), .d (.lst (one.map encP)), .d (.lst (two.map encP)), .d (.int w.1), .v (OD.l (row.map encN)), .d (encN (x.1.toNat, y.1.toNat)), .no]) (EW.pt (ew_and (et_cmp op_eq (ev_var 4) ev_int ro_eqI) (fun _ => ew_and1 (ET.cast (et_cmp (op_neD hu) (ev_al 5) (ev_lst (xs := []) ea_nil) (ro_neD (.al rfl (.own _)) (.own []) (shD_ixs row) rfl)) (congrArg (fun b => !b) (eqD_nilN row)) rfl)) fun _ => rfl)) (fun c1 => ?_) fun c1 => ?_
  · rw [if_pos c1]
    have hp := ne _ c1
    have tp := takeF_lt y.2 (l := row.length) (by omega)
    have hlt : (takeF y.2 row.length).1.toNat < row.length := by omega
    have k4 := takeF_here y.2 row.length k3
    rw [← putF_map encN]
    refine bp_next (b1_set (ds1 := [.v (boxOD (takeF (takeF y.2 row.length).2 (1 + row.length)).2), .d (.lst (row.map encN)), .d (.lst (one.map encP)), .d (.lst (two.map encP)), .d (.int w.1), .d (.lst (row.map encN)), .d (encN (x.1.toNat, y.1.toNat)), .no]) (ds2 := [.v (boxOD (takeF (takeF y.2 row.length).2 (1 + row.length)).2), .d (.lst (row.map encN)), .d (.lst (one.map encP)), .d (.lst (two.map encP)), .d (.int w.1), .d (.lst (putF (takeF y.2 row.length).2 (row.map encN) (encN (row.getD (takeF y.2 row.length).1.toNat (0, 0))))), .d (encN (x.1.toNat, y.1.toNat)), .no]) 5 (ev_fn 0 (ok_put T h0 h3) hr (ea_cons (ev_al 0) (ea_cons (ev_frz 5 rfl (frz_l _) (hp := pr _)) (ea1 (ev_fn 0 (ok_of T h0 h1) hr (ea_cons (ev_al 0) (ea1 (ev_var 5))) (.own rfl (.dat .nil)) ⟨y.2, row.map encN, encN (row.getD (takeF y.2 row.length).1.toNat (0, 0)), rfl, k3, by rw [lr]; omega, by rw [lr]; omega, ?_, rfl⟩)))) (.own rfl (.dat (.dat .nil))) ⟨(takeF y.2 row.length).2, row.map encN, encN (row.getD (takeF y.2 row.length).1.toNat (0, 0)), by rw [lr], k4, by rw [lr]; omega, rfl⟩ (hs := by first | (rw [lr]; rfl) | rw [lr])) nd (hp := pr _)) ?_
    · rw [lr, List.getElem?_map, List.getElem?_eq_getElem hlt, List.getD_eq_getElem?_getD, List.getElem?_eq_getElem hlt]
      rfl
    · exact bp_nil (bp_ret (ev_var 5) ⟨rfl, fun i h => by cases h; rfl⟩)
  rw [if_neg (by rw [c1]; decide)]
  -- way 2
  refine bp_if (k := decide (w.1 = 2) && !decide (row = [])) (ds1 := [.v (boxOD y.2), .d (.lst (row.map encN)), .d (.lst (one.map encP)), .d (.lst (two.map encP)), .d (.int w.1), .v (OD.l (row.map encN)), .d (encN (x.1.toNat, y.1.toNat)), .no]) (EW.pt (ew_and (et_cmp op_eq (ev_var 4) ev_int ro_eqI) (fun _ => ew_and1 (ET.cast (et_cmp (op_neD hu) (ev_al 5) (ev_lst (xs := []) ea_nil) (ro_neD (.al rfl (.own _)) (.own []) (shD_ixs row) rfl)) (congrArg (fun b => !b) (eqD_nilN row)) rfl)) fun _ => rfl)) (fun c2 => ?_) fun c2 => ?_
  · rw [if_pos c2]
    have hp := ne _ c2
    have tp := takeF_lt y.2 (l := row.length) (by omega)
    have hlt : (takeF y.2 row.length).1.toNat < row.length := by omega
    have k4 := takeF_here y.2 row.length k3
    have tc := takeF_lt (takeF y.2 row.length).2 (l := 2) (by decide)
    refine bp_next (b1_set (ds2 := [.v (boxOD (takeF y.2 row.length).2), .d (.lst (row.map encN)), .d (.lst (one.map encP)), .d (.lst (two.map encP)), .d (.int w.1), .v (OD.l (row.map encN)), .d (encN (x.1.toNat, y.1.toNat)), .d (.int (takeF y.2 row.length).1)]) 7 (ev_take (ok_take T h0) hr (EV.cast (EV.len (xs := row.map encN) (ev_al 5) (.al rfl (.own _)) T.fLen) (by rw [lr]) rfl) k3 ⟨by omega, by omega⟩) nd (hp := pr _)) ?_
    generalize hpl : takeF y.2 row.length = pl at *
    have hat : atI (row.map encN) pl.1 = some (encN (row.getD pl.1.toNat (0, 0))) := by
      have := atI_map (xs := row) encN (0, 0) hlt
      rwa [Int.toNat_of_nonneg tp.1] at this
    generalize row.getD pl.1.toNat (0, 0) = old at *
    refine bp_next (b1_asg (od := .dat (encN (if (takeF pl.2 2).1 = 0 then (x.1.toNat, old.2) else (old.1, y.1.toNat)))) (ds1 := [.v (boxOD (takeF pl.2 2).2), .d (.lst (row.map encN)), .d (.lst (one.map encP)), .d (.lst (two.map encP)), .d (.int w.1), .v (OD.l (row.map encN)), .d (encN (x.1.toNat, y.1.toNat)), .d (.int pl.1)]) (EV.ix (xs := [encN (x.1.toNat, old.2), encN (old.1, y.1.toNat)]) (ev_lstE (ead2 (ev_tupD (ead2 (EV.ix (xs := [.int (x.1.toNat : Nat), .int (y.1.toNat : Nat)]) (ev_var 6) ev_int (.tup _) rfl) (EV.ix (xs := [.int (old.1 : Nat), .int (old.2 : Nat)]) (EV.ix (xs := row.map encN) (ev_al 5) (ev_var 7) (.al rfl (.own _)) hat) ev_int (.tup _) rfl))) (ev_tupD (ead2 (EV.ix (xs := [.int (old.1 : Nat), .int (old.2 : Nat)]) (EV.ix (xs := row.map encN) (ev_al 5) (ev_var 7) (.al rfl (.own _)) hat) ev_int (.tup _) rfl) (EV.ix (xs := [.int (x.1.toNat : Nat), .int (y.1.toNat : Nat)]) (ev_var 6) ev_int (.tup _) rfl))))) (ev_take (ok_take T h0) hr ev_int k4 ⟨by decide, by decide⟩) (.own _) ?_) (tg_ixL (xs := row.map encN) (n := pl.1.toNat) 5 (ev_var 7) (ixN_nat tp.1 (by rw [lr]; exact tp.2)))) ?_
    · rcases (show (takeF pl.2 2).1 = 0 ∨ (takeF pl.2 2).1 = 1 by omega) with e | e
      · rw [e]
        rfl
      · rw [e]
        rfl
    · refine bp_nil (bp_nil (bp_ret (od := .dat (.lst ((row.set pl.1.toNat (if (takeF pl.2 2).1 = 0 then (x.1.toNat, old.2) else (old.1, y.1.toNat))).map encN))) (ev_frz 5 (d := .lst ((row.set pl.1.toNat (if (takeF pl.2 2).1 = 0 then (x.1.toNat, old.2) else (old.1, y.1.toNat))).map encN)) rfl ?_ rfl (hp := pr _)) ⟨rfl, fun i h => by cases h; rfl⟩))
      rw [List.map_set]
      exact frz_l _
  rw [if_neg (by rw [c2]; decide)]
  -- way 3
  refine bp_if (k := decide (w.1 = 3) && !decide (row = [])) (ds1 := [.v (boxOD y.2), .d (.lst (row.map encN)), .d (.lst (one.map encP)), .d (.lst (two.map encP)), .d (.int w.1), .v (OD.l (row.map encN)), .d (encN (x.1.toNat, y.1.toNat)), .no]) (EW.pt (ew_and (et_cmp op_eq (ev_var 4) ev_int ro_eqI) (fun _ => ew_and1 (ET.cast (et_cmp (op_neD hu) (ev_al 5) (ev_lst (xs := []) ea_nil) (ro_neD (.al rfl (.own _)) (.own []) (shD_ixs row) rfl)) (congrArg (fun b => !b) (eqD_nilN row)) rfl)) fun _ => rfl)) (fun c3 => ?_) fun c3 => ?_
  · rw [if_pos c3]
    have hp := ne _ c3
    have tp := takeF_lt y.2 (l := row.length) (by omega)
    have hlt : (takeF y.2 row.length).1.toNat < row.length := by omega
    refine bp_next (b1_expr (EV.popAt (xs := row.map encN) (n := (takeF y.2 row.length).1.toNat) (d := (row.map encN).getD (takeF y.2 row.length).1.toNat .non) (ds2 := [.v (boxOD (takeF y.2 row.length).2), .d (.lst (row.map encN)), .d (.lst (one.map encP)), .d (.lst (two.map encP)), .d (.int w.1), .v (OD.l ((row.map encN).eraseIdx (takeF y.2 row.length).1.toNat)), .d (encN (x.1.toNat, y.1.toNat)), .no]) 5 (ev_take (ok_take T h0) hr (EV.cast (EV.len (xs := row.map encN) (ev_al 5) (.al rfl (.own _)) T.fLen) (by rw [lr]) rfl) k3 ⟨by omega, by omega⟩) rfl (ixN_nat tp.1 (by rw [lr]; exact tp.2)) (by rw [List.getD_eq_getElem?_getD, List.getElem?_eq_getElem (by rw [lr]; exact hlt)]; rfl) (by rw [lr]; omega))) ?_
    refine bp_nil (bp_nil (bp_nil (bp_ret (od := .dat (.lst ((row.eraseIdx (takeF y.2 row.length).1.toNat).map encN))) (ev_frz 5 (d := .lst ((row.eraseIdx (takeF y.2 row.length).1.toNat).map encN)) rfl ?_ rfl (hp := pr _)) ⟨rfl, fun i h => by cases h; rfl⟩)))
    rw [← eraseIdx_map]
    exact frz_l _
  rw [if_neg (by rw [c3]; decide)]
  -- way 4
  refine bp_if (k := decide (w.1 = 4)) (ds1 := [.v (boxOD y.2), .d (.lst (row.map encN)), .d (.lst (one.map encP)), .d (.lst (two.map encP)), .d (.int w.1), .v (OD.l (row.map encN)), .d (encN (x.1.toNat, y.1.toNat)), .no]) (et_cmp op_eq (ev_var 4) ev_int ro_eqI) (fun c4 => ?_) fun c4 => ?_
  · rw [if_pos c4, ← putF_map encN]
    refine bp_next (b1_set (ds1 := [.v (boxOD (takeF y.2 (1 + row.length)).2), .d (.lst (row.map encN)), .d (.lst (one.map encP)), .d (.lst (two.map encP)), .d (.int w.1), .d (.lst (row.map encN)), .d (encN (x.1.toNat, y.1.toNat)), .no]) (ds2 := [.v (boxOD (takeF y.2 (1 + row.length)).2), .d (.lst (row.map encN)), .d (.lst (one.map encP)), .d (.lst (two.map encP)), .d (.int w.1), .d (.lst (putF y.2 (row.map encN) (encN (x.1.toNat, y.1.toNat)))), .d (encN (x.1.toNat, y.1.toNat)), .no]) 5 (ev_fn 0 (ok_put T h0 h3) hr (ea_cons (ev_al 0) (ea_cons (ev_frz 5 rfl (frz_l _) (hp := pr _)) (ea1 (ev_var 6)))) (.own rfl (.dat (.dat .nil))) ⟨y.2, row.map encN, encN (x.1.toNat, y.1.toNat), rfl, k3, by rw [lr]; omega, rfl⟩ (hs := by first | (rw [lr]; rfl) | rw [lr])) nd (hp := pr _)) ?_
    exact bp_nil (bp_nil (bp_nil (bp_nil (bp_ret (ev_var 5) ⟨rfl, fun i h => by cases h; rfl⟩))))
  rw [if_neg (by rw [c4]; decide)]
  have em := mixF_map encN (0, 0) y.2 row
  refine bp_next (b1_set (od := .dat (.lst ((mixα (0, 0) y.2 row).2.2.map encN))) (ds1 := [.v (boxOD (mixα (0, 0) y.2 row).1), .d (.lst (row.map encN)), .d (.lst (one.map encP)), .d (.lst (two.map encP)), .d (.int w.1), .d (.lst (row.map encN)), .d (encN (x.1.toNat, y.1.toNat)), .no]) (ds2 := [.v (boxOD (mixα (0, 0) y.2 row).1), .d (.lst (row.map encN)), .d (.lst (one.map encP)), .d (.lst (two.map encP)), .d (.int w.1), .d (.lst ((mixα (0, 0) y.2 row).2.2.map encN)), .d (encN (x.1.toNat, y.1.toNat)), .no]) 5 (EV.cast (o := .d (.lst (mixF y.2 (row.map encN)).2.2)) (ev_fn 0 (ok_mixed T h0 h2) hr (ea_cons (ev_al 0) (ea1 (ev_frz 5 rfl (frz_l _) (hp := pr _)))) (.own rfl (.dat .nil)) ⟨y.2, row.map encN, rfl, k3, by rw [lr]; omega, rfl⟩ (hs := by rw [em]; rfl)) (by rw [em]; rfl) rfl) nd (hp := pr _)) ?_
  exact bp_nil (bp_nil (bp_nil (bp_nil (bp_ret (ev_var 5) ⟨rfl, fun i h => by cases h; rfl⟩))))
end
end K74
/-! K74zm: _law_drawn_bar (printed by wip/gen/zm.py). -/
namespace DL
open PySem PySem.Spec PyProof.Rows L2
section
variable {X : Cx} {ca : CA} {B : Base} {ds ds1 ds2 : List Sl} {a b : Expr} {pos : Pos} {xs ys : List D}
/-- xs + ys, of tuples -/
theorem EV.catT (ha : EV X ca B a ds (.d (.tup xs)) ds1) (hb : EV X ca B b ds1 (.d (.tup ys)) ds2) (hz : xs.length + ys.length ≤ 16777216) : EV X ca B (.BinOp a .Add b pos) ds (.d (.tup (xs ++ ys))) ds2 := ev_op op_catA ha hb fun ts σ H x y Q h q => by
  have h0 := h
  obtain ⟨F, Hu, ow, rfl, C⟩ := h
  obtain ⟨a, vs, rfl, e1, r1⟩ := C.rest.seqT (.tup xs)
  obtain ⟨b, us, rfl, e2, r2⟩ := C.seqT (.tup ys)
  refine ⟨a, b, vs, us, rfl, rfl, e1, e2, by rw [← r1.length, ← r2.length, sizeLine_eq]; exact hz, fun z => ?_, fun _ z => ?_, fun _ _ p hp => ?_⟩
  · have : xs = [] := List.length_eq_zero_iff.mp (by rw [r1.length, z]; rfl)
    subst this
    exact q _ _ (h0.drop (T := [(.ref a, .d (.tup []))]))
  · have : ys = [] := List.length_eq_zero_iff.mp (by rw [r2.length, z]; rfl)
    subst this
    rw [List.append_nil] at q
    exact q _ _ h0.pop
  · exact q _ _ (C.rest.rest.newT (r1.append r2) hp)
end
def Unst (X : Cx) (e : Expr) : Prop := ∀ es, starEach (e :: es) X.env = (false, eval e X.env) :: starEach es X.env
theorem unst_tup {X : Cx} {xs : List Expr} {k : Nat} {p : Pos} : Unst X (.Tuple xs k p) := fun _ => rfl
section
variable {X : Cx} {ca : CA} {B : Base} {ds : List Sl} {e1 e2 e3 e4 e5 e6 : Expr} {d1 d2 d3 d4 d5 d6 : D}
theorem ead6 (h1 : EV X ca B e1 ds (.d d1) ds) (h2 : EV X ca B e2 ds (.d d2) ds) (h3 : EV X ca B e3 ds (.d d3) ds) (h4 : EV X ca B e4 ds (.d d4) ds) (h5 : EV X ca B e5 ds (.d d5) ds) (h6 : EV X ca B e6 ds (.d d6) ds)
    (u1 : Unst X e1) (u2 : Unst X e2) (u3 : Unst X e3) (u4 : Unst X e4) (u5 : Unst X e5) (u6 : Unst X e6) : EAD X ca B [e1, e2, e3, e4, e5, e6] ds [d1, d2, d3, d4, d5, d6] ds :=
  ead_cons h1 (ead_cons h2 (ead_cons h3 (ead_cons h4 (ead_cons h5 (ead_cons h6 ead_nil (u6 _)) (u5 _)) (u4 _)) (u3 _)) (u2 _)) (u1 _)
theorem ead4 (h1 : EV X ca B e1 ds (.d d1) ds) (h2 : EV X ca B e2 ds (.d d2) ds) (h3 : EV X ca B e3 ds (.d d3) ds) (h4 : EV X ca B e4 ds (.d d4) ds)
    (u1 : Unst X e1) (u2 : Unst X e2) (u3 : Unst X e3) (u4 : Unst X e4) : EAD X ca B [e1, e2, e3, e4] ds [d1, d2, d3, d4] ds :=
  ead_cons h1 (ead_cons h2 (ead_cons h3 (ead_cons h4 ead_nil (u4 _)) (u3 _)) (u2 _)) (u1 _)
end
end DL
namespace K74
open PySem PySem.Spec PyProof.Rows L2 DL
def longI (mine : List (Int × Int)) (n : Int) : List Int := (rngI mine.length).filter fun i => decide (life (at0 mine i) > n)
def keepP (b : Box) (i : Int) : Option Int × Box := (if (takeF b 3).1 > 0 then some i else none, (takeF b 3).2)
def keepZ (b : Box) (i : Int) : Option Int × Box := (if (takeF b 2).1 = 0 then some i else none, (takeF b 2).2)
def bars1 : List Bar := [.low1, .high1, .lowN, .high0, .loose1, .low3]
def bars2 (kb : Bool) (wh : Int) (long : List Int) (m : Nat) : List Bar := [.set kb 2 long, .set kb wh (long ++ [(m : Int)]), .set kb (-1) long, .two kb wh]
def drawnBar (b : Box) (u v : Five) (n : Int) : Bar × Box :=
  let kd := takeF b 2
  let wh := takeF kd.2 2
  let wy := takeF wh.2 8
  let mine := (if wh.1 = 0 then u else v).kd kd.1.toNat
  let kb := decide (kd.1 = 1)
  let long := longI mine n
  if wy.1 = 0 then (.loose ((takeF wy.2 (2 + u.loo.length)).1 - 1), (takeF wy.2 (2 + u.loo.length)).2)
  else if wy.1 = 1 then (bars1.getD (takeF wy.2 6).1.toNat .low1, (takeF wy.2 6).2)
  else if wy.1 < 4 then (.set kb wh.1 (fmS keepP long wy.2).1, (fmS keepP long wy.2).2)
  else if (decide (wy.1 < 6) && !decide (long = [])) = true then (.set kb wh.1 [long.getD (takeF wy.2 long.length).1.toNat 0], (takeF wy.2 long.length).2)
  else if wy.1 = 6 then (.set kb wh.1 (fmS keepZ (rngI mine.length) wy.2).1, (fmS keepZ (rngI mine.length) wy.2).2)
  else ((bars2 kb wh.1 long mine.length).getD (takeF wy.2 4).1.toNat .low1, (takeF wy.2 4).2)
theorem keep_inv {f : Box → Int → Option Int × Box} (hf : ∀ b i, 0 ≤ b.here → 0 ≤ (f b i).2.here) : ∀ (as : List Int) (b : Box), 0 ≤ b.here → 0 ≤ (fmS f as b).2.here ∧ (fmS f as b).1.length ≤ as.length
  | [], b, h => ⟨h, Nat.le_refl _⟩
  | a :: as, b, h => by
    have h2 := hf b a h
    unfold fmS
    cases e : f b a with
    | mk o s =>
      rw [e] at h2
      have ih := keep_inv hf as s h2
      cases o with
      | none => exact ⟨ih.1, by rw [List.length_cons]; exact Nat.le_succ_of_le ih.2⟩
      | some x => exact ⟨ih.1, by rw [List.length_cons, List.length_cons]; exact Nat.succ_le_succ ih.2⟩
theorem longI_len (mine : List (Int × Int)) (n : Int) : (longI mine n).length ≤ mine.length := by
  have := List.length_filter_le (fun i => decide (life (at0 mine i) > n)) (rngI mine.length)
  rwa [rngI_len] at this
theorem keepP_here (b : Box) (i : Int) (h : 0 ≤ b.here) : 0 ≤ (keepP b i).2.here := takeF_here _ _ h
theorem keepZ_here (b : Box) (i : Int) (h : 0 ≤ b.here) : 0 ≤ (keepZ b i).2.here := takeF_here _ _ h
theorem five_small {u v : Five} (hu : u.small) (hv : v.small) (c : Prop) [Decidable c] : (if c then u else v).small := by
  split
  · exact hu
  · exact hv
theorem drawnBar_ok {b : Box} {u v : Five} {n : Int} (hb : 0 ≤ b.here) (hu : u.small) (hv : v.small) : 0 ≤ (drawnBar b u v n).2.here ∧ ∀ k wh idx, (drawnBar b u v n).1 = .set k wh idx → idx.length ≤ 1000 := by
  have k1 := takeF_here b 2 hb
  unfold drawnBar
  dsimp only
  generalize takeF b 2 = kd at *
  have k2 := takeF_here kd.2 2 k1
  generalize takeF kd.2 2 = wh at *
  have k3 := takeF_here wh.2 8 k2
  generalize takeF wh.2 8 = wy at *
  have lm := kd_len (five_small hu hv (wh.1 = 0)) kd.1.toNat
  generalize (if wh.1 = 0 then u else v).kd kd.1.toNat = mine at *
  have ll := longI_len mine n
  generalize longI mine n = long at *
  by_cases c0 : wy.1 = 0
  · rw [if_pos c0]
    exact ⟨takeF_here _ _ k3, fun k wh idx e => by cases e⟩
  rw [if_neg c0]
  by_cases c1 : wy.1 = 1
  · rw [if_pos c1]
    refine ⟨takeF_here _ _ k3, fun k wh idx e => ?_⟩
    exfalso
    have e : bars1.getD (takeF wy.2 6).1.toNat .low1 = .set k wh idx := e
    generalize (takeF wy.2 6).1.toNat = t at e
    match t, e with
    | 0, e => cases e
    | 1, e => cases e
    | 2, e => cases e
    | 3, e => cases e
    | 4, e => cases e
    | 5, e => cases e
    | t + 6, e => cases e
  rw [if_neg c1]
  by_cases c2 : wy.1 < 4
  · rw [if_pos c2]
    have := keep_inv keepP_here long wy.2 k3
    exact ⟨this.1, fun k wh idx e => by cases e; have := this.2; omega⟩
  rw [if_neg c2]
  by_cases c3 : (decide (wy.1 < 6) && !decide (long = [])) = true
  · rw [if_pos c3]
    exact ⟨takeF_here _ _ k3, fun k wh idx e => by cases e; show 1 ≤ 1000; decide⟩
  rw [if_neg c3]
  by_cases c4 : wy.1 = 6
  · rw [if_pos c4]
    have := keep_inv keepZ_here (rngI mine.length) wy.2 k3
    rw [rngI_len] at this
    exact ⟨this.1, fun k wh idx e => by cases e; have := this.2; omega⟩
  rw [if_neg c4]
  refine ⟨takeF_here _ _ k3, fun k wh' idx e => ?_⟩
  have e : (bars2 (decide (kd.1 = 1)) wh.1 long mine.length).getD (takeF wy.2 4).1.toNat .low1 = .set k wh' idx := e
  generalize (takeF wy.2 4).1.toNat = t at e
  match t, e with
  | 0, e => cases e; omega
  | 1, e => cases e; rw [List.length_append]; show _ + 1 ≤ _; omega
  | 2, e => cases e; omega
  | 3, e => cases e
  | t + 4, e => cases e
def R_drawnbar : List OD → Res → Prop := fun ods res => ∃ (b : Box) (u v : Five) (n : Int), ods = [boxOD b, .dat (enc5 u), .dat (enc5 v), .dat (.int n)] ∧ 0 ≤ b.here ∧ u.small ∧ v.small ∧ res = .ok (.dat (encBar (drawnBar b u v n).1)) (boxOD (drawnBar b u v n).2)
theorem bar_at {bars : List Bar} {t : Int} (h0 : 0 ≤ t) (h : t < bars.length) : (bars.map encBar)[t.toNat]? = some (encBar (bars.getD t.toNat .low1)) := by
  have hlt : t.toNat < bars.length := by omega
  rw [List.getElem?_map, List.getElem?_eq_getElem hlt, List.getD_eq_getElem?_getD, List.getElem?_eq_getElem hlt]
  rfl
section
variable {P : Program} {w : World} {K : PySem.W.Frag} {mg : Str → Option Value} {base : Heap} {ca : CA}
theorem ok_drawnbar (T : Txt w K mg ca) (h0 : Has K mg "_law_take" (top 39)) (h1 : Has K mg "_law_of" (top 40)) (h : Has K mg "_law_drawn_bar" (top 60)) : CallI P w K mg base ca 3 "_law_drawn_bar" 4 (some 0) R_drawnbar := by
  have nd : (["box", "a", "b", "halves", "kind", "whose", "way", "mine", "many", "word", "long", "k"] : List Str).Nodup := by decide +kernel
  refine callI (N := ["box", "a", "b", "halves", "kind", "whose", "way", "mine", "many", "word", "long", "k"]) (ps := ["box", "a", "b", "halves"]) h (fun kV doc pm an cdv ct us hl => by match us, hl with | [_, _, _, _], _ => rfl) ⟨rfl, rfl, rfl, nd, rfl, by decide +kernel, by decide +kernel⟩ fun X B ods res ⟨f, cdv, A, outer, s', H, E, hX⟩ hr hpr hR hl => ?_
  have hu9 : X.A.units + 64 < cLine := by have := hr.un; omega
  subst hX
  obtain ⟨b, u, v, n, rfl, hb, hu, hv, rfl⟩ := hR
  have pr : ∀ i, B.pr (i + 1) = false := fun i => by rw [hpr]; rfl
  have k1 := takeF_here b 2 hb
  have k2 := takeF_here (takeF b 2).2 2 k1
  refine bp_next (b1_par3 (od1 := .dat (.int (takeF b 2).1)) (od2 := .dat (.int (takeF (takeF b 2).2 2).1)) (od3 := .dat (.int (takeF (takeF (takeF b 2).2 2).2 8).1)) (ds2 := [.v (boxOD (takeF (takeF (takeF b 2).2 2).2 8).2), .d (enc5 u), .d (enc5 v), .d (.int n), .d (.int (takeF b 2).1), .d (.int (takeF (takeF b 2).2 2).1), .d (.int (takeF (takeF (takeF b 2).2 2).2 8).1), .no, .no, .no, .no, .no]) 4 5 6 rfl nd (ea_cons (ev_take (ok_take T h0) hr ev_int hb ⟨by decide, by decide⟩) (ea_cons (ev_take (ok_take T h0) hr ev_int k1 ⟨by decide, by decide⟩) (ea1 (ev_take (ok_take T h0) hr ev_int k2 ⟨by decide, by decide⟩)))) (hpi := pr _) (hpj := pr _) (hpl := pr _)) ?_
  have tk := takeF_lt b (l := 2) (by decide)
  have tw := takeF_lt (takeF b 2).2 (l := 2) (by decide)
  unfold drawnBar
  dsimp only
  generalize takeF b 2 = kd at *
  generalize takeF kd.2 2 = wh at *
  have k3 := takeF_here wh.2 8 k2
  generalize takeF wh.2 8 = wy at *
  have ha : atI [enc5 u, enc5 v] wh.1 = some (.lst (if wh.1 = 0 then u else v).its) := by
    rcases (show wh.1 = 0 ∨ wh.1 = 1 by omega) with e | e <;> rw [e] <;> rfl
  have hm : atI (if wh.1 = 0 then u else v).its kd.1 = some (.lst (((if wh.1 = 0 then u else v).kd kd.1.toNat).map encP)) := by
    have := at_kd (if wh.1 = 0 then u else v) (i := kd.1.toNat) (by omega)
    rwa [Int.zero_add, Int.toNat_of_nonneg tk.1] at this
  have hw : atI [D.str "hollows", .str "summits"] kd.1 = some (.str (kname (decide (kd.1 = 1)))) := by
    rcases (show kd.1 = 0 ∨ kd.1 = 1 by omega) with e | e <;> rw [e] <;> rfl
  have lm := kd_len (five_small hu hv (wh.1 = 0)) kd.1.toNat
  generalize (if wh.1 = 0 then u else v).kd kd.1.toNat = mine at *
  generalize (if wh.1 = 0 then u else v).its = its at *
  generalize decide (kd.1 = 1) = kb at *
  have lenm : (mine.map encP).length = mine.length := List.length_map ..
  refine bp_next (b1_set (ds1 := [.v (boxOD wy.2), .d (enc5 u), .d (enc5 v), .d (.int n), .d (.int kd.1), .d (.int wh.1), .d (.int wy.1), .no, .no, .no, .no, .no]) (ds2 := [.v (boxOD wy.2), .d (enc5 u), .d (enc5 v), .d (.int n), .d (.int kd.1), .d (.int wh.1), .d (.int wy.1), .d (.lst (mine.map encP)), .no, .no, .no, .no]) 7 (EV.ix (xs := its) (EV.ix (xs := [enc5 u, enc5 v]) (ev_lstE (ead2 (ev_var 1) (ev_var 2))) (ev_var 5) (.own _) ha) (ev_var 4) (.lst _) hm) nd (hp := pr _)) ?_
  refine bp_next (b1_par2 (od1 := .dat (.int mine.length)) (od2 := .dat (.str (kname kb))) (ds2 := [.v (boxOD wy.2), .d (enc5 u), .d (enc5 v), .d (.int n), .d (.int kd.1), .d (.int wh.1), .d (.int wy.1), .d (.lst (mine.map encP)), .d (.int mine.length), .d (.str (kname kb)), .no, .no]) 8 9 rfl nd (ea_cons (EV.cast (EV.len (xs := mine.map encP) (ev_var 7) (.lst _) T.fLen) (by rw [lenm]) rfl) (ea1 (EV.ix (xs := [.str "hollows", .str "summits"]) (ev_lstE (ead2 ev_str ev_str)) (ev_var 4) (.own _) hw))) (hpi := pr _) (hpj := pr _)) ?_
  have lll := longI_len mine n
  -- the long ones
  refine bp_next (b1_setLc (p' := ⟨0, 0, 0, 0⟩) (own := [("k", 11)]) (ds1 := [.v (boxOD wy.2), .d (enc5 u), .d (enc5 v), .d (.int n), .d (.int kd.1), .d (.int wh.1), .d (.int wy.1), .d (.lst (mine.map encP)), .d (.int mine.length), .d (.str (kname kb)), .no, .no]) (ds2 := [.v (boxOD wy.2), .d (enc5 u), .d (enc5 v), .d (.int n), .d (.int kd.1), .d (.int wh.1), .d (.int wy.1), .d (.lst (mine.map encP)), .d (.int mine.length), .d (.str (kname kb)), .no, .no]) (xs := rngD 0 ((mine.length : Int)).toNat) (out := (longI mine n).map .int) (ds3 := [.v (boxOD wy.2), .d (enc5 u), .d (enc5 v), .d (.int n), .d (.int kd.1), .d (.int wh.1), .d (.int wy.1), .d (.lst (mine.map encP)), .d (.int mine.length), .d (.str (kname kb)), .v (OD.l ((longI mine n).map .int)), .no]) 10 rfl nd (iv_range1 (ev_var 8) T.fRange ⟨by omega, by omega⟩) (blkOk_by (by rfl)) ?_ ?_ ?_ (by rw [List.length_map]; omega) (hpi := pr _)) ?_
  · exact fun i hi od => by simp at hi; rcases hi with rfl; exact fun z => by cases z
  · exact fun i hi => by simp at hi; rcases hi with rfl; exact pr _
  · rw [Int.toNat_natCast, rng_enc]
    refine lc_nameF 11 D.int (fun i => decide (life (at0 mine i) > n)) D.int (rngI mine.length) nd (fun i hi X' hX' => ?_) (fun i hi _ X' hX' => ?_) (hp := pr _)
    · obtain ⟨_, _, _, _, _, rfl⟩ := hX'
      have hi := mem_rngI.mp hi
      exact ets_one (et_cmp op_gt (EV.sub (EV.ix (xs := [.int (at0 mine i).1, .int (at0 mine i).2]) (EV.ix (xs := mine.map encP) (ev_var 7) (ev_var 11) (.lst _) (atI_mapI hi)) ev_int (.tup _) rfl) (EV.ix (xs := [.int (at0 mine i).1, .int (at0 mine i).2]) (EV.ix (xs := mine.map encP) (ev_var 7) (ev_var 11) (.lst _) (atI_mapI hi)) ev_int (.tup _) rfl)) (ev_var 3) ro_cmpI)
    · obtain ⟨_, _, _, _, _, rfl⟩ := hX'
      exact ev_var 11
  generalize longI mine n = long at *
  -- way 0
  refine bp_if (k := decide (wy.1 = 0)) (ds1 := [.v (boxOD wy.2), .d (enc5 u), .d (enc5 v), .d (.int n), .d (.int kd.1), .d (.int wh.1), .d (.int wy.1), .d (.lst (mine.map encP)), .d (.int mine.length), .d (.str (kname kb)), .v (OD.l (long.map .int)), .no]) (et_cmp op_eq (ev_var 6) ev_int ro_eqI) (fun c0 => ?_) fun c0 => bp_nil ?_
  · rw [if_pos (of_decide_eq_true c0)]
    exact bp_ret (od := .dat (encBar (.loose ((takeF wy.2 (2 + u.loo.length)).1 - 1)))) (ds1 := [.v (boxOD (takeF wy.2 (2 + u.loo.length)).2), .d (enc5 u), .d (enc5 v), .d (.int n), .d (.int kd.1), .d (.int wh.1), .d (.int wy.1), .d (.lst (mine.map encP)), .d (.int mine.length), .d (.str (kname kb)), .v (OD.l (long.map .int)), .no]) (ev_tupD (ead2 ev_str (EV.sub (ev_take (ok_take T h0) hr (EV.add ev_int (EV.cast (EV.len (xs := u.loo.map .int) (EV.ix (xs := u.its) (ev_var 1) ev_int (.lst _) rfl) (.lst _) T.fLen) (by rw [List.length_map]) rfl)) k3 ⟨by have := hu.2.2; omega, by have := hu.2.2; omega⟩) ev_int))) ⟨rfl, fun i h => by cases h; rfl⟩
  rw [if_neg (of_decide_eq_false c0)]
  -- way 1
  refine bp_if (k := decide (wy.1 = 1)) (ds1 := [.v (boxOD wy.2), .d (enc5 u), .d (enc5 v), .d (.int n), .d (.int kd.1), .d (.int wh.1), .d (.int wy.1), .d (.lst (mine.map encP)), .d (.int mine.length), .d (.str (kname kb)), .v (OD.l (long.map .int)), .no]) (et_cmp op_eq (ev_var 6) ev_int ro_eqI) (fun c1 => ?_) fun c1 => bp_nil ?_
  · rw [if_pos (of_decide_eq_true c1)]
    have t6 := takeF_lt wy.2 (l := 6) (by decide)
    have hb6 : ([.tup [.str "lowest"], .tup [.str "highest"], .tup [.str "lowest", .non], .tup [.str "highest", .int 0], .tup [.str "loose"], .tup [.str "lowest", .int 0, .tup [.int 0]]] : List D)[(takeF wy.2 6).1.toNat]? = some (encBar (bars1.getD (takeF wy.2 6).1.toNat .low1)) := bar_at (bars := bars1) t6.1 t6.2
    have hn6 : ((([.tup [.str "lowest"], .tup [.str "highest"], .tup [.str "lowest", .non], .tup [.str "highest", .int 0], .tup [.str "loose"], .tup [.str "lowest", .int 0, .tup [.int 0]]] : List D).length : Nat) : Int) = 6 := rfl
    generalize encBar (bars1.getD (takeF wy.2 6).1.toNat .low1) = d at *
    refine bp_ret (od := .dat d) (ds1 := [.v (boxOD (takeF wy.2 6).2), .d (enc5 u), .d (enc5 v), .d (.int n), .d (.int kd.1), .d (.int wh.1), .d (.int wy.1), .d (.lst (mine.map encP)), .d (.int mine.length), .d (.str (kname kb)), .v (OD.l (long.map .int)), .no]) ?_ ⟨rfl, fun i h => by cases h; rfl⟩
    refine ev_fn (ds1 := [.v (boxOD wy.2), .d (enc5 u), .d (enc5 v), .d (.int n), .d (.int kd.1), .d (.int wh.1), .d (.int wy.1), .d (.lst (mine.map encP)), .d (.int mine.length), .d (.str (kname kb)), .v (OD.l (long.map .int)), .no]) 0 (ok_of T h0 h1) hr ?_ (.own rfl (.dat .nil)) ⟨wy.2, [.tup [.str "lowest"], .tup [.str "highest"], .tup [.str "lowest", .non], .tup [.str "highest", .int 0], .tup [.str "loose"], .tup [.str "lowest", .int 0, .tup [.int 0]]], d, rfl, k3, by decide, by decide, by rw [hn6]; exact hb6, rfl⟩ (hs := by rw [hn6]; rfl)
    refine ea_cons (ev_al 0) (ea1 ?_)
    refine EV.frz (od := OD.l [.tup [.str "lowest"], .tup [.str "highest"], .tup [.str "lowest", .non], .tup [.str "highest", .int 0], .tup [.str "loose"], .tup [.str "lowest", .int 0, .tup [.int 0]]]) ?_ ?_
    rotate_left
    · exact frz_l _
    refine ev_lstE (xs := [.tup [.str "lowest"], .tup [.str "highest"], .tup [.str "lowest", .non], .tup [.str "highest", .int 0], .tup [.str "loose"], .tup [.str "lowest", .int 0, .tup [.int 0]]]) ?_ ?_
    rotate_left
    · simp
    with_reducible refine ead6 ?_ ?_ ?_ ?_ ?_ ?_ ?_ ?_ ?_ ?_ ?_ ?_
    · exact ev_tupD (ead1 ev_str)
    · exact ev_tupD (ead1 ev_str)
    · exact ev_tupD (ead2 ev_str ev_non)
    · exact ev_tupD (ead2 ev_str ev_int)
    · exact ev_tupD (ead1 ev_str)
    · exact ev_tupD (ead3 ev_str ev_int (ev_tupD (ead1 ev_int)))
    · exact unst_tup
    · exact unst_tup
    · exact unst_tup
    · exact unst_tup
    · exact unst_tup
    · exact unst_tup
  rw [if_neg (of_decide_eq_false c1)]
  -- way 2, 3
  refine bp_if (k := decide (wy.1 < 4)) (ds1 := [.v (boxOD wy.2), .d (enc5 u), .d (enc5 v), .d (.int n), .d (.int kd.1), .d (.int wh.1), .d (.int wy.1), .d (.lst (mine.map encP)), .d (.int mine.length), .d (.str (kname kb)), .v (OD.l (long.map .int)), .no]) (et_cmp op_lt (ev_var 6) ev_int ro_cmpI) (fun c2 => ?_) fun c2 => bp_nil ?_
  · rw [if_pos (of_decide_eq_true c2)]
    have ki := keep_inv keepP_here long wy.2 k3
    generalize hLO : fmS keepP long wy.2 = LO at *
    refine bp_ret (od := .dat (encBar (.set kb wh.1 LO.1))) (ds1 := [.v (boxOD LO.2), .d (enc5 u), .d (enc5 v), .d (.int n), .d (.int kd.1), .d (.int wh.1), .d (.int wy.1), .d (.lst (mine.map encP)), .d (.int mine.length), .d (.str (kname kb)), .d (.lst (long.map .int)), .no]) (ev_tupD (ead3 (ev_var 9) (ev_var 5) (EV.tuple (o := .v (OD.l (LO.1.map .int))) (ev_lc (own := [("k", 11)]) (ds1 := [.v (boxOD wy.2), .d (enc5 u), .d (enc5 v), .d (.int n), .d (.int kd.1), .d (.int wh.1), .d (.int wy.1), .d (.lst (mine.map encP)), .d (.int mine.length), .d (.str (kname kb)), .d (.lst (long.map .int)), .no]) (ds2 := [.v (boxOD LO.2), .d (enc5 u), .d (enc5 v), .d (.int n), .d (.int kd.1), .d (.int wh.1), .d (.int wy.1), .d (.lst (mine.map encP)), .d (.int mine.length), .d (.str (kname kb)), .d (.lst (long.map .int)), .no]) (xs := long.map D.int) rfl nd (iv_list (ev_frz 10 rfl (frz_l _) (hp := pr _))) (blkOk_by (by rfl)) ?_ ?_ ?_ (by rw [List.length_map]; have := ki.2; omega)) (.own _) T.fTuple))) ⟨rfl, fun i h => by cases h; rfl⟩
    · exact fun i hi od => by simp at hi; rcases hi with rfl; exact fun z => by cases z
    · exact fun i hi => by simp at hi; rcases hi with rfl; exact pr _
    · subst hLO
      refine lc_st (fun bx => [.v (boxOD bx), .d (enc5 u), .d (enc5 v), .d (.int n), .d (.int kd.1), .d (.int wh.1), .d (.int wy.1), .d (.lst (mine.map encP)), .d (.int mine.length), .d (.str (kname kb)), .d (.lst (long.map .int)), .no]) D.int D.int keepP (fun b _ => 0 ≤ b.here) (fun bx i as hI => ⟨⟨[.v (boxOD bx), .d (enc5 u), .d (enc5 v), .d (.int n), .d (.int kd.1), .d (.int wh.1), .d (.int wy.1), .d (.lst (mine.map encP)), .d (.int mine.length), .d (.str (kname kb)), .d (.lst (long.map .int)), .d (.int i)], decide ((takeF bx 3).1 > 0), [.v (boxOD (takeF bx 3).2), .d (enc5 u), .d (enc5 v), .d (.int n), .d (.int kd.1), .d (.int wh.1), .d (.int wy.1), .d (.lst (mine.map encP)), .d (.int mine.length), .d (.str (kname kb)), .d (.lst (long.map .int)), .d (.int i)], [11], fun X' hX' => ?_, fun i hi => hi, fun X' hX' => ?_, ?_⟩, keepP_here _ _ hI⟩) long wy.2 k3
      · obtain ⟨_, _, _, _, _, rfl⟩ := hX'
        exact tg_name 11 nd (hp := pr _)
      · obtain ⟨_, _, _, _, _, rfl⟩ := hX'
        exact ets_one (et_cmp op_gt (ev_take (ok_take T h0) hr ev_int hI ⟨by decide, by decide⟩) ev_int ro_cmpI)
      · by_cases c : (takeF bx 3).1 > 0
        · refine .inr ⟨decide_eq_true c, i, (takeF bx 3).2, [.v (boxOD (takeF bx 3).2), .d (enc5 u), .d (enc5 v), .d (.int n), .d (.int kd.1), .d (.int wh.1), .d (.int wy.1), .d (.lst (mine.map encP)), .d (.int mine.length), .d (.str (kname kb)), .d (.lst (long.map .int)), .d (.int i)], by unfold keepP; rw [if_pos c], fun X' hX' => ?_, rfl⟩
          obtain ⟨_, _, _, _, _, rfl⟩ := hX'
          exact ev_var 11
        · exact .inl ⟨decide_eq_false c, (takeF bx 3).2, by unfold keepP; rw [if_neg c], rfl⟩
  rw [if_neg (of_decide_eq_false c2)]
  -- way 4, 5
  refine bp_if (k := decide (wy.1 < 6) && !decide (long = [])) (ds1 := [.v (boxOD wy.2), .d (enc5 u), .d (enc5 v), .d (.int n), .d (.int kd.1), .d (.int wh.1), .d (.int wy.1), .d (.lst (mine.map encP)), .d (.int mine.length), .d (.str (kname kb)), .v (OD.l (long.map .int)), .no]) (EW.pt (ew_and (et_cmp op_lt (ev_var 6) ev_int ro_cmpI) (fun _ => ew_and1 (ET.cast (et_cmp (op_neD hu9) (ev_al 10) (ev_lst (xs := []) ea_nil) (ro_neD (.al rfl (.own _)) (.own []) (shD_ints long) rfl)) (by rw [show ([] : List D) = ([] : List Int).map D.int from rfl, eqD_ints]) rfl)) fun _ => rfl)) (fun c3 => ?_) fun c3 => bp_nil ?_
  · rw [if_pos c3]
    rw [Bool.and_eq_true, Bool.not_eq_true', decide_eq_false_iff_not] at c3
    have hp := List.length_pos_iff.mpr c3.2
    have tl := takeF_lt wy.2 (l := long.length) (by omega)
    have hlt : (takeF wy.2 long.length).1.toNat < long.length := by omega
    refine bp_ret (od := .dat (encBar (.set kb wh.1 [long.getD (takeF wy.2 long.length).1.toNat 0]))) (ds1 := [.v (boxOD (takeF wy.2 long.length).2), .d (enc5 u), .d (enc5 v), .d (.int n), .d (.int kd.1), .d (.int wh.1), .d (.int wy.1), .d (.lst (mine.map encP)), .d (.int mine.length), .d (.str (kname kb)), .d (.lst (long.map .int)), .no]) (ev_tupD (ead3 (ev_var 9) (ev_var 5) (ev_tupD (ead1 (ev_fn 0 (ok_of T h0 h1) hr (ea_cons (ev_al 0) (ea1 (ev_frz 10 rfl (frz_l _) (hp := pr _)))) (.own rfl (.dat .nil)) ⟨wy.2, long.map .int, .int (long.getD (takeF wy.2 long.length).1.toNat 0), rfl, k3, by rw [List.length_map]; omega, by rw [List.length_map]; omega, ?_, rfl⟩ (hs := by rw [List.length_map]; rfl)))))) ⟨rfl, fun i h => by cases h; rfl⟩
    rw [List.length_map, List.getElem?_map, List.getElem?_eq_getElem hlt, List.getD_eq_getElem?_getD, List.getElem?_eq_getElem hlt]
    rfl
  rw [if_neg (by rw [c3]; decide)]
  -- way 6
  refine bp_if (k := decide (wy.1 = 6)) (ds1 := [.v (boxOD wy.2), .d (enc5 u), .d (enc5 v), .d (.int n), .d (.int kd.1), .d (.int wh.1), .d (.int wy.1), .d (.lst (mine.map encP)), .d (.int mine.length), .d (.str (kname kb)), .v (OD.l (long.map .int)), .no]) (et_cmp op_eq (ev_var 6) ev_int ro_eqI) (fun c4 => ?_) fun c4 => bp_nil ?_
  · rw [if_pos (of_decide_eq_true c4)]
    have ki := keep_inv keepZ_here (rngI mine.length) wy.2 k3
    rw [rngI_len] at ki
    generalize hLO : fmS keepZ (rngI mine.length) wy.2 = LO at *
    refine bp_ret (od := .dat (encBar (.set kb wh.1 LO.1))) (ds1 := [.v (boxOD LO.2), .d (enc5 u), .d (enc5 v), .d (.int n), .d (.int kd.1), .d (.int wh.1), .d (.int wy.1), .d (.lst (mine.map encP)), .d (.int mine.length), .d (.str (kname kb)), .v (OD.l (long.map .int)), .no]) (ev_tupD (ead3 (ev_var 9) (ev_var 5) (EV.tuple (o := .v (OD.l (LO.1.map .int))) (ev_lc (own := [("k", 11)]) (ds1 := [.v (boxOD wy.2), .d (enc5 u), .d (enc5 v), .d (.int n), .d (.int kd.1), .d (.int wh.1), .d (.int wy.1), .d (.lst (mine.map encP)), .d (.int mine.length), .d (.str (kname kb)), .v (OD.l (long.map .int)), .no]) (ds2 := [.v (boxOD LO.2), .d (enc5 u), .d (enc5 v), .d (.int n), .d (.int kd.1), .d (.int wh.1), .d (.int wy.1), .d (.lst (mine.map encP)), .d (.int mine.length), .d (.str (kname kb)), .v (OD.l (long.map .int)), .no]) (xs := rngD 0 ((mine.length : Int)).toNat) rfl nd (iv_range1 (ev_var 8) T.fRange ⟨by omega, by omega⟩) (blkOk_by (by rfl)) ?_ ?_ ?_ (by rw [List.length_map]; have := ki.2; omega)) (.own _) T.fTuple))) ⟨rfl, fun i h => by cases h; rfl⟩
    · exact fun i hi od => by simp at hi; rcases hi with rfl; exact fun z => by cases z
    · exact fun i hi => by simp at hi; rcases hi with rfl; exact pr _
    · subst hLO
      rw [Int.toNat_natCast, rng_enc]
      refine lc_st (fun bx => [.v (boxOD bx), .d (enc5 u), .d (enc5 v), .d (.int n), .d (.int kd.1), .d (.int wh.1), .d (.int wy.1), .d (.lst (mine.map encP)), .d (.int mine.length), .d (.str (kname kb)), .v (OD.l (long.map .int)), .no]) D.int D.int keepZ (fun b _ => 0 ≤ b.here) (fun bx i as hI => ⟨⟨[.v (boxOD bx), .d (enc5 u), .d (enc5 v), .d (.int n), .d (.int kd.1), .d (.int wh.1), .d (.int wy.1), .d (.lst (mine.map encP)), .d (.int mine.length), .d (.str (kname kb)), .v (OD.l (long.map .int)), .d (.int i)], decide ((takeF bx 2).1 = 0), [.v (boxOD (takeF bx 2).2), .d (enc5 u), .d (enc5 v), .d (.int n), .d (.int kd.1), .d (.int wh.1), .d (.int wy.1), .d (.lst (mine.map encP)), .d (.int mine.length), .d (.str (kname kb)), .v (OD.l (long.map .int)), .d (.int i)], [11], fun X' hX' => ?_, fun i hi => hi, fun X' hX' => ?_, ?_⟩, keepZ_here _ _ hI⟩) (rngI mine.length) wy.2 k3
      · obtain ⟨_, _, _, _, _, rfl⟩ := hX'
        exact tg_name 11 nd (hp := pr _)
      · obtain ⟨_, _, _, _, _, rfl⟩ := hX'
        exact ets_one (et_cmp op_eq (ev_take (ok_take T h0) hr ev_int hI ⟨by decide, by decide⟩) ev_int ro_eqI)
      · by_cases c : (takeF bx 2).1 = 0
        · refine .inr ⟨decide_eq_true c, i, (takeF bx 2).2, [.v (boxOD (takeF bx 2).2), .d (enc5 u), .d (enc5 v), .d (.int n), .d (.int kd.1), .d (.int wh.1), .d (.int wy.1), .d (.lst (mine.map encP)), .d (.int mine.length), .d (.str (kname kb)), .v (OD.l (long.map .int)), .d (.int i)], by unfold keepZ; rw [if_pos c], fun X' hX' => ?_, rfl⟩
          obtain ⟨_, _, _, _, _, rfl⟩ := hX'
          exact ev_var 11
        · exact .inl ⟨decide_eq_false c, (takeF bx 2).2, by unfold keepZ; rw [if_neg c], rfl⟩
  rw [if_neg (of_decide_eq_false c4)]
  have t4 := takeF_lt wy.2 (l := 4) (by decide)
  have e4 : (bars2 kb wh.1 long mine.length).map encBar = [.tup [.str (kname kb), .int 2, .tup (long.map .int)], .tup [.str (kname kb), .int wh.1, .tup (long.map .int ++ [.int mine.length])], .tup [.str (kname kb), .int (-1), .tup (long.map .int)], .tup [.str (kname kb), .int wh.1]] := by
    show [D.tup _, .tup [.str (kname kb), .int wh.1, .tup ((long ++ [(mine.length : Int)]).map .int)], _, _] = _
    rw [List.map_append]
    rfl
  have hb4 : ([.tup [.str (kname kb), .int 2, .tup (long.map .int)], .tup [.str (kname kb), .int wh.1, .tup (long.map .int ++ [.int mine.length])], .tup [.str (kname kb), .int (-1), .tup (long.map .int)], .tup [.str (kname kb), .int wh.1]] : List D)[(takeF wy.2 4).1.toNat]? = some (encBar ((bars2 kb wh.1 long mine.length).getD (takeF wy.2 4).1.toNat .low1)) := by
    rw [← e4]
    exact bar_at t4.1 t4.2
  have hn4 : ((([.tup [.str (kname kb), .int 2, .tup (long.map .int)], .tup [.str (kname kb), .int wh.1, .tup (long.map .int ++ [.int mine.length])], .tup [.str (kname kb), .int (-1), .tup (long.map .int)], .tup [.str (kname kb), .int wh.1]] : List D).length : Nat) : Int) = 4 := rfl
  generalize encBar ((bars2 kb wh.1 long mine.length).getD (takeF wy.2 4).1.toNat .low1) = d at *
  refine bp_ret (od := .dat d) (ds1 := [.v (boxOD (takeF wy.2 4).2), .d (enc5 u), .d (enc5 v), .d (.int n), .d (.int kd.1), .d (.int wh.1), .d (.int wy.1), .d (.lst (mine.map encP)), .d (.int mine.length), .d (.str (kname kb)), .v (OD.l (long.map .int)), .no]) ?_ ⟨rfl, fun i h => by cases h; rfl⟩
  refine ev_fn (ds1 := [.v (boxOD wy.2), .d (enc5 u), .d (enc5 v), .d (.int n), .d (.int kd.1), .d (.int wh.1), .d (.int wy.1), .d (.lst (mine.map encP)), .d (.int mine.length), .d (.str (kname kb)), .v (OD.l (long.map .int)), .no]) 0 (ok_of T h0 h1) hr ?_ (.own rfl (.dat .nil)) ⟨wy.2, [.tup [.str (kname kb), .int 2, .tup (long.map .int)], .tup [.str (kname kb), .int wh.1, .tup (long.map .int ++ [.int mine.length])], .tup [.str (kname kb), .int (-1), .tup (long.map .int)], .tup [.str (kname kb), .int wh.1]], d, rfl, k3, by simp, by simp, by rw [hn4]; exact hb4, rfl⟩ (hs := by rw [hn4]; rfl)
  refine ea_cons (ev_al 0) (ea1 ?_)
  refine EV.frz (od := OD.l [.tup [.str (kname kb), .int 2, .tup (long.map .int)], .tup [.str (kname kb), .int wh.1, .tup (long.map .int ++ [.int mine.length])], .tup [.str (kname kb), .int (-1), .tup (long.map .int)], .tup [.str (kname kb), .int wh.1]]) ?_ ?_
  rotate_left
  · exact frz_l _
  refine ev_lstE (xs := [.tup [.str (kname kb), .int 2, .tup (long.map .int)], .tup [.str (kname kb), .int wh.1, .tup (long.map .int ++ [.int mine.length])], .tup [.str (kname kb), .int (-1), .tup (long.map .int)], .tup [.str (kname kb), .int wh.1]]) ?_ ?_
  rotate_left
  · simp
  with_reducible refine ead4 ?_ ?_ ?_ ?_ ?_ ?_ ?_ ?_
  · exact ev_tupD (ead3 (ev_var 9) ev_int (EV.tuple (ev_al 10) (.al rfl (.own _)) T.fTuple))
  · exact ev_tupD (ead3 (ev_var 9) (ev_var 5) (EV.catT (EV.tuple (ev_al 10) (.al rfl (.own _)) T.fTuple) (ev_tupD (ead1 (ev_var 8))) (by rw [List.length_map]; show _ + 1 ≤ _; omega)))
  · exact ev_tupD (ead3 (ev_var 9) (EV.neg ev_int) (EV.tuple (ev_al 10) (.al rfl (.own _)) T.fTuple))
  · exact ev_tupD (ead2 (ev_var 9) (ev_var 5))
  · exact unst_tup
  · exact unst_tup
  · exact unst_tup
  · exact unst_tup
end
end K74
/-! K74zo0: what the law's own judge and matching promise, plain. -/
namespace K74
open PySem PySem.Spec PyProof.Rows L2 DL
/-! ### bent lives -/
theorem bentS_lt {far : Int} {s : Box × List (Int × Int)} {p : Int × Int} (h : ∀ q ∈ s.2, q.1 < q.2) : ∀ q ∈ (bentS far s p).2, q.1 < q.2 := by
  unfold bentS
  dsimp only
  split
  · rename_i c
    intro q hq
    dsimp only at hq
    split at hq
    · rcases List.mem_append.mp hq with hq | hq
      · exact h q hq
      · rw [List.mem_singleton.mp hq]
        exact c
    · exact h q hq
  · exact h
theorem bent_lt {far : Int} : ∀ (row : List (Int × Int)) (s : Box × List (Int × Int)), (∀ q ∈ s.2, q.1 < q.2) → ∀ q ∈ (row.foldl (bentS far) s).2, q.1 < q.2
  | [], s, h => h
  | p :: row, s, h => bent_lt row _ (bentS_lt h)
theorem bentF_ok {b : Box} {row : List (Int × Int)} {far : Int} (hb : 0 ≤ b.here) (hf : 0 ≤ far) (hl : row.length ≤ 5) : (∀ q ∈ (bentF b row far).2, q.1 < q.2) ∧ (bentF b row far).2.length ≤ 5 := by
  have h1 := bent_lt (far := far) row (b, []) (fun q hq => by cases hq)
  have h2 := (bent_inv (far := far) row (b, []) hb).2
  have h2 : (row.foldl (bentS far) (b, [])).2.length ≤ row.length := by simpa using h2
  unfold bentF endS
  generalize row.foldl (bentS far) (b, []) = s at *
  by_cases c : endK s = true
  · rw [if_pos c]
    unfold addS
    refine ⟨fun q hq => ?_, ?_⟩
    · rcases List.mem_append.mp hq with hq | hq
      · exact h1 q hq
      · rw [List.mem_singleton.mp hq]
        have := takeF_lt (takeF (endB s) 12).2 (l := 1 + 2 * far) (by omega)
        show (takeF (endB s) 12).1 - 4 < (takeF (endB s) 12).1 - 4 + 1 + (takeF (takeF (endB s) 12).2 (1 + 2 * far)).1
        omega
    · unfold endK at c
      rw [Bool.or_eq_true, Bool.and_eq_true, decide_eq_true_eq, decide_eq_true_eq] at c
      show (s.2 ++ [_]).length ≤ 5
      rw [List.length_append]
      show s.2.length + 1 ≤ 5
      rcases c with c | c
      · rw [c]
        decide
      · have := c.1
        omega
  · rw [if_neg c]
    exact ⟨h1, by show s.2.length ≤ 5; omega⟩
theorem bentP_ok {b : Box} {row : List (Int × Int)} {far : Int} (hb : 0 ≤ b.here) (hf : 0 ≤ far) (hl : row.length ≤ 5) : (∀ q ∈ (bentP b row far).2, q.1 < q.2) ∧ (bentP b row far).2.length ≤ 5 ∧ 0 ≤ (bentP b row far).1.here := by
  obtain ⟨h1, h2⟩ := bentF_ok (far := far) hb hf hl
  have h3 := mixα_inv (d := ((0, 0) : Int × Int)) (b := (bentF b row far).1) h1
  exact ⟨h3.1, by show (mixα _ _ _).2.2.length ≤ 5; rw [h3.2]; exact h2, bentP_here hb⟩
def movedV (b : Box) (v : Five) (far : Int) : Five × Box :=
  let r1 := bentP b v.hol far
  let r2 := bentP r1.1 v.sum far
  let r3 := takeF r2.1 2
  let f2 := far * r3.1
  let r4 := fmS (nearS f2) v.loo r3.2
  let x := nearF r4.2 v.low f2
  let y := nearF x.2 v.high f2
  (⟨r1.2, r2.2, r4.1, x.1, y.1⟩, y.2)
theorem moved_eq (b : Box) (v : Five) (far : Int) : D.lst (movedF b v far).1 = enc5 (movedV b v far).1 ∧ (movedF b v far).2 = (movedV b v far).2 := ⟨rfl, rfl⟩
theorem movedV_ok {b : Box} {v : Five} {far : Int} (hb : 0 ≤ b.here) (hf : 0 ≤ far) (hv : v.good) : (movedV b v far).1.good ∧ (movedV b v far).1.loo.length = v.loo.length ∧ 0 ≤ (movedV b v far).2.here := by
  obtain ⟨a1, a2, a3⟩ := bentP_ok (row := v.hol) (far := far) hb hf hv.lh
  obtain ⟨b1, b2, b3⟩ := bentP_ok (row := v.sum) (far := far) a3 hf hv.ls
  have k3 := takeF_here (bentP (bentP b v.hol far).1 v.sum far).1 2 b3
  have k4 := fm_here (far := far * (takeF (bentP (bentP b v.hol far).1 v.sum far).1 2).1) v.loo _ k3
  have l4 := fm_len (far := far * (takeF (bentP (bentP b v.hol far).1 v.sum far).1 2).1) v.loo (takeF (bentP (bentP b v.hol far).1 v.sum far).1 2).2
  exact ⟨⟨a1, b1, a2, b2, by show (fmS _ v.loo _).1.length ≤ 3; rw [l4]; exact hv.ll⟩, l4, by
    show 0 ≤ (nearF (nearF _ v.low _).2 v.high _).2.here
    exact nearF_here (nearF_here k4)⟩
/-! ### sorted lives -/
theorem isort_len (ns : List Int) : (isort ns).length = ns.length := (isort_perm ns).length_eq
theorem sort5_good {v : Five} (h : v.good) : (sort5 v).good ∧ (sort5 v).small := by
  have l1 := (psort_perm v.hol).length_eq
  have l2 := (psort_perm v.sum).length_eq
  have l3 := isort_len v.loo
  refine ⟨⟨fun p hp => h.hol p ((psort_perm v.hol).mem_iff.mp hp), fun p hp => h.sum p ((psort_perm v.sum).mem_iff.mp hp), ?_, ?_, ?_⟩, ?_, ?_, ?_⟩
  · show (psort v.hol).length ≤ 5; rw [l1]; exact h.lh
  · show (psort v.sum).length ≤ 5; rw [l2]; exact h.ls
  · show (isort v.loo).length ≤ 3; rw [l3]; exact h.ll
  · show (psort v.hol).length ≤ 5; rw [l1]; exact h.lh
  · show (psort v.sum).length ≤ 5; rw [l2]; exact h.ls
  · show (isort v.loo).length ≤ 3; rw [l3]; exact h.ll
theorem liv_sort (v : Five) : v.liv = livOf (sort5 v) := rfl
/-! ### bits -/
theorem bits32 : ∀ m : Fin 32, ∀ j : Fin 5, ∀ i : Fin 5, m.val / 2 ^ j.val % 2 = 0 → m.val + 2 ^ j.val < 32 ∧ ((m.val + 2 ^ j.val) / 2 ^ i.val % 2 = 1 ↔ i = j ∨ m.val / 2 ^ i.val % 2 = 1) := by decide +kernel
theorem bit_add {m j i : Nat} (hm : m < 32) (hj : j < 5) (hi : i < 5) (h : m / 2 ^ j % 2 = 0) : m + 2 ^ j < 32 ∧ ((m + 2 ^ j) / 2 ^ i % 2 = 1 ↔ i = j ∨ m / 2 ^ i % 2 = 1) := by
  have := bits32 ⟨m, hm⟩ ⟨j, hj⟩ ⟨i, hi⟩ h
  rw [Fin.ext_iff] at this
  exact this
/-! ### what a mask's list is -/
structure MQ (one two : List (Int × Int)) (n : Int) (i m : Nat) (L : Ix) : Prop where
  m32 : m < 32
  len : L.length ≤ i
  rng : ∀ r ∈ L, r.1 < i ∧ r.2 < two.length ∧ nearP (one.getD r.1 P0) (two.getD r.2 P0) n = true
  n1 : (L.map (·.1)).Nodup
  n2 : (L.map (·.2)).Nodup
  bit : ∀ j, j < 5 → (m / 2 ^ j % 2 = 1 ↔ j ∈ L.map (·.2))
  long : ∀ k, k < i → ¬ (one.getD k P0).2 - (one.getD k P0).1 ≤ n → k ∈ L.map (·.1)
theorem getD_of_zipIdx {xs : List (Int × Int)} {q : Int × Int} {j : Nat} (h : (q, j) ∈ xs.zipIdx) : j < xs.length ∧ xs.getD j P0 = q := by
  have h1 := List.mem_zipIdx_iff_getElem?.mp h
  have h1 : xs[j]? = some q := h1
  exact ⟨(List.getElem?_eq_some_iff.mp h1).1, by rw [List.getD_eq_getElem?_getD, h1]; rfl⟩
theorem mq_short {one two : List (Int × Int)} {n : Int} {i m : Nat} {L : Ix} {p : Int × Int} (hp : one.getD i P0 = p) (h : MQ one two n i m L) (hs : p.2 - p.1 ≤ n) : MQ one two n (i + 1) m L :=
  ⟨h.m32, by have := h.len; omega, fun r hr => ⟨by have := (h.rng r hr).1; omega, (h.rng r hr).2⟩, h.n1, h.n2, h.bit, fun k hk hl => by
    by_cases e : k = i
    · rw [e, hp] at hl
      exact absurd hs hl
    · exact h.long k (by omega) hl⟩
theorem mq_ext {one two : List (Int × Int)} {n : Int} {i m j : Nat} {L : Ix} {p q : Int × Int} (h5 : two.length ≤ 5) (hp : one.getD i P0 = p) (hq : (q, j) ∈ two.zipIdx) (h : MQ one two n i m L) (hb : bitz m j = true) (hn : nearP p q n = true) : MQ one two n (i + 1) (m + 2 ^ j) (L ++ [(i, j)]) := by
  obtain ⟨hj, hqd⟩ := getD_of_zipIdx hq
  have hb : m / 2 ^ j % 2 = 0 := of_decide_eq_true hb
  have hj5 : j < 5 := by omega
  have nj : ¬ j ∈ L.map (·.2) := fun z => by
    have := (h.bit j hj5).mpr z
    omega
  have ni : ¬ i ∈ L.map (·.1) := fun z => by
    obtain ⟨r, hr, e⟩ := List.mem_map.mp z
    have := (h.rng r hr).1
    omega
  refine ⟨(bit_add h.m32 hj5 hj5 hb).1, ?_, fun r hr => ?_, ?_, ?_, fun k hk => ?_, fun k hk hl => ?_⟩
  · rw [List.length_append]
    have := h.len
    show L.length + 1 ≤ _
    omega
  · rcases List.mem_append.mp hr with hr | hr
    · exact ⟨by have := (h.rng r hr).1; omega, (h.rng r hr).2⟩
    · rw [List.mem_singleton.mp hr]
      refine ⟨by show i < _; omega, hj, ?_⟩
      show nearP (one.getD i P0) (two.getD j P0) n = true
      rw [hp, hqd]
      exact hn
  · rw [List.map_append]
    exact List.nodup_append.mpr ⟨h.n1, by simp, fun a ha b hb' e => by
      have e2 : b = i := List.mem_singleton.mp hb'
      exact ni (by rw [← e2, ← e]; exact ha)⟩
  · rw [List.map_append]
    exact List.nodup_append.mpr ⟨h.n2, by simp, fun a ha b hb' e => by
      have e2 : b = j := List.mem_singleton.mp hb'
      exact nj (by rw [← e2, ← e]; exact ha)⟩
  · rw [(bit_add h.m32 hj5 hk hb).2, List.map_append, List.mem_append, h.bit k hk]
    constructor
    · rintro (e | h)
      · exact .inr (by rw [e]; exact List.mem_singleton_self _)
      · exact .inl h
    · rintro (h | e)
      · exact .inr h
      · exact .inl (List.mem_singleton.mp e)
  · rw [List.map_append, List.mem_append]
    by_cases e : k = i
    · exact .inr (by rw [e]; exact List.mem_singleton_self _)
    · exact .inl (h.long k (by omega) hl)
theorem masks_mq {one two : List (Int × Int)} {n : Int} (h5 : two.length ≤ 5) : ∀ (as : List ((Int × Int) × Nat)) (i : Nat) (ms : Ms), (∀ k (h : k < as.length), as[k].2 = i + k ∧ one.getD (i + k) P0 = as[k].1) → (∀ kv ∈ ms, MQ one two n i kv.1 kv.2) → ∀ kv ∈ as.foldl (pairS two n) ms, MQ one two n (i + as.length) kv.1 kv.2
  | [], i, ms, _, h => h
  | (p, k) :: as, i, ms, ha, h => by
    have h0 := ha 0 (by simp)
    have e1 : k = i := h0.1
    have e2 : one.getD i P0 = p := h0.2
    subst e1
    have hs : ∀ kv ∈ pairS two n ms (p, k), MQ one two n (k + 1) kv.1 kv.2 := pair_all (Q0 := MQ one two n k) (Q1 := MQ one two n (k + 1)) h (fun m L hq hsh => mq_short e2 hq hsh) (fun m L j q hz hq hb hn => mq_ext h5 e2 hz hq hb hn)
    have ih := masks_mq h5 as (k + 1) _ (fun t ht => by
      have := ha (t + 1) (by simp; omega)
      have h2 : as[t].2 = k + (t + 1) ∧ one.getD (k + (t + 1)) P0 = as[t].1 := this
      rw [show k + (t + 1) = k + 1 + t by omega] at h2
      exact h2) hs
    rw [List.length_cons, show k + (as.length + 1) = k + 1 + as.length by omega]
    exact ih
theorem masksF_mq {one two : List (Int × Int)} {n : Int} (h5 : two.length ≤ 5) : ∀ kv ∈ masksF one two n, MQ one two n one.length kv.1 kv.2 := by
  have := masks_mq (one := one) (n := n) h5 one.zipIdx 0 [(0, [])] (fun k h => by
    rw [List.length_zipIdx] at h
    rw [List.getElem_zipIdx, Nat.zero_add]
    exact ⟨rfl, by rw [List.getD_eq_getElem?_getD, List.getElem?_eq_getElem h]; rfl⟩) (fun kv hkv => by
    rw [List.mem_singleton.mp hkv]
    refine ⟨by decide, by simp, fun r hr => (by cases hr), by simp, by simp, fun j hj => ?_, fun k hk => absurd hk (Nat.not_lt_zero _)⟩
    simp)
  rw [List.length_zipIdx, Nat.zero_add] at this
  exact this
/-- what a told matching keeps -/
structure Mok (one two : List (Int × Int)) (n : Int) (L : Ix) : Prop where
  len : L.length ≤ one.length
  rng : ∀ r ∈ L, r.1 < one.length ∧ r.2 < two.length ∧ nearP (one.getD r.1 P0) (two.getD r.2 P0) n = true
  n1 : (L.map (·.1)).Nodup
  n2 : (L.map (·.2)).Nodup
  l1 : ∀ k, k < one.length → ¬ (one.getD k P0).2 - (one.getD k P0).1 ≤ n → k ∈ L.map (·.1)
  l2 : ∀ k, k < two.length → ¬ (two.getD k P0).2 - (two.getD k P0).1 ≤ n → k ∈ L.map (·.2)
theorem matched_ok {one two : List (Int × Int)} {n : Int} {L : Ix} (h5 : two.length ≤ 5) (h : matchedF one two n = some L) : Mok one two n L := by
  unfold matchedF at h
  obtain ⟨m, hm, rfl⟩ := Option.map_eq_some_iff.mp h
  have hk : m ∈ (masksF one two n).map (·.1) := List.mem_of_find?_eq_some hm
  have ho : okMask two n m = true := by simpa using List.find?_some hm
  have q := getM_all (Q := MQ one two n one.length) (masksF_mq h5) hk
  refine ⟨q.len, q.rng, q.n1, q.n2, q.long, fun k hk hl => ?_⟩
  unfold okMask at ho
  rw [List.all_map, List.all_eq_true] at ho
  have := ho (two.getD k P0, k) (List.mem_zipIdx_iff_getElem?.mpr (by
    show two[k]? = some _
    rw [List.getD_eq_getElem?_getD, List.getElem?_eq_getElem hk]
    rfl))
  have this : (decide ((two.getD k P0).2 - (two.getD k P0).1 ≤ n) || decide (m / 2 ^ k % 2 = 1)) = true := this
  rw [Bool.or_eq_true, decide_eq_true_eq, decide_eq_true_eq] at this
  exact (q.bit k (by omega)).mp (this.resolve_left hl)
/-! ### all are short: there is one -/
theorem put_ne (f : Ms) (k : Nat) (v : Ix) : putM f k v ≠ [] := by
  unfold putM
  split
  · rename_i h
    intro z
    have : f = [] := List.map_eq_nil_iff.mp z
    rw [this] at h
    cases h
  · simp
theorem inner_ne {ms : Ms} {i : Nat} {p : Int × Int} {n : Int} {m : Nat} : ∀ (as : List ((Int × Int) × Nat)) (f : Ms), f ≠ [] → as.foldl (innerS ms i p n m) f ≠ []
  | [], f, h => h
  | a :: as, f, h => inner_ne as _ (by
    unfold innerS
    split
    · exact put_ne _ _ _
    · exact h)
theorem mask_ne {ms : Ms} {two : List (Int × Int)} {i : Nat} {p : Int × Int} {n : Int} (hs : p.2 - p.1 ≤ n) : ∀ (as : List Nat) (f : Ms), as ≠ [] ∨ f ≠ [] → as.foldl (maskS ms two i p n) f ≠ []
  | [], f, h => h.resolve_left fun z => z rfl
  | a :: as, f, h => mask_ne hs as _ (.inr (inner_ne _ _ (by
    unfold shortS
    rw [if_pos hs]
    exact put_ne _ _ _)))
theorem pairs_ne {two : List (Int × Int)} {n : Int} : ∀ (as : List ((Int × Int) × Nat)) (ms : Ms), (∀ a ∈ as, a.1.2 - a.1.1 ≤ n) → ms ≠ [] → as.foldl (pairS two n) ms ≠ []
  | [], ms, _, h => h
  | a :: as, ms, ha, h => pairs_ne as _ (fun b hb => ha b (List.mem_cons_of_mem _ hb)) (mask_ne (ha a (List.mem_cons_self ..)) _ _ (.inl fun z => h (List.map_eq_nil_iff.mp z)))
theorem zipIdx_mem {α : Type} {xs : List α} {a : α × Nat} (h : a ∈ xs.zipIdx) : a.1 ∈ xs := by
  obtain ⟨x, i⟩ := a
  have := List.mem_zipIdx_iff_getElem?.mp h
  exact List.mem_of_getElem? this
theorem matched_short {one two : List (Int × Int)} {n : Int} (h1 : ∀ p ∈ one, p.2 - p.1 ≤ n) (h2 : ∀ p ∈ two, p.2 - p.1 ≤ n) : matchedF one two n ≠ none := by
  have hne : masksF one two n ≠ [] := pairs_ne _ _ (fun a ha => h1 _ (zipIdx_mem ha)) (by simp)
  unfold matchedF
  intro z
  rw [Option.map_eq_none_iff, List.find?_eq_none] at z
  cases e : masksF one two n with
  | nil => exact hne e
  | cons kv ms =>
    rw [e] at z
    refine z kv.1 (by simp) ?_
    unfold okMask
    rw [List.all_map, List.all_eq_true]
    intro jq hjq
    show (_ || _) = true
    rw [decide_eq_true (h2 _ (zipIdx_mem hjq))]
    rfl
/-! ### the least halves -/
theorem le_last : ∀ {xs : List Int}, xs.Pairwise (· < ·) → ∀ x ∈ xs, x ≤ xs.getD (xs.length - 1) 0
  | [], _, x, h => by cases h
  | [a], _, x, h => by rw [List.mem_singleton.mp h]; exact Int.le_refl _
  | a :: b :: xs, h, x, hx => by
    obtain ⟨h1, h2⟩ := List.pairwise_cons.mp h
    have e : (a :: b :: xs).getD ((a :: b :: xs).length - 1) 0 = (b :: xs).getD ((b :: xs).length - 1) 0 := by
      show (a :: b :: xs).getD (xs.length + 1) 0 = (b :: xs).getD xs.length 0
      simp
    rw [e]
    rcases List.mem_cons.mp hx with rfl | hx
    · have := le_last h2 b (List.mem_cons_self ..)
      have := h1 b (List.mem_cons_self ..)
      omega
    · exact le_last h2 x hx
theorem mem_marks {u v : Five} {x : Int} : x ∈ umsF u v ↔ (x ∈ mark0 u v ∨ (∃ p ∈ u.hol, x = lifeI p) ∨ (∃ q ∈ v.hol, x = lifeI q) ∨ ∃ p ∈ u.hol, ∃ q ∈ v.hol, x ∈ markP p q) ∨ (∃ p ∈ u.sum, x = lifeI p) ∨ (∃ q ∈ v.sum, x = lifeI q) ∨ ∃ p ∈ u.sum, ∃ q ∈ v.sum, x ∈ markP p q := by
  unfold umsF
  rw [mem_usort]
  show x ∈ kindM u.sum v.sum (kindM u.hol v.hol (mark0 u v)) ↔ _
  rw [mem_kindM, mem_kindM]
theorem iabs_nn (i : Int) : 0 ≤ iabs i := by
  unfold iabs
  split <;> omega
theorem marks_nn {u v : Five} (hu : u.good) (hv : v.good) : ∀ x ∈ umsF u v, 0 ≤ x := fun x hx => by
  have mp : ∀ p q : Int × Int, x ∈ markP p q → 0 ≤ x := fun p q h => by
    unfold markP at h
    have h1 := iabs_nn (p.1 - q.1)
    have h2 := iabs_nn (p.2 - q.2)
    rcases List.mem_cons.mp h with e | h
    · omega
    · have := List.mem_singleton.mp h
      omega
  rcases mem_marks.mp hx with (h | ⟨p, hp, rfl⟩ | ⟨p, hp, rfl⟩ | ⟨p, _, q, _, h⟩) | ⟨p, hp, rfl⟩ | ⟨p, hp, rfl⟩ | ⟨p, _, q, _, h⟩
  · unfold mark0 at h
    rcases List.mem_append.mp h with h | h
    · rw [List.mem_singleton.mp h]
      exact Int.le_refl _
    · obtain ⟨p, _, rfl⟩ := List.mem_map.mp h
      have := iabs_nn (p.1 - p.2)
      omega
  · have := hu.hol p hp
    unfold lifeI
    omega
  · have := hv.hol p hp
    unfold lifeI
    omega
  · exact mp p q h
  · have := hu.sum p hp
    unfold lifeI
    omega
  · have := hv.sum p hp
    unfold lifeI
    omega
  · exact mp p q h
theorem nearness_ok {u v : Five} (hu : u.good) (hv : v.good) (su : u.small) (sv : v.small) : 0 ≤ nearnessF u v ∧ bothF u v (nearnessF u v) ≠ none := by
  obtain ⟨h1, h2⟩ := srchF_ok su sv
  have hmem : nearnessF u v ∈ umsF u v := by
    unfold nearnessF
    exact getD_mem h1
  refine ⟨marks_nn hu hv _ hmem, ?_⟩
  rcases h2 with e | h
  · have hall : ∀ x ∈ umsF u v, x ≤ nearnessF u v := fun x hx => by
      unfold nearnessF
      rw [e]
      exact le_last (usort_lt _) x hx
    generalize nearnessF u v = n at *
    have en : endsNear u v n = true := by
      unfold endsNear
      rw [List.all_eq_true]
      intro p hp
      refine decide_eq_true (hall _ (mem_marks.mpr (.inl (.inl ?_))))
      unfold mark0
      exact List.mem_append_right _ (List.mem_map.mpr ⟨p, hp, rfl⟩)
    have m1 := matched_short (one := u.hol) (two := v.hol) (n := n) (fun p hp => hall _ (mem_marks.mpr (.inl (.inr (.inl ⟨p, hp, rfl⟩))))) (fun p hp => hall _ (mem_marks.mpr (.inl (.inr (.inr (.inl ⟨p, hp, rfl⟩))))))
    have m2 := matched_short (one := u.sum) (two := v.sum) (n := n) (fun p hp => hall _ (mem_marks.mpr (.inr (.inl ⟨p, hp, rfl⟩)))) (fun p hp => hall _ (mem_marks.mpr (.inr (.inr (.inl ⟨p, hp, rfl⟩)))))
    unfold bothF
    rw [if_pos en]
    cases e1 : matchedF u.hol v.hol n with
    | none => exact absurd e1 m1
    | some a =>
      cases e2 : matchedF u.sum v.sum n with
      | none => exact absurd e2 m2
      | some b => exact fun z => by cases z
  · exact h
/-! ### no fault -/
theorem wp_none {ps qs : List (Int × Int)} {n : Int} : ∀ (rows : List ((Nat × Nat) × Nat)) (s : List Int × List Int), (∀ r ∈ rows, nearP (ps.getD r.1.1 P0) (qs.getD r.1.2 P0) n = true) → (rows.map (·.1.1)).Nodup → (rows.map (·.1.2)).Nodup → (∀ r ∈ rows, ¬ (r.1.1 : Int) ∈ s.1 ∧ ¬ (r.1.2 : Int) ∈ s.2) → ∃ s', loopF (wpStep ps qs n) rows s = .nx s'
  | [], s, _, _, _, _ => ⟨s, rfl⟩
  | r :: rows, s, h1, h2, h3, h4 => by
    have hb : wpBad ps qs n s r.1 = false := by
      unfold wpBad
      obtain ⟨a, b⟩ := h4 r (List.mem_cons_self ..)
      have := nearP_iff.mp (h1 r (List.mem_cons_self ..))
      rw [decide_eq_false a, decide_eq_false b, Bool.false_or, Bool.false_or, decide_eq_false_iff_not]
      omega
    unfold loopF wpStep
    rw [if_neg (by rw [hb]; decide)]
    rw [List.map_cons, List.nodup_cons] at h2 h3
    exact wp_none rows _ (fun r' hr => h1 r' (List.mem_cons_of_mem _ hr)) h2.2 h3.2 fun r' hr => by
      obtain ⟨a, b⟩ := h4 r' (List.mem_cons_of_mem _ hr)
      refine ⟨fun z => ?_, fun z => ?_⟩
      · rcases List.mem_cons.mp z with e | z
        · exact h2.1 (List.mem_map.mpr ⟨r', hr, by have := Int.ofNat_inj.mp e; exact this⟩)
        · exact a z
      · rcases List.mem_cons.mp z with e | z
        · exact h3.1 (List.mem_map.mpr ⟨r', hr, by have := Int.ofNat_inj.mp e; exact this⟩)
        · exact b z
theorem wrong_none {ps qs : List (Int × Int)} {n : Int} {L : Ix} (h : Mok ps qs n L) : wrongPlace ps qs n L = none := by
  have e1 : L.zipIdx.map (·.1.1) = L.map (·.1) := by
    rw [show (fun x : (Nat × Nat) × Nat => x.1.1) = (fun r : Nat × Nat => r.1) ∘ (·.1) from rfl, ← List.map_map, List.zipIdx_map_fst]
  have e2 : L.zipIdx.map (·.1.2) = L.map (·.2) := by
    rw [show (fun x : (Nat × Nat) × Nat => x.1.2) = (fun r : Nat × Nat => r.2) ∘ (·.1) from rfl, ← List.map_map, List.zipIdx_map_fst]
  obtain ⟨s, e⟩ := wp_none (ps := ps) (qs := qs) (n := n) L.zipIdx ([], []) (fun r hr => (h.rng _ (zipIdx_mem hr)).2.2) (by rw [e1]; exact h.n1) (by rw [e2]; exact h.n2) (fun r hr => ⟨by simp, by simp⟩)
  unfold wrongPlace
  rw [e]
  rfl
theorem left_none {ps : List (Int × Int)} {n : Int} {idx : List Int} (h : ∀ k, k < ps.length → ¬ (ps.getD k P0).2 - (ps.getD k P0).1 ≤ n → (k : Int) ∈ idx) : leftOut ps n idx = none := by
  unfold leftOut
  rw [Option.map_eq_none_iff, List.find?_eq_none]
  rintro ⟨p, k⟩ hp hc
  obtain ⟨h1, h2⟩ := getD_of_zipIdx hp
  unfold loCond at hc
  rw [Bool.and_eq_true, decide_eq_true_eq, Bool.not_eq_true', decide_eq_false_iff_not] at hc
  have hc1 : p.2 - p.1 > n := hc.1
  exact hc.2 (h k h1 (by rw [h2]; omega))
theorem cast_mem {k : Nat} {L : Ix} {f : Nat × Nat → Nat} (h : k ∈ L.map f) : (k : Int) ∈ L.map fun r => (f r : Int) := by
  obtain ⟨r, hr, e⟩ := List.mem_map.mp h
  exact List.mem_map.mpr ⟨r, hr, by rw [e]⟩
theorem far_none {u v : Five} {n : Int} (hl : u.loo.length = v.loo.length) (h : endsNear u v n = true) : farBars (livOf u) (livOf v) n = [] := by
  unfold endsNear at h
  rw [List.all_eq_true] at h
  have e : (ends u).zip (ends v) = u.loo.zip v.loo ++ [(u.low, v.low), (u.high, v.high)] := by
    unfold ends
    rw [List.zip_append hl]
    rfl
  rw [e] at h
  have nf : ∀ a b : Int, (a, b) ∈ u.loo.zip v.loo ++ [(u.low, v.low), (u.high, v.high)] → farB a b n = false := fun a b hm => by
    have := h _ hm
    rw [← near_far, this]
    rfl
  unfold farBars farLoo
  show ((((u.loo.zip v.loo).zipIdx).filter _).map _ ++ (if farB u.low v.low n = true then _ else _) ++ (if farB u.high v.high n = true then _ else _)) = _
  rw [nf u.low v.low (by simp), nf u.high v.high (by simp), if_neg (by decide), if_neg (by decide), List.append_nil, List.append_nil, List.map_eq_nil_iff, List.filter_eq_nil_iff]
  intro p hp
  rw [nf p.1.1 p.1.2 (List.mem_append_left _ (zipIdx_mem hp))]
  decide
theorem mfault_none {u v : Five} {n : Int} {a b : Ix} (su : u.small) (sv : v.small) (hl : u.loo.length = v.loo.length) (h : bothF u v n = some (a, b)) : Mok u.hol v.hol n a ∧ Mok u.sum v.sum n b ∧ mfault (livOf u) (livOf v) n a b = .non := by
  unfold bothF at h
  by_cases en : endsNear u v n = true
  · rw [if_pos en] at h
    cases e1 : matchedF u.hol v.hol n with
    | none => rw [e1] at h; cases h
    | some x =>
      cases e2 : matchedF u.sum v.sum n with
      | none => rw [e1, e2] at h; cases h
      | some y =>
        rw [e1, e2] at h
        cases h
        have k1 := matched_ok sv.1 e1
        have k2 := matched_ok sv.2.1 e2
        refine ⟨k1, k2, ?_⟩
        have w1 : m1 n ⟨"hollows", u.hol, v.hol, a⟩ = none := by
          unfold m1
          rw [wrong_none k1]
          rfl
        have w2 : m1 n ⟨"summits", u.sum, v.sum, b⟩ = none := by
          unfold m1
          rw [wrong_none k2]
          rfl
        have mm : ∀ (nm : Str) (ps qs : List (Int × Int)) (L : Ix), Mok ps qs n L → m2 n ⟨nm, ps, qs, L⟩ = none := fun nm ps qs L k => by
          unfold m2
          rw [left_none fun i hi hli => cast_mem (k.l1 i hi hli)]
          dsimp only
          rw [left_none fun i hi hli => cast_mem (k.l2 i hi hli)]
          rfl
        unfold mfault kinds livOf
        rw [List.findSome?_cons, w1, List.findSome?_cons, w2, List.findSome?_nil]
        dsimp only
        rw [List.findSome?_cons, mm _ _ _ _ k1, List.findSome?_cons, mm _ _ _ _ k2, List.findSome?_nil]
        dsimp only
        rw [show farBars ⟨u.hol, u.sum, u.loo, u.low, u.high⟩ ⟨v.hol, v.sum, v.loo, v.low, v.high⟩ n = farBars (livOf u) (livOf v) n from rfl, far_none hl en]
        rfl
  · rw [if_neg en] at h
    cases h
end K74
/-! K74zp: _law_asked. -/
namespace DL
open PySem PySem.Spec PyProof.Rows L2
section
variable {K : PySem.W.Frag} {x qual : Str} {params : Arguments} {body : List Stmt} {scope : Scope} {kws : List (Str × V)} {f : Addr} {fd : FuncData} {ps : List Str}
/-- all arguments by name, the last parameter first -/
theorem kbn_rev (F : FunD K x qual params body scope [] kws f fd)
    (h : ∀ (kV doc pm : Value) (an : Option Addr) (cdv ct : Value) (ws : List Value), ws.length = ps.reverse.length → bindArgs (PySem.W.fnOf x qual params body scope .none kV doc pm an cdv ct) ⟨[], ps.reverse.zip ws⟩ = pure (ps.zip ws.reverse)) : KBn K fd ps 0 ps.reverse (fun _ ws => ws.reverse) (fun _ zs => zs.reverse) := by
  obtain ⟨oc, od, dV, kV, doc, pm, an, cdv, ct, osl, rfl, lk, hcd, hD, hK⟩ := F.ex
  rcases hD with ⟨_, rfl⟩ | ⟨e, _⟩
  · refine ⟨fun s us ws _ hu hw => ?_, fun _ r => r.reverse⟩
    obtain rfl := List.length_eq_zero_iff.mp hu
    exact .of_eq (h kV doc pm an cdv ct ws hw)
  · exact absurd rfl e
end
end DL
namespace K74
open PySem PySem.Spec PyProof.Rows L2 DL
theorem bs_of_bp {X : Cx} {ca : CA} {B : Base} {sts : List Stmt} {ds : List Sl} {out : Out} (h : BP X ca B [sts] ds (fun o => o = out)) : BS X ca B sts ds out := by
  obtain ⟨o, h1, rfl⟩ := h.one
  exact h1
/-- which clause takes which class -/
structure ExM (K : PySem.W.Frag) (ca : CA) : Prop where
  m11 : PySem.W.exmOne K (.ref (ca "BadValue")) (.ref (ca "BadValue")) = some true
  m21 : PySem.W.exmOne K (.ref (ca "Unlike")) (.ref (ca "BadValue")) = some false
  m22 : PySem.W.exmOne K (.ref (ca "Unlike")) (.ref (ca "Unlike")) = some true
def askD (a b : Liv) (n : Int) (hs ss : Ix) : D := if a.loo.length = b.loo.length then (if n < 0 then .tup [.str "BadValue", .str "BadValue", .str "n"] else mfault a b n hs ss) else .tup [.str "Unlike", .str "Unlike", .str "handles"]
def R_asked : List OD → Res → Prop := fun ods res => ∃ (a b : Liv) (n : Int) (hs ss : Ix) (way : Int), ods = [.dat (encL a), .dat (encL b), .dat (.int n), .dat (.lst (hs.map encN)), .dat (.lst (ss.map encN)), .dat (.int way)] ∧ a.loo.length ≤ 1000 ∧ okRows a.hol b.hol hs ∧ okRows a.sum b.sum ss ∧ res = okN (askD a b n hs ss)
def askR (a b : Liv) (n : Int) (hs ss : Ix) : Res := if a.loo.length = b.loo.length then (if n < 0 then exU "BadValue" "n" else okN (mfault a b n hs ss)) else exU "Unlike" "handles"
def outR : Res → List Sl → Out
  | .ok r _, ds => .rt r ds
  | .ex c fs _, ds => .ex c fs ds
section
variable {P : Program} {w : World} {K : PySem.W.Frag} {mg : Str → Option Value} {base : Heap} {ca : CA}
theorem ok_asked (T : Txt w K mg ca) (U : ExcT K mg ca "Unlike" (inClass (top 5) 0)) (V : ExcT K mg ca "BadValue" (inClass (top 4) 0)) (M : ExM K ca) (h0 : Has K mg "check_handles" (top 12)) (h1 : Has K mg "check_call" (top 13)) (h2 : Has K mg "pairs_of" (top 14)) (h3 : Has K mg "far_bars" (top 15)) (h4 : Has K mg "wrong_place" (top 20)) (h5 : Has K mg "left_out" (top 21))
    (h6 : Has K mg "life_of" (top 8)) (h7 : Has K mg "pair_gap" (top 10)) (h8 : Has K mg "matching_fault" (top 19)) (h : Has K mg "_law_asked" (top 61)) : CallI P w K mg base ca 6 "_law_asked" 6 none R_asked := by
  have nd : (["first", "second", "halves", "one", "two", "way", "e"] : List Str).Nodup := by decide +kernel
  refine callI (N := ["first", "second", "halves", "one", "two", "way", "e"]) (ps := ["first", "second", "halves", "one", "two", "way"]) h (fun kV doc pm an cdv ct us hl => by match us, hl with | [_, _, _, _, _, _], _ => rfl) ⟨rfl, rfl, rfl, nd, rfl, by decide +kernel, by decide +kernel⟩ fun X B ods res ⟨f, cdv, A, outer, s', H, E, hX⟩ hr hpr hR hl => ?_
  subst hX
  obtain ⟨a, b, n, hs, ss, way, rfl, hlo, o1, o2, rfl⟩ := hR
  have pr : ∀ i, B.pr i = false := fun i => by rw [hpr]; rfl
  let ds0 : List Sl := [.d (encL a), .d (encL b), .d (.int n), .d (.lst (hs.map encN)), .d (.lst (ss.map encN)), .d (.int way), .no]
  have hres : R_matching_fault [.dat (encL a), .dat (encL b), .dat (.int n), .dat (.lst (hs.map encN)), .dat (.lst (ss.map encN))] (askR a b n hs ss) := ⟨a, b, n, hs, ss, rfl, hlo, o1, o2, rfl⟩
  have c3 : (∃ d, askR a b n hs ss = okN d ∧ askD a b n hs ss = d) ∨ (askR a b n hs ss = exU "BadValue" "n" ∧ askD a b n hs ss = .tup [.str "BadValue", .str "BadValue", .str "n"]) ∨ (askR a b n hs ss = exU "Unlike" "handles" ∧ askD a b n hs ss = .tup [.str "Unlike", .str "Unlike", .str "handles"]) := by
    unfold askR askD
    split
    · split
      · exact .inr (.inl ⟨rfl, rfl⟩)
      · exact .inl ⟨_, rfl, rfl⟩
    · exact .inr (.inr ⟨rfl, rfl⟩)
  have hform : (∃ d, askR a b n hs ss = okN d) ∨ (∃ x y, askR a b n hs ss = exU x y) := by
    rcases c3 with ⟨d, e, _⟩ | ⟨e, _⟩ | ⟨e, _⟩
    · exact .inl ⟨d, e⟩
    · exact .inr ⟨_, _, e⟩
    · exact .inr ⟨_, _, e⟩
  obtain ⟨fF, fd, F, hm⟩ := h8
  have kb : KBn K fd ["lives", "other", "n", "hollows", "summits"] 0 (["lives", "other", "n", "hollows", "summits"] : List Str).reverse (fun _ ws => ws.reverse) (fun _ zs => zs.reverse) := kbn_rev F fun kV doc pm an cdv ct ws hw => by
    match ws, hw with
    | [_, _, _, _, _], _ => rfl
  refine bp_stop (out := .rt (.dat (askD a b n hs ss)) ds0) (b1_try2 (out := outR (askR a b n hs ss) ds0) (ds1 := ds0) (c1 := "BadValue") (c2 := "Unlike") 6 nd rfl rfl rfl (.inl rfl) rfl (by decide) (by decide) V.xf U.xf ⟨rfl, by decide, .inl V.glo⟩ ⟨rfl, by decide, .inl U.glo⟩ V.nCode V.nWhat U.nCode U.nWhat M.m11 M.m21 M.m22 ?_ ?_ (show 6 < 7 by decide) ?_) rfl ⟨rfl, fun i h => (nomatch h)⟩
  · rintro X' ⟨pn, xe, rfl, hpo⟩
    show BS _ ca B _ ds0 _
    refine bs_of_bp ?_
    refine bp_if (k := decide (way = 0)) (ds1 := ds0) (et_cmp op_eq (ev_var 5) ev_int ro_eqI) (fun hk => ?_) fun hk => bp_nil ?_
    · rcases hform with ⟨d, e⟩ | ⟨x, y, e⟩
      · rw [e] at hres ⊢
        exact bp_ret (ev_fnD (xs := [encL a, encL b, .int n, .lst (hs.map encN), .lst (ss.map encN)]) (ok_matching_fault T U V h0 h1 h2 h3 h4 h5 h6 h7 ⟨fF, fd, F, hm⟩) hr (ead_cons (ev_var 0) (ead_cons (ev_var 1) (ead3 (ev_var 2) (ev_var 3) (ev_var 4)))) hres) rfl
      · rw [e] at hres ⊢
        exact bp_stop (b1_retX (ex_fnD (xs := [encL a, encL b, .int n, .lst (hs.map encN), .lst (ss.map encN)]) (ok_matching_fault T U V h0 h1 h2 h3 h4 h5 h6 h7 ⟨fF, fd, F, hm⟩) hr (ead_cons (ev_var 0) (ead_cons (ev_var 1) (ead3 (ev_var 2) (ev_var 3) (ev_var 4)))) hres)) rfl rfl
    · have hperm : ∀ (F : Hp) (zs : List L2.V), Reps K ca F [.lst (ss.map encN), .lst (hs.map encN), .int n, encL b, encL a] zs → Reps K ca F [encL a, encL b, .int n, .lst (hs.map encN), .lst (ss.map encN)] zs.reverse := fun F zs r => r.reverse
      rcases hform with ⟨d, e⟩ | ⟨x, y, e⟩
      · rw [e] at hres ⊢
        refine bp_ret (od := .dat d) (ds1 := ds0) (ev_callKw (xs := [.lst (ss.map encN), .lst (hs.map encN), .int n, encL b, encL a]) (ys := [encL a, encL b, .int n, .lst (hs.map encN), .lst (ss.map encN)]) (fn_matching_fault T U V h0 h1 h2 h3 h4 h5 h6 h7 F) hr hm F.kp kb ?_ hperm hres rfl) rfl
        exact ek_cons (ev_var 4) (ek_cons (ev_var 3) (ek_cons (ev_var 2) (ek_cons (ev_var 1) (ek_cons (ev_var 0) ek_nil))))
      · rw [e] at hres ⊢
        refine bp_stop (b1_retX (ex_callKw (xs := [.lst (ss.map encN), .lst (hs.map encN), .int n, encL b, encL a]) (ys := [encL a, encL b, .int n, .lst (hs.map encN), .lst (ss.map encN)]) (ds1 := ds0) (fn_matching_fault T U V h0 h1 h2 h3 h4 h5 h6 h7 F) hr hm F.kp kb ?_ hperm hres rfl)) rfl rfl
        exact ek_cons (ev_var 4) (ek_cons (ev_var 3) (ek_cons (ev_var 2) (ek_cons (ev_var 1) (ek_cons (ev_var 0) ek_nil))))
  · rcases c3 with ⟨d, e, e2⟩ | ⟨e, e2⟩ | ⟨e, e2⟩
    · rw [e, e2]
      exact .inl ⟨ds0, rfl⟩
    · rw [e, e2]
      exact .inr (.inl ⟨[("code", .str "BadValue"), ("what", .str "n")], ds0, .str "BadValue", .str "n", rfl, rfl, rfl, rfl⟩)
    · rw [e, e2]
      exact .inr (.inr ⟨[("code", .str "Unlike"), ("what", .str "handles")], ds0, .str "Unlike", .str "handles", rfl, rfl, rfl, rfl⟩)
  · rcases c3 with ⟨d, e, e2⟩ | ⟨e, e2⟩ | ⟨e, e2⟩
    · rw [e, e2]
      exact ⟨ds0, .inl ⟨rfl, rfl⟩⟩
    · rw [e]
      exact ⟨ds0, .inr ⟨⟨_, _, rfl⟩, rfl⟩⟩
    · rw [e]
      exact ⟨ds0, .inr ⟨⟨_, _, rfl⟩, rfl⟩⟩
end
end K74
/-! K74zq0: told data are themselves. -/
namespace K74
open PySem PySem.Spec PyProof.Rows L2 DL
def jb (d : D) : Bool := rpD d && shD d && eqD d d
theorem j_M1 : ∀ i : Fin 16, jb (.tup [.str "M1", .str "hollows", .int (i.val : Int)]) = true ∧ jb (.tup [.str "M1", .str "summits", .int (i.val : Int)]) = true := by decide +kernel
theorem j_M2 : ∀ i : Fin 16, jb (.tup [.str "M2", .str "hollows", .int 0, .int (i.val : Int)]) = true ∧ jb (.tup [.str "M2", .str "hollows", .int 1, .int (i.val : Int)]) = true ∧ jb (.tup [.str "M2", .str "summits", .int 0, .int (i.val : Int)]) = true ∧ jb (.tup [.str "M2", .str "summits", .int 1, .int (i.val : Int)]) = true := by decide +kernel
theorem j_M3 : ∀ i : Fin 16, jb (.tup [.str "M3", .str "loose", .int (i.val : Int)]) = true := by decide +kernel
theorem j_low : jb (.tup [.str "M3", .str "lowest", .non]) = true ∧ jb (.tup [.str "M3", .str "highest", .non]) = true ∧ jb .non = true ∧ jb (.bl true) = true ∧ jb (.bl false) = true ∧ jb (.tup [.str "BadValue", .str "BadValue", .str "n"]) = true ∧ jb (.tup [.str "Unlike", .str "Unlike", .str "handles"]) = true := by decide +kernel
theorem jb_ok {d : D} (h : jb d = true) : rpD d = true ∧ shD d = true ∧ eqD d d = true := by
  unfold jb at h
  rw [Bool.and_eq_true, Bool.and_eq_true] at h
  exact ⟨h.1.1, h.1.2, h.2⟩
theorem wp_lt {ps qs : List (Int × Int)} {n : Int} : ∀ (rows : List ((Nat × Nat) × Nat)) (s : List Int × List Int) (r : Nat), loopF (wpStep ps qs n) rows s = .rt r → r ∈ rows.map (·.2)
  | [], s, r, h => by cases h
  | a :: rows, s, r, h => by
    unfold loopF wpStep at h
    by_cases c : wpBad ps qs n s a.1 = true
    · rw [if_pos c] at h
      cases h
      exact List.mem_cons_self ..
    · rw [if_neg c] at h
      exact List.mem_cons_of_mem _ (wp_lt rows _ r h)
theorem wrong_lt {ps qs : List (Int × Int)} {n : Int} {L : Ix} {i : Nat} (h : wrongPlace ps qs n L = some i) : i < L.length := by
  unfold wrongPlace outOf at h
  cases e : loopF (wpStep ps qs n) L.zipIdx ([], []) with
  | nx s => rw [e] at h; cases h
  | bk s => rw [e] at h; cases h
  | rt r =>
    rw [e] at h
    cases h
    have := wp_lt _ _ _ e
    rw [List.zipIdx_map_snd, List.mem_range'_1] at this
    omega
theorem left_lt {ps : List (Int × Int)} {n : Int} {idx : List Int} {i : Nat} (h : leftOut ps n idx = some i) : i < ps.length := by
  unfold leftOut at h
  obtain ⟨a, ha, rfl⟩ := Option.map_eq_some_iff.mp h
  exact mem_zipIdx_lt (List.mem_of_find?_eq_some ha)
theorem mfault_jb {u v : Five} {n : Int} {hs ss : Ix} (su : u.small) (sv : v.small) (h1 : hs.length ≤ 16) (h2 : ss.length ≤ 16) : jb (mfault (livOf u) (livOf v) n hs ss) = true := by
  have a1 : ∀ k ∈ kinds (livOf u) (livOf v) hs ss, ∀ d, m1 n k = some d → jb d = true := fun k hk d hd => by
    unfold m1 at hd
    obtain ⟨i, hi, rfl⟩ := Option.map_eq_some_iff.mp hd
    have hl := wrong_lt hi
    rcases List.mem_cons.mp hk with e | hk
    · rw [e] at hl ⊢
      have hl : i < hs.length := hl
      exact (j_M1 ⟨i, by omega⟩).1
    · rw [List.mem_singleton.mp hk] at hl ⊢
      have hl : i < ss.length := hl
      exact (j_M1 ⟨i, by omega⟩).2
  have a2 : ∀ k ∈ kinds (livOf u) (livOf v) hs ss, ∀ d, m2 n k = some d → jb d = true := fun k hk d hd => by
    unfold m2 at hd
    cases e : leftOut k.ps n (k.rows.map fun r => (r.1 : Int)) with
    | some i =>
      rw [e] at hd
      have hl := left_lt e
      cases hd
      rcases List.mem_cons.mp hk with e | hk
      · rw [e] at hl ⊢
        have hl : i < u.hol.length := hl
        exact (j_M2 ⟨i, by have := su.1; omega⟩).1
      · rw [List.mem_singleton.mp hk] at hl ⊢
        have hl : i < u.sum.length := hl
        exact (j_M2 ⟨i, by have := su.2.1; omega⟩).2.2.1
    | none =>
      rw [e] at hd
      obtain ⟨i, hi, rfl⟩ := Option.map_eq_some_iff.mp hd
      have hl := left_lt hi
      rcases List.mem_cons.mp hk with e | hk
      · rw [e] at hl ⊢
        have hl : i < v.hol.length := hl
        exact (j_M2 ⟨i, by have := sv.1; omega⟩).2.1
      · rw [List.mem_singleton.mp hk] at hl ⊢
        have hl : i < v.sum.length := hl
        exact (j_M2 ⟨i, by have := sv.2.1; omega⟩).2.2.2
  unfold mfault
  cases e : (kinds (livOf u) (livOf v) hs ss).findSome? (m1 n) with
  | some d =>
    obtain ⟨k, hk, hd⟩ := List.exists_of_findSome?_eq_some e
    exact a1 k hk d hd
  | none =>
    dsimp only
    cases e : (kinds (livOf u) (livOf v) hs ss).findSome? (m2 n) with
    | some d =>
      obtain ⟨k, hk, hd⟩ := List.exists_of_findSome?_eq_some e
      exact a2 k hk d hd
    | none =>
      dsimp only
      rw [← ff3_eq]
      unfold ff3
      obtain ⟨l1, l2, l3, _⟩ := j_low
      cases e : ((u.loo.zip v.loo).zipIdx).find? (looC n) with
      | some p =>
        have hl := mem_zipIdx_lt (List.mem_of_find?_eq_some e)
        rw [List.length_zip] at hl
        exact j_M3 ⟨p.2, by have := su.2.2; omega⟩
      | none =>
        dsimp only
        split
        · exact l1
        · split
          · exact l2
          · exact l3
theorem just_of {d : D} (h : jb d = true) : R_just [.dat d, .dat d] (okN (.bl true)) := ⟨d, rfl, (jb_ok h).1, (jb_ok h).2.1, (jb_ok h).2.2, rfl⟩
theorem jb_bl (b : Bool) : jb (.bl b) = true := by
  cases b
  · exact j_low.2.2.2.2.1
  · exact j_low.2.2.2.1
theorem okW_ixs (row : Ix) : okW (.lst (row.map encN)) = true ∧ dep (.lst (row.map encN)) ≤ 2 := by
  refine ⟨?_, ?_⟩
  · rw [okW]
    exact okWs_all fun d hd => by
      obtain ⟨r, _, rfl⟩ := List.mem_map.mp hd
      exact okW_pair ((r.1 : Int), (r.2 : Int))
  · rw [dep]
    have := deps_all (ds := row.map encN) (m := 1) fun d hd => by
      obtain ⟨r, _, rfl⟩ := List.mem_map.mp hd
      simp [encN, dep, deps]
    omega
theorem two_rows (r0 r1 : Ix) : shD (.lst [.lst (r0.map encN), .lst (r1.map encN)]) = true ∧ eqD (.lst [.lst (r0.map encN), .lst (r1.map encN)]) (.lst [.lst (r0.map encN), .lst (r1.map encN)]) = true := by
  have ow : okW (.lst [.lst (r0.map encN), .lst (r1.map encN)]) = true := by
    rw [okW, okWs, okWs, okWs, (okW_ixs r0).1, (okW_ixs r1).1]
    rfl
  refine ⟨shD_of ow ?_, ?_⟩
  · rw [dep, deps, deps, deps]
    have h1 := (okW_ixs r0).2
    have h2 := (okW_ixs r1).2
    omega
  · unfold eqD
    exact PySem.SeqAt.eqv_refl _ (okW_ok _ ow).2.1
end K74
/-! K74zr: law (printed by wip/gen/zr.py). -/
namespace K74
open PySem PySem.Spec PyProof.Rows L2 DL
section
variable {X : Cx} {ca : CA} {B : Base} {ds ds1 ds2 : List Sl} {e : Expr} {pos p p1 : Pos} {b b0 : Box} {l : Int} {k : Nat}
/-- _law_take(box, e), the box in slot 1 -/
theorem ev_take1 (G : CallI X.prog X.w X.K X.mg X.base ca 1 "_law_take" 2 (some 0) R_take) (hr : Room k X.A) (he : EV X ca B e ds (.int l) ds1) (h0 : 0 ≤ b.here) (hl : 0 < l ∧ l < 1073741824) (hk : 1 ≤ k := by decide) (hb : ds1[1]? = some (.v (boxOD b)) := by rfl) (h00 : ds[1]? = some (.v (boxOD b0)) := by rfl) (hs : ds1.set 1 (.v (boxOD (takeF b l).2)) = ds2 := by rfl)
    (hN : X.N[1]? = some ("box" : Str) := by rfl) (hv : Vis X.env.scope ("box" : Str) := by first | exact Or.inl rfl | exact Or.inr (Or.inl rfl) | exact Or.inr (Or.inr rfl)) (hg : Gl X "_law_take" := by rfl)
    (he1 : starEach [Expr.Name "box" p1, e] X.env = (false, eval (Expr.Name "box" p1) X.env) :: starEach [e] X.env := by rfl) (he2 : starEach [e] X.env = (false, eval e X.env) :: starEach [] X.env := by rfl) (hpl : (backTo pos (starEach [e] X.env)).any (·.1) = false := by rfl) :
    EV X ca B (.Call (.Name "_law_take" p) [.Name "box" p1, e] [] pos) ds (.int (takeF b l).1) ds2 :=
  ev_fn 1 G hr (ea_cons (ev_al 1 h00 hN hv) (ea1 he he2) he1) (.own hb (.dat .nil)) ⟨b, l, rfl, h0, hl.1, hl.2, rfl⟩ hk rfl hs hg (by decide) he1 hpl
end
def bentI (u v : Five) (R0 R1 : Ix) (b : Box) (i : Nat) : Option Ix × Box := (some (bentRow b (if i = 0 then R0 else R1) (u.kd i) (v.kd i)).1, (bentRow b (if i = 0 then R0 else R1) (u.kd i) (v.kd i)).2)
def R_law : List OD → Res → Prop := fun ods res => ∃ ns : List Int, ods = [.dat (.ro (ns.map .int))] ∧ ns.length ≤ 1000 ∧ res = okN (.bl true)
/-- what the program's top holds for the law -/
structure Tops (w : World) (K : PySem.W.Frag) (mg : Str → Option Value) (ca : CA) : Prop where
  T : Txt w K mg ca
  U : ExcT K mg ca "Unlike" (inClass (top 5) 0)
  V : ExcT K mg ca "BadValue" (inClass (top 4) 0)
  M : ExM K ca
  L : LivT K mg ca
  t8 : Has K mg "life_of" (top 8)
  t10 : Has K mg "pair_gap" (top 10)
  t12 : Has K mg "check_handles" (top 12)
  t13 : Has K mg "check_call" (top 13)
  t14 : Has K mg "pairs_of" (top 14)
  t15 : Has K mg "far_bars" (top 15)
  t16 : Has K mg "is_index" (top 16)
  t17 : Has K mg "bar_holds" (top 17)
  t18 : Has K mg "set_holds" (top 18)
  t19 : Has K mg "matching_fault" (top 19)
  t20 : Has K mg "wrong_place" (top 20)
  t21 : Has K mg "left_out" (top 21)
  t35 : Has K mg "check_pairs" (top 35)
  t38 : Has K mg "_law_box" (top 38)
  t39 : Has K mg "_law_take" (top 39)
  t40 : Has K mg "_law_of" (top 40)
  t41 : Has K mg "_law_mixed" (top 41)
  t42 : Has K mg "_law_plain" (top 42)
  t43 : Has K mg "_law_just" (top 43)
  t44 : Has K mg "_law_put" (top 44)
  t45 : Has K mg "_law_number_near" (top 45)
  t46 : Has K mg "_law_bent_pairs" (top 46)
  t47 : Has K mg "_law_drawn_lives" (top 47)
  t48 : Has K mg "_law_moved_lives" (top 48)
  t49 : Has K mg "_law_sorted_lives" (top 49)
  t50 : Has K mg "_law_made_lives" (top 50)
  t51 : Has K mg "_law_near" (top 51)
  t52 : Has K mg "_law_pair_near" (top 52)
  t53 : Has K mg "_law_matched" (top 53)
  t54 : Has K mg "_law_ends_near" (top 54)
  t55 : Has K mg "_law_both_matched" (top 55)
  t56 : Has K mg "_law_nearness" (top 56)
  t57 : Has K mg "_law_first_fault" (top 57)
  t58 : Has K mg "_law_is_bar" (top 58)
  t59 : Has K mg "_law_bent_row" (top 59)
  t60 : Has K mg "_law_drawn_bar" (top 60)
  t61 : Has K mg "_law_asked" (top 61)
theorem good_ok {v : Five} (h : v.good) : v.ok := ⟨h.hol, h.sum, by have := h.lh; omega, by have := h.ls; omega⟩
theorem mok_rows {ps qs : List (Int × Int)} {n : Int} {L : Ix} (h : Mok ps qs n L) (hl : ps.length ≤ 5) : okRows ps qs L ∧ L.length ≤ 5 := ⟨⟨fun r hr => ⟨(h.rng r hr).1, (h.rng r hr).2.1⟩, by have := h.len; omega⟩, by have := h.len; omega⟩
theorem prs_len {v : Five} (h : v.small) (k : Str) : ((livOf v).prs k).length ≤ 1000 := by
  unfold Liv.prs
  split
  · have := h.1
    show v.hol.length ≤ _
    omega
  · have := h.2.1
    show v.sum.length ≤ _
    omega
section
variable {P : Program} {w : World} {K : PySem.W.Frag} {mg : Str → Option Value} {base : Heap} {ca : CA}
theorem fn_law (Z : Tops w K mg ca) {fL : Addr} {fdL : FuncData} (FL : FunD K "law" "law" (defArgs (top 62)) (defBody (top 62)) (defScope (top 62)) [] [] fL fdL) : FnG P w K mg base (CX P w) 7 fL fdL ["script"] (spD K ca 1 none R_law) := by
  have nd : (["script", "box", "far", "one", "two", "a", "b", "first", "second", "halves", "right", "k", "near", "rows", "given", "due", "odd", "way", "less", "more", "kind"] : List Str).Nodup := by decide +kernel
  refine okG (N := ["script", "box", "far", "one", "two", "a", "b", "first", "second", "halves", "right", "k", "near", "rows", "given", "due", "odd", "way", "less", "more", "kind"]) FL ⟨rfl, rfl, rfl, nd, rfl, by decide +kernel, by decide +kernel⟩ fun X B ods res ⟨cdv, A, outer, s', H, E, hX⟩ hgd hr hpr hR hl => ?_
  have hu9 : X.A.units + 64 < cLine := by have := hr.un; omega
  have T := Z.T
  subst hX
  obtain ⟨ns, rfl, hz, rfl⟩ := hR
  have pr : ∀ i, B.pr i = false := fun i => by rw [hpr]; rfl
  have okj : CallG P w K mg base ca 1 "_law_just" 2 none R_just := ok_just T Z.t43
  have okask : CallI P w K mg base ca 6 "_law_asked" 6 none R_asked := ok_asked T Z.U Z.V Z.M Z.t12 Z.t13 Z.t14 Z.t15 Z.t20 Z.t21 Z.t8 Z.t10 Z.t19 Z.t61
  -- the box
  have b0 : 0 ≤ (boxF ns).here := Int.le_refl 0
  refine bp_next (b1_set (od := boxOD (boxF ns)) (ds2 := [.d (.ro (ns.map .int)), .v (boxOD (boxF ns)), .no, .no, .no, .no, .no, .no, .no, .no, .no, .no, .no, .no, .no, .no, .no, .no, .no, .no, .no]) 1 (ev_fnD (xs := [.ro (ns.map .int)]) (ok_box T Z.t38) hr (ead1 (ev_var 0)) ⟨ns, rfl, hz, rfl⟩) nd (hp := pr _)) ?_
  generalize boxF ns = bx at *
  have t3 := takeF_lt bx (l := 3) (by decide)
  have b1 := takeF_here bx 3 b0
  obtain ⟨farv, hf, hf0, hf1⟩ : ∃ f : Int, atI [D.int 1, .int 2, .int 4] (takeF bx 3).1 = some (.int f) ∧ 0 ≤ f ∧ f < 1000 := by
    rcases (show (takeF bx 3).1 = 0 ∨ (takeF bx 3).1 = 1 ∨ (takeF bx 3).1 = 2 by omega) with e | e | e <;> rw [e]
    · exact ⟨1, rfl, by decide, by decide⟩
    · exact ⟨2, rfl, by decide, by decide⟩
    · exact ⟨4, rfl, by decide, by decide⟩
  refine bp_next (b1_set (ds2 := [.d (.ro (ns.map .int)), .v (boxOD (takeF bx 3).2), .d (.int farv), .no, .no, .no, .no, .no, .no, .no, .no, .no, .no, .no, .no, .no, .no, .no, .no, .no, .no]) 2 (EV.ix (xs := [.int 1, .int 2, .int 4]) (ev_lstE (ead3 ev_int ev_int ev_int)) (ev_take1 (ok_take T Z.t39) hr ev_int b0 ⟨by decide, by decide⟩) (.own _) hf) nd (hp := pr _)) ?_
  generalize (takeF bx 3).2 = bx1 at *
  -- the lives
  have dg := drawnF_good (far := farv) b1
  refine bp_next (b1_set (od := .dat (enc5 (drawnF bx1 farv).1)) (ds1 := [.d (.ro (ns.map .int)), .v (boxOD (drawnF bx1 farv).2), .d (.int farv), .no, .no, .no, .no, .no, .no, .no, .no, .no, .no, .no, .no, .no, .no, .no, .no, .no, .no]) (ds2 := [.d (.ro (ns.map .int)), .v (boxOD (drawnF bx1 farv).2), .d (.int farv), .d (enc5 (drawnF bx1 farv).1), .no, .no, .no, .no, .no, .no, .no, .no, .no, .no, .no, .no, .no, .no, .no, .no, .no]) 3 (ev_fn 1 (ok_drawn T Z.t39 Z.t45 Z.t47) hr (ea_cons (ev_al 1) (ea1 (ev_var 2))) (.own rfl (.dat .nil)) ⟨bx1, farv, rfl, b1, hf0, hf1, rfl⟩) nd (hp := pr _)) ?_
  generalize drawnF bx1 farv = O at *
  obtain ⟨gO, b2⟩ := dg
  have mg5 := movedV_ok (far := farv) b2 hf0 gO
  have hRm : R_moved [boxOD O.2, .dat (enc5 O.1), .dat (.int farv)] (.ok (.dat (enc5 (movedV O.2 O.1 farv).1)) (boxOD (movedV O.2 O.1 farv).2)) := by
    rw [← (moved_eq O.2 O.1 farv).1, ← (moved_eq O.2 O.1 farv).2]
    exact ⟨O.2, O.1, farv, rfl, b2, hf0, hf1, by have := gO.lh; omega, by have := gO.ls; omega, by have := gO.ll; omega, rfl⟩
  generalize movedV O.2 O.1 farv = M at *
  obtain ⟨gM, lM, b3⟩ := mg5
  refine bp_next (b1_set (od := .dat (enc5 M.1)) (ds1 := [.d (.ro (ns.map .int)), .v (boxOD M.2), .d (.int farv), .d (enc5 O.1), .no, .no, .no, .no, .no, .no, .no, .no, .no, .no, .no, .no, .no, .no, .no, .no, .no]) (ds2 := [.d (.ro (ns.map .int)), .v (boxOD M.2), .d (.int farv), .d (enc5 O.1), .d (enc5 M.1), .no, .no, .no, .no, .no, .no, .no, .no, .no, .no, .no, .no, .no, .no, .no, .no]) 4 (ev_fn 1 (ok_moved T Z.t39 Z.t45 Z.t41 Z.t46 Z.t48) hr (ea_cons (ev_al 1) (ea_cons (ev_var 3) (ea1 (ev_var 2)))) (.own rfl (.dat (.dat .nil))) hRm) nd (hp := pr _)) ?_
  -- sorted, made
  obtain ⟨gu, su⟩ := sort5_good gO
  obtain ⟨gv, sv⟩ := sort5_good gM
  have lu : (sort5 O.1).loo.length = O.1.loo.length := isort_len _
  have lv : (sort5 M.1).loo.length = M.1.loo.length := isort_len _
  have e1 : O.1.liv = livOf (sort5 O.1) := rfl
  have e2 : M.1.liv = livOf (sort5 M.1) := rfl
  have r1 : R_sorted [.dat (enc5 O.1)] (okN (enc5 (sort5 O.1))) := ⟨O.1, rfl, rfl⟩
  have r2 : R_sorted [.dat (enc5 M.1)] (okN (enc5 (sort5 M.1))) := ⟨M.1, rfl, rfl⟩
  have r3 : R_made [.dat (enc5 O.1)] (okN (encL (livOf (sort5 O.1)))) := ⟨O.1, rfl, good_ok gO, by rw [e1]⟩
  have r4 : R_made [.dat (enc5 M.1)] (okN (encL (livOf (sort5 M.1)))) := ⟨M.1, rfl, good_ok gM, by rw [e2]⟩
  generalize sort5 O.1 = u at *
  generalize sort5 M.1 = v at *
  have hlo : u.loo.length = v.loo.length := by rw [lu, lv, lM]
  refine bp_next (b1_asgT (xs := [enc5 u, enc5 v]) (ds1 := [.d (.ro (ns.map .int)), .v (boxOD M.2), .d (.int farv), .d (enc5 O.1), .d (enc5 M.1), .no, .no, .no, .no, .no, .no, .no, .no, .no, .no, .no, .no, .no, .no, .no, .no]) (ds2 := [.d (.ro (ns.map .int)), .v (boxOD M.2), .d (.int farv), .d (enc5 O.1), .d (enc5 M.1), .d (enc5 u), .d (enc5 v), .no, .no, .no, .no, .no, .no, .no, .no, .no, .no, .no, .no, .no, .no]) rfl (ead2 (ev_fnD (xs := [enc5 O.1]) (ok_sorted T Z.t49) hr (ead1 (ev_var 3)) r1) (ev_fnD (xs := [enc5 M.1]) (ok_sorted T Z.t49) hr (ead1 (ev_var 4)) r2)) (tgs_cons (tg_name 5 nd (hp := pr _)) (tgs_cons (tg_name 6 nd (hp := pr _)) tgs_nil)) rfl) ?_
  refine bp_next (b1_par2 (od1 := .dat (encL (livOf u))) (od2 := .dat (encL (livOf v))) (ds2 := [.d (.ro (ns.map .int)), .v (boxOD M.2), .d (.int farv), .d (enc5 O.1), .d (enc5 M.1), .d (enc5 u), .d (enc5 v), .d (encL (livOf u)), .d (encL (livOf v)), .no, .no, .no, .no, .no, .no, .no, .no, .no, .no, .no, .no]) 7 8 rfl nd (ea_cons (ev_fnD (xs := [enc5 O.1]) (ok_made T Z.L Z.t35 Z.t50) hr (ead1 (ev_var 3)) r3) (ea1 (ev_fnD (xs := [enc5 M.1]) (ok_made T Z.L Z.t35 Z.t50) hr (ead1 (ev_var 4)) r4))) (hpi := pr _) (hpj := pr _)) ?_
  -- the own nearness, the own matching
  refine bp_next (b1_set (ds2 := [.d (.ro (ns.map .int)), .v (boxOD M.2), .d (.int farv), .d (enc5 O.1), .d (enc5 M.1), .d (enc5 u), .d (enc5 v), .d (encL (livOf u)), .d (encL (livOf v)), .d (.int (nearnessF u v)), .no, .no, .no, .no, .no, .no, .no, .no, .no, .no, .no]) 9 (ev_fnD (xs := [enc5 u, enc5 v]) (ok_nearness T Z.t51 Z.t52 Z.t53 Z.t54 Z.t55 Z.t56) hr (ead2 (ev_var 5) (ev_var 6)) ⟨u, v, rfl, su, sv, rfl⟩) nd (hp := pr _)) ?_
  obtain ⟨h0, hb⟩ := nearness_ok gu gv su sv
  generalize nearnessF u v = hv at *
  obtain ⟨R0, R1, hR⟩ : ∃ R0 R1, bothF u v hv = some (R0, R1) := by
    cases e : bothF u v hv with
    | none => exact absurd e hb
    | some x => exact ⟨x.1, x.2, rfl⟩
  obtain ⟨m0, m1', mf⟩ := mfault_none su sv hlo hR
  have rb : R_both [.dat (enc5 u), .dat (enc5 v), .dat (.int hv)] (okN (.lst [.lst (R0.map encN), .lst (R1.map encN)])) := ⟨u, v, hv, rfl, su, sv, by rw [hR]; rfl⟩
  refine bp_next (b1_set (ds2 := [.d (.ro (ns.map .int)), .v (boxOD M.2), .d (.int farv), .d (enc5 O.1), .d (enc5 M.1), .d (enc5 u), .d (enc5 v), .d (encL (livOf u)), .d (encL (livOf v)), .d (.int hv), .d (.lst [.lst (R0.map encN), .lst (R1.map encN)]), .no, .no, .no, .no, .no, .no, .no, .no, .no, .no]) 10 (ev_fnD (xs := [enc5 u, enc5 v, .int hv]) (ok_both T Z.t51 Z.t52 Z.t53 Z.t54 Z.t55) hr (ead3 (ev_var 5) (ev_var 6) (ev_var 9)) rb) nd (hp := pr _)) ?_
  have q0 := mok_rows m0 su.1
  have q1 := mok_rows m1' su.2.1
  clear m0 m1' rb hR hb
  have l1000 : (livOf u).loo.length ≤ 1000 := by have := su.2.2; show u.loo.length ≤ _; omega
  have hlo2 : (livOf u).loo.length = (livOf v).loo.length := hlo
  -- the first loop
  refine bp_for (ds1 := [.d (.ro (ns.map .int)), .v (boxOD M.2), .d (.int farv), .d (enc5 O.1), .d (enc5 M.1), .d (enc5 u), .d (enc5 v), .d (encL (livOf u)), .d (encL (livOf v)), .d (.int hv), .d (.lst [.lst (R0.map encN), .lst (R1.map encN)]), .no, .no, .no, .no, .no, .no, .no, .no, .no, .no]) (passes_of rfl) rfl (iv_range1 ev_int T.fRange ⟨by decide, by decide⟩) ?_
  refine (lpp_loop (σ := Box) (ρ := Unit) (fun bq => [.d (.ro (ns.map .int)), .v (boxOD bq), .d (.int farv), .d (enc5 O.1), .d (enc5 M.1), .d (enc5 u), .d (enc5 v), .d (encL (livOf u)), .d (encL (livOf v)), .d (.int hv), .d (.lst [.lst (R0.map encN), .lst (R1.map encN)]), .no, .no, .no, .no, .no, .no, .no, .no, .no, .no]) (fun i : Nat => D.int (0 + (i : Nat))) (fun bq _ => .nx (fmS (bentI u v R0 R1) (List.range 2) (takeF (takeF bq 9).2 5).2).2) (fun bq _ => 0 ≤ bq.here) (fun _ _ => False) (fun bq i as c0 => ?_) (List.range 6) M.2 b3).imp ?_
  · have c1 := takeF_here bq 9 c0
    have c2 := takeF_here (takeF bq 9).2 5 c1
    have t9 := takeF_lt bq (l := 9) (by decide)
    have t5 := takeF_lt (takeF bq 9).2 (l := 5) (by decide)
    obtain ⟨nr, hnr, hn0⟩ : ∃ nr : Int, atI [D.int hv, .int hv, .int (hv + 2), .int (if hv - 1 > 0 then hv - 1 else 0), .int (takeF bq 9).1] (takeF (takeF bq 9).2 5).1 = some (.int nr) ∧ 0 ≤ nr := by
      have hm : 0 ≤ (if hv - 1 > 0 then hv - 1 else 0) := by split <;> omega
      generalize (if hv - 1 > 0 then hv - 1 else 0) = mx at *
      rcases (show (takeF (takeF bq 9).2 5).1 = 0 ∨ (takeF (takeF bq 9).2 5).1 = 1 ∨ (takeF (takeF bq 9).2 5).1 = 2 ∨ (takeF (takeF bq 9).2 5).1 = 3 ∨ (takeF (takeF bq 9).2 5).1 = 4 by omega) with e | e | e | e | e <;> rw [e]
      · exact ⟨hv, rfl, h0⟩
      · exact ⟨hv, rfl, h0⟩
      · exact ⟨hv + 2, rfl, by omega⟩
      · exact ⟨mx, rfl, hm⟩
      · exact ⟨(takeF bq 9).1, rfl, t9.1⟩
    have h2 : fmS (bentI u v R0 R1) (List.range 2) (takeF (takeF bq 9).2 5).2 = ([(bentRow (takeF (takeF bq 9).2 5).2 R0 u.hol v.hol).1, (bentRow (bentRow (takeF (takeF bq 9).2 5).2 R0 u.hol v.hol).2 R1 u.sum v.sum).1], (bentRow (bentRow (takeF (takeF bq 9).2 5).2 R0 u.hol v.hol).2 R1 u.sum v.sum).2) := rfl
    refine ⟨_, _, tg_name 11 nd (hp := pr _), ?_, fun s' e => ?_⟩
    · refine bp_next (b1_set (ds2 := [.d (.ro (ns.map .int)), .v (boxOD (takeF (takeF bq 9).2 5).2), .d (.int farv), .d (enc5 O.1), .d (enc5 M.1), .d (enc5 u), .d (enc5 v), .d (encL (livOf u)), .d (encL (livOf v)), .d (.int hv), .d (.lst [.lst (R0.map encN), .lst (R1.map encN)]), .d (.int (0 + (i : Nat))), .d (.int nr), .no, .no, .no, .no, .no, .no, .no, .no]) 12 (EV.ix (xs := [.int hv, .int hv, .int (hv + 2), .int (if hv - 1 > 0 then hv - 1 else 0), .int (takeF bq 9).1]) (ev_lstE (ead_cons (ev_var 9) (ead_cons (ev_var 9) (ead3 (EV.add (ev_var 9) ev_int) (EV.max2 rfl ev_int (EV.sub (ev_var 9) ev_int) T.fMax) (ev_take1 (ok_take T Z.t39) hr ev_int c0 ⟨by decide, by decide⟩))))) (ev_take1 (ok_take T Z.t39) hr ev_int c1 ⟨by decide, by decide⟩) (.own _) hnr) nd (hp := pr _)) ?_
      generalize (takeF (takeF bq 9).2 5).2 = b5 at *
      have z0 := bentRow_ok (b := b5) (row := R0) (one := u.hol) (two := v.hol) c2 q0.1.1
      have z1 := bentRow_ok (b := (bentRow b5 R0 u.hol v.hol).2) (row := R1) (one := u.sum) (two := v.sum) z0.1 q1.1.1
      -- rows
      refine bp_next (b1_setLc (p' := ⟨0, 0, 0, 0⟩) (own := [("kind", 20)]) (ds1 := [.d (.ro (ns.map .int)), .v (boxOD b5), .d (.int farv), .d (enc5 O.1), .d (enc5 M.1), .d (enc5 u), .d (enc5 v), .d (encL (livOf u)), .d (encL (livOf v)), .d (.int hv), .d (.lst [.lst (R0.map encN), .lst (R1.map encN)]), .d (.int (0 + (i : Nat))), .d (.int nr), .no, .no, .no, .no, .no, .no, .no, .no]) (ds2 := [.d (.ro (ns.map .int)), .v (boxOD (bentRow (bentRow b5 R0 u.hol v.hol).2 R1 u.sum v.sum).2), .d (.int farv), .d (enc5 O.1), .d (enc5 M.1), .d (enc5 u), .d (enc5 v), .d (encL (livOf u)), .d (encL (livOf v)), .d (.int hv), .d (.lst [.lst (R0.map encN), .lst (R1.map encN)]), .d (.int (0 + (i : Nat))), .d (.int nr), .no, .no, .no, .no, .no, .no, .no, .no]) (xs := (List.range 2).map fun i : Nat => D.int (0 + (i : Nat))) (out := [(bentRow b5 R0 u.hol v.hol).1, (bentRow (bentRow b5 R0 u.hol v.hol).2 R1 u.sum v.sum).1].map fun L => D.lst (L.map encN)) (ds3 := [.d (.ro (ns.map .int)), .v (boxOD (bentRow (bentRow b5 R0 u.hol v.hol).2 R1 u.sum v.sum).2), .d (.int farv), .d (enc5 O.1), .d (enc5 M.1), .d (enc5 u), .d (enc5 v), .d (encL (livOf u)), .d (encL (livOf v)), .d (.int hv), .d (.lst [.lst (R0.map encN), .lst (R1.map encN)]), .d (.int (0 + (i : Nat))), .d (.int nr), .v (OD.l [.lst ((bentRow b5 R0 u.hol v.hol).1.map encN), .lst ((bentRow (bentRow b5 R0 u.hol v.hol).2 R1 u.sum v.sum).1.map encN)]), .no, .no, .no, .no, .no, .no, .no]) 13 rfl nd (iv_range1 ev_int T.fRange ⟨by decide, by decide⟩) (blkOk_by (by rfl)) ?bare ?hpr ?lc (by show 2 < 16777216; decide) (hpi := pr _)) ?_
      case bare => exact fun i hi od => by simp at hi; rcases hi with rfl; exact fun z => by cases z
      case hpr => exact fun i _ => pr i
      case lc =>
        refine lc_st (α := Nat) (β := Ix) (fun bq => [.d (.ro (ns.map .int)), .v (boxOD bq), .d (.int farv), .d (enc5 O.1), .d (enc5 M.1), .d (enc5 u), .d (enc5 v), .d (encL (livOf u)), .d (encL (livOf v)), .d (.int hv), .d (.lst [.lst (R0.map encN), .lst (R1.map encN)]), .d (.int (0 + (i : Nat))), .d (.int nr), .no, .no, .no, .no, .no, .no, .no, .no]) (fun i : Nat => D.int (0 + (i : Nat))) (fun L => D.lst (L.map encN)) (bentI u v R0 R1) (fun bq as => 0 ≤ bq.here ∧ ∀ i ∈ as, i < 2) (fun bq i2 as hI => ?_) (List.range 2) b5 ⟨c2, fun i hi => List.mem_range.mp hi⟩
        obtain ⟨d0, d1⟩ := hI
        have i2lt : i2 < 2 := d1 i2 (List.mem_cons_self ..)
        have au := at_kd u i2lt
        have av := at_kd v i2lt
        have ar : atI [D.lst (R0.map encN), .lst (R1.map encN)] (0 + (i2 : Int)) = some (.lst ((if i2 = 0 then R0 else R1).map encN)) := by
          rcases (show i2 = 0 ∨ i2 = 1 by omega) with e | e <;> rw [e] <;> rfl
        have lr : (if i2 = 0 then R0 else R1).length < 1000 := by
          have := q0.2
          have := q1.2
          split <;> omega
        have ok2 : ∀ r ∈ (if i2 = 0 then R0 else R1), r.1 < (u.kd i2).length ∧ r.2 < (v.kd i2).length := by
          rcases (show i2 = 0 ∨ i2 = 1 by omega) with e | e <;> rw [e]
          · exact q0.1.1
          · exact q1.1.1
        have zz := bentRow_ok (b := bq) d0 ok2
        refine ⟨⟨[.d (.ro (ns.map .int)), .v (boxOD bq), .d (.int farv), .d (enc5 O.1), .d (enc5 M.1), .d (enc5 u), .d (enc5 v), .d (encL (livOf u)), .d (encL (livOf v)), .d (.int hv), .d (.lst [.lst (R0.map encN), .lst (R1.map encN)]), .d (.int (0 + (i : Nat))), .d (.int nr), .no, .no, .no, .no, .no, .no, .no, .d (.int (0 + (i2 : Nat)))], true, [.d (.ro (ns.map .int)), .v (boxOD bq), .d (.int farv), .d (enc5 O.1), .d (enc5 M.1), .d (enc5 u), .d (enc5 v), .d (encL (livOf u)), .d (encL (livOf v)), .d (.int hv), .d (.lst [.lst (R0.map encN), .lst (R1.map encN)]), .d (.int (0 + (i : Nat))), .d (.int nr), .no, .no, .no, .no, .no, .no, .no, .d (.int (0 + (i2 : Nat)))], [20], fun X' hX' => ?_, fun i hi => hi, fun X' _ => ets_nil, .inr ⟨rfl, (bentRow bq (if i2 = 0 then R0 else R1) (u.kd i2) (v.kd i2)).1, (bentRow bq (if i2 = 0 then R0 else R1) (u.kd i2) (v.kd i2)).2, [.d (.ro (ns.map .int)), .v (boxOD (bentRow bq (if i2 = 0 then R0 else R1) (u.kd i2) (v.kd i2)).2), .d (.int farv), .d (enc5 O.1), .d (enc5 M.1), .d (enc5 u), .d (enc5 v), .d (encL (livOf u)), .d (encL (livOf v)), .d (.int hv), .d (.lst [.lst (R0.map encN), .lst (R1.map encN)]), .d (.int (0 + (i : Nat))), .d (.int nr), .no, .no, .no, .no, .no, .no, .no, .d (.int (0 + (i2 : Nat)))], rfl, fun X' hX' => ?_, rfl⟩⟩, zz.1, fun j hj => d1 j (List.mem_cons_of_mem _ hj)⟩
        · obtain ⟨_, _, _, _, _, rfl⟩ := hX'
          exact tg_name 20 nd (hp := pr _)
        · obtain ⟨_, _, _, _, _, rfl⟩ := hX'
          exact ev_fn 1 (ok_bentrow T Z.t39 Z.t40 Z.t41 Z.t44 Z.t59) hr (ea_cons (ev_al 1) (ea_cons (EV.ix (xs := [.lst (R0.map encN), .lst (R1.map encN)]) (ev_var 10) (ev_var 20) (.lst _) ar) (ea_cons (EV.ix (xs := u.its) (ev_var 5) (ev_var 20) (.lst _) au) (ea1 (EV.ix (xs := v.its) (ev_var 6) (ev_var 20) (.lst _) av))))) (.own rfl (.dat (.dat (.dat .nil)))) ⟨bq, _, u.kd i2, v.kd i2, rfl, d0, lr, by have := kd_len su i2; omega, by have := kd_len sv i2; omega, rfl⟩
      rw [h2]
      dsimp only
      generalize bentRow b5 R0 u.hol v.hol = g0 at *
      generalize bentRow g0.2 R1 u.sum v.sum = g1 at *
      obtain ⟨r0, bb0⟩ := g0
      obtain ⟨r1, b6⟩ := g1
      dsimp only at z0 z1 ⊢
      have ok0 : okRows u.hol v.hol r0 := ⟨z0.2.1, by have := z0.2.2; have := q0.2; omega⟩
      have ok1 : okRows u.sum v.sum r1 := ⟨z1.2.1, by have := z1.2.2; have := q1.2; omega⟩
      have jm : jb (mfault (livOf u) (livOf v) nr r0 r1) = true := mfault_jb su sv (by have := z0.2.2; have := q0.2; omega) (by have := z1.2.2; have := q1.2; omega)
      have askd : askD (livOf u) (livOf v) nr r0 r1 = mfault (livOf u) (livOf v) nr r0 r1 := by
        unfold askD
        rw [if_pos hlo2, if_neg (by omega)]
      -- given, due
      refine bp_next (b1_set (od := .dat (.lst [.lst (r0.map encN), .lst (r1.map encN)])) (ds1 := [.d (.ro (ns.map .int)), .v (boxOD b6), .d (.int farv), .d (enc5 O.1), .d (enc5 M.1), .d (enc5 u), .d (enc5 v), .d (encL (livOf u)), .d (encL (livOf v)), .d (.int hv), .d (.lst [.lst (R0.map encN), .lst (R1.map encN)]), .d (.int (0 + (i : Nat))), .d (.int nr), .v (OD.l [.lst (r0.map encN), .lst (r1.map encN)]), .no, .no, .no, .no, .no, .no, .no]) (ds2 := [.d (.ro (ns.map .int)), .v (boxOD b6), .d (.int farv), .d (enc5 O.1), .d (enc5 M.1), .d (enc5 u), .d (enc5 v), .d (encL (livOf u)), .d (encL (livOf v)), .d (.int hv), .d (.lst [.lst (R0.map encN), .lst (R1.map encN)]), .d (.int (0 + (i : Nat))), .d (.int nr), .v (OD.l [.lst (r0.map encN), .lst (r1.map encN)]), .d (.lst [.lst (r0.map encN), .lst (r1.map encN)]), .no, .no, .no, .no, .no, .no]) 14 (EV.frz (ev_lstE (ead2 (EV.frz (EV.list (xs := r0.map encN) (EV.ix (xs := [.lst (r0.map encN), .lst (r1.map encN)]) (ev_al 13) ev_int (.al rfl (.own [.lst (r0.map encN), .lst (r1.map encN)])) rfl) (.lst _) T.fList) (frz_l _)) (EV.frz (EV.list (xs := r1.map encN) (EV.ix (xs := [.lst (r0.map encN), .lst (r1.map encN)]) (ev_al 13) ev_int (.al rfl (.own [.lst (r0.map encN), .lst (r1.map encN)])) rfl) (.lst _) T.fList) (frz_l _)))) (frz_l _)) nd (hp := pr _)) ?_
      refine bp_next (b1_set (ds2 := [.d (.ro (ns.map .int)), .v (boxOD b6), .d (.int farv), .d (enc5 O.1), .d (enc5 M.1), .d (enc5 u), .d (enc5 v), .d (encL (livOf u)), .d (encL (livOf v)), .d (.int hv), .d (.lst [.lst (R0.map encN), .lst (R1.map encN)]), .d (.int (0 + (i : Nat))), .d (.int nr), .v (OD.l [.lst (r0.map encN), .lst (r1.map encN)]), .d (.lst [.lst (r0.map encN), .lst (r1.map encN)]), .d (mfault (livOf u) (livOf v) nr r0 r1), .no, .no, .no, .no, .no]) 15 (ev_fnD (xs := [enc5 u, enc5 v, .int nr, .lst (r0.map encN), .lst (r1.map encN)]) (ok_ffault T Z.t51 Z.t52 Z.t57) hr (ead_cons (ev_var 5) (ead_cons (ev_var 6) (ead3 (ev_var 12) (EV.ix (xs := [.lst (r0.map encN), .lst (r1.map encN)]) (ev_al 13) ev_int (.al rfl (.own [.lst (r0.map encN), .lst (r1.map encN)])) rfl) (EV.ix (xs := [.lst (r0.map encN), .lst (r1.map encN)]) (ev_al 13) ev_int (.al rfl (.own [.lst (r0.map encN), .lst (r1.map encN)])) rfl)))) ⟨u, v, nr, r0, r1, rfl, hlo, by have := su.2.2; omega, ok0, ok1, rfl⟩) nd (hp := pr _)) ?_
      obtain ⟨tr1, tr2⟩ := two_rows r0 r1
      have ra : R_asked [.dat (encL (livOf u)), .dat (encL (livOf v)), .dat (.int nr), .dat (.lst (r0.map encN)), .dat (.lst (r1.map encN)), .dat (.int ((0 + (i : Int)) % 2))] (okN (mfault (livOf u) (livOf v) nr r0 r1)) := ⟨livOf u, livOf v, nr, r0, r1, _, rfl, l1000, ok0, ok1, by rw [askd]⟩
      have rj := just_of jm
      generalize mfault (livOf u) (livOf v) nr r0 r1 = md at *
      refine bp_if (k := false) (ds1 := [.d (.ro (ns.map .int)), .v (boxOD b6), .d (.int farv), .d (enc5 O.1), .d (enc5 M.1), .d (enc5 u), .d (enc5 v), .d (encL (livOf u)), .d (encL (livOf v)), .d (.int hv), .d (.lst [.lst (R0.map encN), .lst (R1.map encN)]), .d (.int (0 + (i : Nat))), .d (.int nr), .v (OD.l [.lst (r0.map encN), .lst (r1.map encN)]), .d (.lst [.lst (r0.map encN), .lst (r1.map encN)]), .d md, .no, .no, .no, .no, .no]) (EW.pt (ew_or (b1 := !true) (b2 := false) (et_not (et_val (ev_fnG 0 okj hgd hr (ea_cons (ev_fnD (xs := [encL (livOf u), encL (livOf v), .int nr, .lst (r0.map encN), .lst (r1.map encN), .int ((0 + (i : Int)) % 2)]) okask hr (ead_cons (ev_var 7) (ead_cons (ev_var 8) (ead_cons (ev_var 12) (ead3 (EV.ix (xs := [.lst (r0.map encN), .lst (r1.map encN)]) (ev_var 14) ev_int (.lst _) rfl) (EV.ix (xs := [.lst (r0.map encN), .lst (r1.map encN)]) (ev_var 14) ev_int (.lst _) rfl) (EV.mod (EV.intI (ev_var 11) T.fInt) ev_int (by decide)))))) ra) (ea1 (ev_var 15))) (args_dat [md, md]) rj))) (fun _ => ew_or1 (ET.cast (et_cmp (op_neD hu9) (ev_var 14) (ev_al 13) (ro_neD (.dat _) (.al rfl (.own [.lst (r0.map encN), .lst (r1.map encN)])) tr1 tr1)) (by rw [tr2]; rfl) rfl)) fun _ => rfl)) (fun hk => by cases hk) fun _ => ?_
      exact bp_nil (bp_nil (bp_end (turned_nx (.keep (.keep (.keep (.keep (.keep (.keep (.keep (.keep (.keep (.keep (.keep (.drop (.drop (.drop (.drop (.drop (.keep (.keep (.keep (.keep (.keep .nil))))))))))))))))))))))))
    · cases e
      rw [h2]
      have z0 := bentRow_ok (b := (takeF (takeF bq 9).2 5).2) (row := R0) (one := u.hol) (two := v.hol) c2 q0.1.1
      exact (bentRow_ok (row := R1) (one := u.sum) (two := v.sum) z0.1 q1.1.1).1
  intro o ho
  have inv1 : ∀ (as : List Nat) (bq : Box), 0 ≤ bq.here → 0 ≤ (as.foldl (fun bq _ => (fmS (bentI u v R0 R1) (List.range 2) (takeF (takeF bq 9).2 5).2).2) bq).here := fun as => by
    induction as with
    | nil => exact fun bq h => h
    | cons a as ih =>
      intro bq h
      refine ih _ ?_
      have z0 := bentRow_ok (b := (takeF (takeF bq 9).2 5).2) (row := R0) (one := u.hol) (two := v.hol) (takeF_here _ _ (takeF_here _ _ h)) q0.1.1
      exact (bentRow_ok (row := R1) (one := u.sum) (two := v.sum) z0.1 q1.1.1).1
  have b7 := inv1 (List.range 6) M.2 b3
  rw [loopF_nx] at ho
  subst ho
  clear inv1
  generalize (List.range 6).foldl (fun bq _ => (fmS (bentI u v R0 R1) (List.range 2) (takeF (takeF bq 9).2 5).2).2) M.2 = b8 at *
  -- the own matching is sound
  have askd : askD (livOf u) (livOf v) hv R0 R1 = .non := by
    unfold askD
    rw [if_pos hlo2, if_neg (by omega), mf]
  have ra : R_asked [.dat (encL (livOf u)), .dat (encL (livOf v)), .dat (.int hv), .dat (.lst (R0.map encN)), .dat (.lst (R1.map encN)), .dat (.int 0)] (okN .non) := ⟨livOf u, livOf v, hv, R0, R1, 0, rfl, l1000, q0.1, q1.1, by rw [askd]⟩
  refine bp_if (k := !true) (ds1 := [.d (.ro (ns.map .int)), .v (boxOD b8), .d (.int farv), .d (enc5 O.1), .d (enc5 M.1), .d (enc5 u), .d (enc5 v), .d (encL (livOf u)), .d (encL (livOf v)), .d (.int hv), .d (.lst [.lst (R0.map encN), .lst (R1.map encN)]), .no, .no, .no, .no, .no, .no, .no, .no, .no, .no]) (et_not (et_val (ev_fnG 0 okj hgd hr (ea_cons (ev_fnD (xs := [encL (livOf u), encL (livOf v), .int hv, .lst (R0.map encN), .lst (R1.map encN), .int 0]) okask hr (ead_cons (ev_var 7) (ead_cons (ev_var 8) (ead_cons (ev_var 9) (ead3 (EV.ix (xs := [.lst (R0.map encN), .lst (R1.map encN)]) (ev_var 10) ev_int (.lst _) rfl) (EV.ix (xs := [.lst (R0.map encN), .lst (R1.map encN)]) (ev_var 10) ev_int (.lst _) rfl) ev_int)))) ra) (ea1 ev_non)) (args_dat [.non, .non]) (just_of j_low.2.2.1)))) (fun hk => by cases hk) fun _ => bp_nil ?_
  -- the second loop
  refine bp_for (ds1 := [.d (.ro (ns.map .int)), .v (boxOD b8), .d (.int farv), .d (enc5 O.1), .d (enc5 M.1), .d (enc5 u), .d (enc5 v), .d (encL (livOf u)), .d (encL (livOf v)), .d (.int hv), .d (.lst [.lst (R0.map encN), .lst (R1.map encN)]), .no, .no, .no, .no, .no, .no, .no, .no, .no, .no]) (passes_of rfl) rfl (iv_range1 ev_int T.fRange ⟨by decide, by decide⟩) ?_
  let nr2 : Box → Int := fun bq => match (takeF (takeF bq 9).2 4).1.toNat with
    | 0 => if hv - 1 > 0 then hv - 1 else 0
    | 1 => if hv - 2 > 0 then hv - 2 else 0
    | 2 => 0
    | _ => (takeF bq 9).1
  refine (lpp_loop (σ := Box) (ρ := Unit) (fun bq => [.d (.ro (ns.map .int)), .v (boxOD bq), .d (.int farv), .d (enc5 O.1), .d (enc5 M.1), .d (enc5 u), .d (enc5 v), .d (encL (livOf u)), .d (encL (livOf v)), .d (.int hv), .d (.lst [.lst (R0.map encN), .lst (R1.map encN)]), .no, .no, .no, .no, .no, .no, .no, .no, .no, .no]) (fun i : Nat => D.int (0 + (i : Nat))) (fun bq _ => .nx (drawnBar (takeF (takeF bq 9).2 4).2 u v (nr2 bq)).2) (fun bq _ => 0 ≤ bq.here) (fun _ _ => False) (fun bq i as c0 => ?_) (List.range 6) b8 b7).imp ?_
  · have c1 := takeF_here bq 9 c0
    have c2 := takeF_here (takeF bq 9).2 4 c1
    have t4 := takeF_lt (takeF bq 9).2 (l := 4) (by decide)
    have hnr : atI [D.int (if hv - 1 > 0 then hv - 1 else 0), .int (if hv - 2 > 0 then hv - 2 else 0), .int 0, .int (takeF bq 9).1] (takeF (takeF bq 9).2 4).1 = some (.int (nr2 bq)) := by
      show _ = some (D.int (match (takeF (takeF bq 9).2 4).1.toNat with
        | 0 => if hv - 1 > 0 then hv - 1 else 0
        | 1 => if hv - 2 > 0 then hv - 2 else 0
        | 2 => 0
        | _ => (takeF bq 9).1))
      rcases (show (takeF (takeF bq 9).2 4).1 = 0 ∨ (takeF (takeF bq 9).2 4).1 = 1 ∨ (takeF (takeF bq 9).2 4).1 = 2 ∨ (takeF (takeF bq 9).2 4).1 = 3 by omega) with e | e | e | e <;> rw [e] <;> rfl
    refine ⟨_, _, tg_name 11 nd (hp := pr _), ?_, fun s' e => ?_⟩
    · refine bp_next (b1_set (ds2 := [.d (.ro (ns.map .int)), .v (boxOD (takeF (takeF bq 9).2 4).2), .d (.int farv), .d (enc5 O.1), .d (enc5 M.1), .d (enc5 u), .d (enc5 v), .d (encL (livOf u)), .d (encL (livOf v)), .d (.int hv), .d (.lst [.lst (R0.map encN), .lst (R1.map encN)]), .d (.int (0 + (i : Nat))), .d (.int (nr2 bq)), .no, .no, .no, .no, .no, .no, .no, .no]) 12 (EV.ix (xs := [.int (if hv - 1 > 0 then hv - 1 else 0), .int (if hv - 2 > 0 then hv - 2 else 0), .int 0, .int (takeF bq 9).1]) (ev_lstE (ead_cons (EV.max2 rfl ev_int (EV.sub (ev_var 9) ev_int) T.fMax) (ead3 (EV.max2 rfl ev_int (EV.sub (ev_var 9) ev_int) T.fMax) ev_int (ev_take1 (ok_take T Z.t39) hr ev_int c0 ⟨by decide, by decide⟩)))) (ev_take1 (ok_take T Z.t39) hr ev_int c1 ⟨by decide, by decide⟩) (.own _) hnr) nd (hp := pr _)) ?_
      generalize nr2 bq = nr at *
      generalize (takeF (takeF bq 9).2 4).2 = b5 at *
      have db := drawnBar_ok (n := nr) c2 su sv
      refine bp_next (b1_set (ds1 := [.d (.ro (ns.map .int)), .v (boxOD (drawnBar b5 u v nr).2), .d (.int farv), .d (enc5 O.1), .d (enc5 M.1), .d (enc5 u), .d (enc5 v), .d (encL (livOf u)), .d (encL (livOf v)), .d (.int hv), .d (.lst [.lst (R0.map encN), .lst (R1.map encN)]), .d (.int (0 + (i : Nat))), .d (.int nr), .no, .no, .no, .no, .no, .no, .no, .no]) (ds2 := [.d (.ro (ns.map .int)), .v (boxOD (drawnBar b5 u v nr).2), .d (.int farv), .d (enc5 O.1), .d (enc5 M.1), .d (enc5 u), .d (enc5 v), .d (encL (livOf u)), .d (encL (livOf v)), .d (.int hv), .d (.lst [.lst (R0.map encN), .lst (R1.map encN)]), .d (.int (0 + (i : Nat))), .d (.int nr), .no, .no, .no, .d (encBar (drawnBar b5 u v nr).1), .no, .no, .no, .no]) 16 (ev_fn 1 (ok_drawnbar T Z.t39 Z.t40 Z.t60) hr (ea_cons (ev_al 1) (ea_cons (ev_var 5) (ea_cons (ev_var 6) (ea1 (ev_var 12))))) (.own rfl (.dat (.dat (.dat .nil)))) ⟨b5, u, v, nr, rfl, c2, su, sv, rfl⟩) nd (hp := pr _)) ?_
      generalize drawnBar b5 u v nr = db2 at *
      obtain ⟨br, b6⟩ := db2
      dsimp only at db ⊢
      have rh : R_bar_holds [.dat (encL (livOf u)), .dat (encL (livOf v)), .dat (.int nr), .dat (encBar br)] (okN (.bl (barHolds (livOf u) (livOf v) nr br))) := ⟨livOf u, livOf v, nr, br, rfl, hlo2, l1000, fun k => ⟨prs_len su k, prs_len sv k⟩, fun k wh idx e => db.2 k wh idx e, rfl⟩
      have ri : R_isbar [.dat (enc5 u), .dat (enc5 v), .dat (.int nr), .dat (encBar br)] (okN (.bl (barHolds (livOf u) (livOf v) nr br))) := ⟨u, v, nr, br, rfl, hlo, su, sv, fun k wh idx e => db.2 k wh idx e, rfl⟩
      have rj := just_of (jb_bl (barHolds (livOf u) (livOf v) nr br))
      generalize barHolds (livOf u) (livOf v) nr br = bv at *
      generalize encBar br = eb at *
      obtain ⟨fF, fd, F, hm⟩ := Z.t17
      have kb : KBn K fd ["lives", "other", "n", "value"] 0 (["lives", "other", "n", "value"] : List Str).reverse (fun _ ws => ws.reverse) (fun _ zs => zs.reverse) := kbn_rev F fun kV doc pm an cdv ct ws hw => by
        match ws, hw with
        | [_, _, _, _], _ => rfl
      have hperm : ∀ (F : Hp) (zs : List L2.V), Reps K ca F [eb, .int nr, encL (livOf v), encL (livOf u)] zs → Reps K ca F [encL (livOf u), encL (livOf v), .int nr, eb] zs.reverse := fun F zs r => r.reverse
      refine bp_if (k := !true) (ds1 := [.d (.ro (ns.map .int)), .v (boxOD b6), .d (.int farv), .d (enc5 O.1), .d (enc5 M.1), .d (enc5 u), .d (enc5 v), .d (encL (livOf u)), .d (encL (livOf v)), .d (.int hv), .d (.lst [.lst (R0.map encN), .lst (R1.map encN)]), .d (.int (0 + (i : Nat))), .d (.int nr), .no, .no, .no, .d eb, .no, .no, .no, .no]) (et_not (et_val (ev_fnG 0 okj hgd hr (ea_cons (ds1 := [.d (.ro (ns.map .int)), .v (boxOD b6), .d (.int farv), .d (enc5 O.1), .d (enc5 M.1), .d (enc5 u), .d (enc5 v), .d (encL (livOf u)), .d (encL (livOf v)), .d (.int hv), .d (.lst [.lst (R0.map encN), .lst (R1.map encN)]), .d (.int (0 + (i : Nat))), .d (.int nr), .no, .no, .no, .d eb, .no, .no, .no, .no]) (ev_callKw (xs := [eb, .int nr, encL (livOf v), encL (livOf u)]) (ys := [encL (livOf u), encL (livOf v), .int nr, eb]) (fn_bar_holds T Z.U Z.t12 Z.t16 Z.t14 Z.t15 Z.t8 Z.t10 Z.t18 F) (hr.mono (by decide)) hm F.kp kb ?kw hperm rh rfl) (ea1 (ev_fnD (xs := [enc5 u, enc5 v, .int nr, eb]) (ok_isbar T Z.t51 Z.t52 Z.t42 Z.t58) hr (ead_cons (ev_var 5) (ead3 (ev_var 6) (ev_var 12) (ev_var 16))) ri))) (args_dat [.bl bv, .bl bv]) rj))) (fun hk => by cases hk) fun _ => ?_
      case kw => exact ek_cons (ev_var 16) (ek_cons (ev_var 12) (ek_cons (ev_var 8) (ek_cons (ev_var 7) ek_nil)))
      exact bp_nil (bp_nil (bp_end (turned_nx (.keep (.keep (.keep (.keep (.keep (.keep (.keep (.keep (.keep (.keep (.keep (.drop (.drop (.keep (.keep (.keep (.drop (.keep (.keep (.keep (.keep .nil))))))))))))))))))))))))
    · cases e
      exact (drawnBar_ok c2 su sv).1
  intro o ho
  have inv2 : ∀ (as : List Nat) (bq : Box), 0 ≤ bq.here → 0 ≤ (as.foldl (fun bq _ => (drawnBar (takeF (takeF bq 9).2 4).2 u v (nr2 bq)).2) bq).here := fun as => by
    induction as with
    | nil => exact fun bq h => h
    | cons a as ih =>
      intro bq h
      exact ih _ (drawnBar_ok (takeF_here _ _ (takeF_here _ _ h)) su sv).1
  have b9 := inv2 (List.range 6) b8 b7
  rw [loopF_nx] at ho
  subst ho
  clear inv2
  generalize (List.range 6).foldl (fun bq _ => (drawnBar (takeF (takeF bq 9).2 4).2 u v (nr2 bq)).2) b8 = ba at *
  clear nr2
  -- refusals
  have b10 := takeF_here ba 2 b9
  have t5 := takeF_lt (takeF ba 2).2 (l := 5) (by decide)
  refine bp_next (b1_par2 (od1 := .dat (.int (takeF ba 2).1)) (od2 := .dat (.int (0 - 1 - (takeF (takeF ba 2).2 5).1))) (ds2 := [.d (.ro (ns.map .int)), .v (boxOD (takeF (takeF ba 2).2 5).2), .d (.int farv), .d (enc5 O.1), .d (enc5 M.1), .d (enc5 u), .d (enc5 v), .d (encL (livOf u)), .d (encL (livOf v)), .d (.int hv), .d (.lst [.lst (R0.map encN), .lst (R1.map encN)]), .no, .no, .no, .no, .no, .no, .d (.int (takeF ba 2).1), .d (.int (0 - 1 - (takeF (takeF ba 2).2 5).1)), .no, .no]) 17 18 rfl nd (ea_cons (ev_take1 (ok_take T Z.t39) hr ev_int b9 ⟨by decide, by decide⟩) (ea1 (EV.sub (EV.sub ev_int ev_int) (ev_take1 (ok_take T Z.t39) hr ev_int b10 ⟨by decide, by decide⟩)))) (hpi := pr _) (hpj := pr _)) ?_
  have hless : 0 - 1 - (takeF (takeF ba 2).2 5).1 < 0 := by omega
  generalize 0 - 1 - (takeF (takeF ba 2).2 5).1 = ls at *
  generalize (takeF ba 2).1 = wy at *
  generalize (takeF (takeF ba 2).2 5).2 = bz at *
  have okn : ∀ ps qs : List (Int × Int), okRows ps qs [] := fun ps qs => ⟨fun r hr => (by cases hr), by simp⟩
  have rb : R_asked [.dat (encL (livOf u)), .dat (encL (livOf v)), .dat (.int ls), .dat (.lst (([] : Ix).map encN)), .dat (.lst (([] : Ix).map encN)), .dat (.int wy)] (okN (.tup [.str "BadValue", .str "BadValue", .str "n"])) := ⟨livOf u, livOf v, ls, [], [], wy, rfl, l1000, okn _ _, okn _ _, by unfold askD; rw [if_pos hlo2, if_pos hless]⟩
  refine bp_if (k := !true) (ds1 := [.d (.ro (ns.map .int)), .v (boxOD bz), .d (.int farv), .d (enc5 O.1), .d (enc5 M.1), .d (enc5 u), .d (enc5 v), .d (encL (livOf u)), .d (encL (livOf v)), .d (.int hv), .d (.lst [.lst (R0.map encN), .lst (R1.map encN)]), .no, .no, .no, .no, .no, .no, .d (.int wy), .d (.int ls), .no, .no]) (et_not (et_val (ev_fnG 0 okj hgd hr (ea_cons (ev_fnD (xs := [encL (livOf u), encL (livOf v), .int ls, .lst (([] : Ix).map encN), .lst (([] : Ix).map encN), .int wy]) okask hr (ead_cons (ev_var 7) (ead_cons (ev_var 8) (ead_cons (ev_var 18) (ead3 (EV.frz (ev_lst (xs := []) ea_nil) (frz_l [])) (EV.frz (ev_lst (xs := []) ea_nil) (frz_l [])) (ev_var 17))))) rb) (ea1 (ev_tupD (ead3 ev_str ev_str ev_str)))) (args_dat [_, _]) (just_of j_low.2.2.2.2.2.1)))) (fun hk => by cases hk) fun _ => bp_nil ?_
  -- other handles
  have gm : R_made [.dat (enc5 ⟨O.1.hol, O.1.sum, O.1.loo ++ [hv], O.1.low, O.1.high⟩)] (okN (encL (Five.liv ⟨O.1.hol, O.1.sum, O.1.loo ++ [hv], O.1.low, O.1.high⟩))) := ⟨_, rfl, ⟨gO.hol, gO.sum, by have := gO.lh; show O.1.hol.length ≤ _; omega, by have := gO.ls; show O.1.sum.length ≤ _; omega⟩, rfl⟩
  have hne : ¬ (Five.liv ⟨O.1.hol, O.1.sum, O.1.loo ++ [hv], O.1.low, O.1.high⟩).loo.length = (livOf v).loo.length := by
    show ¬ (isort (O.1.loo ++ [hv])).length = v.loo.length
    rw [isort_len, List.length_append, ← hlo, lu]
    show ¬ _ + 1 = _
    omega
  have hml : (Five.liv ⟨O.1.hol, O.1.sum, O.1.loo ++ [hv], O.1.low, O.1.high⟩).loo.length ≤ 1000 := by
    show (isort (O.1.loo ++ [hv])).length ≤ 1000
    rw [isort_len, List.length_append]
    have := gO.ll
    show _ + 1 ≤ _
    omega
  generalize Five.liv ⟨O.1.hol, O.1.sum, O.1.loo ++ [hv], O.1.low, O.1.high⟩ = mo at *
  have hmore : ([D.lst (O.1.hol.map encP), .lst (O.1.sum.map encP)] ++ [D.lst (O.1.loo.map D.int ++ [D.int hv])]) ++ [D.int O.1.low, .int O.1.high] = (Five.mk O.1.hol O.1.sum (O.1.loo ++ [hv]) O.1.low O.1.high).its := by
    unfold Five.its
    rw [List.map_append]
    rfl
  have gm2 : R_made [.dat (.lst (([D.lst (O.1.hol.map encP), .lst (O.1.sum.map encP)] ++ [D.lst (O.1.loo.map D.int ++ [D.int hv])]) ++ [D.int O.1.low, .int O.1.high]))] (okN (encL mo)) := by
    rw [hmore]
    exact gm
  have l3 : O.1.loo.length ≤ 3 := gO.ll
  refine bp_next (b1_set (ds1 := [.d (.ro (ns.map .int)), .v (boxOD bz), .d (.int farv), .d (enc5 O.1), .d (enc5 M.1), .d (enc5 u), .d (enc5 v), .d (encL (livOf u)), .d (encL (livOf v)), .d (.int hv), .d (.lst [.lst (R0.map encN), .lst (R1.map encN)]), .no, .no, .no, .no, .no, .no, .d (.int wy), .d (.int ls), .no, .no]) (ds2 := [.d (.ro (ns.map .int)), .v (boxOD bz), .d (.int farv), .d (enc5 O.1), .d (enc5 M.1), .d (enc5 u), .d (enc5 v), .d (encL (livOf u)), .d (encL (livOf v)), .d (.int hv), .d (.lst [.lst (R0.map encN), .lst (R1.map encN)]), .no, .no, .no, .no, .no, .no, .d (.int wy), .d (.int ls), .d (encL mo), .no]) 19 (ev_fnD (xs := [.lst (([D.lst (O.1.hol.map encP), .lst (O.1.sum.map encP)] ++ [D.lst (O.1.loo.map D.int ++ [D.int hv])]) ++ [D.int O.1.low, .int O.1.high])]) (ok_made T Z.L Z.t35 Z.t50) hr (ead1 ?more) gm2) nd (hp := pr _)) ?_
  case more =>
    refine EV.frz (EV.cat (xs := [D.lst (O.1.hol.map encP), .lst (O.1.sum.map encP)] ++ [D.lst (O.1.loo.map D.int ++ [D.int hv])]) (ys := [D.int O.1.low, .int O.1.high]) (EV.cat (xs := [D.lst (O.1.hol.map encP), .lst (O.1.sum.map encP)]) (ys := [D.lst (O.1.loo.map D.int ++ [D.int hv])]) (EV.sl (xs := O.1.its) (i := none) (j := some 2) (ev_var 3) eo_none (eo_some ev_int) (.lst _)) (ev_lstE (ead1 (EV.frz (EV.cat (xs := O.1.loo.map .int) (ys := [.int hv]) (EV.ix (xs := O.1.its) (ev_var 3) ev_int (.lst _) rfl) (ev_lstE (ead1 (ev_var 9))) (.dat _) (.own _) (by rw [List.length_map]; show _ + 1 ≤ _; omega)) (frz_l _)))) (.own _) (.own _) (by show 3 ≤ 16777216; decide)) (EV.sl (xs := O.1.its) (i := some 3) (j := none) (ev_var 3) (eo_some ev_int) eo_none (.lst _)) (.own _) (.own _) (by show 5 ≤ 16777216; decide)) (frz_l _)
  have rc : R_asked [.dat (encL mo), .dat (encL (livOf v)), .dat (.int ls), .dat (.lst (([] : Ix).map encN)), .dat (.lst (([] : Ix).map encN)), .dat (.int wy)] (okN (.tup [.str "Unlike", .str "Unlike", .str "handles"])) := ⟨mo, livOf v, ls, [], [], wy, rfl, hml, okn _ _, okn _ _, by unfold askD; rw [if_neg hne]⟩
  exact bp_ret (ev_fnG 0 okj hgd hr (ea_cons (ev_fnD (xs := [encL mo, encL (livOf v), .int ls, .lst (([] : Ix).map encN), .lst (([] : Ix).map encN), .int wy]) okask hr (ead_cons (ev_var 19) (ead_cons (ev_var 8) (ead_cons (ev_var 18) (ead3 (EV.frz (ev_lst (xs := []) ea_nil) (frz_l [])) (EV.frz (ev_lst (xs := []) ea_nil) (frz_l [])) (ev_var 17))))) rc) (ea1 (ev_tupD (ead3 ev_str ev_str ev_str)))) (args_dat [_, _]) (just_of j_low.2.2.2.2.2.2)) ⟨rfl, fun i h => (nomatch h)⟩
end
end K74
set_option maxHeartbeats 0
/-! K74zt: the head and the end (printed by wip/gen/zt.py). -/
namespace K74
open PySem PySem.Spec PyProof.Rows L2 DL
def fn : List He.DefD := [
  ⟨("life_of", none), "life_of", "life_of", defArgs (top 8), defBody (top 8), defScope (top 8), [], []⟩,
  ⟨("pair_gap", none), "pair_gap", "pair_gap", defArgs (top 10), defBody (top 10), defScope (top 10), [], []⟩,
  ⟨("check_handles", none), "check_handles", "check_handles", defArgs (top 12), defBody (top 12), defScope (top 12), [], []⟩,
  ⟨("check_call", none), "check_call", "check_call", defArgs (top 13), defBody (top 13), defScope (top 13), [], []⟩,
  ⟨("pairs_of", none), "pairs_of", "pairs_of", defArgs (top 14), defBody (top 14), defScope (top 14), [], []⟩,
  ⟨("far_bars", none), "far_bars", "far_bars", defArgs (top 15), defBody (top 15), defScope (top 15), [], []⟩,
  ⟨("is_index", none), "is_index", "is_index", defArgs (top 16), defBody (top 16), defScope (top 16), [], []⟩,
  ⟨("bar_holds", none), "bar_holds", "bar_holds", defArgs (top 17), defBody (top 17), defScope (top 17), [], []⟩,
  ⟨("set_holds", none), "set_holds", "set_holds", defArgs (top 18), defBody (top 18), defScope (top 18), [], []⟩,
  ⟨("matching_fault", none), "matching_fault", "matching_fault", defArgs (top 19), defBody (top 19), defScope (top 19), [], []⟩,
  ⟨("wrong_place", none), "wrong_place", "wrong_place", defArgs (top 20), defBody (top 20), defScope (top 20), [], []⟩,
  ⟨("left_out", none), "left_out", "left_out", defArgs (top 21), defBody (top 21), defScope (top 21), [], []⟩,
  ⟨("check_pairs", none), "check_pairs", "check_pairs", defArgs (top 35), defBody (top 35), defScope (top 35), [], []⟩,
  ⟨("_law_box", none), "_law_box", "_law_box", defArgs (top 38), defBody (top 38), defScope (top 38), [], []⟩,
  ⟨("_law_take", none), "_law_take", "_law_take", defArgs (top 39), defBody (top 39), defScope (top 39), [], []⟩,
  ⟨("_law_of", none), "_law_of", "_law_of", defArgs (top 40), defBody (top 40), defScope (top 40), [], []⟩,
  ⟨("_law_mixed", none), "_law_mixed", "_law_mixed", defArgs (top 41), defBody (top 41), defScope (top 41), [], []⟩,
  ⟨("_law_plain", none), "_law_plain", "_law_plain", defArgs (top 42), defBody (top 42), defScope (top 42), [], []⟩,
  ⟨("_law_just", none), "_law_just", "_law_just", defArgs (top 43), defBody (top 43), defScope (top 43), [], []⟩,
  ⟨("_law_put", none), "_law_put", "_law_put", defArgs (top 44), defBody (top 44), defScope (top 44), [], []⟩,
  ⟨("_law_number_near", none), "_law_number_near", "_law_number_near", defArgs (top 45), defBody (top 45), defScope (top 45), [], []⟩,
  ⟨("_law_bent_pairs", none), "_law_bent_pairs", "_law_bent_pairs", defArgs (top 46), defBody (top 46), defScope (top 46), [], []⟩,
  ⟨("_law_drawn_lives", none), "_law_drawn_lives", "_law_drawn_lives", defArgs (top 47), defBody (top 47), defScope (top 47), [], []⟩,
  ⟨("_law_moved_lives", none), "_law_moved_lives", "_law_moved_lives", defArgs (top 48), defBody (top 48), defScope (top 48), [], []⟩,
  ⟨("_law_sorted_lives", none), "_law_sorted_lives", "_law_sorted_lives", defArgs (top 49), defBody (top 49), defScope (top 49), [], []⟩,
  ⟨("_law_made_lives", none), "_law_made_lives", "_law_made_lives", defArgs (top 50), defBody (top 50), defScope (top 50), [], []⟩,
  ⟨("_law_near", none), "_law_near", "_law_near", defArgs (top 51), defBody (top 51), defScope (top 51), [], []⟩,
  ⟨("_law_pair_near", none), "_law_pair_near", "_law_pair_near", defArgs (top 52), defBody (top 52), defScope (top 52), [], []⟩,
  ⟨("_law_matched", none), "_law_matched", "_law_matched", defArgs (top 53), defBody (top 53), defScope (top 53), [], []⟩,
  ⟨("_law_ends_near", none), "_law_ends_near", "_law_ends_near", defArgs (top 54), defBody (top 54), defScope (top 54), [], []⟩,
  ⟨("_law_both_matched", none), "_law_both_matched", "_law_both_matched", defArgs (top 55), defBody (top 55), defScope (top 55), [], []⟩,
  ⟨("_law_nearness", none), "_law_nearness", "_law_nearness", defArgs (top 56), defBody (top 56), defScope (top 56), [], []⟩,
  ⟨("_law_first_fault", none), "_law_first_fault", "_law_first_fault", defArgs (top 57), defBody (top 57), defScope (top 57), [], []⟩,
  ⟨("_law_is_bar", none), "_law_is_bar", "_law_is_bar", defArgs (top 58), defBody (top 58), defScope (top 58), [], []⟩,
  ⟨("_law_bent_row", none), "_law_bent_row", "_law_bent_row", defArgs (top 59), defBody (top 59), defScope (top 59), [], []⟩,
  ⟨("_law_drawn_bar", none), "_law_drawn_bar", "_law_drawn_bar", defArgs (top 60), defBody (top 60), defScope (top 60), [], []⟩,
  ⟨("_law_asked", none), "_law_asked", "_law_asked", defArgs (top 61), defBody (top 61), defScope (top 61), [], []⟩,
  ⟨("law", none), "law", "law", defArgs (top 62), defBody (top 62), defScope (top 62), [], []⟩,
  ⟨("BadValue", some "__init__"), "__init__", "BadValue.__init__", defArgs (inClass (top 4) 0), defBody (inClass (top 4) 0), defScope (inClass (top 4) 0), [], []⟩,
  ⟨("Unlike", some "__init__"), "__init__", "Unlike.__init__", defArgs (inClass (top 5) 0), defBody (inClass (top 5) 0), defScope (inClass (top 5) 0), [], []⟩,
  ⟨("Lives", some "__init__"), "__init__", "Lives.__init__", defArgs (inClass (top 36) 0), defBody (inClass (top 36) 0), defScope (inClass (top 36) 0), [], []⟩]
def fa : List He.Fa := [.glo "life_of", .glo "pair_gap", .glo "check_handles", .glo "check_call", .glo "pairs_of", .glo "far_bars", .glo "is_index", .glo "bar_holds", .glo "set_holds", .glo "matching_fault", .glo "wrong_place", .glo "left_out", .glo "check_pairs", .glo "_law_box", .glo "_law_take", .glo "_law_of", .glo "_law_mixed", .glo "_law_plain", .glo "_law_just", .glo "_law_put", .glo "_law_number_near", .glo "_law_bent_pairs", .glo "_law_drawn_lives", .glo "_law_moved_lives", .glo "_law_sorted_lives", .glo "_law_made_lives", .glo "_law_near", .glo "_law_pair_near", .glo "_law_matched", .glo "_law_ends_near", .glo "_law_both_matched", .glo "_law_nearness", .glo "_law_first_fault", .glo "_law_is_bar", .glo "_law_bent_row", .glo "_law_drawn_bar", .glo "_law_asked", .glo "law", .glo "BadValue", .glo "Unlike", .glo "Lives", .free "len", .free "abs", .free "max", .free "range", .free "enumerate", .free "zip", .free "isinstance", .free "int", .free "bool", .free "str", .free "tuple", .free "list", .free "sorted", .free "set", .free "repr", .free "all", .free "any", .free "dict", .cls "Lives", .mkr "Lives", .noat "Lives" "hollows", .noat "Lives" "summits", .noat "Lives" "loose", .noat "Lives" "lowest", .noat "Lives" "highest", .noat "Lives" "handles", .meth "BadValue" "__init__", .noat "BadValue" "what", .noat "BadValue" "code", .meth "Unlike" "__init__", .noat "Unlike" "what", .noat "Unlike" "code", .exm "BadValue" "BadValue" true, .exm "Unlike" "BadValue" false, .exm "Unlike" "Unlike" true]
def loose : List Str := (["_wall", "BothleastError", "BadText", "BadValue", "Unlike", "TooMany", "life_of", "pair_gap", "check_handles", "check_call", "pairs_of", "far_bars", "is_index", "bar_holds", "set_holds", "matching_fault", "wrong_place", "left_out", "LONGEST", "number_in", "span_in", "text_pieces", "close_text", "WORDS", "read_lives", "read_line", "written_spans", "written_heights", "check_pairs", "Lives"] : List Str) ++ (["_law_box", "_law_take", "_law_of", "_law_mixed", "_law_plain", "_law_just", "_law_put", "_law_number_near", "_law_bent_pairs", "_law_drawn_lives", "_law_moved_lives", "_law_sorted_lives", "_law_made_lives", "_law_near", "_law_pair_near", "_law_matched", "_law_ends_near", "_law_both_matched", "_law_nearness", "_law_first_fault", "_law_is_bar", "_law_bent_row", "_law_drawn_bar", "_law_asked"] : List Str)
def exK (K : PySem.W.Frag) : Bool := oexB K (He.ga K "BadValue") && (oexB K (He.ga K "Unlike") && (xfB K (He.ga K "BadValue") && xfB K (He.ga K "Unlike")))
abbrev RW : PySem.W.OpenRow := PySem.W.OpenLaw.row PySem.Challenge.rw_bothleast_k74_whole_matching_faults
abbrev hk : PySem.W.Hook := He.hookX 4 fa fn [] [] exK
def ob (s : PySem.W.SharedT) : He.AlX := He.obsX 4 fa fn [] [] exK (HandSHeadRun.getT s)
theorem ob_eq (s : PySem.W.SharedT) : ob s = hk.obs s.abs := He.obsX_eq (HandSHeadRun.getT_eq s)
theorem run (w : World) : HandSHeadRun.RunEq RW (PySem.W.view RW.prog [62]) hk ob 6000 loose w := by
  intro os
  kernel_rfl
/-- the law's promise holds of what it is handed -/
theorem law_start {K : PySem.W.Frag} {ca : CA} {H : Hp} {a : Addr} {ns : List Int} (hS : SqL K H a (ns.map V.int)) (hl : ns.length ≤ 1000) : spD K ca 1 none R_law [.ref a] H (fun v _ => v = .bl true) (fun _ _ _ => False) := by
  have hlk : lock (fun _ => none) H = H := funext fun b => lock_none rfl
  refine ⟨⟨H, H, fun _ => False, fun _ => none, prOf none, [.ref a]⟩, [.dat (.ro (ns.map .int))], okN (.bl true), ⟨ns, rfl, hl, rfl⟩, rfl, rfl, ⟨fun _ => none, hlk.symm, ?_, rfl⟩, fun v ds σ H' h _ => holds.sc h (.bl true)⟩
  refine ⟨Ex.refl _, fun _ _ h => h, fun a ob z => (by cases z), fun _ _ _ n => n, fun _ _ h _ => h, fun a o h => ⟨o, h⟩, fun a x z => (by cases z), fun a i z => (by cases z), fun a k z => (by cases z), fun i z => (by cases z), rfl, fun i od hi => ?_, trivial⟩
  cases i with
  | zero =>
    cases hi
    refine ⟨.ref a, rfl, ?_⟩
    rw [OwnsP]
    exact .ro hS (ints_reps ns)
  | succ i => cases hi
theorem has_of {K : PySem.W.Frag} {h : Heap} {mg : Str → Option Value} (X : K.In h) (G : h.Ns mainGlobals mg) (c : He.SaysD fa fn K) {x : Str} {s : Stmt} (hd : (⟨(x, none), x, x, defArgs s, defBody s, defScope s, [], []⟩ : He.DefD) ∈ fn) (hg : He.Fa.glo x ∈ fa) : Has K mg x s := by
  obtain ⟨fd, F⟩ := c.defs hd
  exact ⟨_, fd, F, He.glo_ok X G (c.facts hg)⟩
theorem facts {P : Program} {w : World} {K : PySem.W.Frag} {h : Heap} {mg : Str → Option Value} {fo : Addr} (X : K.In h) (G : h.Ns mainGlobals mg) (hfo : mg ("law" : Str) = some (.ref fo)) (c0 : He.SaysX fa fn [] [] exK w h K) :
    ∃ fd : FuncData, (∀ (s : Shared) (v : Value), BindsTo s fd ⟨[v], []⟩ [("script", v)]) ∧ ∀ base : Heap, K.In base → base.Ns mainGlobals mg → FnG P w K mg base (CX P w) 7 fo fd ["script"] (spD K ⟨He.ga K, w⟩ 1 none R_law) := by
  have c : He.SaysD fa fn K := c0.t.d
  have m1 : exK K = true := c0.more
  obtain ⟨x1, m1⟩ := He.ba m1
  obtain ⟨x2, m1⟩ := He.ba m1
  obtain ⟨x3, x4⟩ := He.ba m1
  obtain ⟨fd, F⟩ := c.def_ 37 (d := ⟨("law", none), "law", "law", defArgs (top 62), defBody (top 62), defScope (top 62), [], []⟩) rfl
  have e := hfo.symm.trans (He.glo_ok X G (c.fact 37 (f := .glo "law") rfl))
  cases e
  have b := FunD.bindsA (ps := ["script"]) F fun _ _ _ _ _ _ us hl => match us, hl with | [_], _ => rfl
  obtain ⟨fd4, F4⟩ := c.def_ 38 (d := ⟨("BadValue", some "__init__"), "__init__", "BadValue.__init__", defArgs (inClass (top 4) 0), defBody (inClass (top 4) 0), defScope (inClass (top 4) 0), [], []⟩) rfl
  obtain ⟨fd5, F5⟩ := c.def_ 39 (d := ⟨("Unlike", some "__init__"), "__init__", "Unlike.__init__", defArgs (inClass (top 5) 0), defBody (inClass (top 5) 0), defScope (inClass (top 5) 0), [], []⟩) rfl
  obtain ⟨fd36, F36⟩ := c.def_ 40 (d := ⟨("Lives", some "__init__"), "__init__", "Lives.__init__", defArgs (inClass (top 36) 0), defBody (inClass (top 36) 0), defScope (inClass (top 36) 0), [], []⟩) rfl
  have t8 : Has K mg "life_of" (top 8) := by
    obtain ⟨g, D⟩ := c.def_ 0 (d := ⟨("life_of", none), "life_of", "life_of", defArgs (top 8), defBody (top 8), defScope (top 8), [], []⟩) rfl
    exact ⟨_, g, D, He.glo_ok X G (c.fact 0 (f := .glo "life_of") rfl)⟩
  have t10 : Has K mg "pair_gap" (top 10) := by
    obtain ⟨g, D⟩ := c.def_ 1 (d := ⟨("pair_gap", none), "pair_gap", "pair_gap", defArgs (top 10), defBody (top 10), defScope (top 10), [], []⟩) rfl
    exact ⟨_, g, D, He.glo_ok X G (c.fact 1 (f := .glo "pair_gap") rfl)⟩
  have t12 : Has K mg "check_handles" (top 12) := by
    obtain ⟨g, D⟩ := c.def_ 2 (d := ⟨("check_handles", none), "check_handles", "check_handles", defArgs (top 12), defBody (top 12), defScope (top 12), [], []⟩) rfl
    exact ⟨_, g, D, He.glo_ok X G (c.fact 2 (f := .glo "check_handles") rfl)⟩
  have t13 : Has K mg "check_call" (top 13) := by
    obtain ⟨g, D⟩ := c.def_ 3 (d := ⟨("check_call", none), "check_call", "check_call", defArgs (top 13), defBody (top 13), defScope (top 13), [], []⟩) rfl
    exact ⟨_, g, D, He.glo_ok X G (c.fact 3 (f := .glo "check_call") rfl)⟩
  have t14 : Has K mg "pairs_of" (top 14) := by
    obtain ⟨g, D⟩ := c.def_ 4 (d := ⟨("pairs_of", none), "pairs_of", "pairs_of", defArgs (top 14), defBody (top 14), defScope (top 14), [], []⟩) rfl
    exact ⟨_, g, D, He.glo_ok X G (c.fact 4 (f := .glo "pairs_of") rfl)⟩
  have t15 : Has K mg "far_bars" (top 15) := by
    obtain ⟨g, D⟩ := c.def_ 5 (d := ⟨("far_bars", none), "far_bars", "far_bars", defArgs (top 15), defBody (top 15), defScope (top 15), [], []⟩) rfl
    exact ⟨_, g, D, He.glo_ok X G (c.fact 5 (f := .glo "far_bars") rfl)⟩
  have t16 : Has K mg "is_index" (top 16) := by
    obtain ⟨g, D⟩ := c.def_ 6 (d := ⟨("is_index", none), "is_index", "is_index", defArgs (top 16), defBody (top 16), defScope (top 16), [], []⟩) rfl
    exact ⟨_, g, D, He.glo_ok X G (c.fact 6 (f := .glo "is_index") rfl)⟩
  have t17 : Has K mg "bar_holds" (top 17) := by
    obtain ⟨g, D⟩ := c.def_ 7 (d := ⟨("bar_holds", none), "bar_holds", "bar_holds", defArgs (top 17), defBody (top 17), defScope (top 17), [], []⟩) rfl
    exact ⟨_, g, D, He.glo_ok X G (c.fact 7 (f := .glo "bar_holds") rfl)⟩
  have t18 : Has K mg "set_holds" (top 18) := by
    obtain ⟨g, D⟩ := c.def_ 8 (d := ⟨("set_holds", none), "set_holds", "set_holds", defArgs (top 18), defBody (top 18), defScope (top 18), [], []⟩) rfl
    exact ⟨_, g, D, He.glo_ok X G (c.fact 8 (f := .glo "set_holds") rfl)⟩
  have t19 : Has K mg "matching_fault" (top 19) := by
    obtain ⟨g, D⟩ := c.def_ 9 (d := ⟨("matching_fault", none), "matching_fault", "matching_fault", defArgs (top 19), defBody (top 19), defScope (top 19), [], []⟩) rfl
    exact ⟨_, g, D, He.glo_ok X G (c.fact 9 (f := .glo "matching_fault") rfl)⟩
  have t20 : Has K mg "wrong_place" (top 20) := by
    obtain ⟨g, D⟩ := c.def_ 10 (d := ⟨("wrong_place", none), "wrong_place", "wrong_place", defArgs (top 20), defBody (top 20), defScope (top 20), [], []⟩) rfl
    exact ⟨_, g, D, He.glo_ok X G (c.fact 10 (f := .glo "wrong_place") rfl)⟩
  have t21 : Has K mg "left_out" (top 21) := by
    obtain ⟨g, D⟩ := c.def_ 11 (d := ⟨("left_out", none), "left_out", "left_out", defArgs (top 21), defBody (top 21), defScope (top 21), [], []⟩) rfl
    exact ⟨_, g, D, He.glo_ok X G (c.fact 11 (f := .glo "left_out") rfl)⟩
  have t35 : Has K mg "check_pairs" (top 35) := by
    obtain ⟨g, D⟩ := c.def_ 12 (d := ⟨("check_pairs", none), "check_pairs", "check_pairs", defArgs (top 35), defBody (top 35), defScope (top 35), [], []⟩) rfl
    exact ⟨_, g, D, He.glo_ok X G (c.fact 12 (f := .glo "check_pairs") rfl)⟩
  have t38 : Has K mg "_law_box" (top 38) := by
    obtain ⟨g, D⟩ := c.def_ 13 (d := ⟨("_law_box", none), "_law_box", "_law_box", defArgs (top 38), defBody (top 38), defScope (top 38), [], []⟩) rfl
    exact ⟨_, g, D, He.glo_ok X G (c.fact 13 (f := .glo "_law_box") rfl)⟩
  have t39 : Has K mg "_law_take" (top 39) := by
    obtain ⟨g, D⟩ := c.def_ 14 (d := ⟨("_law_take", none), "_law_take", "_law_take", defArgs (top 39), defBody (top 39), defScope (top 39), [], []⟩) rfl
    exact ⟨_, g, D, He.glo_ok X G (c.fact 14 (f := .glo "_law_take") rfl)⟩
  have t40 : Has K mg "_law_of" (top 40) := by
    obtain ⟨g, D⟩ := c.def_ 15 (d := ⟨("_law_of", none), "_law_of", "_law_of", defArgs (top 40), defBody (top 40), defScope (top 40), [], []⟩) rfl
    exact ⟨_, g, D, He.glo_ok X G (c.fact 15 (f := .glo "_law_of") rfl)⟩
  have t41 : Has K mg "_law_mixed" (top 41) := by
    obtain ⟨g, D⟩ := c.def_ 16 (d := ⟨("_law_mixed", none), "_law_mixed", "_law_mixed", defArgs (top 41), defBody (top 41), defScope (top 41), [], []⟩) rfl
    exact ⟨_, g, D, He.glo_ok X G (c.fact 16 (f := .glo "_law_mixed") rfl)⟩
  have t42 : Has K mg "_law_plain" (top 42) := by
    obtain ⟨g, D⟩ := c.def_ 17 (d := ⟨("_law_plain", none), "_law_plain", "_law_plain", defArgs (top 42), defBody (top 42), defScope (top 42), [], []⟩) rfl
    exact ⟨_, g, D, He.glo_ok X G (c.fact 17 (f := .glo "_law_plain") rfl)⟩
  have t43 : Has K mg "_law_just" (top 43) := by
    obtain ⟨g, D⟩ := c.def_ 18 (d := ⟨("_law_just", none), "_law_just", "_law_just", defArgs (top 43), defBody (top 43), defScope (top 43), [], []⟩) rfl
    exact ⟨_, g, D, He.glo_ok X G (c.fact 18 (f := .glo "_law_just") rfl)⟩
  have t44 : Has K mg "_law_put" (top 44) := by
    obtain ⟨g, D⟩ := c.def_ 19 (d := ⟨("_law_put", none), "_law_put", "_law_put", defArgs (top 44), defBody (top 44), defScope (top 44), [], []⟩) rfl
    exact ⟨_, g, D, He.glo_ok X G (c.fact 19 (f := .glo "_law_put") rfl)⟩
  have t45 : Has K mg "_law_number_near" (top 45) := by
    obtain ⟨g, D⟩ := c.def_ 20 (d := ⟨("_law_number_near", none), "_law_number_near", "_law_number_near", defArgs (top 45), defBody (top 45), defScope (top 45), [], []⟩) rfl
    exact ⟨_, g, D, He.glo_ok X G (c.fact 20 (f := .glo "_law_number_near") rfl)⟩
  have t46 : Has K mg "_law_bent_pairs" (top 46) := by
    obtain ⟨g, D⟩ := c.def_ 21 (d := ⟨("_law_bent_pairs", none), "_law_bent_pairs", "_law_bent_pairs", defArgs (top 46), defBody (top 46), defScope (top 46), [], []⟩) rfl
    exact ⟨_, g, D, He.glo_ok X G (c.fact 21 (f := .glo "_law_bent_pairs") rfl)⟩
  have t47 : Has K mg "_law_drawn_lives" (top 47) := by
    obtain ⟨g, D⟩ := c.def_ 22 (d := ⟨("_law_drawn_lives", none), "_law_drawn_lives", "_law_drawn_lives", defArgs (top 47), defBody (top 47), defScope (top 47), [], []⟩) rfl
    exact ⟨_, g, D, He.glo_ok X G (c.fact 22 (f := .glo "_law_drawn_lives") rfl)⟩
  have t48 : Has K mg "_law_moved_lives" (top 48) := by
    obtain ⟨g, D⟩ := c.def_ 23 (d := ⟨("_law_moved_lives", none), "_law_moved_lives", "_law_moved_lives", defArgs (top 48), defBody (top 48), defScope (top 48), [], []⟩) rfl
    exact ⟨_, g, D, He.glo_ok X G (c.fact 23 (f := .glo "_law_moved_lives") rfl)⟩
  have t49 : Has K mg "_law_sorted_lives" (top 49) := by
    obtain ⟨g, D⟩ := c.def_ 24 (d := ⟨("_law_sorted_lives", none), "_law_sorted_lives", "_law_sorted_lives", defArgs (top 49), defBody (top 49), defScope (top 49), [], []⟩) rfl
    exact ⟨_, g, D, He.glo_ok X G (c.fact 24 (f := .glo "_law_sorted_lives") rfl)⟩
  have t50 : Has K mg "_law_made_lives" (top 50) := by
    obtain ⟨g, D⟩ := c.def_ 25 (d := ⟨("_law_made_lives", none), "_law_made_lives", "_law_made_lives", defArgs (top 50), defBody (top 50), defScope (top 50), [], []⟩) rfl
    exact ⟨_, g, D, He.glo_ok X G (c.fact 25 (f := .glo "_law_made_lives") rfl)⟩
  have t51 : Has K mg "_law_near" (top 51) := by
    obtain ⟨g, D⟩ := c.def_ 26 (d := ⟨("_law_near", none), "_law_near", "_law_near", defArgs (top 51), defBody (top 51), defScope (top 51), [], []⟩) rfl
    exact ⟨_, g, D, He.glo_ok X G (c.fact 26 (f := .glo "_law_near") rfl)⟩
  have t52 : Has K mg "_law_pair_near" (top 52) := by
    obtain ⟨g, D⟩ := c.def_ 27 (d := ⟨("_law_pair_near", none), "_law_pair_near", "_law_pair_near", defArgs (top 52), defBody (top 52), defScope (top 52), [], []⟩) rfl
    exact ⟨_, g, D, He.glo_ok X G (c.fact 27 (f := .glo "_law_pair_near") rfl)⟩
  have t53 : Has K mg "_law_matched" (top 53) := by
    obtain ⟨g, D⟩ := c.def_ 28 (d := ⟨("_law_matched", none), "_law_matched", "_law_matched", defArgs (top 53), defBody (top 53), defScope (top 53), [], []⟩) rfl
    exact ⟨_, g, D, He.glo_ok X G (c.fact 28 (f := .glo "_law_matched") rfl)⟩
  have t54 : Has K mg "_law_ends_near" (top 54) := by
    obtain ⟨g, D⟩ := c.def_ 29 (d := ⟨("_law_ends_near", none), "_law_ends_near", "_law_ends_near", defArgs (top 54), defBody (top 54), defScope (top 54), [], []⟩) rfl
    exact ⟨_, g, D, He.glo_ok X G (c.fact 29 (f := .glo "_law_ends_near") rfl)⟩
  have t55 : Has K mg "_law_both_matched" (top 55) := by
    obtain ⟨g, D⟩ := c.def_ 30 (d := ⟨("_law_both_matched", none), "_law_both_matched", "_law_both_matched", defArgs (top 55), defBody (top 55), defScope (top 55), [], []⟩) rfl
    exact ⟨_, g, D, He.glo_ok X G (c.fact 30 (f := .glo "_law_both_matched") rfl)⟩
  have t56 : Has K mg "_law_nearness" (top 56) := by
    obtain ⟨g, D⟩ := c.def_ 31 (d := ⟨("_law_nearness", none), "_law_nearness", "_law_nearness", defArgs (top 56), defBody (top 56), defScope (top 56), [], []⟩) rfl
    exact ⟨_, g, D, He.glo_ok X G (c.fact 31 (f := .glo "_law_nearness") rfl)⟩
  have t57 : Has K mg "_law_first_fault" (top 57) := by
    obtain ⟨g, D⟩ := c.def_ 32 (d := ⟨("_law_first_fault", none), "_law_first_fault", "_law_first_fault", defArgs (top 57), defBody (top 57), defScope (top 57), [], []⟩) rfl
    exact ⟨_, g, D, He.glo_ok X G (c.fact 32 (f := .glo "_law_first_fault") rfl)⟩
  have t58 : Has K mg "_law_is_bar" (top 58) := by
    obtain ⟨g, D⟩ := c.def_ 33 (d := ⟨("_law_is_bar", none), "_law_is_bar", "_law_is_bar", defArgs (top 58), defBody (top 58), defScope (top 58), [], []⟩) rfl
    exact ⟨_, g, D, He.glo_ok X G (c.fact 33 (f := .glo "_law_is_bar") rfl)⟩
  have t59 : Has K mg "_law_bent_row" (top 59) := by
    obtain ⟨g, D⟩ := c.def_ 34 (d := ⟨("_law_bent_row", none), "_law_bent_row", "_law_bent_row", defArgs (top 59), defBody (top 59), defScope (top 59), [], []⟩) rfl
    exact ⟨_, g, D, He.glo_ok X G (c.fact 34 (f := .glo "_law_bent_row") rfl)⟩
  have t60 : Has K mg "_law_drawn_bar" (top 60) := by
    obtain ⟨g, D⟩ := c.def_ 35 (d := ⟨("_law_drawn_bar", none), "_law_drawn_bar", "_law_drawn_bar", defArgs (top 60), defBody (top 60), defScope (top 60), [], []⟩) rfl
    exact ⟨_, g, D, He.glo_ok X G (c.fact 35 (f := .glo "_law_drawn_bar") rfl)⟩
  have t61 : Has K mg "_law_asked" (top 61) := by
    obtain ⟨g, D⟩ := c.def_ 36 (d := ⟨("_law_asked", none), "_law_asked", "_law_asked", defArgs (top 61), defBody (top 61), defScope (top 61), [], []⟩) rfl
    exact ⟨_, g, D, He.glo_ok X G (c.fact 36 (f := .glo "_law_asked") rfl)⟩
  have T : Txt w K mg ⟨He.ga K, w⟩ := ⟨rfl, He.free_ok X G (c.fact 41 (f := .free "len") rfl), He.free_ok X G (c.fact 42 (f := .free "abs") rfl), He.free_ok X G (c.fact 43 (f := .free "max") rfl), He.free_ok X G (c.fact 44 (f := .free "range") rfl), He.free_ok X G (c.fact 45 (f := .free "enumerate") rfl), He.free_ok X G (c.fact 46 (f := .free "zip") rfl), He.free_ok X G (c.fact 47 (f := .free "isinstance") rfl), He.free_ok X G (c.fact 48 (f := .free "int") rfl), He.free_ok X G (c.fact 49 (f := .free "bool") rfl), He.free_ok X G (c.fact 50 (f := .free "str") rfl), He.free_ok X G (c.fact 51 (f := .free "tuple") rfl), He.free_ok X G (c.fact 52 (f := .free "list") rfl), He.free_ok X G (c.fact 53 (f := .free "sorted") rfl), He.free_ok X G (c.fact 54 (f := .free "set") rfl), He.free_ok X G (c.fact 55 (f := .free "repr") rfl), He.free_ok X G (c.fact 56 (f := .free "all") rfl), He.free_ok X G (c.fact 57 (f := .free "any") rfl), He.free_ok X G (c.fact 58 (f := .free "dict") rfl), He.cls_ok (c.fact 59 (f := .cls "Lives") rfl), fun f hf => ?_⟩
  rotate_left
  · simp only [List.mem_cons, List.not_mem_nil, or_false] at hf
    rcases hf with rfl | rfl | rfl | rfl | rfl | rfl
    · exact He.noat_ok (c.fact 61 (f := .noat "Lives" "hollows") rfl)
    · exact He.noat_ok (c.fact 62 (f := .noat "Lives" "summits") rfl)
    · exact He.noat_ok (c.fact 63 (f := .noat "Lives" "loose") rfl)
    · exact He.noat_ok (c.fact 64 (f := .noat "Lives" "lowest") rfl)
    · exact He.noat_ok (c.fact 65 (f := .noat "Lives" "highest") rfl)
    · exact He.noat_ok (c.fact 66 (f := .noat "Lives" "handles") rfl)
  have V : ExcT K mg ⟨He.ga K, w⟩ "BadValue" (inClass (top 4) 0) := by
    have me := He.meth_ok (c.fact 67 (f := .meth "BadValue" "__init__") rfl)
    exact ⟨oexB_ok x1, He.glo_ok X G (c.fact 38 (f := .glo "BadValue") rfl), ⟨_, fd4, me.1, beq_iff_eq.mp me.2, F4⟩, He.noat_ok (c.fact 68 (f := .noat "BadValue" "what") rfl), He.noat_ok (c.fact 69 (f := .noat "BadValue" "code") rfl), xfB_ok x3⟩
  have U : ExcT K mg ⟨He.ga K, w⟩ "Unlike" (inClass (top 5) 0) := by
    have me := He.meth_ok (c.fact 70 (f := .meth "Unlike" "__init__") rfl)
    exact ⟨oexB_ok x2, He.glo_ok X G (c.fact 39 (f := .glo "Unlike") rfl), ⟨_, fd5, me.1, beq_iff_eq.mp me.2, F5⟩, He.noat_ok (c.fact 71 (f := .noat "Unlike" "what") rfl), He.noat_ok (c.fact 72 (f := .noat "Unlike" "code") rfl), xfB_ok x4⟩
  have M : ExM K ⟨He.ga K, w⟩ := ⟨He.exm_ok (c.fact 73 (f := .exm "BadValue" "BadValue" true) rfl), He.exm_ok (c.fact 74 (f := .exm "Unlike" "BadValue" false) rfl), He.exm_ok (c.fact 75 (f := .exm "Unlike" "Unlike" true) rfl)⟩
  have LV : LivT K mg ⟨He.ga K, w⟩ := ⟨He.glo_ok X G (c.fact 40 (f := .glo "Lives") rfl), _, fd36, He.mkr_ok (c.fact 60 (f := .mkr "Lives") rfl), F36⟩
  have Z : Tops w K mg ⟨He.ga K, w⟩ := ⟨T, U, V, M, LV, t8, t10, t12, t13, t14, t15, t16, t17, t18, t19, t20, t21, t35, t38, t39, t40, t41, t42, t43, t44, t45, t46, t47, t48, t49, t50, t51, t52, t53, t54, t55, t56, t57, t58, t59, t60, t61⟩
  exact ⟨fd, fun s v => b s [v] rfl, fun base _ _ => fn_law Z F⟩
end K74
open PySem PySem.W PySem.Calls PyProof.Rows
theorem PySem.Challenge.cw_bothleast_k74_whole_matching_faults_holds : PySem.Challenge.rw_bothleast_k74_whole_matching_faults.Holds := by
  w_on; o_law
  refine HandSHeadRun.head_any (r := OpenLaw.row PySem.Challenge.rw_bothleast_k74_whole_matching_faults) (q := view (OpenLaw.row PySem.Challenge.rw_bothleast_k74_whole_matching_faults).prog [62]) (H := K74.hk) (ob := K74.ob) (M := 6000) (loose := K74.loose) (d := HandSHeadRun.topDef (OpenLaw.row PySem.Challenge.rw_bothleast_k74_whole_matching_faults).prog 62) (kwd := []) K74.ob_eq
    (by kernel_rfl) (fun s => by kernel_rfl) K74.run (by kernel_rfl) (by kernel_rfl) (by kernel_rfl) (by rfl) (by first | assumption | decide +kernel) (by decide +kernel) ⟨rfl, rfl, rfl, rfl, rfl, by decide +kernel⟩ ?hw ?hc
  case hw => w_witness2
  case hc =>
    refine DL.walk_ofG (l := PySem.Challenge.rw_bothleast_k74_whole_matching_faults) (n := 63) (k := 7) (x := "script") (CT := fun w => L2.CX (PySem.Challenge.rw_bothleast_k74_whole_matching_faults).prog w) rfl (by decide) (by kernel_rfl) ⟨rfl, by decide, by decide⟩ ?F ?X
    case X =>
      rintro w H s e t ⟨_, _, _, _, _, _, _, _, _, _, _, _, h⟩
      exact h
    case F =>
      intro w mg fo h Y G hmg0
      obtain ⟨K, KX, c⟩ := Y
      have hmg : mg ("law" : PySem.Str) = some (.ref fo) := by
        have e : (HandSHeadRun.topDef (OpenLaw.row PySem.Challenge.rw_bothleast_k74_whole_matching_faults).prog 62).name = ("law" : PySem.Str) := by kernel_rfl
        rw [← e]
        exact hmg0
      obtain ⟨fd, hb, hF⟩ := K74.facts (P := (PySem.Challenge.rw_bothleast_k74_whole_matching_faults).prog) (w := w) KX G hmg c
      exact ⟨K, fd, DL.spD K ⟨He.ga K, w⟩ 1 none K74.R_law, KX, hb, fun H a ns hl _ hS => K74.law_start hS (Nat.le_trans hl (by decide)), hF⟩
